import PyProof.Rows.All
import Wide.All
import OpenK.AllK
import Wide.FinOn
import HandS.ForMost
import HandS.ForExc
import HandS.Wide
import HandS.IsInst
import HandS.HeadHook2
import HandS.Head2
import HandS.HeadEnd
import PyProof.Rows.SeqMore
import HandS.SortInts
import PyProof.Rows.RuleDivmod
import HandS.TupLen
import HandS.TupAny
import HandS.TupMul
import HandS.More
import HandS.Conv
import HandS.SetKeys
import HandS.Codes
import HandS.Zip
import HandS.TryOnly
import KE.GoesEnumKw
import KE.DataMinMax
import PySem.Challenge.RW_widelanes_k51_shared_boxes
set_option Elab.async false
set_option linter.all false
set_option maxRecDepth 100000
set_option maxHeartbeats 4000000
namespace Tl
open PySem PySem.Spec PyProof.Rows L2

/-! ### data as trees -/
inductive D where
  | non | bl (b : Bool) | int (i : Int) | str (s : Str) | tup (l : List D) | lst (l : List D) | tab (l : List D) | scr (l : List D) | ref (a : Addr) | ty (n : String)
/-- what may still change -/
inductive MO where
  | lst (l : List D) | dK (kvs : List (Key × D)) | dT (kvs : List (List Key × D)) | obj (C dx : Addr) (fl : List Str) (ds : List D) | lk (o : Obj) (ks : List (Key × V)) (kvs : List (Key × D))
abbrev MH := Addr → Option MO
def mup (M : MH) (a : Addr) (o : MO) : MH := fun b => if b = a then some o else M b
def mdel (M : MH) (a : Addr) : MH := fun b => if b = a then none else M b
theorem mup_same {M : MH} {a : Addr} {o : MO} : mup M a o a = some o := by unfold mup; rw [if_pos rfl]
theorem mup_ne {M : MH} {a b : Addr} {o : MO} (h : b ≠ a) : mup M a o b = M b := by unfold mup; rw [if_neg h]
theorem mup_mup {M : MH} {a : Addr} {o u : MO} : mup (mup M a o) a u = mup M a u := by
  funext b; unfold mup; split <;> rfl
theorem mdel_mup {M : MH} {a : Addr} {o : MO} (h : M a = none) : mdel (mup M a o) a = M := by
  funext b; unfold mdel mup
  by_cases e : b = a
  · rw [if_pos e, e, h]
  · rw [if_neg e, if_neg e]

section
variable (K : PySem.W.Frag)
mutual
inductive Rp (F : Hp) : V → D → Prop
  | non : Rp F .non .non
  | bl (b : Bool) : Rp F (.bl b) (.bl b)
  | int (i : Int) : Rp F (.int i) (.int i)
  | str (s : Str) : Rp F (.str s) (.str s)
  | ty (n : String) : Rp F (.ty n) (.ty n)
  | ref (a : Addr) : Rp F (.ref a) (.ref a)
  | tup {a : Addr} {vs : List V} {ds : List D} (h : F a = some (.tup vs)) (r : Rps F vs ds) : Rp F (.ref a) (.tup ds)
  | tab {a : Addr} {vs : List V} {ds : List D} (h : SqT K F a vs) (r : Rps F vs ds) : Rp F (.ref a) (.tab ds)
  | lst {a : Addr} {vs : List V} {ds : List D} (h : F a = some (.lst vs)) (r : Rps F vs ds) : Rp F (.ref a) (.lst ds)
  | scr {a : Addr} {vs : List V} {ds : List D} (h : SqL K F a vs) (r : Rps F vs ds) : Rp F (.ref a) (.scr ds)
inductive Rps (F : Hp) : List V → List D → Prop
  | nil : Rps F [] []
  | cons {v : V} {d : D} {vs : List V} {ds : List D} (h : Rp F v d) (t : Rps F vs ds) : Rps F (v :: vs) (d :: ds)
end
end
section
variable {K : PySem.W.Frag}
theorem SameT {H H' : Hp} {a : Addr} {xs : List V} (e : Same H H') (h : SqT K H a xs) : SqT K H' a xs := by
  rcases h with (h | ⟨o, h⟩) | h
  · exact .inl (.inl (e _ _ h))
  · exact .inl (.inr ⟨o, e _ _ h⟩)
  · exact .inr h
theorem SameR {H H' : Hp} {a : Addr} {u : HO} (e : Same H H') (h : Rd H a u) : Rd H' a u := by
  rcases h with h | ⟨o, h⟩
  · exact .inl (e _ _ h)
  · exact .inr ⟨o, e _ _ h⟩
mutual
theorem Rp.mono {F F' : Hp} (s : Same F F') : ∀ {v : V} {d : D}, Rp K F v d → Rp K F' v d
  | _, _, .non => .non
  | _, _, .bl b => .bl b
  | _, _, .int i => .int i
  | _, _, .str x => .str x
  | _, _, .ty n => .ty n
  | _, _, .ref a => .ref a
  | _, _, .tup h r => .tup (s _ _ h) (Rps.mono s r)
  | _, _, .tab h r => .tab (SameT s h) (Rps.mono s r)
  | _, _, .lst h r => .lst (s _ _ h) (Rps.mono s r)
  | _, _, .scr h r => .scr (s.seq h) (Rps.mono s r)
theorem Rps.mono {F F' : Hp} (s : Same F F') : ∀ {vs : List V} {ds : List D}, Rps K F vs ds → Rps K F' vs ds
  | _, _, .nil => .nil
  | _, _, .cons h t => .cons (Rp.mono s h) (Rps.mono s t)
end
theorem Rps.length {F : Hp} : ∀ {vs : List V} {ds : List D}, Rps K F vs ds → vs.length = ds.length
  | _, _, .nil => rfl
  | _, _, .cons _ t => by rw [List.length_cons, List.length_cons, Rps.length t]
theorem Rps.get {F : Hp} : ∀ {vs : List V} {ds : List D} {i : Nat} {v : V}, Rps K F vs ds → vs[i]? = some v → ∃ d, ds[i]? = some d ∧ Rp K F v d
  | _, _, _, _, .nil, e => by simp at e
  | _, _, 0, _, .cons h _, e => by simp at e; subst e; exact ⟨_, rfl, h⟩
  | _, _, i + 1, v, .cons _ t, e => by
    obtain ⟨d, h1, h2⟩ := Rps.get (i := i) (v := v) t (by simpa using e)
    exact ⟨d, by simpa using h1, h2⟩
theorem Rps.getD {F : Hp} : ∀ {vs : List V} {ds : List D} {i : Nat} {d : D}, Rps K F vs ds → ds[i]? = some d → ∃ v, vs[i]? = some v ∧ Rp K F v d
  | _, _, _, _, .nil, e => by simp at e
  | _, _, 0, _, .cons h _, e => by simp at e; subst e; exact ⟨_, rfl, h⟩
  | _, _, i + 1, v, .cons _ t, e => by
    obtain ⟨d, h1, h2⟩ := Rps.getD (i := i) (d := v) t (by simpa using e)
    exact ⟨d, by simpa using h1, h2⟩
theorem Rps.append {F : Hp} : ∀ {vs ws : List V} {ds es : List D}, Rps K F vs ds → Rps K F ws es → Rps K F (vs ++ ws) (ds ++ es)
  | _, _, _, _, .nil, s => s
  | _, _, _, _, .cons h t, s => .cons h (Rps.append t s)
theorem Rps.take {F : Hp} : ∀ {vs : List V} {ds : List D} (n : Nat), Rps K F vs ds → Rps K F (vs.take n) (ds.take n)
  | _, _, 0, _ => .nil
  | _, _, _ + 1, .nil => .nil
  | _, _, n + 1, .cons r t => .cons r (Rps.take n t)
theorem Rps.drop {F : Hp} : ∀ {vs : List V} {ds : List D} (n : Nat), Rps K F vs ds → Rps K F (vs.drop n) (ds.drop n)
  | _, _, 0, r => r
  | _, _, _ + 1, .nil => .nil
  | _, _, n + 1, .cons _ t => Rps.drop n t
theorem Rps.set {F : Hp} {v : V} {d : D} (r : Rp K F v d) : ∀ {vs : List V} {ds : List D} (n : Nat), Rps K F vs ds → Rps K F (vs.set n v) (ds.set n d)
  | _, _, _, .nil => .nil
  | _, _, 0, .cons _ t => .cons r t
  | _, _, n + 1, .cons q t => .cons q (Rps.set r n t)
theorem Rps.dropLast {F : Hp} {vs : List V} {ds : List D} (h : Rps K F vs ds) : Rps K F vs.dropLast ds.dropLast := by
  rw [List.dropLast_eq_take, List.dropLast_eq_take, h.length]
  exact h.take _
theorem Rps.reverse {F : Hp} : ∀ {vs : List V} {ds : List D}, Rps K F vs ds → Rps K F vs.reverse ds.reverse
  | _, _, .nil => .nil
  | _, _, .cons h t => by
    rw [List.reverse_cons, List.reverse_cons]
    exact (Rps.reverse t).append (.cons h .nil)

/-- what stands at a mutable place -/

def RpLk (K : PySem.W.Frag) (F : Hp) (u : HO) (ks : List (Key × V)) (ls : List (Key × D)) : Prop := u = .dK ks ∧ Paired (fun (p : Key × V) (q : Key × D) => p.1 = q.1 ∧ Rp K F p.2 q.2) ks ls
def RpO (K : PySem.W.Frag) (F : Hp) : HO → MO → Prop
  | .lst vs, .lst ds => Rps K F vs ds
  | .dK ks, .dK ls => Paired (fun (p : Key × V) (q : Key × D) => p.1 = q.1 ∧ Rp K F p.2 q.2) ks ls
  | .dT ks, .dT ls => Paired (fun (p : List Key × V) (q : List Key × D) => p.1 = q.1 ∧ Rp K F p.2 q.2) ks ls
  | .ins C dx fs, .obj C' dx' fl ds => C = C' ∧ dx = dx' ∧ fl.Nodup ∧ fs.map (·.1) = fl.take ds.length ∧ Rps K F (fs.map (·.2)) ds
  | .frz ob u, .lk o ks ls => ob = o ∧ RpLk K F u ks ls
  | _, _ => False
theorem Paired.imp {α β : Type} {R S : α → β → Prop} (h : ∀ a b, R a b → S a b) : ∀ {xs : List α} {ys : List β}, Paired R xs ys → Paired S xs ys
  | _, _, .nil => .nil
  | _, _, .cons r t => .cons (h _ _ r) (Paired.imp h t)
theorem RpO.mono {F F' : Hp} (s : Same F F') : ∀ {u : HO} {o : MO}, RpO K F u o → RpO K F' u o
  | .lst _, .lst _, h => Rps.mono s h
  | .dK _, .dK _, h => Paired.imp (fun _ _ q => ⟨q.1, q.2.mono s⟩) h
  | .dT _, .dT _, h => Paired.imp (fun _ _ q => ⟨q.1, q.2.mono s⟩) h
  | .ins _ _ _, .obj _ _ _ _, h => ⟨h.1, h.2.1, h.2.2.1, h.2.2.2.1, Rps.mono s h.2.2.2.2⟩
  | .lst _, .dK _, h => h.elim
  | .lst _, .dT _, h => h.elim
  | .lst _, .obj _ _ _ _, h => h.elim
  | .dK _, .lst _, h => h.elim
  | .dK _, .dT _, h => h.elim
  | .dK _, .obj _ _ _ _, h => h.elim
  | .dT _, .lst _, h => h.elim
  | .dT _, .dK _, h => h.elim
  | .dT _, .obj _ _ _ _, h => h.elim
  | .ins _ _ _, .lst _, h => h.elim
  | .ins _ _ _, .dK _, h => h.elim
  | .ins _ _ _, .dT _, h => h.elim
  | .tup _, _, h => (h : False).elim
  | .set _ _, _, h => (h : False).elim
  | .own _, _, h => (h : False).elim
  | .xd _, _, h => (h : False).elim
  | .met _ _, _, h => (h : False).elim
  | .rng _ _, _, h => (h : False).elim
  | .lst _, .lk _ _ _, h => h.elim
  | .dK _, .lk _ _ _, h => h.elim
  | .dT _, .lk _ _ _, h => h.elim
  | .ins _ _ _, .lk _ _ _, h => h.elim
  | .frz _ u, .lk _ ks ls, h => ⟨h.1, h.2.1, Paired.imp (fun _ _ q => ⟨q.1, q.2.mono s⟩) h.2.2⟩
  | .frz _ _, .lst _, h => (h : False).elim
  | .frz _ _, .dK _, h => (h : False).elim
  | .frz _ _, .dT _, h => (h : False).elim
  | .frz _ _, .obj _ _ _ _, h => (h : False).elim
  | .tbl _, _, h => (h : False).elim
  | .ext _, _, h => (h : False).elim
/-- what a caller hides G, the frozen part F, the heap H, the changing part M -/
structure Rel (K : PySem.W.Frag) (G F H : Hp) (M : MH) : Prop where
  sub : Same F H
  chg : ∀ a o, M a = some o → F a = none ∧ ∃ u, H a = some u ∧ RpO K F u o
  hid : ∀ a o, G a = some o → H a = some o ∧ F a = none ∧ M a = none
  hidt : ∀ a vs, G a ≠ some (.tup vs)
theorem same_upd {H : Hp} {p : Addr} {o : HO} (h : H p = none) : Same H (upd H p o) := fun b x e => by
  rw [upd_ne (ne_of_none e h)]
  exact e
section
variable {G F H : Hp} {M : MH}
theorem Rel.free (R : Rel K G F H M) {p : Addr} (h : H p = none) : F p = none ∧ M p = none := by
  refine ⟨R.sub.free h, ?_⟩
  cases e : M p with
  | none => rfl
  | some o =>
    obtain ⟨_, u, hu, _⟩ := R.chg p o e
    rw [h] at hu
    cases hu
theorem Rel.freeG (R : Rel K G F H M) {p : Addr} (h : H p = none) : G p = none := by
  cases e : G p with
  | none => rfl
  | some o =>
    rw [(R.hid p o e).1] at h
    cases h
/-- a new frozen thing -/
theorem Rel.newF (R : Rel K G F H M) {p : Addr} {o : HO} (h : H p = none) : Same F (upd F p o) ∧ Rel K G (upd F p o) (upd H p o) M := by
  have s : Same F (upd F p o) := same_upd (R.free h).1
  refine ⟨s, ⟨fun b u e => ?_, fun a m e => ?_, fun a u e => ?_, R.hidt⟩⟩
  · by_cases q : b = p
    · subst q
      rw [upd_same] at e ⊢
      exact e
    · rw [upd_ne q] at e ⊢
      exact R.sub _ _ e
  · obtain ⟨f, u, hu, r⟩ := R.chg a m e
    have q : a ≠ p := ne_of_none hu h
    exact ⟨by rw [upd_ne q]; exact f, u, by rw [upd_ne q]; exact hu, r.mono s⟩
  · obtain ⟨h1, h2, h3⟩ := R.hid a u e
    have q : a ≠ p := ne_of_none h1 h
    exact ⟨by rw [upd_ne q]; exact h1, by rw [upd_ne q]; exact h2, h3⟩
/-- a new changing thing -/
theorem Rel.newM (R : Rel K G F H M) {p : Addr} {u : HO} {o : MO} (h : H p = none) (r : RpO K F u o) : Rel K G F (upd H p u) (mup M p o) := by
  refine ⟨fun b x e => same_upd h _ _ (R.sub _ _ e), fun a m e => ?_, fun a x e => ?_, R.hidt⟩
  · by_cases q : a = p
    · subst q
      rw [mup_same] at e
      cases e
      exact ⟨(R.free h).1, u, upd_same, r⟩
    · rw [mup_ne q] at e
      obtain ⟨f, x, hx, r⟩ := R.chg a m e
      exact ⟨f, x, by rw [upd_ne q]; exact hx, r⟩
  · obtain ⟨h1, h2, h3⟩ := R.hid a x e
    have q : a ≠ p := ne_of_none h1 h
    exact ⟨by rw [upd_ne q]; exact h1, h2, by rw [mup_ne q]; exact h3⟩
/-- a store -/
theorem Rel.put (R : Rel K G F H M) {p : Addr} {u : HO} {o o0 : MO} (h : M p = some o0) (r : RpO K F u o) : Rel K G F (upd H p u) (mup M p o) := by
  obtain ⟨f0, _, _, _⟩ := R.chg p o0 h
  refine ⟨fun b x e => ?_, fun a m e => ?_, fun a x e => ?_, R.hidt⟩
  · rw [upd_ne (ne_of_none e f0)]
    exact R.sub _ _ e
  · by_cases q : a = p
    · subst q
      rw [mup_same] at e
      cases e
      exact ⟨f0, u, upd_same, r⟩
    · rw [mup_ne q] at e
      obtain ⟨f, x, hx, r⟩ := R.chg a m e
      exact ⟨f, x, by rw [upd_ne q]; exact hx, r⟩
  · obtain ⟨h1, h2, h3⟩ := R.hid a x e
    have q : a ≠ p := fun q => by
      rw [q, h] at h3
      cases h3
    exact ⟨by rw [upd_ne q]; exact h1, h2, by rw [mup_ne q]; exact h3⟩
/-- less is known -/
theorem Rel.drop {M' : MH} (R : Rel K G F H M) (h : ∀ a o, M' a = some o → M a = some o) : Rel K G F H M' := ⟨R.sub, fun a o e => R.chg a o (h a o e), (fun a o e => by
  obtain ⟨h1, h2, h3⟩ := R.hid a o e
  refine ⟨h1, h2, ?_⟩
  cases q : M' a with
  | none => rfl
  | some x =>
    rw [h a x q] at h3
    cases h3), R.hidt⟩
/-- a changing list will change no more -/
theorem Rel.freeze (R : Rel K G F H M) {p : Addr} {ds : List D} (h : M p = some (.lst ds)) : ∃ F', Same F F' ∧ Rel K G F' H (mdel M p) ∧ Rp K F' (.ref p) (.lst ds) := by
  obtain ⟨f, u, hu, r⟩ := R.chg p _ h
  cases u with
  | lst vs =>
    have r' : Rps K F vs ds := r
    have s : Same F (upd F p (.lst vs)) := same_upd f
    refine ⟨upd F p (.lst vs), s, ⟨fun b x e => ?_, fun a m e => ?_, fun a x e => ?_, R.hidt⟩, .lst upd_same (r'.mono s)⟩
    · by_cases q : b = p
      · subst q
        rw [upd_same] at e
        rw [hu]
        exact e
      · rw [upd_ne q] at e
        exact R.sub _ _ e
    · unfold mdel at e
      by_cases q : a = p
      · rw [if_pos q] at e
        cases e
      · rw [if_neg q] at e
        obtain ⟨f2, x, hx, r2⟩ := R.chg a m e
        exact ⟨by rw [upd_ne q]; exact f2, x, hx, r2.mono s⟩
    · obtain ⟨h1, h2, h3⟩ := R.hid a x e
      have q : a ≠ p := fun q => by
        rw [q, h] at h3
        cases h3
      refine ⟨h1, by rw [upd_ne q]; exact h2, ?_⟩
      unfold mdel
      rw [if_neg q]
      exact h3
  | _ => exact (r : False).elim
/-- a changing thing is hidden -/
theorem Rel.hide (R : Rel K G F H M) {p : Addr} {o : MO} (h : M p = some o) : ∃ u, H p = some u ∧ RpO K F u o ∧ Rel K (upd G p u) F H (mdel M p) := by
  obtain ⟨f, u, hu, r⟩ := R.chg p _ h
  refine ⟨u, hu, r, R.sub, fun a m e => ?_, fun a x e => ?_, fun a vs e => ?_⟩
  · unfold mdel at e
    by_cases q : a = p
    · rw [if_pos q] at e
      cases e
    · rw [if_neg q] at e
      exact R.chg a m e
  · unfold mdel
    by_cases q : a = p
    · subst q
      rw [upd_same] at e
      cases e
      exact ⟨hu, f, if_pos rfl⟩
    · rw [upd_ne q] at e
      obtain ⟨h1, h2, h3⟩ := R.hid a x e
      exact ⟨h1, h2, by rw [if_neg q]; exact h3⟩
  · by_cases q : a = p
    · subst q
      rw [upd_same] at e
      cases e
      cases o <;> exact (r : False)
    · rw [upd_ne q] at e
      exact R.hidt a vs e
/-- a new thing, hidden -/
theorem Rel.newG (R : Rel K G F H M) {p : Addr} {u : HO} (h : H p = none) (hu : ∀ vs, u ≠ .tup vs := by intro vs; exact HO.noConfusion) : Rel K (upd G p u) F (upd H p u) M := by
  have q0 : ∀ a x, H a = some x → a ≠ p := fun a x e => ne_of_none e h
  refine ⟨fun b x e => same_upd h _ _ (R.sub _ _ e), fun a m e => ?_, fun a x e => ?_, fun a vs e => ?_⟩
  · obtain ⟨f, x, hx, r⟩ := R.chg a m e
    exact ⟨f, x, by rw [upd_ne (q0 _ _ hx)]; exact hx, r⟩
  · by_cases q : a = p
    · subst q
      rw [upd_same] at e
      cases e
      exact ⟨upd_same, (R.free h).1, (R.free h).2⟩
    · rw [upd_ne q] at e
      obtain ⟨h1, h2, h3⟩ := R.hid a x e
      exact ⟨by rw [upd_ne q]; exact h1, h2, h3⟩
  · by_cases q : a = p
    · subst q
      rw [upd_same] at e
      exact hu vs (Option.some.inj e)
    · rw [upd_ne q] at e
      exact R.hidt a vs e
/-- the hidden thing is changed -/
theorem Rel.putG {u u' : HO} {p : Addr} (R : Rel K (upd G p u) F H M) (hu : ∀ vs, u' ≠ .tup vs := by intro vs; exact HO.noConfusion) : Rel K (upd G p u') F (upd H p u') M := by
  obtain ⟨h1, h2, h3⟩ := R.hid p u upd_same
  refine ⟨fun b x e => ?_, fun a m e => ?_, fun a x e => ?_, fun a vs e => ?_⟩
  · rw [upd_ne (ne_of_none e h2)]
    exact R.sub _ _ e
  · obtain ⟨f, x, hx, r⟩ := R.chg a m e
    have q : a ≠ p := fun q => by
      rw [q, h3] at e
      cases e
    exact ⟨f, x, by rw [upd_ne q]; exact hx, r⟩
  · by_cases q : a = p
    · subst q
      rw [upd_same] at e
      cases e
      exact ⟨upd_same, h2, h3⟩
    · rw [upd_ne q] at e
      obtain ⟨g1, g2, g3⟩ := R.hid a x (by rw [upd_ne q]; exact e)
      exact ⟨by rw [upd_ne q]; exact g1, g2, g3⟩
  · by_cases q : a = p
    · subst q
      rw [upd_same] at e
      exact hu vs (Option.some.inj e)
    · rw [upd_ne q] at e
      exact R.hidt a vs (by rw [upd_ne q]; exact e)
/-- the hidden thing is shown, frozen | changing -/
theorem Rel.showF {u : HO} {p : Addr} (hg : G p = none) (R : Rel K (upd G p u) F H M) : Same F (upd F p u) ∧ Rel K G (upd F p u) H M := by
  obtain ⟨h1, h2, h3⟩ := R.hid p u upd_same
  have s : Same F (upd F p u) := same_upd h2
  refine ⟨s, fun b x e => ?_, fun a m e => ?_, fun a x e => ?_, fun a vs e => R.hidt a vs (by rw [upd_ne (ne_of_none e hg)]; exact e)⟩
  · by_cases q : b = p
    · subst q
      rw [upd_same] at e
      rw [h1]
      exact e
    · rw [upd_ne q] at e
      exact R.sub _ _ e
  · obtain ⟨f, x, hx, r⟩ := R.chg a m e
    have q : a ≠ p := fun q => by
      rw [q, h3] at e
      cases e
    exact ⟨by rw [upd_ne q]; exact f, x, hx, r.mono s⟩
  · have q : a ≠ p := ne_of_none e hg
    obtain ⟨g1, g2, g3⟩ := R.hid a x (by rw [upd_ne q]; exact e)
    exact ⟨g1, by rw [upd_ne q]; exact g2, g3⟩
theorem Rel.showM {u : HO} {o : MO} {p : Addr} (hg : G p = none) (r : RpO K F u o) (R : Rel K (upd G p u) F H M) : Rel K G F H (mup M p o) := by
  obtain ⟨h1, h2, h3⟩ := R.hid p u upd_same
  refine ⟨R.sub, fun a m e => ?_, fun a x e => ?_, fun a vs e => R.hidt a vs (by rw [upd_ne (ne_of_none e hg)]; exact e)⟩
  · by_cases q : a = p
    · subst q
      rw [mup_same] at e
      cases e
      exact ⟨h2, u, h1, r⟩
    · rw [mup_ne q] at e
      exact R.chg a m e
  · have q : a ≠ p := ne_of_none e hg
    obtain ⟨g1, g2, g3⟩ := R.hid a x (by rw [upd_ne q]; exact e)
    exact ⟨g1, g2, by rw [mup_ne q]; exact g3⟩
end
end
end Tl

namespace Tl
open PySem PySem.Spec PyProof.Rows L2

/-! ### judgements over trees -/
abbrev Sg := List (Option D)
abbrev VD := D → MH → Prop
abbrev XT := Value → MH → Prop
abbrev TEt := Sg → MH → VD → Prop
abbrev TTt := Sg → MH → (Bool → MH → Prop) → Prop
abbrev TAt := Sg → MH → (List D → MH → Prop) → Prop
structure En where
  nx : Sg → MH → Prop
  rt : VD
  bk : Sg → MH → Prop := fun _ _ => False
  ct : Sg → MH → Prop := fun _ _ => False
abbrev TSt := En → Sg → MH → Prop
def nth : Sg → Nat → Option D
  | [], _ => none
  | x :: _, 0 => x
  | _ :: t, n + 1 => nth t n
theorem nth_get : ∀ {t : Sg} {i : Nat} {d : D}, nth t i = some d → t[i]? = some (some d)
  | [], _, _, h => by cases h
  | x :: _, 0, d, h => by
    show some x = some (some d)
    exact congrArg some h
  | _ :: t, n + 1, d, h => by
    rw [List.getElem?_cons_succ]
    exact nth_get (t := t) h
abbrev Et0 : XT := fun _ _ => False
def Sgr (K : PySem.W.Frag) (F : Hp) (σ : L2.St) (τ : Sg) : Prop := σ.length = τ.length ∧ ∀ (i : Nat) (d : D), τ[i]? = some (some d) → ∃ v, σ[i]? = some (some v) ∧ Rp K F v d
/-- what is wished of exceptions -/
def EL (K : PySem.W.Frag) (G F : Hp) (E : XK) (Et : XT) : Prop := ∀ cls F' H' M', Same F F' → Rel K G F' H' M' → Et cls M' → E cls none H'
structure At (K : PySem.W.Frag) (E : XK) (Et : XT) (G F H : Hp) (M : MH) (σ : L2.St) (τ : Sg) : Prop where
  rel : Rel K G F H M
  sg : Sgr K F σ τ
  el : EL K G F E Et
section
variable {K : PySem.W.Frag} {E : XK} {Et : XT} {G F F' H H' : Hp} {M M' : MH} {σ : L2.St} {τ : Sg}
theorem Sgr.mono (h : Sgr K F σ τ) (s : Same F F') : Sgr K F' σ τ := ⟨h.1, fun i d e => by
  obtain ⟨v, a, b⟩ := h.2 i d e
  exact ⟨v, a, b.mono s⟩⟩
theorem Sgr.set (h : Sgr K F σ τ) {i : Nat} {v : V} {d : D} (r : Rp K F v d) : Sgr K F (σ.set i (some v)) (τ.set i (some d)) := by
  refine ⟨by rw [List.length_set, List.length_set]; exact h.1, fun j e q => ?_⟩
  by_cases hij : i = j
  · subst hij
    by_cases hl : i < τ.length
    · rw [List.getElem?_set_self hl] at q
      rw [List.getElem?_set_self (by rw [h.1]; exact hl)]
      cases q
      exact ⟨v, rfl, r⟩
    · rw [List.getElem?_eq_none (by rw [List.length_set]; omega)] at q
      cases q
  · rw [List.getElem?_set_ne hij] at q ⊢
    exact h.2 j e q
theorem Sgr.unset (h : Sgr K F σ τ) {i : Nat} : Sgr K F (σ.set i none) (τ.set i none) := by
  refine ⟨by rw [List.length_set, List.length_set]; exact h.1, fun j e q => ?_⟩
  by_cases hij : i = j
  · subst hij
    by_cases hl : i < τ.length
    · rw [List.getElem?_set_self hl] at q
      cases q
    · rw [List.getElem?_eq_none (by rw [List.length_set]; omega)] at q
      cases q
  · rw [List.getElem?_set_ne hij] at q ⊢
    exact h.2 j e q
theorem EL.mono (h : EL K G F E Et) (s : Same F F') : EL K G F' E Et := fun cls F2 H2 M2 s2 => h cls F2 H2 M2 (s.trans s2)
theorem EL.never {E : XK} : EL K G F E Et0 := fun _ _ _ _ _ _ h => h.elim
theorem At.step (a : At K E Et G F H M σ τ) (s : Same F F') (r : Rel K G F' H' M') : At K E Et G F' H' M' σ τ := ⟨r, a.sg.mono s, a.el.mono s⟩
theorem At.store (a : At K E Et G F H M σ τ) {i : Nat} {v : V} {d : D} (r : Rp K F v d) : At K E Et G F H M (σ.set i (some v)) (τ.set i (some d)) := ⟨a.rel, a.sg.set r, a.el⟩
end
section
variable (K : PySem.W.Frag) (E : XK) (Et : XT)
def liftE (t : TEt) : TE := fun σ H Q => ∃ G F M τ Qt, At K E Et G F H M σ τ ∧ t τ M Qt ∧ ∀ v F' H' M' d, Same F F' → Rel K G F' H' M' → Rp K F' v d → Qt d M' → Q v H'
def liftT (t : TTt) : TT := fun σ H Q => ∃ G F M τ Qt, At K E Et G F H M σ τ ∧ t τ M Qt ∧ ∀ b F' H' M', Same F F' → Rel K G F' H' M' → Qt b M' → Q b H'
def liftA (t : TAt) : TA := fun σ H Q => ∃ G F M τ Qt, At K E Et G F H M σ τ ∧ t τ M Qt ∧ ∀ vs F' H' M' ds, Same F F' → Rel K G F' H' M' → Rps K F' vs ds → Qt ds M' → Q vs H'
structure EnL (G F : Hp) (D : Ends) (Dt : En) : Prop where
  nx : ∀ F' H' M' σ τ, Same F F' → At K E Et G F' H' M' σ τ → Dt.nx τ M' → D.nx σ H'
  rt : ∀ F' H' M' v d, Same F F' → Rel K G F' H' M' → Rp K F' v d → Dt.rt d M' → D.rt v H'
  bk : ∀ F' H' M' σ τ, Same F F' → At K E Et G F' H' M' σ τ → Dt.bk τ M' → D.bk σ H'
  ct : ∀ F' H' M' σ τ, Same F F' → At K E Et G F' H' M' σ τ → Dt.ct τ M' → D.ct σ H'
def liftS (t : TSt) : TS := fun D σ H => ∃ G F M τ Dt, At K E Et G F H M σ τ ∧ EnL K E Et G F D Dt ∧ t Dt τ M
end
theorem EnL.mono {K : PySem.W.Frag} {E : XK} {Et : XT} {G F F' : Hp} {D : Ends} {Dt : En} (h : EnL K E Et G F D Dt) (s : Same F F') : EnL K E Et G F' D Dt :=
  ⟨fun F2 H2 M2 σ τ s2 => h.nx F2 H2 M2 σ τ (s.trans s2), fun F2 H2 M2 v d s2 => h.rt F2 H2 M2 v d (s.trans s2), fun F2 H2 M2 σ τ s2 => h.bk F2 H2 M2 σ τ (s.trans s2), fun F2 H2 M2 σ τ s2 => h.ct F2 H2 M2 σ τ (s.trans s2)⟩
abbrev QE (X : Cx) (E : XK) (Et : XT) (e : Expr) (t : TEt) : Prop := PE X e (liftE X.K E Et t)
abbrev QT (X : Cx) (E : XK) (Et : XT) (e : Expr) (t : TTt) : Prop := PT X e (liftT X.K E Et t)
abbrev QW (X : Cx) (E : XK) (Et : XT) (e : Expr) (t : TTt) : Prop := PW X e (liftT X.K E Et t)
abbrev QA (X : Cx) (E : XK) (Et : XT) (es : List Expr) (t : TAt) : Prop := PA X es (liftA X.K E Et t)
abbrev QS (X : Cx) (E : XK) (Et : XT) (st : Stmt) (t : TSt) : Prop := PS X st (liftS X.K E Et t)
abbrev QSs (X : Cx) (E : XK) (Et : XT) (st : List Stmt) (t : TSt) : Prop := PSs X st (liftS X.K E Et t)
section
variable {X : Cx}
theorem PEimp {e : Expr} {t t' : TE} (h : PE X e t) (i : ∀ σ H Q, t' σ H Q → t σ H Q) : PE X e t' := ⟨fun pins s σ H Q I w => h.run pins s σ H Q I (i _ _ _ w)⟩
theorem PTimp {e : Expr} {t t' : TT} (h : PT X e t) (i : ∀ σ H Q, t' σ H Q → t σ H Q) : PT X e t' := ⟨fun pins s σ H Q I w => h.run pins s σ H Q I (i _ _ _ w)⟩
theorem PWimp {e : Expr} {t t' : TT} (h : PW X e t) (i : ∀ σ H Q, t' σ H Q → t σ H Q) : PW X e t' := ⟨fun wh pins s σ H Q I w => h.run wh pins s σ H Q I (i _ _ _ w)⟩
theorem PAimp {e : List Expr} {t t' : TA} (h : PA X e t) (i : ∀ σ H Q, t' σ H Q → t σ H Q) : PA X e t' := ⟨fun pos pins s σ H Q I w => h.run pos pins s σ H Q I (i _ _ _ w)⟩
theorem PSimp {e : Stmt} {t t' : TS} (h : PS X e t) (i : ∀ D σ H, t' D σ H → t D σ H) : PS X e t' := ⟨fun pins s σ H D I w => h.run pins s σ H D I (i _ _ _ w)⟩
theorem PSsimp {e : List Stmt} {t t' : TS} (h : PSs X e t) (i : ∀ D σ H, t' D σ H → t D σ H) : PSs X e t' := ⟨fun pins s σ H D I w => h.run pins s σ H D I (i _ _ _ w)⟩
theorem OpRimp {f : Value → Value → Sem Value} {r r' : R2} (h : OpR X f r) (i : ∀ x y H Q, r' x y H Q → r x y H Q) : OpR X f r' := fun pins s σ H x y u v Q I rx ry w => h pins s σ H x y u v Q I rx ry (i _ _ _ _ w)
theorem UnRimp {f : Value → Sem Value} {r r' : V → Hp → VK → Prop} (h : UnR X f r) (i : ∀ x H Q, r' x H Q → r x H Q) : UnR X f r' := fun pins s σ H x u Q I rx w => h pins s σ H x u Q I rx (i _ _ _ w)
theorem CallRimp {f : Value} {r r' : List V → Hp → VK → Prop} (h : CallR X f r) (i : ∀ x H Q, r' x H Q → r x H Q) : CallR X f r' := fun pins s σ H x u Q I rx w => h pins s σ H x u Q I rx (i _ _ _ w)
end
/-! ### names, constants -/
def tV (i : Nat) : TEt := fun τ M Q => match nth τ i with
  | some d => Q d M
  | none => False
def tK (d : D) : TEt := fun _ M Q => Q d M
section
variable {X : Cx} {E : XK} {Et : XT}
theorem lv_var {i : Nat} : ∀ σ H Q, liftE X.K E Et (tV i) σ H Q → tVar i σ H Q := by
  rintro σ H Q ⟨G, F, M, τ, Qt, a, h, k⟩
  unfold tV at h
  cases e : nth τ i with
  | none => rw [e] at h; exact h.elim
  | some d =>
    rw [e] at h
    obtain ⟨v, h1, h2⟩ := a.sg.2 i d (nth_get e)
    exact ⟨v, h1, k v F H M d (Same.refl _) a.rel h2 h⟩
theorem qv (i : Nat) {x : Str} {pos : Pos} (hN : X.N[i]? = some x := by rfl) (hv : Vis X.env.scope x := by first | exact Or.inl rfl | exact Or.inr (Or.inl rfl) | exact Or.inr (Or.inr rfl)) (hd : (x == ("__debug__" : Str)) = false := by decide)
    (hcd : (x == ("__classdict__" : Str)) = false := by decide) : QE X E Et (.Name x pos) (tV i) := PEimp (pe_var hN hv hd hcd) lv_var
theorem lv_c {v : V} {d : D} (r : ∀ F, Rp X.K F v d) : ∀ σ H Q, liftE X.K E Et (tK d) σ H Q → tC v σ H Q := by
  rintro σ H Q ⟨G, F, M, τ, Qt, a, h, k⟩
  exact k v F H M d (Same.refl _) a.rel (r F) h
theorem q_int {i j pos} : QE X E Et (.Constant (.int i) j pos) (tK (.int i)) := PEimp pe_int (lv_c fun _ => .int i)
theorem q_bl {b j pos} : QE X E Et (.Constant (.bool b) j pos) (tK (.bl b)) := PEimp pe_bl (lv_c fun _ => .bl b)
theorem q_non {j pos} : QE X E Et (.Constant .none j pos) (tK .non) := PEimp pe_non (lv_c fun _ => .non)
theorem q_str {x j pos} : QE X E Et (.Constant (.str x) j pos) (tK (.str x)) := PEimp pe_str (lv_c fun _ => .str x)
theorem q_gint {x : Str} {i : Int} {pos : Pos} (hm : ∃ t, X.mg x = some (.int i t)) (hg : Gl X x := by rfl) (hd : (x == ("__debug__" : Str)) = false := by decide) : QE X E Et (.Name x pos) (tK (.int i)) := by
  obtain ⟨t, hm⟩ := hm
  exact PEimp (pe_glob (v := .int i) hg hm ⟨t, rfl⟩ hd) (lv_c fun _ => .int i)
theorem q_gstr {x : Str} {i : Str} {pos : Pos} (hm : ∃ t, X.mg x = some (.str i t)) (hg : Gl X x := by rfl) (hd : (x == ("__debug__" : Str)) = false := by decide) : QE X E Et (.Name x pos) (tK (.str i)) := by
  obtain ⟨t, hm⟩ := hm
  exact PEimp (pe_glob (v := .str i) hg hm ⟨t, rfl⟩ hd) (lv_c fun _ => .str i)
/-- a table of the top: a tuple | a list -/
theorem q_gref {x : Str} {u : Addr} {d : D} {pos : Pos} (hm : X.mg x = some (.ref u)) (r : ∀ F, Rp X.K F (.ref u) d) (hg : Gl X x := by rfl) (hd : (x == ("__debug__" : Str)) = false := by decide) : QE X E Et (.Name x pos) (tK d) :=
  PEimp (pe_glob (v := .ref u) hg hm rfl hd) (lv_c r)
theorem q_ty {x : Str} (T : String) {pos : Pos} (hm : X.mg x = none) (hv : bootBuiltins x = some (.type T)) (hg : Gl X x := by rfl) (hn : x ≠ "__name__" := by decide) (hd : (x == ("__debug__" : Str)) = false := by decide) : QE X E Et (.Name x pos) (tK (.ty T)) :=
  PEimp (pe_bltn (v := .ty T) hg hm hv rfl hn hd) (lv_c fun _ => .ty T)
end
/-! ### operators by values -/
abbrev R2t := D → D → MH → VD → Prop
abbrev R1t := D → MH → VD → Prop
abbrev RLt := List D → MH → VD → Prop
def lr2 (K : PySem.W.Frag) (r : R2t) : R2 := fun x y H Q => ∃ G F M dx dy Qt, Rel K G F H M ∧ Rp K F x dx ∧ Rp K F y dy ∧ r dx dy M Qt ∧ ∀ v F' H' M' d, Same F F' → Rel K G F' H' M' → Rp K F' v d → Qt d M' → Q v H'
def lr1 (K : PySem.W.Frag) (r : R1t) : V → Hp → VK → Prop := fun x H Q => ∃ G F M dx Qt, Rel K G F H M ∧ Rp K F x dx ∧ r dx M Qt ∧ ∀ v F' H' M' d, Same F F' → Rel K G F' H' M' → Rp K F' v d → Qt d M' → Q v H'
def lrL (K : PySem.W.Frag) (r : RLt) : List V → Hp → VK → Prop := fun xs H Q => ∃ G F M ds Qt, Rel K G F H M ∧ Rps K F xs ds ∧ r ds M Qt ∧ ∀ v F' H' M' d, Same F F' → Rel K G F' H' M' → Rp K F' v d → Qt d M' → Q v H'
abbrev OpQ (X : Cx) (f : Value → Value → Sem Value) (r : R2t) : Prop := OpR X f (lr2 X.K r)
abbrev UnQ (X : Cx) (f : Value → Sem Value) (r : R1t) : Prop := UnR X f (lr1 X.K r)
abbrev CallQ (X : Cx) (f : Value) (r : RLt) : Prop := CallR X f (lrL X.K r)
def tO (r : R2t) (ta tb : TEt) : TEt := fun τ M Q => ta τ M fun x M1 => tb τ M1 fun y M2 => r x y M2 Q
def tU (r : R1t) (ta : TEt) : TEt := fun τ M Q => ta τ M fun x M1 => r x M1 Q
def tCa (r : RLt) (ta : TAt) : TEt := fun τ M Q => ta τ M fun xs M1 => r xs M1 Q
section
variable {X : Cx} {E : XK} {Et : XT} {e a b : Expr} {es : List Expr} {ta tb : TEt} {t : TAt} {pos : Pos}
theorem lv_op {r : R2t} : ∀ σ H Q, liftE X.K E Et (tO r ta tb) σ H Q → tOp (lr2 X.K r) (liftE X.K E Et ta) (liftE X.K E Et tb) σ H Q := by
  rintro σ H Q ⟨G, F, M, τ, Qt, a, h, k⟩
  refine ⟨G, F, M, τ, _, a, h, fun v F1 H1 M1 d s1 r1 p1 q1 => ?_⟩
  refine ⟨G, F1, M1, τ, _, a.step s1 r1, q1, fun v2 F2 H2 M2 d2 s2 r2 p2 q2 => ?_⟩
  exact ⟨G, F2, M2, d, d2, Qt, r2, p1.mono s2, p2, q2, fun v F' H' M' d s => k v F' H' M' d ((s1.trans s2).trans s)⟩
theorem q_op {op : Operator} {r : R2t} (ho : OpQ X (binaryOp op) r) (ha : QE X E Et a ta) (hb : QE X E Et b tb) : QE X E Et (.BinOp a op b pos) (tO r ta tb) := PEimp (pe_op ho ha hb) lv_op
theorem q_cmp {op : CmpOp} {r : R2t} (ho : OpQ X (compareOp op) r) (ha : QE X E Et a ta) (hb : QE X E Et b tb) (hm : behindInMarks op b = false := by first | exact nomark _ | rfl) : QE X E Et (.Compare a [op] [b] pos) (tO r ta tb) := PEimp (pe_cmpR ho ha hb hm) lv_op
theorem q_un {op : UnaryOp} {r : R1t} (ho : UnQ X (unaryOp op) r) (ha : QE X E Et a ta) : QE X E Et (.UnaryOp op a pos) (tU r ta) := PEimp (pe_un ho ha) (by
  rintro σ H Q ⟨G, F, M, τ, Qt, a, h, k⟩
  refine ⟨G, F, M, τ, _, a, h, fun v F1 H1 M1 d s1 r1 p1 q1 => ?_⟩
  exact ⟨G, F1, M1, d, Qt, r1, p1, q1, fun v F' H' M' d s => k v F' H' M' d (s1.trans s)⟩)
/-! ### arguments -/
def tN : TAt := fun _ M Q => Q [] M
def tCs (ta : TEt) (tr : TAt) : TAt := fun τ M Q => ta τ M fun x M1 => tr τ M1 fun xs M2 => Q (x :: xs) M2
theorem qa_nil : QA X E Et [] tN := PAimp pa_nil (by
  rintro σ H Q ⟨G, F, M, τ, Qt, a, h, k⟩
  exact k [] F H M [] (Same.refl _) a.rel .nil h)
theorem qa_cons (ha : QE X E Et e ta) (hr : QA X E Et es t) (hs : starEach (e :: es) X.env = (false, eval e X.env) :: starEach es X.env := by rfl) : QA X E Et (e :: es) (tCs ta t) := PAimp (pa_cons ha hr hs) (by
  rintro σ H Q ⟨G, F, M, τ, Qt, a, h, k⟩
  refine ⟨G, F, M, τ, _, a, h, fun v F1 H1 M1 d s1 r1 p1 q1 => ?_⟩
  refine ⟨G, F1, M1, τ, _, a.step s1 r1, q1, fun vs F2 H2 M2 ds s2 r2 p2 q2 => ?_⟩
  exact k (v :: vs) F2 H2 M2 (d :: ds) (s1.trans s2) r2 (.cons (p1.mono s2) p2) q2)
theorem lv_cb {r : RLt} : ∀ σ H Q, liftE X.K E Et (tCa r t) σ H Q → tCB (lrL X.K r) (liftA X.K E Et t) σ H Q := by
  rintro σ H Q ⟨G, F, M, τ, Qt, a, h, k⟩
  refine ⟨G, F, M, τ, _, a, h, fun vs F1 H1 M1 ds s1 r1 p1 q1 => ?_⟩
  exact ⟨G, F1, M1, ds, Qt, r1, p1, q1, fun v F' H' M' d s => k v F' H' M' d (s1.trans s)⟩
theorem q_callB {id : String} {x : Str} {p : Pos} {r : RLt} (hc : CallQ X (.builtin id) r) (hm : X.mg x = none) (hv : bootBuiltins x = some (.builtin id)) (ha : QA X E Et (e :: es) t) (hg : Gl X x := by rfl) (hn : x ≠ "__name__" := by decide) (hdb : (x == ("__debug__" : Str)) = false := by decide)
    (he : starEach (e :: es) X.env = (false, eval e X.env) :: starEach es X.env := by rfl) (hpl : (backTo pos (starEach es X.env)).any (·.1) = false := by rfl) : QE X E Et (.Call (.Name x p) (e :: es) [] pos) (tCa r t) :=
  PEimp (pe_callB hc hg hm hv ha hn hdb he hpl) lv_cb
theorem q_callTy {T : String} {x : Str} {p : Pos} {r : RLt} (hc : CallQ X (.type T) r) (hm : X.mg x = none) (hv : bootBuiltins x = some (.type T)) (ha : QA X E Et (e :: es) t) (hg : Gl X x := by rfl) (hn : x ≠ "__name__" := by decide) (hdb : (x == ("__debug__" : Str)) = false := by decide)
    (he : starEach (e :: es) X.env = (false, eval e X.env) :: starEach es X.env := by rfl) (hpl : (backTo pos (starEach es X.env)).any (·.1) = false := by rfl) : QE X E Et (.Call (.Name x p) (e :: es) [] pos) (tCa r t) :=
  PEimp (pe_callTy hc hg hm hv ha hn hdb he hpl) lv_cb
end
/-! ### tests -/
def tBo (t : TEt) : TTt := fun τ M Q => t τ M fun x M1 => match x with
  | .bl c => Q c M1
  | _ => False
def tAn (t u : TTt) : TTt := fun τ M Q => t τ M fun c M1 => if c = true then u τ M1 Q else Q false M1
def tOr' (t u : TTt) : TTt := fun τ M Q => t τ M fun c M1 => if c = true then Q true M1 else u τ M1 Q
def tNo (t : TTt) : TTt := fun τ M Q => t τ M fun c M1 => Q (!c) M1
def tAnV (ta tb : TEt) : TEt := fun τ M Q => ta τ M fun x M1 => match x with
  | .bl c => if c = true then tb τ M1 Q else Q (.bl false) M1
  | _ => False
def tOrV' (ta tb : TEt) : TEt := fun τ M Q => ta τ M fun x M1 => match x with
  | .bl c => if c = true then Q (.bl true) M1 else tb τ M1 Q
  | _ => False
def tNoV (ta : TEt) : TEt := fun τ M Q => ta τ M fun x M1 => match x with
  | .bl c => Q (.bl (!c)) M1
  | _ => False
def tIfE (t : TTt) (ta tb : TEt) : TEt := fun τ M Q => t τ M fun c M1 => if c = true then ta τ M1 Q else tb τ M1 Q
section
variable {X : Cx} {E : XK} {Et : XT} {e a b c : Expr} {rest : List Expr} {ta tb : TEt} {t u : TTt} {pos : Pos}
theorem Rp.bl_inv {K : PySem.W.Frag} {F : Hp} {v : V} {c : Bool} (h : Rp K F v (.bl c)) : v = .bl c := by cases h; rfl
theorem lv_bo : ∀ σ H Q, liftT X.K E Et (tBo ta) σ H Q → tB (liftE X.K E Et ta) σ H Q := by
  rintro σ H Q ⟨G, F, M, τ, Qt, a, h, k⟩
  refine ⟨G, F, M, τ, _, a, h, fun v F1 H1 M1 d s1 r1 p1 q1 => ?_⟩
  cases d with
  | bl c => exact ⟨c, p1.bl_inv, k c F1 H1 M1 s1 r1 q1⟩
  | _ => exact q1.elim
theorem qt_val (h : QE X E Et e ta) (he : ∀ whole, isTrue e X.env whole = (do let v ← whole; standAt e.pos; holding [v] (truthy v)) := by intro _; rfl) : QT X E Et e (tBo ta) := PTimp (pt_val h he) lv_bo
theorem qt_cmp {op : CmpOp} {r : R2t} (ho : OpQ X (compareOp op) r) (ha : QE X E Et a ta) (hb : QE X E Et b tb) (hm : behindInMarks op b = false := by first | exact nomark _ | rfl) : QT X E Et (.Compare a [op] [b] pos) (tBo (tO r ta tb)) := PTimp (pt_cmpR ho ha hb hm) (by
  rintro σ H Q ⟨G, F, M, τ, Qt, a, h, k⟩
  refine lv_op _ _ _ ⟨G, F, M, τ, _, a, h, fun v F1 H1 M1 d s1 r1 p1 q1 => ?_⟩
  cases d with
  | bl c => exact ⟨c, p1.bl_inv, k c F1 H1 M1 s1 r1 q1⟩
  | _ => exact q1.elim)
theorem qw_and1 (ha : QT X E Et a t) : QW X E Et (.BoolOp .And [a] pos) t := pw_and1 ha
theorem qw_or1 (ha : QT X E Et a t) : QW X E Et (.BoolOp .Or [a] pos) t := pw_or1 ha
theorem qw_and (ha : QT X E Et a t) (hb : QW X E Et (.BoolOp .And (b :: rest) pos) u) : QW X E Et (.BoolOp .And (a :: b :: rest) pos) (tAn t u) := PWimp (pw_and ha hb) (by
  rintro σ H Q ⟨G, F, M, τ, Qt, a, h, k⟩
  refine ⟨G, F, M, τ, _, a, h, fun b F1 H1 M1 s1 r1 q1 => ?_⟩
  cases b with
  | true =>
    rw [if_pos rfl] at q1 ⊢
    exact ⟨G, F1, M1, τ, Qt, a.step s1 r1, q1, fun b F2 H2 M2 s2 => k b F2 H2 M2 (s1.trans s2)⟩
  | false =>
    rw [if_neg Bool.false_ne_true] at q1 ⊢
    exact k false F1 H1 M1 s1 r1 q1)
theorem qw_or (ha : QT X E Et a t) (hb : QW X E Et (.BoolOp .Or (b :: rest) pos) u) : QW X E Et (.BoolOp .Or (a :: b :: rest) pos) (tOr' t u) := PWimp (pw_or ha hb) (by
  rintro σ H Q ⟨G, F, M, τ, Qt, a, h, k⟩
  refine ⟨G, F, M, τ, _, a, h, fun b F1 H1 M1 s1 r1 q1 => ?_⟩
  cases b with
  | true =>
    rw [if_pos rfl] at q1 ⊢
    exact k true F1 H1 M1 s1 r1 q1
  | false =>
    rw [if_neg Bool.false_ne_true] at q1 ⊢
    exact ⟨G, F1, M1, τ, Qt, a.step s1 r1, q1, fun b F2 H2 M2 s2 => k b F2 H2 M2 (s1.trans s2)⟩)
theorem qt_w (h : QW X E Et e t) : QT X E Et e t := h.pt
theorem qt_not (ha : QT X E Et a t) : QT X E Et (.UnaryOp .Not a pos) (tNo t) := PTimp (pt_not ha) (by
  rintro σ H Q ⟨G, F, M, τ, Qt, a, h, k⟩
  exact ⟨G, F, M, τ, _, a, h, fun b F1 H1 M1 s1 r1 q1 => k _ F1 H1 M1 s1 r1 q1⟩)
theorem q_one {op} (h : QE X E Et a ta) : QE X E Et (.BoolOp op [a] pos) ta := pe_one h
theorem q_and (ha : QE X E Et a ta) (hb : QE X E Et (.BoolOp .And (b :: rest) pos) tb) : QE X E Et (.BoolOp .And (a :: b :: rest) pos) (tAnV ta tb) := PEimp (pe_and ha hb) (by
  rintro σ H Q ⟨G, F, M, τ, Qt, a, h, k⟩
  refine ⟨G, F, M, τ, _, a, h, fun v F1 H1 M1 d s1 r1 p1 q1 => ?_⟩
  cases d with
  | bl c =>
    refine ⟨c, p1.bl_inv, ?_⟩
    cases c with
    | true =>
      rw [if_pos rfl]
      exact ⟨G, F1, M1, τ, Qt, a.step s1 r1, q1, fun v F2 H2 M2 d s2 => k v F2 H2 M2 d (s1.trans s2)⟩
    | false =>
      rw [if_neg Bool.false_ne_true]
      exact k _ F1 H1 M1 _ s1 r1 (.bl false) q1
  | _ => exact q1.elim)
theorem q_or (ha : QE X E Et a ta) (hb : QE X E Et (.BoolOp .Or (b :: rest) pos) tb) : QE X E Et (.BoolOp .Or (a :: b :: rest) pos) (tOrV' ta tb) := PEimp (pe_or ha hb) (by
  rintro σ H Q ⟨G, F, M, τ, Qt, a, h, k⟩
  refine ⟨G, F, M, τ, _, a, h, fun v F1 H1 M1 d s1 r1 p1 q1 => ?_⟩
  cases d with
  | bl c =>
    refine ⟨c, p1.bl_inv, ?_⟩
    cases c with
    | true =>
      rw [if_pos rfl]
      exact k _ F1 H1 M1 _ s1 r1 (.bl true) q1
    | false =>
      rw [if_neg Bool.false_ne_true]
      exact ⟨G, F1, M1, τ, Qt, a.step s1 r1, q1, fun v F2 H2 M2 d s2 => k v F2 H2 M2 d (s1.trans s2)⟩
  | _ => exact q1.elim)
theorem q_not (ha : QE X E Et a ta) : QE X E Et (.UnaryOp .Not a pos) (tNoV ta) := PEimp (pe_not ha) (by
  rintro σ H Q ⟨G, F, M, τ, Qt, a, h, k⟩
  refine ⟨G, F, M, τ, _, a, h, fun v F1 H1 M1 d s1 r1 p1 q1 => ?_⟩
  cases d with
  | bl c => exact ⟨c, p1.bl_inv, k _ F1 H1 M1 _ s1 r1 (.bl _) q1⟩
  | _ => exact q1.elim)
theorem q_ifE (hc : QT X E Et c t) (ha : QE X E Et a ta) (hb : QE X E Et b tb) : QE X E Et (.IfExp c a b pos) (tIfE t ta tb) := PEimp (pe_ifExp hc ha hb) (by
  rintro σ H Q ⟨G, F, M, τ, Qt, a, h, k⟩
  refine ⟨G, F, M, τ, _, a, h, fun b F1 H1 M1 s1 r1 q1 => ?_⟩
  cases b with
  | true =>
    rw [if_pos rfl] at q1 ⊢
    exact ⟨G, F1, M1, τ, Qt, a.step s1 r1, q1, fun v F2 H2 M2 d s2 => k v F2 H2 M2 d (s1.trans s2)⟩
  | false =>
    rw [if_neg Bool.false_ne_true] at q1 ⊢
    exact ⟨G, F1, M1, τ, Qt, a.step s1 r1, q1, fun v F2 H2 M2 d s2 => k v F2 H2 M2 d (s1.trans s2)⟩)
/-- a < b < c -/
def tCh (r r' : R2t) (ta tb tc : TEt) : TEt := fun τ M Q => ta τ M fun x M1 => tb τ M1 fun y M2 => r x y M2 fun z M3 => match z with
  | .bl k => if k = true then tc τ M3 fun w M4 => r' y w M4 Q else Q (.bl false) M3
  | _ => False
theorem lv_chain {r r' : R2t} {tc : TEt} : ∀ σ H Q, liftE X.K E Et (tCh r r' ta tb tc) σ H Q → tChain (lr2 X.K r) (lr2 X.K r') (liftE X.K E Et ta) (liftE X.K E Et tb) (liftE X.K E Et tc) σ H Q := by
  rintro σ H Q ⟨G, F, M, τ, Qt, a, h, k⟩
  refine ⟨G, F, M, τ, _, a, h, fun v F1 H1 M1 d s1 r1 p1 q1 => ?_⟩
  refine ⟨G, F1, M1, τ, _, a.step s1 r1, q1, fun v2 F2 H2 M2 d2 s2 r2 p2 q2 => ?_⟩
  refine ⟨G, F2, M2, d, d2, _, r2, p1.mono s2, p2, q2, fun z F3 H3 M3 dz s3 r3 p3 q3 => ?_⟩
  cases dz with
  | bl c =>
    refine ⟨c, p3.bl_inv, ?_⟩
    cases c with
    | true =>
      rw [if_pos rfl]
      refine ⟨G, F3, M3, τ, _, a.step ((s1.trans s2).trans s3) r3, q3, fun v4 F4 H4 M4 d4 s4 r4 p4 q4 => ?_⟩
      exact ⟨G, F4, M4, d2, d4, Qt, r4, p2.mono (s3.trans s4), p4, q4, fun v F' H' M' d s => k v F' H' M' d ((((s1.trans s2).trans s3).trans s4).trans s)⟩
    | false =>
      rw [if_neg Bool.false_ne_true]
      exact k _ F3 H3 M3 _ ((s1.trans s2).trans s3) r3 (.bl false) q3
  | _ => exact q3.elim
theorem q_chain {op op' : CmpOp} {r r' : R2t} {tc : TEt} (ho : OpQ X (compareOp op) r) (ho' : OpQ X (compareOp op') r') (ha : QE X E Et a ta) (hb : QE X E Et b tb) (hc : QE X E Et c tc)
    (hm : lastMarks [op, op'] [b, c] = false := by with_unfolding_all rfl) : QE X E Et (.Compare a [op, op'] [b, c] pos) (tCh r r' ta tb tc) := PEimp (pe_chain ho ho' ha hb hc hm) lv_chain
theorem qt_chain {op op' : CmpOp} {r r' : R2t} {tc : TEt} (ho : OpQ X (compareOp op) r) (ho' : OpQ X (compareOp op') r') (ha : QE X E Et a ta) (hb : QE X E Et b tb) (hc : QE X E Et c tc)
    (hm : lastMarks [op, op'] [b, c] = false := by with_unfolding_all rfl) : QT X E Et (.Compare a [op, op'] [b, c] pos) (tBo (tCh r r' ta tb tc)) := PTimp (pt_chain ho ho' ha hb hc hm) (by
  rintro σ H Q ⟨G, F, M, τ, Qt, a, h, k⟩
  refine lv_chain _ _ _ ⟨G, F, M, τ, _, a, h, fun v F1 H1 M1 d s1 r1 p1 q1 => ?_⟩
  cases d with
  | bl c => exact ⟨c, p1.bl_inv, k c F1 H1 M1 s1 r1 q1⟩
  | _ => exact q1.elim)
end
end Tl

namespace Tl
open PySem PySem.Spec PyProof.Rows L2

/-! ### calls of the text's own defs -/
abbrev SpT := List D → MH → VD → XT → Prop
def lSp (K : PySem.W.Frag) (sp : SpT) : Sp := fun vs H Q E => ∃ G F M ds Qt Et, Rel K G F H M ∧ Rps K F vs ds ∧ EL K G F E Et ∧ sp ds M Qt Et ∧ ∀ v F' H' M' d, Same F F' → Rel K G F' H' M' → Rp K F' v d → Qt d M' → Q v H'
/-- a def of the text, called by its name x -/
structure Fn (P : Program) (w : World) (K : PySem.W.Frag) (mg : Str → Option Value) (base : Heap) (CX : CXT) (k : Nat) (x : Str) (sp : SpT) : Prop where
  ok : ∃ fd ps, FnOk P w K mg base CX k (He.ga K x) fd ps (lSp K sp) ∧ Binds K fd ps []
  m : mg x = some (.ref (He.ga K x))
  kp : PySem.W.keepIn K (.ref (He.ga K x)) = true
def tCl (sp : SpT) (Et : XT) (t : TAt) : TEt := fun τ M Q => t τ M fun ds M1 => sp ds M1 Q Et
section
variable {X : Cx} {E E' : XK} {Et Et' : XT} {e : Expr} {es : List Expr} {t : TAt} {pos p : Pos} {sp : SpT} {k : Nat} {x : Str}
theorem lv_call (hE : ∀ G F, EL X.K G F E Et → EL X.K G F E' Et') : ∀ σ H Q, liftE X.K E Et (tCl sp Et' t) σ H Q → tCall (lSp X.K sp) [] E' (liftA X.K E Et t) σ H Q := by
  rintro σ H Q ⟨G, F, M, τ, Qt, a, h, k⟩
  refine ⟨G, F, M, τ, _, a, h, fun vs F1 H1 M1 ds s1 r1 p1 q1 => ?_⟩
  show lSp X.K sp (vs ++ []) H1 Q E'
  rw [List.append_nil]
  exact ⟨G, F1, M1, ds, Qt, Et', r1, p1, hE G F1 (a.el.mono s1), q1, fun v F' H' M' d s => k v F' H' M' d (s1.trans s)⟩
theorem q_call (Fo : Fn X.prog X.w X.K X.mg X.base CX0 k x sp) (hr : Room k X.A) (ha : QA X E Et (e :: es) t) (hg : Gl X x := by rfl) (hdb : (x == ("__debug__" : Str)) = false := by decide)
    (he : starEach (e :: es) X.env = (false, eval e X.env) :: starEach es X.env := by rfl) (hpl : (backTo pos (starEach es X.env)).any (·.1) = false := by rfl) : QE X E Et (.Call (.Name x p) (e :: es) [] pos) (tCl sp Et0 t) := by
  obtain ⟨⟨fd, ps, F1, b⟩, m, kp⟩ := Fo
  exact PEimp (pe_call F1 hr hg m kp b .nil pass0 ha hdb he hpl) (lv_call fun _ _ _ => .never)
theorem q_call0 (Fo : Fn X.prog X.w X.K X.mg X.base CX0 k x sp) (hr : Room k X.A) (hg : Gl X x := by rfl) (hdb : (x == ("__debug__" : Str)) = false := by decide) : QE X E Et (.Call (.Name x p) [] [] pos) (tCl sp Et0 tN) := by
  obtain ⟨⟨fd, ps, F1, b⟩, m, kp⟩ := Fo
  refine PEimp (pe_call0 F1 hr hg m kp b .nil pass0 hdb) fun σ H Q h => ?_
  obtain ⟨G, F, M, τ, Qt, a, h, k⟩ := h
  exact ⟨G, F, M, [], Qt, Et0, a.rel, .nil, .never, h, k⟩
end
/-! ### statements -/
def sNx : TSt := fun D τ M => D.nx τ M
def sSq (t u : TSt) : TSt := fun D τ M => t { D with nx := u D } τ M
def sBk : TSt := fun D τ M => D.bk τ M
def sCt : TSt := fun D τ M => D.ct τ M
def sDr (t : TEt) : TSt := fun D τ M => t τ M fun _ M1 => D.nx τ M1
def sRt (t : TEt) : TSt := fun D τ M => t τ M D.rt
def sRtN : TSt := fun D _ M => D.rt .non M
def sIf (c : TTt) (t u : TSt) : TSt := fun D τ M => c τ M fun b M1 => if b = true then t D τ M1 else u D τ M1
abbrev TGt := D → Sg → MH → (Sg → MH → Prop) → Prop
abbrev TGst := List D → Sg → MH → (Sg → MH → Prop) → Prop
def liftG (K : PySem.W.Frag) (E : XK) (Et : XT) (t : TGt) : TG := fun v σ H Q => ∃ G F M τ d Qt, At K E Et G F H M σ τ ∧ Rp K F v d ∧ t d τ M Qt ∧ ∀ F' H' M' σ' τ', Same F F' → At K E Et G F' H' M' σ' τ' → Qt τ' M' → Q σ' H'
def liftGs (K : PySem.W.Frag) (E : XK) (Et : XT) (t : TGst) : TGs := fun vs σ H Q => ∃ G F M τ ds Qt, At K E Et G F H M σ τ ∧ Rps K F vs ds ∧ t ds τ M Qt ∧ ∀ F' H' M' σ' τ', Same F F' → At K E Et G F' H' M' σ' τ' → Qt τ' M' → Q σ' H'
def gN (i : Nat) : TGt := fun d τ M Q => Q (τ.set i (some d)) M
def gNl : TGst := fun ds τ M Q => match ds with
  | [] => Q τ M
  | _ :: _ => False
def gCs (t : TGt) (u : TGst) : TGst := fun ds τ M Q => match ds with
  | [] => False
  | d :: r => t d τ M fun τ' M' => u r τ' M' Q
def gTp (n : Nat) (t : TGst) : TGt := fun d τ M Q => match d with
  | .tup ds => ds.length = n ∧ t ds τ M Q
  | _ => False
/-- o[i] = v by values -/
abbrev TSett := D → D → D → MH → (MH → Prop) → Prop
def lSet (K : PySem.W.Frag) (t : TSett) : TSet := fun o i v H Q => ∃ G F M od idd vd Qt, Rel K G F H M ∧ Rp K F o od ∧ Rp K F i idd ∧ Rp K F v vd ∧ t od idd vd M Qt ∧ ∀ F' H' M', Same F F' → Rel K G F' H' M' → Qt M' → Q H'
def gSb (to ti : TEt) (t : TSett) : TGt := fun v τ M Q => to τ M fun o M1 => ti τ M1 fun i M2 => t o i v M2 fun M3 => Q τ M3
abbrev QG (X : Cx) (E : XK) (Et : XT) (e : Expr) (t : TGt) : Prop := PG X e (liftG X.K E Et t)
abbrev QGs (X : Cx) (E : XK) (Et : XT) (e : List Expr) (t : TGst) : Prop := PGs X e (liftGs X.K E Et t)
def sAs (te : TEt) (g : TGt) : TSt := fun D τ M => te τ M fun x M1 => g x τ M1 D.nx
section
variable {X : Cx} {E : XK} {Et : XT} {st : Stmt} {rest : List Stmt} {t u : TSt} {e : Expr} {te : TEt} {pos : Pos}
theorem qss_nil : QSs X E Et [] sNx := PSsimp pss_nil (by
  rintro D σ H ⟨G, F, M, τ, Dt, a, en, h⟩
  exact en.nx F H M σ τ (Same.refl _) a h)
theorem qss_cons (h1 : QS X E Et st t) (h2 : QSs X E Et rest u) : QSs X E Et (st :: rest) (sSq t u) := PSsimp (pss_cons h1 h2) (by
  rintro D σ H ⟨G, F, M, τ, Dt, a, en, h⟩
  exact ⟨G, F, M, τ, { Dt with nx := u Dt }, a, ⟨fun F' H' M' σ' τ' s a' h' => ⟨G, F', M', τ', Dt, a', en.mono s, h'⟩, en.rt, en.bk, en.ct⟩, h⟩)
theorem qss_one (h1 : QS X E Et st t) : QSs X E Et [st] t := pss_one h1
theorem qs_pass : QS X E Et (.Pass pos) sNx := PSimp ps_pass (by
  rintro D σ H ⟨G, F, M, τ, Dt, a, en, h⟩
  exact en.nx F H M σ τ (Same.refl _) a h)
theorem qs_break : QS X E Et (.Break pos) sBk := PSimp ps_break (by
  rintro D σ H ⟨G, F, M, τ, Dt, a, en, h⟩
  exact en.bk F H M σ τ (Same.refl _) a h)
theorem qs_continue : QS X E Et (.Continue pos) sCt := PSimp ps_continue (by
  rintro D σ H ⟨G, F, M, τ, Dt, a, en, h⟩
  exact en.ct F H M σ τ (Same.refl _) a h)
theorem qs_doc {x j pos pos'} : QS X E Et (.Expr (.Constant (.str x) j pos) pos') sNx := PSimp ps_doc (by
  rintro D σ H ⟨G, F, M, τ, Dt, a, en, h⟩
  exact en.nx F H M σ τ (Same.refl _) a h)
theorem qs_expr (he : QE X E Et e te) (hs : swapsWith e none pos.line X.env = pure false := by rfl) : QS X E Et (.Expr e pos) (sDr te) := PSimp (ps_expr he hs) (by
  rintro D σ H ⟨G, F, M, τ, Dt, a, en, h⟩
  exact ⟨G, F, M, τ, _, a, h, fun v F' H' M' d s r p q => en.nx F' H' M' σ τ s (a.step s r) q⟩)
theorem qs_ret (he : QE X E Et e te) : QS X E Et (.Return (some e) pos) (sRt te) := PSimp (ps_ret he) (by
  rintro D σ H ⟨G, F, M, τ, Dt, a, en, h⟩
  exact ⟨G, F, M, τ, _, a, h, fun v F' H' M' d s r p q => en.rt F' H' M' v d s r p q⟩)
theorem qs_retN : QS X E Et (.Return none pos) sRtN := PSimp ps_retN (by
  rintro D σ H ⟨G, F, M, τ, Dt, a, en, h⟩
  exact en.rt F H M _ _ (Same.refl _) a.rel .non h)
theorem qs_if {c : Expr} {a b : List Stmt} {tc : TTt} (hc : QT X E Et c tc) (ha : QSs X E Et a t) (hb : QSs X E Et b u) : QS X E Et (.If c a b pos) (sIf tc t u) := PSimp (ps_if hc ha hb) (by
  rintro D σ H ⟨G, F, M, τ, Dt, a, en, h⟩
  refine ⟨G, F, M, τ, _, a, h, fun b F' H' M' s r q => ?_⟩
  cases b with
  | true =>
    rw [if_pos rfl] at q ⊢
    exact ⟨G, F', M', τ, Dt, a.step s r, en.mono s, q⟩
  | false =>
    rw [if_neg Bool.false_ne_true] at q ⊢
    exact ⟨G, F', M', τ, Dt, a.step s r, en.mono s, q⟩)
/-! targets -/
theorem qg_name {i : Nat} {x : Str} (hN : X.N.Nodup) (hi : X.N[i]? = some x := by rfl) (hx : Loc X.env.scope x := by first | exact Or.inl rfl | exact Or.inr rfl) (hf : X.fn x = true ∨ X.env.scope.names.lookup x = some .local := by first | exact .inl rfl | exact .inr rfl | assumption) : QG X E Et (.Name x pos) (gN i) := by
  refine ⟨fun pins s σ H v u Q I r h => ?_⟩
  obtain ⟨G, F, M, τ, d, Qt, a, p, h, k⟩ := h
  exact (pg_name hN hi hx hf).run pins s σ H v u Q I r (k F H M _ _ (Same.refl _) (a.store p) h)
theorem qgs_nil : QGs X E Et [] gNl := by
  refine ⟨fun pins s σ H vs us Q I r h => ?_⟩
  obtain ⟨G, F, M, τ, ds, Qt, a, p, h, k⟩ := h
  cases p with
  | nil => exact pgs_nil.run pins s σ H [] us Q I r ⟨rfl, k F H M _ _ (Same.refl _) a h⟩
  | cons _ _ => exact (show False from h).elim
theorem qgs_cons {es : List Expr} {t : TGt} {u : TGst} (h1 : QG X E Et e t) (h2 : QGs X E Et es u)
    (hs : (assignEach (e :: es) X.env).map (·.2) = assign e X.env :: (assignEach es X.env).map (·.2) := by rfl) : QGs X E Et (e :: es) (gCs t u) := by
  refine ⟨fun pins s σ H vs us Q I r h => ?_⟩
  obtain ⟨G, F, M, τ, ds, Qt, a, p, h, k⟩ := h
  cases p with
  | nil => exact (show False from h).elim
  | cons p1 p2 =>
    refine (pgs_cons h1 h2 hs).run pins s σ H _ us Q I r ⟨_, _, rfl, G, F, M, τ, _, _, a, p1, h, fun F1 H1 M1 σ1 τ1 s1 a1 q1 => ?_⟩
    exact ⟨G, F1, M1, τ1, _, Qt, a1, p2.mono s1, q1, fun F' H' M' σ' τ' s => k F' H' M' σ' τ' (s1.trans s)⟩
theorem qg_tup {es : List Expr} {k : Nat} {t : TGst} {n : Nat} (hc : X.calm = true) (h : QGs X E Et es t)
    (hn : (assignEach es X.env).length = n := by rfl) (hst : (assignEach es X.env).findIdx? (·.1) = none := by rfl) : QG X E Et (.Tuple es k pos) (gTp n t) := by
  refine ⟨fun pins s σ H v u Q I r hw => ?_⟩
  obtain ⟨G, F, M, τ, d, Qt, a, p, hw, k⟩ := hw
  cases p with
  | tup h0 r0 =>
    obtain ⟨hl, hw⟩ := (show _ ∧ _ from hw)
    exact (pg_tup hc h hn hst).run pins s σ H _ u Q I r ⟨_, _, rfl, SqT.of (a.rel.sub _ _ h0), by rw [r0.length]; exact hl, G, F, M, τ, _, Qt, a, r0, hw, k⟩
  | _ => exact (show False from hw).elim
theorem qg_sub {o i : Expr} {to ti : TEt} {t : TSett} (ho : QE X E Et o to) (hi : QE X E Et i ti) (hs : PSet X (lSet X.K t))
    (ha : ∀ v, assign (.Subscript o i pos) X.env v = (do
      let ov ← holding [v] (eval o X.env)
      let iv ← holding [v, ov] (eval i X.env)
      standAt pos
      holding [v, ov, iv] (setItem ov iv v)
      release [v, ov, iv] []) := by intro _; rfl) : QG X E Et (.Subscript o i pos) (gSb to ti t) := by
  refine ⟨fun pins s σ H v u Q I r hw => ?_⟩
  obtain ⟨G, F, M, τ, d, Qt, a, p, hw, k⟩ := hw
  refine (pg_sub ho hi hs ha).run pins s σ H v u Q I r ?_
  refine ⟨G, F, M, τ, _, a, hw, fun v1 F1 H1 M1 d1 s1 r1 p1 q1 => ?_⟩
  refine ⟨G, F1, M1, τ, _, a.step s1 r1, q1, fun v2 F2 H2 M2 d2 s2 r2 p2 q2 => ?_⟩
  exact ⟨G, F2, M2, d1, d2, d, _, r2, p1.mono s2, p2, p.mono (s1.trans s2), q2, fun F3 H3 M3 s3 r3 q3 => k F3 H3 M3 σ τ ((s1.trans s2).trans s3) (a.step ((s1.trans s2).trans s3) r3) q3⟩
theorem lv_asg {g : TGt} : ∀ D σ H, liftS X.K E Et (sAs te g) D σ H → tAsg (liftE X.K E Et te) (liftG X.K E Et g) D σ H := by
  rintro D σ H ⟨G, F, M, τ, Dt, a, en, h⟩
  refine ⟨G, F, M, τ, _, a, h, fun v F1 H1 M1 d s1 r1 p1 q1 => ?_⟩
  exact ⟨G, F1, M1, τ, d, _, a.step s1 r1, p1, q1, fun F' H' M' σ' τ' s a' q => en.nx F' H' M' σ' τ' (s1.trans s) a' q⟩
theorem qs_asg {tg : Expr} {g : TGt} (he : QE X E Et e te) (hg : QG X E Et tg g) (hs : swapsWithSole [tg] e pos.line X.env = pure false := by rfl) (hw : swappedStores [tg] e X.env = pure none := by rfl)
    (h1 : (assignEach [tg] X.env).map (·.2) = [assign tg X.env] := by rfl) : QS X E Et (.Assign [tg] e pos) (sAs te g) := PSimp (ps_asg he hg hs hw h1) lv_asg
theorem qs_set {i : Nat} {x : Str} {pos' : Pos} (hN : X.N.Nodup) (he : QE X E Et e te) (hi : X.N[i]? = some x := by rfl) (hx : Loc X.env.scope x := by first | exact Or.inl rfl | exact Or.inr rfl) (hs : swapsWith e (some (.Name x pos')) pos.line X.env = pure false := by rfl) (hf : X.fn x = true ∨ X.env.scope.names.lookup x = some .local := by first | exact .inl rfl | exact .inr rfl | assumption) :
    QS X E Et (.Assign [.Name x pos'] e pos) (sAs te (gN i)) := PSimp (ps_set hN hi hx he hs hf) (by
  rintro D σ H ⟨G, F, M, τ, Dt, a, en, h⟩
  refine ⟨G, F, M, τ, _, a, h, fun v F1 H1 M1 d s1 r1 p1 q1 => ?_⟩
  exact en.nx F1 H1 M1 _ _ s1 ((a.step s1 r1).store p1) q1)
/-- x += e -/
def sAg (i : Nat) (te : TEt) (r : R2t) : TSt := fun D τ M => match nth τ i with
  | some x => te τ M fun y M1 => r x y M1 fun z M2 => D.nx (τ.set i (some z)) M2
  | none => False
theorem qs_aug {i : Nat} {x : Str} {op : Operator} {r : R2t} {pos' : Pos} (hN : X.N.Nodup) (ho : OpQ X (inplaceOp op) r) (he : QE X E Et e te) (hi : X.N[i]? = some x := by rfl) (hx : Loc X.env.scope x := by first | exact Or.inl rfl | exact Or.inr rfl) (hf : X.fn x = true ∨ X.env.scope.names.lookup x = some .local := by first | exact .inl rfl | exact .inr rfl | assumption) :
    QS X E Et (.AugAssign (.Name x pos') op e pos) (sAg i te r) := PSimp (ps_aug hN hi hx he (fun pins s σ H x y v u Q I rx ry h => ho pins s σ H x y v u Q I rx ry h) hf) (by
  rintro D σ H ⟨G, F, M, τ, Dt, a, en, h⟩
  unfold sAg at h
  cases q : nth τ i with
  | none => rw [q] at h; exact h.elim
  | some d =>
    rw [q] at h
    obtain ⟨v, h1, h2⟩ := a.sg.2 i d (nth_get q)
    refine ⟨v, h1, G, F, M, τ, _, a, h, fun v1 F1 H1 M1 d1 s1 r1 p1 q1 => ?_⟩
    exact ⟨G, F1, M1, d, d1, _, r1, h2.mono s1, p1, q1, fun v2 F2 H2 M2 d2 s2 r2 p2 q2 => en.nx F2 H2 M2 _ _ (s1.trans s2) ((a.step (s1.trans s2) r2).store p2) q2⟩)
end
/-! ### loops -/
/-- while: W by a measure -/
def sWh (c : TTt) (tb : TSt) : TSt := fun D τ M => ∃ W : Nat → Sg → MH → Prop, (∃ m, W m τ M) ∧ ∀ m τ M, W m τ M →
  c τ M fun b M1 => if b = true then tb { D with nx := fun τ' M' => ∃ m', m' < m ∧ W m' τ' M', ct := fun τ' M' => ∃ m', m' < m ∧ W m' τ' M', bk := D.nx } τ M1 else D.nx τ M1
section
variable {X : Cx} {E : XK} {Et : XT} {pos : Pos}
theorem qs_while {c : Expr} {body : List Stmt} {tc : TTt} {tb : TSt} (hp : PassesOwn (model X.prog X.w) X.A X.env X.xe) (hc : QT X E Et c tc) (hb : QSs X E Et body tb) : QS X E Et (.While c body [] pos) (sWh tc tb) := PSimp (ps_while hp hc hb) (by
  rintro D σ H ⟨G, F0, M0, τ0, Dt, a0, en0, W, ⟨m0, w0⟩, turn⟩
  refine ⟨fun m σ H => ∃ F M τ, Same F0 F ∧ At X.K E Et G F H M σ τ ∧ W m τ M, ⟨m0, F0, M0, τ0, Same.refl _, a0, w0⟩, ?_⟩
  rintro m σ H ⟨F, M, τ, s, a, hw⟩
  have en := en0.mono s
  refine ⟨G, F, M, τ, _, a, turn m τ M hw, fun b F1 H1 M1 s1 r1 q1 => ?_⟩
  cases b with
  | true =>
    rw [if_pos rfl] at q1 ⊢
    refine ⟨fun σ' H' => ∃ m', m' < m ∧ ∃ F M τ, Same F0 F ∧ At X.K E Et G F H' M σ' τ ∧ W m' τ M, fun σ' H' z => z, G, F1, M1, τ, _, a.step s1 r1, ?_, q1⟩
    exact ⟨fun F' H' M' σ' τ' s2 a2 ⟨m', hm, w'⟩ => ⟨m', hm, F', M', τ', (s.trans s1).trans s2, a2, w'⟩, (en.mono s1).rt, fun F' H' M' σ' τ' s2 a2 q => (en.mono s1).nx F' H' M' σ' τ' s2 a2 q,
      fun F' H' M' σ' τ' s2 a2 ⟨m', hm, w'⟩ => ⟨m', hm, F', M', τ', (s.trans s1).trans s2, a2, w'⟩⟩
  | false =>
    rw [if_neg Bool.false_ne_true] at q1 ⊢
    exact en.nx F1 H1 M1 σ τ s1 (a.step s1 r1) q1)
end
/-- what is walked: its items, as long as src holds -/
structure Its where
  items : List D
  src : MH → Prop
abbrev TIt := Sg → MH → (Its → MH → Prop) → Prop
/-- J walks the items: at any state in which src holds -/
structure ItOk (K : PySem.W.Frag) (F0 : Hp) (J : It) (I : Its) : Prop where
  go : ∀ i G F H M x, Same F0 F → Rel K G F H M → I.src M → I.items[i]? = some x → J.go i H
  yld : ∀ i G F H M x v H', Same F0 F → Rel K G F H M → I.src M → I.items[i]? = some x → J.yld i H v H' → ∃ F', Same F F' ∧ Rel K G F' H' M ∧ Rp K F' v x
  stop : ∀ i G F H M, Same F0 F → Rel K G F H M → I.src M → I.items.length ≤ i → J.stop i H
def liftI (K : PySem.W.Frag) (E : XK) (Et : XT) (t : TIt) : TI := fun σ H R => ∃ G F M τ Qt, At K E Et G F H M σ τ ∧ t τ M Qt ∧ ∀ J I F' H' M', Same F F' → Rel K G F' H' M' → ItOk K F' J I → Qt I M' → R J H'
abbrev QI (X : Cx) (E : XK) (Et : XT) (tg iter : Expr) (t : TIt) : Prop := PI X tg iter (liftI X.K E Et t)
def sFo (ti : TIt) (g : TGt) (tb : TSt) : TSt := fun D τ M => ti τ M fun I M1 => ∃ W : Nat → Sg → MH → Prop, W 0 τ M1 ∧ (∀ i τ M, W i τ M → I.src M) ∧
  (∀ i x τ M, I.items[i]? = some x → W i τ M → g x τ M fun τ2 M2 => tb { D with nx := W (i + 1), ct := W (i + 1), bk := D.nx } τ2 M2) ∧ ∀ τ M, W I.items.length τ M → D.nx τ M
section
variable {X : Cx} {E : XK} {Et : XT} {pos : Pos}
theorem qs_for {tg iter : Expr} {body : List Stmt} {ti : TIt} {g : TGt} {tb : TSt} (hp : PassesOwn (model X.prog X.w) X.A X.env X.xe) (hc : X.calm = true) (hi : QI X E Et tg iter ti) (hg : QG X E Et tg g) (hb : QSs X E Et body tb)
    (hs : ∀ x, foldedSetIterable iter X.env x = pure x := by intro _; rfl) : QS X E Et (.For tg iter body [] pos) (sFo ti g tb) := PSimp (ps_for hp hc hi hg hb hs) (by
  rintro D σ H ⟨G, F0, M0, τ0, Dt, a0, en0, h⟩
  refine ⟨G, F0, M0, τ0, _, a0, h, fun J I F1 H1 M1 s1 r1 ok q1 => ?_⟩
  obtain ⟨W, w0, ws, turn, done⟩ := q1
  refine ⟨fun i m σ H => m = I.items.length - i ∧ i ≤ I.items.length ∧ ∃ F M τ, Same F1 F ∧ At X.K E Et G F H M σ τ ∧ W i τ M, ⟨I.items.length, by simp, Nat.zero_le _, F1, M1, τ0, Same.refl _, a0.step s1 r1, w0⟩, ?_⟩
  rintro i m σ H ⟨rfl, hi, F, M, τ, s, a, hw⟩
  have en := en0.mono (s1.trans s)
  by_cases hlt : i < I.items.length
  · have hx : I.items[i]? = some I.items[i] := List.getElem?_eq_getElem hlt
    refine .inr ⟨ok.go i G F H M _ s a.rel (ws i τ M hw) hx, fun σ' H' => I.items.length - (i + 1) < I.items.length - i ∧ ∃ F M τ, Same F1 F ∧ At X.K E Et G F H' M σ' τ ∧ W (i + 1) τ M, fun σ' H' z => ⟨_, z.1, rfl, hlt, z.2⟩, fun v H' y => ?_⟩
    obtain ⟨F2, s2, r2, p2⟩ := ok.yld i G F H M _ v H' s a.rel (ws i τ M hw) hx y
    have hm : I.items.length - (i + 1) < I.items.length - i := by omega
    refine ⟨G, F2, M, τ, _, _, a.step s2 r2, p2, turn i _ τ M hx hw, fun F3 H3 M3 σ3 τ3 s3 a3 q3 => ?_⟩
    refine ⟨G, F3, M3, τ3, _, a3, ?_, q3⟩
    exact ⟨fun F' H' M' σ' τ' s4 a4 w' => ⟨hm, F', M', τ', ((s.trans s2).trans s3).trans s4, a4, w'⟩, (en.mono (s2.trans s3)).rt, fun F' H' M' σ' τ' s4 a4 q => (en.mono (s2.trans s3)).nx F' H' M' σ' τ' s4 a4 q,
      fun F' H' M' σ' τ' s4 a4 w' => ⟨hm, F', M', τ', ((s.trans s2).trans s3).trans s4, a4, w'⟩⟩
  · have e : i = I.items.length := by omega
    subst e
    exact .inl ⟨ok.stop _ G F H M s a.rel (ws _ τ M hw) (Nat.le_refl _), en.nx F H M σ τ (Same.refl _) a (done τ M hw)⟩)
end
/-- the items of a list that stands, frozen or not -/
def lstOf (M : MH) : D → Option (List D)
  | .lst ds => some ds
  | .scr ds => some ds
  | .ref a => match M a with
    | some (.lst ds) => some ds
    | _ => none
  | _ => none
def tupOf : D → Option (List D)
  | .tup ds => some ds
  | .tab ds => some ds
  | _ => none
section
variable {K : PySem.W.Frag}
theorem lst_of {G F H : Hp} {M : MH} {v : V} {d : D} {ds : List D} (R : Rel K G F H M) (p : Rp K F v d) (e : lstOf M d = some ds) : ∃ a vs, v = .ref a ∧ SqL K H a vs ∧ Rps K F vs ds := by
  cases p with
  | lst h r =>
    cases e
    exact ⟨_, _, rfl, SqL.of (R.sub _ _ h), r⟩
  | scr h r =>
    cases e
    exact ⟨_, _, rfl, R.sub.seq h, r⟩
  | ref a =>
    unfold lstOf at e
    cases q : M a with
    | none => simp only [q] at e; cases e
    | some o =>
      simp only [q] at e
      obtain ⟨_, u, hu, r⟩ := R.chg a o q
      cases o with
      | lst xs =>
        cases e
        cases u with
        | lst vs => exact ⟨a, vs, rfl, SqL.of hu, r⟩
        | _ => exact (r : False).elim
      | _ => cases e
  | _ => cases e
theorem tup_of {G F H : Hp} {M : MH} {v : V} {d : D} {ds : List D} (R : Rel K G F H M) (p : Rp K F v d) (e : tupOf d = some ds) : ∃ a vs, v = .ref a ∧ SqT K H a vs ∧ Rps K F vs ds := by
  cases p with
  | tup h r =>
    cases e
    exact ⟨_, _, rfl, SqT.of (R.sub _ _ h), r⟩
  | tab h r =>
    cases e
    exact ⟨_, _, rfl, SameT R.sub h, r⟩
  | _ => cases e
end
/-- for x in xs -/
def iLs (te : TEt) : TIt := fun τ M Q => te τ M fun d M1 => match lstOf M1 d with
  | some ds => Q ⟨ds, fun M => lstOf M d = some ds⟩ M1
  | none => False
def iTu (te : TEt) : TIt := fun τ M Q => te τ M fun d M1 => match tupOf d with
  | some ds => Q ⟨ds, fun _ => True⟩ M1
  | none => False
def iR1 (ta : TAt) : TIt := fun τ M Q => ta τ M fun ds M1 => match ds with
  | [.int j] => (-(2 ^ 62) ≤ j ∧ j < 2 ^ 62) ∧ Q ⟨(List.range j.toNat).map fun i => .int (i : Nat), fun _ => True⟩ M1
  | _ => False
def iR2 (ta : TAt) : TIt := fun τ M Q => ta τ M fun ds M1 => match ds with
  | [.int i, .int j] => (-(2 ^ 62) ≤ i ∧ i < 2 ^ 62 ∧ -(2 ^ 62) ≤ j ∧ j < 2 ^ 62) ∧ Q ⟨(List.range (j - i).toNat).map fun k => .int (i + (k : Nat)), fun _ => True⟩ M1
  | _ => False
theorem SqL_get {K : PySem.W.Frag} {H : Hp} {a : Addr} {vs : List V} (h : SqL K H a vs) {i : Nat} {v x : V} (hx : vs[i]? = some x) (f : ∀ xs, SqL K H a xs → xs[i]? = some v) : v = x := Option.some.inj ((f _ h).symm.trans hx)
theorem SqT_get {K : PySem.W.Frag} {H : Hp} {a : Addr} {vs : List V} (h : SqT K H a vs) {i : Nat} {v x : V} (hx : vs[i]? = some x) (f : ∀ xs, SqT K H a xs → xs[i]? = some v) : v = x := Option.some.inj ((f _ h).symm.trans hx)
section
variable {X : Cx} {E : XK} {Et : XT} {pos : Pos} {tg e : Expr} {te : TEt}
theorem rp_ref {K : PySem.W.Frag} {F F' : Hp} {a : Addr} {d : D} (s : Same F F') (p : Rp K F (.ref a) d) : Rp K F' (.ref a) d := p.mono s
theorem itOk_list {K : PySem.W.Frag} {F0 : Hp} {a : Addr} {d : D} {ds : List D} (p : Rp K F0 (.ref a) d) : ItOk K F0 (Itl K a) ⟨ds, fun M => lstOf M d = some ds⟩ where
  go := fun i G F H M x s R h hx => by
    obtain ⟨b, vs, e, hs, r⟩ := lst_of R (p.mono s) h
    cases e
    obtain ⟨v, hv, _⟩ := r.getD hx
    exact ⟨vs, v, hs, hv⟩
  yld := fun i G F H M x v H' s R h hx y => by
    obtain ⟨b, vs, e, hs, r⟩ := lst_of R (p.mono s) h
    cases e
    obtain ⟨v', hv, rv⟩ := r.getD hx
    obtain ⟨rfl, f⟩ := y
    have := SqL_get hs hv f
    subst this
    exact ⟨F, Same.refl _, R, rv⟩
  stop := fun i G F H M s R h hl => by
    obtain ⟨b, vs, e, hs, r⟩ := lst_of R (p.mono s) h
    cases e
    exact ⟨vs, hs, by rw [r.length]; exact hl⟩
theorem itOk_tup {K : PySem.W.Frag} {F0 : Hp} {a : Addr} {d : D} {ds : List D} (p : Rp K F0 (.ref a) d) (h : tupOf d = some ds) : ItOk K F0 (Itt K a) ⟨ds, fun _ => True⟩ where
  go := fun i G F H M x s R _ hx => by
    obtain ⟨b, vs, e, hs, r⟩ := tup_of R (p.mono s) h
    cases e
    obtain ⟨v, hv, _⟩ := r.getD hx
    exact ⟨vs, v, hs, hv⟩
  yld := fun i G F H M x v H' s R _ hx y => by
    obtain ⟨b, vs, e, hs, r⟩ := tup_of R (p.mono s) h
    cases e
    obtain ⟨v', hv, rv⟩ := r.getD hx
    obtain ⟨rfl, f⟩ := y
    have := SqT_get hs hv f
    subst this
    exact ⟨F, Same.refl _, R, rv⟩
  stop := fun i G F H M s R _ hl => by
    obtain ⟨b, vs, e, hs, r⟩ := tup_of R (p.mono s) h
    cases e
    exact ⟨vs, hs, by rw [r.length]; exact hl⟩
theorem qi_list (he : QE X E Et e te) : QI X E Et tg e (iLs te) := by
  refine ⟨fun pins s σ H R I h => (pi_list he).run pins s σ H R I ?_⟩
  obtain ⟨G, F, M, τ, Qt, a, h, k⟩ := h
  refine ⟨G, F, M, τ, _, a, h, fun v F1 H1 M1 d s1 r1 p1 q1 => ?_⟩
  cases q : lstOf M1 d with
  | none => simp only [q] at q1
  | some ds =>
    simp only [q] at q1
    obtain ⟨b, vs, rfl, hs, r⟩ := lst_of r1 p1 q
    exact ⟨b, rfl, ⟨vs, hs⟩, k _ _ F1 H1 M1 s1 r1 (itOk_list p1) q1⟩
theorem qi_tup (he : QE X E Et e te) : QI X E Et tg e (iTu te) := by
  refine ⟨fun pins s σ H R I h => (pi_tup he).run pins s σ H R I ?_⟩
  obtain ⟨G, F, M, τ, Qt, a, h, k⟩ := h
  refine ⟨G, F, M, τ, _, a, h, fun v F1 H1 M1 d s1 r1 p1 q1 => ?_⟩
  cases q : tupOf d with
  | none => simp only [q] at q1
  | some ds =>
    simp only [q] at q1
    obtain ⟨b, vs, rfl, hs, r⟩ := tup_of r1 p1 q
    exact ⟨b, rfl, ⟨vs, hs⟩, k _ _ F1 H1 M1 s1 r1 (itOk_tup p1 q) q1⟩
theorem range_at {n i : Nat} {f : Nat → D} {x : D} (h : ((List.range n).map f)[i]? = some x) : i < n ∧ x = f i := by
  rw [List.getElem?_map] at h
  by_cases hi : i < n
  · rw [List.getElem?_range hi] at h
    exact ⟨hi, (Option.some.inj h).symm⟩
  · rw [List.getElem?_eq_none (by rw [List.length_range]; omega)] at h
    cases h
theorem itOk_range {K : PySem.W.Frag} {F0 : Hp} {lo : Int} {n : Nat} : ItOk K F0 (Itr lo n) ⟨(List.range n).map fun k => .int (lo + (k : Nat)), fun _ => True⟩ where
  go := fun i G F H M x s R _ hx => (range_at hx).1
  yld := fun i G F H M x v H' s R _ hx y => by
    obtain ⟨rfl, rfl⟩ := y
    obtain ⟨_, rfl⟩ := range_at hx
    exact ⟨F, Same.refl _, R, .int _⟩
  stop := fun i G F H M s R _ hl => by
    rw [List.length_map, List.length_range] at hl
    exact hl
theorem Rp.int_inv {K : PySem.W.Frag} {F : Hp} {v : V} {c : Int} (h : Rp K F v (.int c)) : v = .int c := by cases h; rfl
theorem Rp.str_inv {K : PySem.W.Frag} {F : Hp} {v : V} {c : Str} (h : Rp K F v (.str c)) : v = .str c := by cases h; rfl
theorem qi_range1 {a : Expr} {ta : TAt} {p : Pos} (hm : X.mg "range" = none) (ha : QA X E Et [a] ta) (hg : Gl X "range" := by rfl) (hs : starEach [a] X.env = [(false, eval a X.env)] := by rfl) : QI X E Et tg (.Call (.Name "range" p) [a] [] pos) (iR1 ta) := by
  refine ⟨fun pins s σ H R I h => (pi_range1 hg hm ha hs).run pins s σ H R I ?_⟩
  obtain ⟨G, F, M, τ, Qt, a, h, k⟩ := h
  refine ⟨G, F, M, τ, _, a, h, fun vs F1 H1 M1 ds s1 r1 p1 q1 => ?_⟩
  match ds, p1, q1 with
  | [.int j], .cons h1 .nil, q1 =>
    cases h1
    obtain ⟨⟨b1, b2⟩, q1⟩ := q1
    refine ⟨j, rfl, b1, b2, k _ _ F1 H1 M1 s1 r1 itOk_range ?_⟩
    simpa using q1
theorem qi_range2 {a b : Expr} {ta : TAt} {p : Pos} (hm : X.mg "range" = none) (ha : QA X E Et [a, b] ta) (hg : Gl X "range" := by rfl) (hs : starEach [a, b] X.env = [(false, eval a X.env), (false, eval b X.env)] := by rfl) (hs2 : starEach [b] X.env = [(false, eval b X.env)] := by rfl) : QI X E Et tg (.Call (.Name "range" p) [a, b] [] pos) (iR2 ta) := by
  refine ⟨fun pins s σ H R I h => (pi_range2 hg hm ha hs hs2).run pins s σ H R I ?_⟩
  obtain ⟨G, F, M, τ, Qt, a, h, k⟩ := h
  refine ⟨G, F, M, τ, _, a, h, fun vs F1 H1 M1 ds s1 r1 p1 q1 => ?_⟩
  match ds, p1, q1 with
  | [.int i, .int j], .cons h1 (.cons h2 .nil), q1 =>
    cases h1
    cases h2
    obtain ⟨b, q1⟩ := q1
    exact ⟨i, j, rfl, b, k _ _ F1 H1 M1 s1 r1 itOk_range q1⟩
end
end Tl

namespace Tl
open PySem PySem.Spec PyProof.Rows L2

/-! ### numbers -/
section
variable {K : PySem.W.Frag}
theorem lr2_int {C : Int → Int → Prop} {g : Int → Int → V} {gD : Int → Int → D} {r : R2t} (hg : ∀ F i j, Rp K F (g i j) (gD i j))
    (hr : ∀ x y M Q, r x y M Q → ∃ i j, x = .int i ∧ y = .int j ∧ C i j ∧ Q (gD i j) M) : ∀ x y H Q, lr2 K r x y H Q → rI C g x y H Q := by
  rintro x y H Q ⟨G, F, M, dx, dy, Qt, R, px, py, h, k⟩
  obtain ⟨i, j, rfl, rfl, c, q⟩ := hr dx dy M Qt h
  exact ⟨i, j, px.int_inv, py.int_inv, c, k _ F H M _ (Same.refl _) R (hg F i j) q⟩
theorem lr2_int0 {g : Int → Int → V} {gD : Int → Int → D} {r : R2t} (hg : ∀ F i j, Rp K F (g i j) (gD i j))
    (hr : ∀ x y M Q, r x y M Q → ∃ i j, x = .int i ∧ y = .int j ∧ Q (gD i j) M) : ∀ x y H Q, lr2 K r x y H Q → rI0 g x y H Q := by
  rintro x y H Q ⟨G, F, M, dx, dy, Qt, R, px, py, h, k⟩
  obtain ⟨i, j, rfl, rfl, q⟩ := hr dx dy M Qt h
  exact ⟨i, j, px.int_inv, py.int_inv, k _ F H M _ (Same.refl _) R (hg F i j) q⟩
end
/-- x op y on whole numbers -/
def bInt (C : Int → Int → Prop) (g : Int → Int → D) : R2t := fun x y M Q => match x, y with
  | .int i, .int j => C i j ∧ Q (g i j) M
  | _, _ => False
def bInt0 (g : Int → Int → D) : R2t := fun x y M Q => match x, y with
  | .int i, .int j => Q (g i j) M
  | _, _ => False
theorem bInt_inv {C : Int → Int → Prop} {g : Int → Int → D} : ∀ x y M Q, bInt C g x y M Q → ∃ i j, x = .int i ∧ y = .int j ∧ C i j ∧ Q (g i j) M := by
  intro x y M Q h
  cases x <;> cases y <;> first | exact ⟨_, _, rfl, rfl, h⟩ | exact (show False from h).elim
theorem bInt0_inv {g : Int → Int → D} : ∀ x y M Q, bInt0 g x y M Q → ∃ i j, x = .int i ∧ y = .int j ∧ Q (g i j) M := by
  intro x y M Q h
  cases x <;> cases y <;> first | exact ⟨_, _, rfl, rfl, h⟩ | exact (show False from h).elim
section
variable {X : Cx}
abbrev bSub : R2t := bInt0 fun i j => .int (i - j)
theorem oq_addI : OpQ X (binaryOp .Add) (bInt0 fun i j => .int (i + j)) := OpRimp op_add (lr2_int0 (fun _ _ _ => .int _) bInt0_inv)
theorem oq_sub : OpQ X (binaryOp .Sub) bSub := OpRimp op_sub (lr2_int0 (fun _ _ _ => .int _) bInt0_inv)
theorem oq_mul : OpQ X (binaryOp .Mult) (bInt CMulW fun i j => .int (i * j)) := OpRimp op_mulW (lr2_int (fun _ _ _ => .int _) bInt_inv)
theorem oq_fdiv : OpQ X (binaryOp .FloorDiv) (bInt CDivW fun i j => .int (i / j)) := OpRimp op_fdivW (lr2_int (fun _ _ _ => .int _) bInt_inv)
theorem oq_mod : OpQ X (binaryOp .Mod) (bInt (fun _ j => 0 < j) fun i j => .int (i % j)) := OpRimp op_mod (lr2_int (fun _ _ _ => .int _) bInt_inv)
theorem oq_modN : OpQ X (binaryOp .Mod) (bInt (fun _ j => j ≠ 0) fun i j => .int (i.fmod j)) := OpRimp op_modN (lr2_int (fun _ _ _ => .int _) bInt_inv)
theorem oq_fdivN : OpQ X (binaryOp .FloorDiv) (bInt CDivN fun i j => .int (i.fdiv j)) := OpRimp op_fdivN (lr2_int (fun _ _ _ => .int _) bInt_inv)
theorem oq_pow : OpQ X (binaryOp .Pow) (bInt CPow fun i j => .int (i ^ j.toNat)) := OpRimp op_pow (lr2_int (fun _ _ _ => .int _) bInt_inv)
theorem oq_shl : OpQ X (binaryOp .LShift) (bInt CPow fun i j => .int (i * 2 ^ j.toNat)) := OpRimp op_shl (lr2_int (fun _ _ _ => .int _) bInt_inv)
theorem oq_shr : OpQ X (binaryOp .RShift) (bInt (fun _ j => 0 ≤ j) fun i j => .int (i / 2 ^ j.toNat)) := OpRimp op_shr (lr2_int (fun _ _ _ => .int _) bInt_inv)
theorem oq_band : OpQ X (binaryOp .BitAnd) (bInt0 fun i j => .int (Builtin.bitAnd i j)) := OpRimp op_and (lr2_int0 (fun _ _ _ => .int _) bInt0_inv)
theorem oq_bor : OpQ X (binaryOp .BitOr) (bInt0 fun i j => .int (Builtin.bitOr i j)) := OpRimp op_or (lr2_int0 (fun _ _ _ => .int _) bInt0_inv)
theorem oq_bxor : OpQ X (binaryOp .BitXor) (bInt0 fun i j => .int (Builtin.bitXor i j)) := OpRimp op_xor (lr2_int0 (fun _ _ _ => .int _) bInt0_inv)
theorem oq_iaddI : OpQ X (inplaceOp .Add) (bInt0 fun i j => .int (i + j)) := OpRimp iop_add (lr2_int0 (fun _ _ _ => .int _) bInt0_inv)
theorem oq_isub : OpQ X (inplaceOp .Sub) bSub := OpRimp iop_sub (lr2_int0 (fun _ _ _ => .int _) bInt0_inv)
theorem oq_lt : OpQ X (compareOp .Lt) (bInt0 fun i j => .bl (decide (i < j))) := OpRimp op_lt (lr2_int0 (fun _ _ _ => .bl _) bInt0_inv)
theorem oq_le : OpQ X (compareOp .LtE) (bInt0 fun i j => .bl (decide (i ≤ j))) := OpRimp op_le (lr2_int0 (fun _ _ _ => .bl _) bInt0_inv)
theorem oq_gt : OpQ X (compareOp .Gt) (bInt0 fun i j => .bl (decide (j < i))) := OpRimp op_gt (lr2_int0 (fun _ _ _ => .bl _) bInt0_inv)
theorem oq_ge : OpQ X (compareOp .GtE) (bInt0 fun i j => .bl (decide (j ≤ i))) := OpRimp op_ge (lr2_int0 (fun _ _ _ => .bl _) bInt0_inv)
def uNeg : R1t := fun x M Q => match x with
  | .int i => Q (.int (-i)) M
  | _ => False
theorem uq_neg : UnQ X (unaryOp .USub) uNeg := UnRimp un_neg (by
  rintro x H Q ⟨G, F, M, dx, Qt, R, px, h, k⟩
  cases dx <;> first | exact (show False from h).elim | exact ⟨_, px.int_inv, k _ F H M _ (Same.refl _) R (.int _) h⟩)
end
/-! ### == and != of scalars -/
def dScal : D → D → Option Bool
  | .non, .non => some true
  | .int i, .int j => some (decide (i = j))
  | .str x, .str y => some (decide (x = y))
  | .bl x, .bl y => some (decide (x = y))
  | .non, .int _ => some false
  | .int _, .non => some false
  | .non, .str _ => some false
  | .str _, .non => some false
  | .non, .bl _ => some false
  | .bl _, .non => some false
  | .int _, .str _ => some false
  | .str _, .int _ => some false
  | _, _ => none
def bEq : R2t := fun x y M Q => match dScal x y with
  | some b => Q (.bl b) M
  | none => False
def bNe : R2t := fun x y M Q => match dScal x y with
  | some b => Q (.bl (!b)) M
  | none => False
theorem dScal_of {K : PySem.W.Frag} {F : Hp} {v w : V} {x y : D} {b : Bool} (px : Rp K F v x) (py : Rp K F w y) (e : dScal x y = some b) : scal v w = true ∧ decide (v = w) = b := by
  cases x <;> cases y <;> first
    | (cases e; done)
    | (cases px; cases py; cases e; exact ⟨rfl, by first | rfl | (congr 1; simp)⟩)
section
variable {X : Cx}
theorem oq_eq : OpQ X (compareOp .Eq) bEq := OpRimp op_eq (by
  rintro x y H Q ⟨G, F, M, dx, dy, Qt, R, px, py, h, k⟩
  unfold bEq at h
  cases e : dScal dx dy with
  | none => simp only [e] at h
  | some b =>
    simp only [e] at h
    obtain ⟨h1, h2⟩ := dScal_of px py e
    exact ⟨h1, k _ F H M _ (Same.refl _) R (by rw [h2]; exact .bl b) h⟩)
theorem oq_ne : OpQ X (compareOp .NotEq) bNe := OpRimp op_ne (by
  rintro x y H Q ⟨G, F, M, dx, dy, Qt, R, px, py, h, k⟩
  unfold bNe at h
  cases e : dScal dx dy with
  | none => simp only [e] at h
  | some b =>
    simp only [e] at h
    obtain ⟨h1, h2⟩ := dScal_of px py e
    exact ⟨h1, k _ F H M _ (Same.refl _) R (by rw [h2]; exact .bl _) h⟩)
def isNonD : D → Bool
  | .non => true
  | _ => false
theorem isNonD_of {K : PySem.W.Frag} {F : Hp} {v : V} {x : D} (px : Rp K F v x) : decide (v = .non) = isNonD x := by
  cases px <;> rfl
def bIsN : R2t := fun x y M Q => match y with
  | .non => Q (.bl (isNonD x)) M
  | _ => False
def bNotN : R2t := fun x y M Q => match y with
  | .non => Q (.bl (!isNonD x)) M
  | _ => False
theorem oq_isN : OpQ X (compareOp .Is) bIsN := OpRimp op_isN (by
  rintro x y H Q ⟨G, F, M, dx, dy, Qt, R, px, py, h, k⟩
  cases py <;> first | exact (show False from h).elim | exact ⟨rfl, k _ F H M _ (Same.refl _) R (by rw [isNonD_of px]; exact .bl _) h⟩)
theorem oq_notN : OpQ X (compareOp .IsNot) bNotN := OpRimp op_notN (by
  rintro x y H Q ⟨G, F, M, dx, dy, Qt, R, px, py, h, k⟩
  cases py <;> first | exact (show False from h).elim | exact ⟨rfl, k _ F H M _ (Same.refl _) R (by rw [isNonD_of px]; exact .bl _) h⟩)
end
/-! ### texts, lists, tuples joined -/
def bCatS : R2t := fun x y M Q => match x, y with
  | .str a, .str b => a.length + b.length ≤ sizeLine ∧ Q (.str (a ++ b)) M
  | _, _ => False
/-- a new frozen list -/
def bCatL : R2t := fun x y M Q => match lstOf M x, lstOf M y with
  | some a, some b => a.length + b.length ≤ sizeLine ∧ Q (.lst (a ++ b)) M
  | _, _ => False
/-- a new changing list -/
def bCatM : R2t := fun x y M Q => match lstOf M x, lstOf M y with
  | some a, some b => a.length + b.length ≤ sizeLine ∧ ∀ p, M p = none → Q (.ref p) (mup M p (.lst (a ++ b)))
  | _, _ => False
section
variable {X : Cx}
/-- list + list, frozen ones too -/
def rCatR (K : PySem.W.Frag) : R2 := fun x y H Q => ∃ l b xs zs, x = .ref l ∧ y = .ref b ∧ SqL K H l xs ∧ SqL K H b zs ∧ xs.length + zs.length ≤ sizeLine ∧ ∀ p, H p = none → Q (.ref p) (upd H p (.lst (xs ++ zs)))
theorem op_catR : OpR X (binaryOp .Add) (rCatR X.K) := by
  intro pins s σ H x y v u Q I rx ry h
  obtain ⟨l, b, xs, zs, rfl, rfl, hH, hB, hz, q⟩ := h
  cases rx
  cases ry
  obtain ⟨its, r, ⟨⟨cls, dd, data, sl⟩, n, ho, hc, hdd, hd⟩, z⟩ := I.list hH
  obtain ⟨its2, r2, ⟨⟨cls2, dd2, data2, sl2⟩, n2, ho2, hc2, hdd2, hd2⟩, z2⟩ := I.list hB
  simp only at hc hd hc2 hd2
  subst hc hd hc2 hd2
  have e1 := r.length
  have e2 := r2.length
  refine PySem.concat_meets ⟨_, ho, rfl⟩ ⟨_, ho2, rfl⟩ PySem.noFill_list_add PySem.seq_list_add PySem.F.slot_list_add PySem.F.entry_list_add (PySem.F.args_list_add_2 _ _) (PyProof.Rows.list_addW l b its.toArray its2.toArray n n2 dd dd2 sl sl2 (by rw [List.size_toArray, List.size_toArray]; omega)) ⟨ho, ho2, ?_⟩
  have ea : its.toArray ++ its2.toArray = (its ++ its2).toArray := by simp
  rw [ea]
  exact ⟨.ref _, _, I.lnew (t' := s.toks) (r.append r2) (by rw [List.length_append]; omega), rfl, q _ I.fresh⟩
theorem oq_addS : OpQ X (binaryOp .Add) bCatS := OpRimp op_add_str (by
  rintro x y H Q ⟨G, F, M, dx, dy, Qt, R, px, py, h, k⟩
  cases px <;> first
    | exact (show False from h).elim
    | (cases py <;> first | exact (show False from h).elim | exact ⟨_, _, rfl, rfl, h.1, k _ F H M _ (Same.refl _) R (.str _) h.2⟩))
end
section
variable {K : PySem.W.Frag}
theorem lst_two {r : R2t} {G F H : Hp} {M : MH} {x y : V} {dx dy : D} (R : Rel K G F H M) (px : Rp K F x dx) (py : Rp K F y dy) {a b : List D} (e1 : lstOf M dx = some a) (e2 : lstOf M dy = some b) :
    ∃ l m xs zs, x = .ref l ∧ y = .ref m ∧ SqL K H l xs ∧ SqL K H m zs ∧ Rps K F xs a ∧ Rps K F zs b := by
  obtain ⟨l, xs, h1, h2, h3⟩ := lst_of R px e1
  obtain ⟨m, zs, h4, h5, h6⟩ := lst_of R py e2
  exact ⟨l, m, xs, zs, h1, h4, h2, h5, h3, h6⟩
end
section
variable {X : Cx}
theorem oq_catL : OpQ X (binaryOp .Add) bCatL := OpRimp op_catR (by
  rintro x y H Q ⟨G, F, M, dx, dy, Qt, R, px, py, h, k⟩
  unfold bCatL at h
  cases e1 : lstOf M dx with
  | none => simp only [e1] at h
  | some a =>
    cases e2 : lstOf M dy with
    | none => simp only [e1, e2] at h
    | some b =>
      simp only [e1, e2] at h
      obtain ⟨l, m, xs, zs, rfl, rfl, h2, h5, h3, h6⟩ := lst_two (r := bCatL) R px py e1 e2
      refine ⟨l, m, xs, zs, rfl, rfl, h2, h5, by rw [h3.length, h6.length]; exact h.1, fun p np => ?_⟩
      obtain ⟨s, r⟩ := R.newF (o := .lst (xs ++ zs)) np
      exact k _ _ _ M _ s r (.lst upd_same ((h3.append h6).mono s)) h.2)
theorem oq_catM : OpQ X (binaryOp .Add) bCatM := OpRimp op_catR (by
  rintro x y H Q ⟨G, F, M, dx, dy, Qt, R, px, py, h, k⟩
  unfold bCatM at h
  cases e1 : lstOf M dx with
  | none => simp only [e1] at h
  | some a =>
    cases e2 : lstOf M dy with
    | none => simp only [e1, e2] at h
    | some b =>
      simp only [e1, e2] at h
      obtain ⟨l, m, xs, zs, rfl, rfl, h2, h5, h3, h6⟩ := lst_two (r := bCatM) R px py e1 e2
      refine ⟨l, m, xs, zs, rfl, rfl, h2, h5, by rw [h3.length, h6.length]; exact h.1, fun p np => ?_⟩
      exact k _ _ _ _ _ (Same.refl _) (R.newM (u := .lst (xs ++ zs)) (o := .lst (a ++ b)) np (h3.append h6)) (.ref p) (h.2 p (R.free np).2))
end
/-! ### displays -/
/-- (a, b) -/
def tTu (t : TAt) : TEt := fun τ M Q => t τ M fun ds M1 => ds.length ≤ sizeLine ∧ Q (.tup ds) M1
/-- [a, b]: it stays as it is -/
def tLi (t : TAt) : TEt := fun τ M Q => t τ M fun ds M1 => ds.length ≤ sizeLine ∧ Q (.lst ds) M1
/-- [a, b]: it may change -/
def tLm (t : TAt) : TEt := fun τ M Q => t τ M fun ds M1 => ds.length ≤ sizeLine ∧ ∀ p, M1 p = none → Q (.ref p) (mup M1 p (.lst ds))
section
variable {X : Cx} {E : XK} {Et : XT} {es : List Expr} {t : TAt} {pos : Pos}
theorem q_tup {x1} (h : QA X E Et es t) : QE X E Et (.Tuple es x1 pos) (tTu t) := PEimp (pe_tup h) (by
  rintro σ H Q ⟨G, F, M, τ, Qt, a, h, k⟩
  refine ⟨G, F, M, τ, _, a, h, fun vs F1 H1 M1 ds s1 r1 p1 q1 => ⟨by rw [p1.length]; exact q1.1, fun p np => ?_⟩⟩
  obtain ⟨s, r⟩ := r1.newF (o := .tup vs) np
  exact k _ _ _ M1 _ (s1.trans s) r (.tup upd_same (p1.mono s)) q1.2)
theorem q_lst (h : QA X E Et es t) : QE X E Et (.List es pos) (tLi t) := PEimp (pe_lst h) (by
  rintro σ H Q ⟨G, F, M, τ, Qt, a, h, k⟩
  refine ⟨G, F, M, τ, _, a, h, fun vs F1 H1 M1 ds s1 r1 p1 q1 => ⟨by rw [p1.length]; exact q1.1, fun p np => ?_⟩⟩
  obtain ⟨s, r⟩ := r1.newF (o := .lst vs) np
  exact k _ _ _ M1 _ (s1.trans s) r (.lst upd_same (p1.mono s)) q1.2)
theorem q_lstM (h : QA X E Et es t) : QE X E Et (.List es pos) (tLm t) := PEimp (pe_lst h) (by
  rintro σ H Q ⟨G, F, M, τ, Qt, a, h, k⟩
  refine ⟨G, F, M, τ, _, a, h, fun vs F1 H1 M1 ds s1 r1 p1 q1 => ⟨by rw [p1.length]; exact q1.1, fun p np => ?_⟩⟩
  exact k _ _ _ _ _ s1 (r1.newM (u := .lst vs) (o := .lst ds) np p1) (.ref p) (q1.2 p (r1.free np).2))
end
/-! ### what is as it was, told otherwise -/
/-- at M the value d may as well be told as d' at M' -/
def ReR (K : PySem.W.Frag) (d : D) (M : MH) (d' : D) (M' : MH) : Prop := ∀ G F H v, Rel K G F H M → Rp K F v d → ∃ F', Same F F' ∧ Rel K G F' H M' ∧ Rp K F' v d'
def tRe (K : PySem.W.Frag) (t : TEt) : TEt := fun τ M Q => t τ M fun d M1 => ∃ d' M2, ReR K d M1 d' M2 ∧ Q d' M2
section
variable {K : PySem.W.Frag}
theorem ReR.refl {d : D} {M : MH} : ReR K d M d M := fun G F H v R p => ⟨F, Same.refl _, R, p⟩
theorem ReR.trans {d d1 d2 : D} {M M1 M2 : MH} (a : ReR K d M d1 M1) (b : ReR K d1 M1 d2 M2) : ReR K d M d2 M2 := fun G F H v R p => by
  obtain ⟨F1, s1, R1, p1⟩ := a G F H v R p
  obtain ⟨F2, s2, R2, p2⟩ := b G F1 H v R1 p1
  exact ⟨F2, s1.trans s2, R2, p2⟩
theorem ReR.drop {d : D} {M M' : MH} (h : ∀ a o, M' a = some o → M a = some o) : ReR K d M d M' := fun G F H v R p => ⟨F, Same.refl _, R.drop h, p⟩
theorem ReR.freeze {a : Addr} {ds : List D} {M : MH} (h : M a = some (.lst ds)) : ReR K (.ref a) M (.lst ds) (mdel M a) := fun G F H v R p => by
  obtain ⟨F', s, R', r⟩ := R.freeze h
  cases p
  exact ⟨F', s, R', r⟩
/-- the commonest: a list made here is handed back -/
theorem ReR.made {a : Addr} {ds : List D} {M : MH} (h : M a = none) : ReR K (.ref a) (mup M a (.lst ds)) (.lst ds) M := by
  have := ReR.freeze (K := K) (a := a) (ds := ds) (M := mup M a (.lst ds)) mup_same
  rw [mdel_mup h] at this
  exact this
/-- any other value, while a list is frozen -/
theorem ReR.other {d : D} {a : Addr} {ds : List D} {M : MH} (h : M a = some (.lst ds)) : ReR K d M d (mdel M a) := fun G F H v R p => by
  obtain ⟨F', s, R', r⟩ := R.freeze h
  exact ⟨F', s, R', p.mono s⟩
end
section
variable {X : Cx} {E : XK} {Et : XT} {e : Expr} {t : TEt}
theorem q_re (h : QE X E Et e t) : QE X E Et e (tRe X.K t) := PEimp h (by
  rintro σ H Q ⟨G, F, M, τ, Qt, a, h, k⟩
  refine ⟨G, F, M, τ, _, a, h, fun v F1 H1 M1 d s1 r1 p1 ⟨d', M2, re, q⟩ => ?_⟩
  obtain ⟨F', s, R', p'⟩ := re G F1 H1 v r1 p1
  exact k v F' H1 M2 d' (s1.trans s) R' p' q)
end
/-- the same of all slots -/
def ReS (K : PySem.W.Frag) (τ : Sg) (M : MH) (τ' : Sg) (M' : MH) : Prop := ∀ G F H σ, Rel K G F H M → Sgr K F σ τ → ∃ F', Same F F' ∧ Rel K G F' H M' ∧ Sgr K F' σ τ'
def sRe (K : PySem.W.Frag) (u : TSt) : TSt := fun D τ M => ∃ τ' M', ReS K τ M τ' M' ∧ u D τ' M'
section
variable {X : Cx} {E : XK} {Et : XT} {sts : List Stmt} {u : TSt}
theorem qss_re (h : QSs X E Et sts u) : QSs X E Et sts (sRe X.K u) := PSsimp h (by
  rintro D σ H ⟨G, F, M, τ, Dt, a, en, τ', M', re, h⟩
  obtain ⟨F', s, R', sg⟩ := re G F H σ a.rel a.sg
  exact ⟨G, F', M', τ', Dt, ⟨R', sg, a.el.mono s⟩, en.mono s, h⟩)
theorem nth_at : ∀ {t : Sg} {i : Nat} {d : D}, t[i]? = some (some d) → nth t i = some d
  | [], _, _, h => by simp at h
  | x :: _, 0, d, h => by
    have h : some x = some (some d) := h
    exact Option.some.inj h
  | _ :: t, n + 1, d, h => by
    rw [List.getElem?_cons_succ] at h
    exact nth_at (t := t) h
/-- slot i's list is frozen -/
theorem ReS.freeze {K : PySem.W.Frag} {τ : Sg} {M : MH} {i : Nat} {a : Addr} {ds : List D} (h : nth τ i = some (.ref a)) (hm : M a = some (.lst ds)) : ReS K τ M (τ.set i (some (.lst ds))) (mdel M a) := fun G F H σ R sg => by
  obtain ⟨F', s, R', r⟩ := R.freeze hm
  refine ⟨F', s, R', ?_⟩
  have g := sg.mono s
  obtain ⟨v, h1, h2⟩ := g.2 i _ (nth_get h)
  cases h2
  have e : σ = σ.set i (some (.ref a)) := by
    apply List.ext_getElem?
    intro j
    by_cases hij : i = j
    · subst hij
      rw [h1, List.getElem?_set_self (List.getElem?_eq_some_iff.mp h1).1]
    · rw [List.getElem?_set_ne hij]
  rw [e]
  exact g.set r
theorem ReS.drop {K : PySem.W.Frag} {τ : Sg} {M M' : MH} (h : ∀ a o, M' a = some o → M a = some o) : ReS K τ M τ M' := fun G F H σ R sg => ⟨F, Same.refl _, R.drop h, sg⟩
theorem ReS.refl {K : PySem.W.Frag} {τ : Sg} {M : MH} : ReS K τ M τ M := fun G F H σ R sg => ⟨F, Same.refl _, R, sg⟩
theorem ReS.trans {K : PySem.W.Frag} {τ τ1 τ2 : Sg} {M M1 M2 : MH} (a : ReS K τ M τ1 M1) (b : ReS K τ1 M1 τ2 M2) : ReS K τ M τ2 M2 := fun G F H v R p => by
  obtain ⟨F1, s1, R1, p1⟩ := a G F H v R p
  obtain ⟨F2, s2, R2, p2⟩ := b G F1 H v R1 p1
  exact ⟨F2, s1.trans s2, R2, p2⟩
end
/-! ### items -/
/-- x[i]: of a tuple, a list, a text -/
def bIx : R2t := fun x y M Q => match y with
  | .int i => match x with
    | .str z => z.length ≤ sizeLine ∧ match atI z.cps.toList i with
      | some c => Q (.str ⟨#[c]⟩) M
      | none => False
    | .tup ds => match atI ds i with
      | some d => Q d M
      | none => False
    | .tab ds => match atI ds i with
      | some d => Q d M
      | none => False
    | x => match lstOf M x with
      | some ds => match atI ds i with
        | some d => Q d M
        | none => False
      | none => False
  | _ => False
theorem Rps.at {K : PySem.W.Frag} {F : Hp} {vs : List V} {ds : List D} {i : Int} {d : D} (r : Rps K F vs ds) (h : atI ds i = some d) : ∃ v, atI vs i = some v ∧ Rp K F v d := by
  unfold atI at h ⊢
  rw [r.length]
  cases e : ixN ds.length i with
  | none => rw [e] at h; cases h
  | some j =>
    rw [e] at h
    exact r.getD (i := j) h
section
variable {X : Cx} {E : XK} {Et : XT} {a b : Expr} {ta tb : TEt} {pos : Pos}
theorem ixq : ∀ x y H Q, lr2 X.K bIx x y H Q → rIx X.K x y H Q := by
  rintro x y H Q ⟨G, F, M, dx, dy, Qt, R, px, py, h, k⟩
  cases py with
  | int i =>
    cases px with
    | str z =>
      obtain ⟨h1, h2⟩ := (show _ ∧ _ from h)
      cases e : atI z.cps.toList i with
      | none => rw [e] at h2; exact h2.elim
      | some c =>
        rw [e] at h2
        exact .inr (.inr ⟨z, i, c, rfl, rfl, h1, e, k _ F H M _ (Same.refl _) R (.str _) h2⟩)
    | @tup aa vs ds h0 r0 =>
      have h2 : (match atI ds i with | some d => Qt d M | none => False) := h
      cases e : atI ds i with
      | none => rw [e] at h2; exact h2.elim
      | some c =>
        rw [e] at h2
        obtain ⟨v, hv, rv⟩ := r0.at e
        exact .inr (.inl ⟨aa, vs, i, v, rfl, rfl, SqT.of (R.sub _ _ h0), hv, k _ F H M _ (Same.refl _) R rv h2⟩)
    | @tab aa vs ds h0 r0 =>
      have h2 : (match atI ds i with | some d => Qt d M | none => False) := h
      cases e : atI ds i with
      | none => rw [e] at h2; exact h2.elim
      | some c =>
        rw [e] at h2
        obtain ⟨v, hv, rv⟩ := r0.at e
        exact .inr (.inl ⟨aa, vs, i, v, rfl, rfl, SameT R.sub h0, hv, k _ F H M _ (Same.refl _) R rv h2⟩)
    | @lst aa vs ds h0 r0 =>
      have h2 : (match atI ds i with | some d => Qt d M | none => False) := h
      cases e : atI ds i with
      | none => rw [e] at h2; exact h2.elim
      | some c =>
        rw [e] at h2
        obtain ⟨v, hv, rv⟩ := r0.at e
        exact .inl ⟨aa, vs, i, v, rfl, rfl, SqL.of (R.sub _ _ h0), hv, k _ F H M _ (Same.refl _) R rv h2⟩
    | @scr aa vs ds h0 r0 =>
      have h2 : (match atI ds i with | some d => Qt d M | none => False) := h
      cases e : atI ds i with
      | none => rw [e] at h2; exact h2.elim
      | some c =>
        rw [e] at h2
        obtain ⟨v, hv, rv⟩ := r0.at e
        exact .inl ⟨aa, vs, i, v, rfl, rfl, R.sub.seq h0, hv, k _ F H M _ (Same.refl _) R rv h2⟩
    | ref aa =>
      have h2 : (match lstOf M (.ref aa) with | some ds => (match atI ds i with | some d => Qt d M | none => False) | none => False) := h
      cases q : lstOf M (.ref aa) with
      | none => rw [q] at h2; exact h2.elim
      | some ds =>
        rw [q] at h2
        obtain ⟨b, vs, eb, hs, r⟩ := lst_of R (.ref aa) q
        cases eb
        have h2 : (match atI ds i with | some d => Qt d M | none => False) := h2
        cases e : atI ds i with
        | none => rw [e] at h2; exact h2.elim
        | some c =>
          rw [e] at h2
          obtain ⟨v, hv, rv⟩ := r.at e
          exact .inl ⟨aa, vs, i, v, rfl, rfl, hs, hv, k _ F H M _ (Same.refl _) R rv h2⟩
    | _ => exact (show False from h).elim
  | _ => exact (show False from h).elim
theorem q_ix (ha : QE X E Et a ta) (hb : QE X E Et b tb) (hs : PlainIx b := by exact fun _ _ => rfl) : QE X E Et (.Subscript a b pos) (tO bIx ta tb) := PEimp (pe_ix ix_seq ha hb hs) (fun σ H Q h => by
  have := lv_op _ _ _ h
  obtain ⟨G, F, M, τ, Qt, a, h, k⟩ := this
  refine ⟨G, F, M, τ, Qt, a, h, fun v F' H' M' d s r p q => ?_⟩
  obtain ⟨G, F2, M2, τ2, Q2, a2, h2, k2⟩ := k v F' H' M' d s r p q
  exact ⟨G, F2, M2, τ2, Q2, a2, h2, fun v2 F3 H3 M3 d2 s2 r2 p2 q2 => ixq _ _ _ _ (k2 v2 F3 H3 M3 d2 s2 r2 p2 q2)⟩)
end
/-! ### slices -/
abbrev TOt := Sg → MH → (Option Int → MH → Prop) → Prop
def liftO (K : PySem.W.Frag) (E : XK) (Et : XT) (t : TOt) : TO := fun σ H Q => ∃ G F M τ Qt, At K E Et G F H M σ τ ∧ t τ M Qt ∧ ∀ b F' H' M', Same F F' → Rel K G F' H' M' → Qt b M' → Q b H'
abbrev QO (X : Cx) (E : XK) (Et : XT) (e : Option Expr) (t : TOt) : Prop := PO X e (liftO X.K E Et t)
def oNo : TOt := fun _ M Q => Q none M
def oYes (t : TEt) : TOt := fun τ M Q => t τ M fun d M1 => match d with
  | .int i => Q (some i) M1
  | _ => False
def cutD (xs : List D) (lo hi : Option Int) : List D := (xs.drop (HT.sIx xs.length 0 lo)).take (HT.sIx xs.length xs.length hi - HT.sIx xs.length 0 lo)
def tSc (r : D → Option Int → Option Int → MH → VD → Prop) (te : TEt) (tl th : TOt) : TEt := fun τ M Q => te τ M fun x M1 => tl τ M1 fun l M2 => th τ M2 fun u M3 => r x l u M3 Q
/-- of a list: a new frozen one -/
def cSlL : D → Option Int → Option Int → MH → VD → Prop := fun x lo hi M Q => match lstOf M x with
  | some ds => Q (.lst (cutD ds lo hi)) M
  | none => False
def cSlM : D → Option Int → Option Int → MH → VD → Prop := fun x lo hi M Q => match lstOf M x with
  | some ds => ∀ p, M p = none → Q (.ref p) (mup M p (.lst (cutD ds lo hi)))
  | none => False
def cSlS : D → Option Int → Option Int → MH → VD → Prop := fun x lo hi M Q => match x with
  | .str z => z.length ≤ sizeLine ∧ Q (.str (cutS z lo hi)) M
  | _ => False
theorem Rps.cut {K : PySem.W.Frag} {F : Hp} {vs : List V} {ds : List D} {lo hi : Option Int} (r : Rps K F vs ds) : Rps K F (cutV vs lo hi) (cutD ds lo hi) := by
  unfold cutV cutD
  rw [r.length]
  exact (r.drop _).take _
section
variable {X : Cx} {E : XK} {Et : XT} {e : Expr} {te : TEt} {lo hi : Option Expr} {tl th : TOt} {pos p2 : Pos}
theorem qo_none : QO X E Et none oNo := ⟨fun pins s σ H Q I h => po_none.run pins s σ H Q I (by
  obtain ⟨G, F, M, τ, Qt, a, h, k⟩ := h
  exact k none F H M (Same.refl _) a.rel h)⟩
theorem qo_some (h : QE X E Et e te) : QO X E Et (some e) (oYes te) := ⟨fun pins s σ H Q I w => (po_some h).run pins s σ H Q I (by
  obtain ⟨G, F, M, τ, Qt, a, w, k⟩ := w
  refine ⟨G, F, M, τ, _, a, w, fun v F1 H1 M1 d s1 r1 p1 q1 => ?_⟩
  cases p1 <;> first | exact (show False from q1).elim | exact ⟨_, rfl, k _ F1 H1 M1 s1 r1 q1⟩)⟩
def lSl (K : PySem.W.Frag) (r : D → Option Int → Option Int → MH → VD → Prop) : V → Option Int → Option Int → Hp → VK → Prop := fun x lo hi H Q => ∃ G F M dx Qt, Rel K G F H M ∧ Rp K F x dx ∧ r dx lo hi M Qt ∧ ∀ v F' H' M' d, Same F F' → Rel K G F' H' M' → Rp K F' v d → Qt d M' → Q v H'
theorem q_slice {r : D → Option Int → Option Int → MH → VD → Prop} {rr : V → Option Int → Option Int → Hp → VK → Prop} (hr : SlR X rr) (hi0 : ∀ x lo hi H Q, lSl X.K r x lo hi H Q → rr x lo hi H Q) (he : QE X E Et e te) (hl : QO X E Et lo tl) (hu : QO X E Et hi th) :
    QE X E Et (.Subscript e (.Slice lo hi none p2) pos) (tSc r te tl th) := PEimp (pe_slice hr he hl hu) (by
  rintro σ H Q ⟨G, F, M, τ, Qt, a, h, k⟩
  refine ⟨G, F, M, τ, _, a, h, fun v F1 H1 M1 d s1 r1 p1 q1 => ?_⟩
  refine ⟨G, F1, M1, τ, _, a.step s1 r1, q1, fun l F2 H2 M2 s2 r2 q2 => ?_⟩
  refine ⟨G, F2, M2, τ, _, a.step (s1.trans s2) r2, q2, fun u F3 H3 M3 s3 r3 q3 => hi0 _ _ _ _ _ ?_⟩
  exact ⟨G, F3, M3, d, Qt, r3, p1.mono (s2.trans s3), q3, fun v F' H' M' d s => k v F' H' M' d (((s1.trans s2).trans s3).trans s)⟩)
theorem q_sliceL (he : QE X E Et e te) (hl : QO X E Et lo tl) (hu : QO X E Et hi th) : QE X E Et (.Subscript e (.Slice lo hi none p2) pos) (tSc cSlL te tl th) := q_slice sl_list (by
  rintro x lo hi H Q ⟨G, F, M, dx, Qt, R, p, h, k⟩
  unfold cSlL at h
  cases q : lstOf M dx with
  | none => simp only [q] at h
  | some ds =>
    simp only [q] at h
    obtain ⟨b, vs, rfl, hs, r⟩ := lst_of R p q
    refine ⟨b, vs, rfl, hs, fun p np => ?_⟩
    obtain ⟨s, r1⟩ := R.newF (o := .lst (cutV vs lo hi)) np
    exact k _ _ _ M _ s r1 (.lst upd_same (r.cut.mono s)) h) he hl hu
theorem q_sliceM (he : QE X E Et e te) (hl : QO X E Et lo tl) (hu : QO X E Et hi th) : QE X E Et (.Subscript e (.Slice lo hi none p2) pos) (tSc cSlM te tl th) := q_slice sl_list (by
  rintro x lo hi H Q ⟨G, F, M, dx, Qt, R, p, h, k⟩
  unfold cSlM at h
  cases q : lstOf M dx with
  | none => simp only [q] at h
  | some ds =>
    simp only [q] at h
    obtain ⟨b, vs, rfl, hs, r⟩ := lst_of R p q
    refine ⟨b, vs, rfl, hs, fun p np => ?_⟩
    exact k _ _ _ _ _ (Same.refl _) (R.newM (u := .lst (cutV vs lo hi)) (o := .lst (cutD ds lo hi)) np r.cut) (.ref p) (h p (R.free np).2)) he hl hu
theorem q_sliceS (he : QE X E Et e te) (hl : QO X E Et lo tl) (hu : QO X E Et hi th) : QE X E Et (.Subscript e (.Slice lo hi none p2) pos) (tSc cSlS te tl th) := q_slice sl_str (by
  rintro x lo hi H Q ⟨G, F, M, dx, Qt, R, p, h, k⟩
  cases p <;> first | exact (show False from h).elim | exact ⟨_, rfl, h.1, k _ F H M _ (Same.refl _) R (.str _) h.2⟩) he hl hu
end
end Tl

namespace Tl
open PySem PySem.Spec PyProof.Rows L2

/-! ### a def of the text -/
def begin_ (N : List Str) (ds : List D) : Sg := ds.map some ++ List.replicate (N.length - ds.length) none
theorem sg_start {K : PySem.W.Frag} {F : Hp} {N : List Str} {vs : List V} {ds : List D} (r : Rps K F vs ds) : Sgr K F (L2.start N vs) (begin_ N ds) := by
  refine ⟨by unfold L2.start begin_; rw [List.length_append, List.length_append, List.length_map, List.length_map, List.length_replicate, List.length_replicate, r.length], fun i d e => ?_⟩
  unfold begin_ at e
  unfold L2.start
  by_cases hi : i < ds.length
  · rw [List.getElem?_append_left (by rw [List.length_map]; exact hi), List.getElem?_map] at e
    rw [List.getElem?_append_left (by rw [List.length_map, r.length]; exact hi), List.getElem?_map]
    cases q : ds[i]? with
    | none => rw [q] at e; cases e
    | some x =>
      rw [q] at e
      have ex : x = d := Option.some.inj (Option.some.inj e)
      subst ex
      obtain ⟨v, h1, h2⟩ := r.getD q
      exact ⟨v, by rw [h1]; rfl, h2⟩
  · rw [List.getElem?_append_right (by rw [List.length_map]; omega)] at e
    have := List.mem_of_getElem? e
    rw [List.mem_replicate] at this
    exact absurd this.2 (by simp)
section
variable {P : Program} {w : World} {K : PySem.W.Frag} {mg : Str → Option Value} {base : Heap} {x qual : Str} {params : Arguments} {body : List Stmt} {scope : Scope} {f : Addr} {fd : FuncData} {N ps : List Str} {k : Nat} {sp : SpT}
/-- a def that raises nothing -/
theorem fn_ok (F : He.DefD) (fd : FuncData) (hF : FunD K F.name F.qual F.params F.body F.scope [] [] f fd) (S : FnScope N ps F.scope) (len : ∀ ds M Q Et, sp ds M Q Et → ds.length = ps.length)
    (hb : ∀ (cdv : Value) (A : Around) (outer : List Env) (s : Shared) (H : Hp) (E : XK), Room k (A.deeper (envOfC F.qual F.scope s.heap.objs.size f cdv)) →
      ∃ t, QSs (cxOf CX0 P w K mg base N F.qual F.scope f cdv A outer s H E).nox E0 Et0 F.body t ∧ ∀ ds M Q Et, sp ds M Q Et → t { nx := fun _ M' => Q .non M', rt := Q } (begin_ N ds) M) : FnOk P w K mg base CX0 (k + 1) f fd ps (lSp K sp) := by
  refine hF.ok S (fun vs H Q E h => ?_) fun cdv A outer s H vs Q E hr h => ?_
  · obtain ⟨G, F, M, ds, Qt, Et, R, r, _, h, _⟩ := h
    rw [r.length]
    exact len _ _ _ _ h
  · obtain ⟨t, ht, hw⟩ := hb cdv A outer s H E hr
    obtain ⟨G, F, M, ds, Qt, Et, R, r, el, h, kk⟩ := h
    refine ⟨_, PSs.nox ht, G, F, M, begin_ N ds, { nx := fun _ M' => Qt .non M', rt := Qt }, ⟨R, sg_start r, .never⟩, ?_, hw ds M Qt Et h⟩
    exact ⟨fun F' H' M' σ τ s a q => kk .non F' H' M' .non s a.rel .non q, fun F' H' M' v d s R' p q => kk v F' H' M' d s R' p q, fun _ _ _ _ _ _ _ q => q.elim, fun _ _ _ _ _ _ _ q => q.elim⟩
end
/-! ### facts of the top -/
/-- what the head tells -/
structure Top (fa : List He.Fa) (fn : List He.DefD) (K : PySem.W.Frag) (mg : Str → Option Value) : Prop where
  says : He.SaysD fa fn K
  at_ : ∃ h : Heap, K.In h ∧ h.Ns mainGlobals mg
section
variable {fa : List He.Fa} {fn : List He.DefD} {K : PySem.W.Frag} {mg : Str → Option Value}
theorem Top.glo (T : Top fa fn K mg) (i : Nat) {x : Str} (h : fa[i]? = some (.glo x) := by rfl) : mg x = some (.ref (He.ga K x)) := by
  obtain ⟨_, X, G⟩ := T.at_
  exact He.glo_ok X G (T.says.fact i h)
theorem Top.free (T : Top fa fn K mg) (i : Nat) {x : Str} (h : fa[i]? = some (.free x) := by rfl) : mg x = none := by
  obtain ⟨_, X, G⟩ := T.at_
  exact He.free_ok X G (T.says.fact i h)
theorem Top.int (T : Top fa fn K mg) (i : Nat) {x : Str} {z : Int} (h : fa[i]? = some (.int x z) := by rfl) : ∃ t, mg x = some (.int z t) := by
  obtain ⟨_, X, G⟩ := T.at_
  exact He.int_ok X G (T.says.fact i h)
theorem Top.str (T : Top fa fn K mg) (i : Nat) {x : Str} {z : Str} (h : fa[i]? = some (.str x z) := by rfl) : ∃ t, mg x = some (.str z t) := by
  obtain ⟨_, X, G⟩ := T.at_
  exact He.str_ok X G (T.says.fact i h)
end
section
variable {P : Program} {w : World} {K : PySem.W.Frag} {mg : Str → Option Value} {base : Heap} {x : Str} {N ps : List Str} {k : Nat} {sp : SpT} {fa : List He.Fa} {fn : List He.DefD}
/-- THE RULE of a def at the top, called by its name -/
theorem fn_top (T : Top fa fn K mg) (i : Nat) (d : He.DefD) (m : mg x = some (.ref (He.ga K x))) (S : FnScope N ps d.scope) (len : ∀ ds M Q Et, sp ds M Q Et → ds.length = ps.length)
    (hb : ∀ (cdv : Value) (A : Around) (outer : List Env) (s : Shared) (H : Hp) (E : XK), Room k (A.deeper (envOfC d.qual d.scope s.heap.objs.size (He.ga K x) cdv)) →
      ∃ t, QSs (cxOf CX0 P w K mg base N d.qual d.scope (He.ga K x) cdv A outer s H E).nox E0 Et0 d.body t ∧ ∀ ds M Q Et, sp ds M Q Et → t { nx := fun _ M' => Q .non M', rt := Q } (begin_ N ds) M)
    (bd : ∀ (kV doc pm : Value) (an : Option Addr) (cdv ct : Value) (us : List Value), us.length = ps.length → bindArgs (PySem.W.fnOf d.name d.qual d.params d.body d.scope .none kV doc pm an cdv ct) ⟨us, []⟩ = pure (ps.zip us))
    (h : fn[i]? = some d := by rfl) (h0 : d.dfl = [] := by rfl) (h1 : d.kwd = [] := by rfl) (hx : He.fAd K d.at_ = He.ga K x := by rfl) : Fn P w K mg base CX0 (k + 1) x sp := by
  obtain ⟨fd, F⟩ := T.says.def_ i h
  have e0 : d.dvs K = [] := by unfold He.DefD.dvs; rw [h0]; rfl
  have e1 : d.kws K = [] := by unfold He.DefD.kws; rw [h1]; rfl
  rw [e0, e1, hx] at F
  exact ⟨⟨fd, ps, fn_ok d fd F S len hb, F.bindsN bd⟩, m, F.kp⟩
end
/-! ### kinds -/
def dTy (M : MH) : D → Option String
  | .non => some "NoneType"
  | .bl _ => some "bool"
  | .int _ => some "int"
  | .str _ => some "str"
  | .tup _ => some "tuple"
  | .tab _ => some "tuple"
  | .lst _ => some "list"
  | .ref a => match M a with
    | some (.lst _) => some "list"
    | some (.dK _) => some "dict"
    | some (.dT _) => some "dict"
    | _ => none
  | _ => none
def cIsi : RLt := fun ds M Q => match ds with
  | [x, .ty T] => match dTy M x with
    | some t => match kitB t T with
      | some b => Q (.bl b) M
      | none => False
    | none => False
  | _ => False
theorem tyX_of {K : PySem.W.Frag} {G F H : Hp} {M : MH} {v : V} {x : D} {t : String} (R : Rel K G F H M) (p : Rp K F v x) (e : dTy M x = some t) : TyX K H v (.type t) := by
  cases p with
  | non => cases e; exact .base .non
  | bl b => cases e; exact .base (.bl b)
  | int i => cases e; exact .base (.int i)
  | str z => cases e; exact .base (.str z)
  | tup h r => cases e; exact .base (.tup (R.sub _ _ h))
  | lst h r => cases e; exact .base (.lst (R.sub _ _ h))
  | tab h r =>
    cases e
    rcases SameT R.sub h with (h | ⟨o, h⟩) | ⟨o, its, n, h, hc, _⟩
    · exact .base (.tup h)
    · exact .fTuple h
    · exact .kTuple h hc
  | ref a =>
    unfold dTy at e
    cases q : M a with
    | none => simp only [q] at e; cases e
    | some o =>
      simp only [q] at e
      obtain ⟨_, u, hu, r⟩ := R.chg a o q
      cases o with
      | lst xs => cases e; cases u <;> first | exact .base (.lst hu) | exact (r : False).elim
      | dK xs => cases e; cases u <;> first | exact .base (.dK hu) | exact (r : False).elim
      | dT xs => cases e; cases u <;> first | exact .base (.dT hu) | exact (r : False).elim
      | obj => cases e
      | lk => cases e
  | _ => cases e
section
variable {X : Cx}
theorem cq_isi : CallQ X (.builtin "isinstance") cIsi := CallRimp call_isi (by
  rintro xs H Q ⟨G, F, M, ds, Qt, R, r, h, k⟩
  match ds, r, h with
  | [x, .ty T], .cons h1 (.cons (.ty _) .nil), h =>
    have h : (match dTy M x with | some t => (match kitB t T with | some b => Qt (.bl b) M | none => False) | none => False) := h
    cases e : dTy M x with
    | none => rw [e] at h; exact h.elim
    | some t =>
      rw [e] at h
      have h : (match kitB t T with | some b => Qt (.bl b) M | none => False) := h
      cases e2 : kitB t T with
      | none => rw [e2] at h; exact h.elim
      | some b =>
        rw [e2] at h
        exact ⟨_, _, _, _, b, rfl, .ty T, tyX_of R h1 e, kit_ty e2, k _ F H M _ (Same.refl _) R (.bl b) h⟩)
/-- len -/
def lenOf (M : MH) : D → Option Nat
  | .str z => if z.length ≤ sizeLine then some z.length else none
  | .tup ds => some ds.length
  | .tab ds => some ds.length
  | .lst ds => some ds.length
  | .scr ds => some ds.length
  | .ref a => match M a with
    | some (.lst ds) => some ds.length
    | _ => none
  | _ => none
def cLen : RLt := fun ds M Q => match ds with
  | [x] => match lenOf M x with
    | some n => Q (.int (n : Int)) M
    | none => False
  | _ => False
theorem lenV_of {K : PySem.W.Frag} {G F H : Hp} {M : MH} {v : V} {x : D} {n : Nat} (R : Rel K G F H M) (p : Rp K F v x) (e : lenOf M x = some n) : LenV K v H n := by
  cases p with
  | str z =>
    unfold lenOf at e
    by_cases hz : z.length ≤ sizeLine
    · simp only [if_pos hz] at e; cases e; exact ⟨hz, rfl⟩
    · simp only [if_neg hz] at e; cases e
  | tup h r => cases e; exact .inr ⟨_, SqT.of (R.sub _ _ h), by rw [r.length]⟩
  | tab h r => cases e; exact .inr ⟨_, SameT R.sub h, by rw [r.length]⟩
  | lst h r => cases e; exact .inl ⟨_, SqL.of (R.sub _ _ h), by rw [r.length]⟩
  | scr h r => cases e; exact .inl ⟨_, R.sub.seq h, by rw [r.length]⟩
  | ref a =>
    unfold lenOf at e
    cases q : M a with
    | none => simp only [q] at e; cases e
    | some o =>
      simp only [q] at e
      obtain ⟨_, u, hu, r⟩ := R.chg a o q
      cases o with
      | lst xs =>
        cases e
        cases u with
        | lst vs => exact .inl ⟨vs, SqL.of hu, by rw [Rps.length (show Rps K F vs xs from r)]⟩
        | _ => exact (r : False).elim
      | _ => cases e
  | _ => cases e
theorem cq_len : CallQ X (.builtin "len") cLen := CallRimp call_len (by
  rintro xs H Q ⟨G, F, M, ds, Qt, R, r, h, k⟩
  match ds, r, h with
  | [x], .cons h1 .nil, h =>
    have h : (match lenOf M x with | some n => Qt (.int (n : Int)) M | none => False) := h
    cases e : lenOf M x with
    | none => rw [e] at h; exact h.elim
    | some n =>
      rw [e] at h
      exact ⟨_, n, rfl, lenV_of R h1 e, k _ F H M _ (Same.refl _) R (.int _) h⟩)
/-- int of an int, of a truth -/
def cInt : RLt := fun ds M Q => match ds with
  | [.int i] => Q (.int i) M
  | [.bl b] => Q (.int (if b then 1 else 0)) M
  | _ => False
theorem cq_int : CallQ X (.type "int") cInt := CallRimp call_int1 (by
  rintro xs H Q ⟨G, F, M, ds, Qt, R, r, h, k⟩
  match ds, r, h with
  | [.int i], .cons (.int _) .nil, h => exact .inl ⟨i, rfl, k _ F H M _ (Same.refl _) R (.int _) h⟩
  | [.bl b], .cons (.bl _) .nil, h => exact .inr ⟨b, rfl, k _ F H M _ (Same.refl _) R (.int _) h⟩)
end
/-! ### methods of lists -/
abbrev RMt := D → List D → MH → VD → Prop
def lMt (K : PySem.W.Frag) (r : RMt) : V → List V → Hp → VK → Prop := fun x xs H Q => ∃ G F M dx ds Qt, Rel K G F H M ∧ Rp K F x dx ∧ Rps K F xs ds ∧ r dx ds M Qt ∧ ∀ v F' H' M' d, Same F F' → Rel K G F' H' M' → Rp K F' v d → Qt d M' → Q v H'
def tMt (r : RMt) (to : TEt) (t : TAt) : TEt := fun τ M Q => to τ M fun x M1 => (lstOf M1 x).isSome = true ∧ t τ M1 fun xs M2 => r x xs M2 Q
def tMt0 (r : RMt) (to : TEt) : TEt := fun τ M Q => to τ M fun x M1 => (lstOf M1 x).isSome = true ∧ r x [] M1 Q
theorem ty_list {K : PySem.W.Frag} {G F H : Hp} {M : MH} {v : V} {x : D} (R : Rel K G F H M) (p : Rp K F v x) (e : (lstOf M x).isSome = true) : tyV K "list" v H := by
  obtain ⟨ds, e⟩ := Option.isSome_iff_exists.mp e
  obtain ⟨a, vs, rfl, h, _⟩ := lst_of R p e
  exact .inl ⟨rfl, vs, h⟩
def mAppend : RMt := fun x xs M Q => match x, xs with
  | .ref l, [y] => match M l with
    | some (.lst ds) => ds.length < sizeLine ∧ Q .non (mup M l (.lst (ds ++ [y])))
    | _ => False
  | _, _ => False
section
variable {X : Cx} {E : XK} {Et : XT} {o e : Expr} {es : List Expr} {to : TEt} {t : TAt} {apos cpos : Pos} {name : Str} {id : String} {r : RMt} {rr : V → List V → Hp → VK → Prop}
theorem lv_bm (hi : ∀ x xs H Q, lMt X.K r x xs H Q → rr x xs H Q) : ∀ σ H Q, liftE X.K E Et (tMt r to t) σ H Q → tBM X.K "list" rr (liftE X.K E Et to) (liftA X.K E Et t) σ H Q := by
  rintro σ H Q ⟨G, F, M, τ, Qt, a, h, k⟩
  refine ⟨G, F, M, τ, _, a, h, fun v F1 H1 M1 d s1 r1 p1 q1 => ⟨ty_list r1 p1 q1.1, ?_⟩⟩
  refine ⟨G, F1, M1, τ, _, a.step s1 r1, q1.2, fun vs F2 H2 M2 ds s2 r2 p2 q2 => hi _ _ _ _ ?_⟩
  exact ⟨G, F2, M2, d, ds, Qt, r2, p1.mono s2, p2, q2, fun v F' H' M' d s => k v F' H' M' d ((s1.trans s2).trans s)⟩
theorem lv_bm0 (hi : ∀ x xs H Q, lMt X.K r x xs H Q → rr x xs H Q) : ∀ σ H Q, liftE X.K E Et (tMt0 r to) σ H Q → tBM0 X.K "list" rr (liftE X.K E Et to) σ H Q := by
  rintro σ H Q ⟨G, F, M, τ, Qt, a, h, k⟩
  refine ⟨G, F, M, τ, _, a, h, fun v F1 H1 M1 d s1 r1 p1 q1 => ⟨ty_list r1 p1 q1.1, hi _ _ _ _ ?_⟩⟩
  exact ⟨G, F1, M1, d, [], Qt, r1, p1, .nil, q1.2, fun v F' H' M' d s => k v F' H' M' d (s1.trans s)⟩
theorem q_append (ho : QE X E Et o to) (ha : QA X E Et (e :: es) t)
    (hbase : attributeBase o "append" X.env (eval o X.env) = eval o X.env := by rfl)
    (hfew : ((backTo cpos (starEach (e :: es) X.env)).all (fun x => !x.1) && (backToKw cpos (keywordEach [] X.env)).all (fun x => x.1.isSome)
      && decide ((e :: es).length + ([] : List Keyword).length + (if ([] : List Keyword).isEmpty then 0 else 1) < 30)) = true := by rfl)
    (hline : (apos.endLine == cpos.line) = true := by rfl) (hs : starEach (e :: es) X.env = (false, eval e X.env) :: starEach es X.env := by rfl) (hplain : (backTo cpos (starEach es X.env)).any (·.1) = false := by rfl) :
    QE X E Et (.Call (.Attribute o "append" apos) (e :: es) [] cpos) (tMt mAppend to t) :=
  PEimp (pe_bm PySem.F.plainAttrs_list PySem.F.slot_list_append PySem.F.type_list_append mt_append ho ha hbase hfew hline hs hplain) (lv_bm (by
    rintro x xs H Q ⟨G, F, M, dx, ds, Qt, R, p, ps, h, k⟩
    match dx, ds, p, ps, h with
    | .ref l, [y], .ref _, .cons py .nil, h =>
      have h : (match M l with | some (.lst ds) => ds.length < sizeLine ∧ Qt .non (mup M l (.lst (ds ++ [y]))) | _ => False) := h
      cases q : M l with
      | none => simp only [q] at h
      | some mo =>
        cases mo with
        | lst ds =>
          simp only [q] at h
          obtain ⟨_, u, hu, r⟩ := R.chg l _ q
          cases u with
          | lst vs =>
            have r : Rps X.K F vs ds := r
            refine ⟨l, vs, _, rfl, rfl, hu, by rw [r.length]; exact h.1, ?_⟩
            exact k .non F _ _ .non (Same.refl _) (R.put (u := .lst (vs ++ [_])) (o := .lst (ds ++ [y])) q (r.append (.cons py .nil))) .non h.2
          | _ => exact (r : False).elim
        | _ => simp only [q] at h))
end
/-! ### comprehensions -/
def wip (τ : Sg) : List Nat → Sg
  | [] => τ
  | v :: vs => (wip τ vs).set v none
theorem sg_wipe {K : PySem.W.Frag} {F : Hp} {σ : L2.St} {τ : Sg} (h : Sgr K F σ τ) : ∀ vs : List Nat, Sgr K F (wipe σ vs) (wip τ vs)
  | [] => h
  | v :: vs => by
    have := (sg_wipe h vs).unset (i := v)
    unfold wip wipe
    exact this
def liftTs (K : PySem.W.Frag) (E : XK) (Et : XT) (t : TTt) : TT := liftT K E Et t
abbrev QTs (X : Cx) (E : XK) (Et : XT) (es : List Expr) (t : TTt) : Prop := PTs X es (liftT X.K E Et t)
def tYe : TTt := fun _ M Q => Q true M
theorem qts_nil {X : Cx} {E : XK} {Et : XT} : QTs X E Et [] tYe := ⟨fun pins s σ H Q I h => pts_nil.run pins s σ H Q I (by
  obtain ⟨G, F, M, τ, Qt, a, h, k⟩ := h
  exact k true F H M (Same.refl _) a.rel h)⟩
theorem qts_one {X : Cx} {E : XK} {Et : XT} {c : Expr} {t : TTt} (h : QT X E Et c t) : QTs X E Et [c] t := pts_one h
/-- [elt for target in iter if ..], frozen: W by the turn and what is made so far; block slots vs; own: σ2 wipes as σ -/
def tLcF (ti : TIt) (g : TGt) (tt : TTt) (te : TEt) (vs : List Nat) : TEt := fun τ M Q => ti τ M fun I M1 => I.items.length < sizeLine ∧ ∃ W : Nat → List D → MH → Prop, W 0 [] M1 ∧ (∀ i acc M, W i acc M → I.src M ∧ acc.length ≤ i) ∧
  (∀ i x acc M, I.items[i]? = some x → W i acc M → g x (wip τ vs) M fun τ2 M2 => tt τ2 M2 fun b M3 => if b = true then te τ2 M3 fun y M4 => W (i + 1) (acc ++ [y]) M4 else W (i + 1) acc M3) ∧ ∀ acc M, W I.items.length acc M → Q (.lst acc) M
/-- the same, a changing list -/
def tLcM (ti : TIt) (g : TGt) (tt : TTt) (te : TEt) (vs : List Nat) : TEt := tLcF ti g tt te vs
theorem wipe_get (σ : L2.St) : ∀ (vs : List Nat) (i : Nat), (wipe σ vs)[i]? = if i ∈ vs then (σ[i]?).map (fun _ => none) else σ[i]?
  | [], i => by rw [if_neg (by simp)]; rfl
  | v :: vs, i => by
    unfold wipe
    by_cases hv : v = i
    · subst hv
      rw [if_pos (List.mem_cons_self ..)]
      by_cases hl : v < σ.length
      · rw [List.getElem?_set_self (by rw [wipe_length]; exact hl), List.getElem?_eq_getElem hl]
        rfl
      · rw [List.getElem?_eq_none (by rw [List.length_set, wipe_length]; omega), List.getElem?_eq_none (by omega)]
        rfl
    · rw [List.getElem?_set_ne hv, wipe_get σ vs i]
      by_cases hm : i ∈ vs
      · rw [if_pos hm, if_pos (List.mem_cons_of_mem _ hm)]
      · rw [if_neg hm, if_neg (fun q => by
          rcases List.mem_cons.mp q with q | q
          · exact hv q.symm
          · exact hm q)]
theorem wipe_set {σ : L2.St} {vs : List Nat} {j : Nat} {x : Option V} (h : j ∈ vs) : wipe (σ.set j x) vs = wipe σ vs := by
  apply List.ext_getElem?
  intro i
  rw [wipe_get, wipe_get]
  by_cases hm : i ∈ vs
  · rw [if_pos hm, if_pos hm]
    by_cases hij : j = i
    · subst hij
      by_cases hl : j < σ.length
      · rw [List.getElem?_set_self hl, List.getElem?_eq_getElem hl]
        rfl
      · rw [List.getElem?_eq_none (by rw [List.length_set]; omega), List.getElem?_eq_none (by omega)]
    · rw [List.getElem?_set_ne hij]
  · rw [if_neg hm, if_neg hm, List.getElem?_set_ne (fun q => hm (by rw [← q]; exact h))]
theorem wipe_wipe (σ : L2.St) (vs : List Nat) : wipe (wipe σ vs) vs = wipe σ vs := by
  apply List.ext_getElem?
  intro i
  rw [wipe_get]
  by_cases hm : i ∈ vs
  · rw [if_pos hm, wipe_get, if_pos hm]
    cases σ[i]? <;> rfl
  · rw [if_neg hm]
/-- a target whose stores are the block's own -/
structure GOwn (K : PySem.W.Frag) (g : TG) (gt : TGt) (vs : List Nat) : Prop where
  lift : ∀ {G F H M σ τ v d Q Qt}, At K E0 Et0 G F H M σ τ → Rp K F v d → gt d τ M Qt →
    (∀ F' H' M' σ' τ', Same F F' → At K E0 Et0 G F' H' M' σ' τ' → wipe σ' vs = wipe σ vs → Qt τ' M' → Q σ' H') → g v σ H Q
structure GOwns (K : PySem.W.Frag) (g : TGs) (gt : TGst) (vs : List Nat) : Prop where
  lift : ∀ {G F H M σ τ v d Q Qt}, At K E0 Et0 G F H M σ τ → Rps K F v d → gt d τ M Qt →
    (∀ F' H' M' σ' τ', Same F F' → At K E0 Et0 G F' H' M' σ' τ' → wipe σ' vs = wipe σ vs → Qt τ' M' → Q σ' H') → g v σ H Q
section
variable {K : PySem.W.Frag} {vs : List Nat}
theorem go_name {j : Nat} (h : j ∈ vs := by decide) : GOwn K (gName j) (gN j) vs := ⟨fun {G F H M σ τ v d Q Qt} a p q k => k F H M _ _ (Same.refl _) (a.store p) (wipe_set h) q⟩
theorem gos_nil : GOwns K gNil gNl vs := ⟨fun {G F H M σ τ v d Q Qt} a p q k => by
  cases p with
  | nil => exact ⟨rfl, k F H M _ _ (Same.refl _) a rfl q⟩
  | cons _ _ => exact (show False from q).elim⟩
theorem gos_cons {g : TG} {gt : TGt} {gs : TGs} {gts : TGst} (h1 : GOwn K g gt vs) (h2 : GOwns K gs gts vs) : GOwns K (gCons g gs) (gCs gt gts) vs := ⟨fun {G F H M σ τ v d Q Qt} a p q k => by
  cases p with
  | nil => exact (show False from q).elim
  | cons p1 p2 => exact ⟨_, _, rfl, h1.lift a p1 q fun F1 H1 M1 σ1 τ1 s1 a1 e1 q1 => h2.lift a1 (p2.mono s1) q1 fun F' H' M' σ' τ' s a' e q' => k F' H' M' σ' τ' (s1.trans s) a' (e.trans e1) q'⟩⟩
theorem go_tup {n : Nat} {gs : TGs} {gts : TGst} (h : GOwns K gs gts vs) : GOwn K (gTup K n gs) (gTp n gts) vs := ⟨fun {G F H M σ τ v d Q Qt} a p q k => by
  cases p with
  | tup h0 r0 => exact ⟨_, _, rfl, SqT.of (a.rel.sub _ _ h0), by rw [r0.length]; exact q.1, h.lift a r0 q.2 k⟩
  | _ => exact (show False from q).elim⟩
end
section
variable {X : Cx} {E : XK} {Et : XT} {elt tg iter : Expr} {ifs : List Expr} {scope : Scope} {own : List (Str × Nat)} {pos : Pos} {ti : TIt} {g : TG} {gt : TGt} {tt : TTt} {te : TEt}
/-- what a comprehension's reading asks of the layer below; show_: what is told of the new list -/
theorem lv_lc {vs : List Nat} (go : GOwn X.K g gt vs) {R : List D → MH → V → Hp → Prop} {σ : L2.St} {H : Hp} {Q : VK} {G F : Hp} {M : MH} {τ : Sg} {Qt : VD} (a : At X.K E Et G F H M σ τ) (h : tLcF ti gt tt te vs τ M Qt)
    (k : ∀ (F' H' : Hp) (M' : MH) (p : Addr) (vacc : List V) (acc : List D), Same F F' → Rel X.K (upd G p (.lst vacc)) F' H' M' → G p = none → Rps X.K F' vacc acc → Qt (.lst acc) M' → Q (.ref p) H') :
    tLc (liftI X.K E Et ti) g (liftT X.K E0 Et0 tt) (liftE X.K E0 Et0 te) vs σ H Q := by
  refine ⟨G, F, M, τ, _, a, h, fun J I F1 H1 M1 s1 r1 ok q1 => ?_⟩
  obtain ⟨hz, W, w0, ws, turn, done⟩ := q1
  intro Dl hD
  have hG : G Dl = none := r1.freeG hD
  refine ⟨fun i m H => m = I.items.length - i ∧ i ≤ I.items.length ∧ ∃ F' M' vacc acc, Same F1 F' ∧ Rel X.K (upd G Dl (.lst vacc)) F' H M' ∧ Rps X.K F' vacc acc ∧ W i acc M', ⟨_, rfl, Nat.zero_le _, F1, M1, [], [], Same.refl _, r1.newG hD, .nil, w0⟩, ?_⟩
  rintro i m H2 ⟨rfl, hi, F2, M2, vacc, acc, s2, r2, p2, hw⟩
  obtain ⟨hsrc, hlen⟩ := ws i acc M2 hw
  by_cases hlt : i < I.items.length
  · have hx : I.items[i]? = some I.items[i] := List.getElem?_eq_getElem hlt
    refine .inr ⟨ok.go i _ F2 H2 M2 _ s2 r2 hsrc hx, fun H' => ∃ F' M' vacc acc, Same F1 F' ∧ Rel X.K (upd G Dl (.lst vacc)) F' H' M' ∧ Rps X.K F' vacc acc ∧ W (i + 1) acc M', fun H' z => ⟨I.items.length - (i + 1), by omega, rfl, hlt, z⟩, fun v H3 y => ?_⟩
    obtain ⟨F3, s3, r3, p3⟩ := ok.yld i _ F2 H2 M2 _ v H3 s2 r2 hsrc hx y
    have a3 : At X.K E0 Et0 (upd G Dl (.lst vacc)) F3 H3 M2 (wipe σ vs) (wip τ vs) := ⟨r3, sg_wipe (a.sg.mono ((s1.trans s2).trans s3)) vs, .never⟩
    refine go.lift a3 p3 (turn i _ acc M2 hx hw) fun F4 H4 M4 σ4 τ4 s4 a4 e4 q4 => ⟨e4.trans (wipe_wipe σ vs), ?_⟩
    refine ⟨_, F4, M4, τ4, _, a4, q4, fun b F5 H5 M5 s5 r5 q5 => ?_⟩
    cases b with
    | true =>
      rw [if_pos rfl] at q5 ⊢
      refine ⟨_, F5, M5, τ4, _, a4.step s5 r5, q5, fun y F6 H6 M6 d s6 r6 p6 q6 => ?_⟩
      refine ⟨vacc, (r6.hid Dl _ upd_same).1, by rw [p2.length]; omega, F6, M6, vacc ++ [y], acc ++ [d], ((((s2.trans s3).trans s4).trans s5).trans s6), r6.putG, (p2.mono (((s3.trans s4).trans s5).trans s6)).append (.cons p6 .nil), q6⟩
    | false =>
      rw [if_neg Bool.false_ne_true] at q5 ⊢
      exact ⟨F5, M5, vacc, acc, ((s2.trans s3).trans s4).trans s5, r5, p2.mono ((s3.trans s4).trans s5), q5⟩
  · have e : i = I.items.length := by omega
    subst e
    exact .inl ⟨ok.stop _ _ F2 H2 M2 s2 r2 hsrc (Nat.le_refl _), k F2 H2 M2 Dl vacc acc (s1.trans s2) r2 hG p2 (done acc M2 hw)⟩
theorem lv_lcF {vs : List Nat} (go : GOwn X.K g gt vs) : ∀ σ H Q, liftE X.K E Et (tLcF ti gt tt te vs) σ H Q → tLc (liftI X.K E Et ti) g (liftT X.K E0 Et0 tt) (liftE X.K E0 Et0 te) vs σ H Q := by
  rintro σ H Q ⟨G, F, M, τ, Qt, a, h, k⟩
  refine lv_lc (R := fun _ _ _ _ => True) go a h fun F' H' M' p vacc acc s r hg ps q => ?_
  obtain ⟨s2, r2⟩ := r.showF hg
  exact k _ _ H' M' _ (s.trans s2) r2 (.lst upd_same (ps.mono s2)) q
/-- a changing list -/
def tLcV (ti : TIt) (g : TGt) (tt : TTt) (te : TEt) (vs : List Nat) : TEt := fun τ M Q => tLcF ti g tt te vs τ M fun d M1 => match d with
  | .lst acc => ∀ p, M1 p = none → Q (.ref p) (mup M1 p (.lst acc))
  | _ => False
theorem lv_lcV {vs : List Nat} (go : GOwn X.K g gt vs) : ∀ σ H Q, liftE X.K E Et (tLcV ti gt tt te vs) σ H Q → tLc (liftI X.K E Et ti) g (liftT X.K E0 Et0 tt) (liftE X.K E0 Et0 te) vs σ H Q := by
  rintro σ H Q ⟨G, F, M, τ, Qt, a, h, k⟩
  refine lv_lc (R := fun _ _ _ _ => True) go a h fun F' H' M' p vacc acc s r hg ps q => ?_
  have hm : M' p = none := (r.hid p _ upd_same).2.2
  exact k _ F' H' _ _ s (r.showM (u := .lst vacc) (o := .lst acc) hg ps) (.ref p) (q p hm)
theorem q_lc (hc : X.calm = true) (hN : X.N.Nodup) (hi : QI X E Et tg iter ti) (ok : BlkOk X.N X.env.scope scope own) (go : GOwn X.K g gt (own.map (·.2)))
    (hg : ∀ (s : Shared) (H : Hp) (C : Addr) (cl : List (Str × Addr)) (fp : List Addr), PG (X.blk s H scope (compEnvC scope cl C X.env) fp) tg g) (ht : ∀ (s : Shared) (H : Hp) (C : Addr) (cl : List (Str × Addr)) (fp : List Addr), QTs (X.blk s H scope (compEnvC scope cl C X.env) fp) E0 Et0 ifs tt)
    (he : ∀ (s : Shared) (H : Hp) (C : Addr) (cl : List (Str × Addr)) (fp : List Addr), QE (X.blk s H scope (compEnvC scope cl C X.env) fp) E0 Et0 elt te) (hs : ∀ x, foldedSetIterable iter X.env x = pure x := by intro _; rfl) :
    QE X E Et (.ListComp elt [⟨tg, iter, ifs, 0⟩] scope pos) (tLcF ti gt tt te (own.map (·.2))) := PEimp (pe_lc hc hN hi ok hg ht he hs) (lv_lcF go)
theorem q_lcV (hc : X.calm = true) (hN : X.N.Nodup) (hi : QI X E Et tg iter ti) (ok : BlkOk X.N X.env.scope scope own) (go : GOwn X.K g gt (own.map (·.2)))
    (hg : ∀ (s : Shared) (H : Hp) (C : Addr) (cl : List (Str × Addr)) (fp : List Addr), PG (X.blk s H scope (compEnvC scope cl C X.env) fp) tg g) (ht : ∀ (s : Shared) (H : Hp) (C : Addr) (cl : List (Str × Addr)) (fp : List Addr), QTs (X.blk s H scope (compEnvC scope cl C X.env) fp) E0 Et0 ifs tt)
    (he : ∀ (s : Shared) (H : Hp) (C : Addr) (cl : List (Str × Addr)) (fp : List Addr), QE (X.blk s H scope (compEnvC scope cl C X.env) fp) E0 Et0 elt te) (hs : ∀ x, foldedSetIterable iter X.env x = pure x := by intro _; rfl) :
    QE X E Et (.ListComp elt [⟨tg, iter, ifs, 0⟩] scope pos) (tLcV ti gt tt te (own.map (·.2))) := PEimp (pe_lc hc hN hi ok hg ht he hs) (lv_lcV go)
/-- x = [..] -/
theorem qs_setLc {i : Nat} {y : Str} {py spos : Pos} {tl : TEt} (lv : ∀ σ H Q, liftE X.K E Et tl σ H Q → tLc (liftI X.K E Et ti) g (liftT X.K E0 Et0 tt) (liftE X.K E0 Et0 te) (own.map (·.2)) σ H Q) (hc : X.calm = true) (hN : X.N.Nodup) (hi : QI X E Et tg iter ti) (ok : BlkOk X.N X.env.scope scope own)
    (hg : ∀ (s : Shared) (H : Hp) (C : Addr) (cl : List (Str × Addr)) (fp : List Addr), PG (X.blk s H scope (compEnvC scope cl C X.env) fp) tg g) (ht : ∀ (s : Shared) (H : Hp) (C : Addr) (cl : List (Str × Addr)) (fp : List Addr), QTs (X.blk s H scope (compEnvC scope cl C X.env) fp) E0 Et0 ifs tt)
    (he : ∀ (s : Shared) (H : Hp) (C : Addr) (cl : List (Str × Addr)) (fp : List Addr), QE (X.blk s H scope (compEnvC scope cl C X.env) fp) E0 Et0 elt te)
    (hsw : swapsWith (.ListComp elt [⟨tg, iter, ifs, 0⟩] scope pos) (some (.Name y py)) spos.line X.env = pure true) (hy : X.N[i]? = some y := by rfl) (hyl : X.env.scope.names.lookup y = some .local := by rfl) (hs : ∀ x, foldedSetIterable iter X.env x = pure x := by intro _; rfl) :
    QS X E Et (.Assign [.Name y py] (.ListComp elt [⟨tg, iter, ifs, 0⟩] scope pos) spos) (sAs tl (gN i)) := PSimp (ps_setLc hc hN hy hyl hsw hi ok hg ht he hs) (by
  rintro D σ H ⟨G, F, M, τ, Dt, a, en, h⟩
  refine lv _ _ _ ⟨G, F, M, τ, _, a, h, fun v F1 H1 M1 d s1 r1 p1 q1 => ?_⟩
  exact en.nx F1 H1 M1 _ _ s1 ((a.step s1 r1).store p1) q1)
end
/-! ### the law's end -/
def spLaw : SpT := fun ds M Q _ => ∃ ns : List Int, ds = [.scr (ns.map D.int)] ∧ ns.length ≤ 63 ∧ ∀ M', Q (.bl true) M'
theorem rps_ints {K : PySem.W.Frag} {F : Hp} : ∀ ns : List Int, Rps K F (ns.map V.int) (ns.map D.int)
  | [] => .nil
  | n :: ns => .cons (.int n) (rps_ints ns)
theorem end_sp {K : PySem.W.Frag} {sp : SpT} {H : Hp} {a : Addr} {ns : List Int} (hS : SqL K H a (ns.map V.int)) (h : sp [.scr (ns.map D.int)] (fun _ => none) (fun d _ => d = .bl true) Et0) :
    lSp K sp [.ref a] H (fun v _ => v = .bl true) fun _ _ _ => False :=
  ⟨fun _ => none, H, fun _ => none, _, _, Et0, ⟨Same.refl _, fun _ _ e => (nomatch (show (none : Option MO) = some _ from e)), fun _ _ e => (nomatch (show (none : Option HO) = some _ from e)), fun _ _ e => (nomatch (show (none : Option HO) = some _ from e))⟩, .cons (.scr hS (rps_ints ns)) .nil, .never, h, fun v F' H' M' d _ _ p q => by
    subst q
    exact p.bl_inv⟩
end Tl

namespace Tl
open PySem PySem.Spec PyProof.Rows L2
theorem kit_ii : kitB "int" "int" = some true := by decide +kernel
theorem kit_ib : kitB "int" "bool" = some false := by decide +kernel
theorem kit_bi : kitB "bool" "int" = some true := by decide +kernel
theorem kit_bb : kitB "bool" "bool" = some true := by decide +kernel
theorem kit_si : kitB "str" "int" = some false := by decide +kernel
theorem kit_ss : kitB "str" "str" = some true := by decide +kernel
theorem kit_is : kitB "int" "str" = some false := by decide +kernel
theorem kit_tt : kitB "tuple" "tuple" = some true := by decide +kernel
theorem kit_ll : kitB "list" "list" = some true := by decide +kernel
theorem kit_lt : kitB "list" "tuple" = some false := by decide +kernel
theorem kit_tl : kitB "tuple" "list" = some false := by decide +kernel
theorem kit_ts : kitB "tuple" "str" = some false := by decide +kernel
theorem kit_ls : kitB "list" "str" = some false := by decide +kernel
theorem kit_sl : kitB "str" "list" = some false := by decide +kernel
theorem kit_st : kitB "str" "tuple" = some false := by decide +kernel
theorem kit_it : kitB "int" "tuple" = some false := by decide +kernel
theorem kit_il : kitB "int" "list" = some false := by decide +kernel
theorem kit_dd : kitB "dict" "dict" = some true := by decide +kernel
theorem kit_ni : kitB "NoneType" "int" = some false := by decide +kernel
theorem kit_nb : kitB "NoneType" "bool" = some false := by decide +kernel
theorem nth_0 (x : Option D) (t : Sg) : nth (x :: t) 0 = x := rfl
theorem nth_s (x : Option D) (t : Sg) (n : Nat) : nth (x :: t) (n + 1) = nth t n := rfl
theorem set_0 (x y : Option D) (t : Sg) : (x :: t).set 0 y = y :: t := rfl
theorem set_s (x y : Option D) (t : Sg) (n : Nat) : (x :: t).set (n + 1) y = x :: t.set n y := rfl
/-! ### written things, however many -/
def lit : Expr → Option D
  | .Constant (.int i) _ _ => some (.int i)
  | .Constant (.str x) _ _ => some (.str x)
  | .Constant (.bool b) _ _ => some (.bl b)
  | .Constant .none _ _ => some .non
  | .UnaryOp .USub (.Constant (.int i) _ _) _ => some (.int (-i))
  | _ => none
def litAll : List Expr → Option (List D)
  | [] => some []
  | e :: es => match lit e with
    | some d => match litAll es with
      | some ds => some (d :: ds)
      | none => none
    | none => none
def tLt (ds : List D) : TAt := fun _ M Q => Q ds M
section
variable {X : Cx} {E : XK} {Et : XT}
theorem q_lit {e : Expr} {d : D} (h : lit e = some d) : QE X E Et e (tK d) := by
  unfold lit at h
  split at h
  · cases h; exact q_int
  · cases h; exact q_str
  · cases h; exact q_bl
  · cases h; exact q_non
  · cases h
    exact PEimp (q_un uq_neg q_int) (fun σ H Q h => h)
  · cases h
theorem lit_star {e : Expr} {es : List Expr} {d : D} {env : Env} (h : lit e = some d) : starEach (e :: es) env = (false, eval e env) :: starEach es env := by
  unfold lit at h
  split at h <;> first | rfl | cases h
theorem qa_lits : ∀ {es : List Expr} {ds : List D}, litAll es = some ds → QA X E Et es (tLt ds)
  | [], ds, h => by
    cases h
    exact qa_nil
  | e :: es, ds, h => by
    unfold litAll at h
    cases h1 : lit e with
    | none => simp only [h1] at h; cases h
    | some d =>
      simp only [h1] at h
      cases h2 : litAll es with
      | none => simp only [h2] at h; cases h
      | some ds' =>
        simp only [h2] at h
        cases h
        exact PAimp (qa_cons (q_lit h1) (qa_lits h2) (lit_star h1)) (fun σ H Q h => h)
end
end Tl

namespace Tl
open PySem PySem.Spec PyProof.Rows L2

/-! ### // and % by any divisor, divmod -/
def CDivZ (_ j : Int) : Prop := j ≠ 0 ∧ j.natAbs.log2 < 9000
theorem divz_of {i j : Int} (h : j ≠ 0) (hb : j.natAbs < 2 ^ 4000) : CDivZ i j := ⟨h, Nat.lt_of_lt_of_le (PySem.Flt.log2_lt_of (by decide) hb) (by decide)⟩
theorem divz_40 {i j : Int} (h : j ≠ 0) (hb : j.natAbs < 2 ^ 40) : CDivZ i j := ⟨h, Nat.lt_of_lt_of_le (PySem.Flt.log2_lt_of (by decide) hb) (by decide)⟩
section
variable {X : Cx}
theorem op_fdivZ : OpR X (binaryOp .FloorDiv) (rI CDivZ fun i j => .int (i.fdiv j)) := opI fun i j _ _ _ _ _ hc q => floordiv_int hc.1 q (.inl (PyProof.noPylong_of_log2 hc.2))
theorem oq_fdivZ : OpQ X (binaryOp .FloorDiv) (bInt CDivZ fun i j => .int (i.fdiv j)) := OpRimp op_fdivZ (lr2_int (fun _ _ _ => .int _) bInt_inv)
theorem call_divmodZ : CallR X (.builtin "divmod") (fun xs H Q => ∃ i j, xs = [.int i, .int j] ∧ CDivZ i j ∧ ∀ p, H p = none → Q (.ref p) (upd H p (.tup [.int (i.fdiv j), .int (i.fmod j)]))) := by
  intro pins s σ H xs us Q I r h
  obtain ⟨i, j, rfl, ⟨h1, h2⟩, q⟩ := h
  obtain ⟨u, w', rfl, ⟨t, rfl⟩, ⟨t', rfl⟩⟩ := vals2 r
  refine divmod_int h1 ?_ (.inl (PyProof.noPylong_of_log2 h2))
  have hn : H s.heap.objs.size = none := I.hok.fresh (Nat.le_refl _)
  refine ⟨.ref s.heap.objs.size, _, ?_, rfl, q _ hn⟩
  refine I.laid (fun b o e => Heap.get?_push_of_some _ e) (Nat.le_refl _) ⟨by simp only [List.length_cons, List.length_nil]; rw [sizeLine_eq]; decide, [.int (i.fdiv j) s.toks, .int (i.fmod j) (s.toks + 1)], .cons ⟨_, rfl⟩ (.cons ⟨_, rfl⟩ .nil), ?_⟩
  exact ⟨_, Heap.get?_push_size s.heap rfl, rfl, 0, rfl⟩
def cDivmod : RLt := fun ds M Q => match ds with
  | [.int i, .int j] => CDivZ i j ∧ Q (.tup [.int (i.fdiv j), .int (i.fmod j)]) M
  | _ => False
theorem cq_divmod : CallQ X (.builtin "divmod") cDivmod := CallRimp call_divmodZ (by
  rintro xs H Q ⟨G, F, M, ds, Qt, R, r, h, k⟩
  match ds, r, h with
  | [.int i, .int j], .cons (.int _) (.cons (.int _) .nil), h =>
    refine ⟨i, j, rfl, h.1, fun p np => ?_⟩
    obtain ⟨s, r1⟩ := R.newF (o := .tup [.int (i.fdiv j), .int (i.fmod j)]) np
    exact k _ _ _ M _ s r1 (.tup upd_same (.cons (.int _) (.cons (.int _) .nil))) h.2)
/-! ### list(x), sum, max, min, all, any -/
/-- the items of a list or a tuple -/
def seqOf (M : MH) (d : D) : Option (List D) := match tupOf d with
  | some ds => some ds
  | none => lstOf M d
theorem seq_of {K : PySem.W.Frag} {G F H : Hp} {M : MH} {v : V} {d : D} {ds : List D} (R : Rel K G F H M) (p : Rp K F v d) (e : seqOf M d = some ds) : ∃ a vs, v = .ref a ∧ (SqL K H a vs ∨ SqT K H a vs) ∧ Rps K F vs ds := by
  unfold seqOf at e
  cases q : tupOf d with
  | some es =>
    rw [q] at e
    cases e
    obtain ⟨a, vs, h1, h2, h3⟩ := tup_of R p q
    exact ⟨a, vs, h1, .inr h2, h3⟩
  | none =>
    rw [q] at e
    obtain ⟨a, vs, h1, h2, h3⟩ := lst_of R p e
    exact ⟨a, vs, h1, .inl h2, h3⟩
def cList : RLt := fun ds M Q => match ds with
  | [x] => match seqOf M x with
    | some es => Q (.lst es) M
    | none => False
  | _ => False
def cListM : RLt := fun ds M Q => match ds with
  | [x] => match seqOf M x with
    | some es => ∀ p, M p = none → Q (.ref p) (mup M p (.lst es))
    | none => False
  | _ => False
theorem cq_list : CallQ X (.type "list") cList := CallRimp call_list_of (by
  rintro xs H Q ⟨G, F, M, ds, Qt, R, r, h, k⟩
  match ds, r, h with
  | [x], .cons h1 .nil, h =>
    have h : (match seqOf M x with | some es => Qt (.lst es) M | none => False) := h
    cases e : seqOf M x with
    | none => rw [e] at h; exact h.elim
    | some es =>
      rw [e] at h
      obtain ⟨a, vs, rfl, hs, r⟩ := seq_of R h1 e
      refine ⟨a, vs, rfl, hs, fun p np => ?_⟩
      obtain ⟨s, r1⟩ := R.newF (o := .lst vs) np
      exact k _ _ _ M _ s r1 (.lst upd_same (r.mono s)) h)
theorem cq_listM : CallQ X (.type "list") cListM := CallRimp call_list_of (by
  rintro xs H Q ⟨G, F, M, ds, Qt, R, r, h, k⟩
  match ds, r, h with
  | [x], .cons h1 .nil, h =>
    have h : (match seqOf M x with | some es => ∀ p, M p = none → Qt (.ref p) (mup M p (.lst es)) | none => False) := h
    cases e : seqOf M x with
    | none => rw [e] at h; exact h.elim
    | some es =>
      rw [e] at h
      obtain ⟨a, vs, rfl, hs, r⟩ := seq_of R h1 e
      refine ⟨a, vs, rfl, hs, fun p np => ?_⟩
      exact k _ F _ _ _ (Same.refl _) (R.newM (u := .lst vs) (o := .lst es) np r) (.ref p) (h p (R.free np).2))
/-- a list of whole numbers -/
def intsD : List D → Option (List Int)
  | [] => some []
  | .int i :: r => match intsD r with
    | some is => some (i :: is)
    | none => none
  | _ => none
theorem intsD_map : ∀ is : List Int, intsD (is.map D.int) = some is
  | [] => rfl
  | i :: is => by simp only [List.map_cons, intsD, intsD_map is]
theorem ints_of {K : PySem.W.Frag} {F : Hp} : ∀ {vs : List V} {ds : List D} {is : List Int}, Rps K F vs ds → intsD ds = some is → vs = is.map V.int
  | _, _, _, .nil, e => by cases e; rfl
  | _, _, _, .cons (.int i) t, e => by
    unfold intsD at e
    split at e
    · rename_i is' q
      cases e
      rw [ints_of t q]; rfl
    · cases e
  | _, _, _, .cons .non _, e => by cases e
  | _, _, _, .cons (.bl _) _, e => by cases e
  | _, _, _, .cons (.str _) _, e => by cases e
  | _, _, _, .cons (.ty _) _, e => by cases e
  | _, _, _, .cons (.ref _) _, e => by cases e
  | _, _, _, .cons (.tup _ _) _, e => by cases e
  | _, _, _, .cons (.tab _ _) _, e => by cases e
  | _, _, _, .cons (.scr _ _) _, e => by cases e
  | _, _, _, .cons (.lst _ _) _, e => by cases e
def intLst (M : MH) (d : D) : Option (List Int) := match lstOf M d with
  | some ds => intsD ds
  | none => none
theorem intLst_of {K : PySem.W.Frag} {G F H : Hp} {M : MH} {v : V} {d : D} {is : List Int} (R : Rel K G F H M) (p : Rp K F v d) (e : intLst M d = some is) : ∃ a, v = .ref a ∧ SqL K H a (is.map V.int) := by
  unfold intLst at e
  cases q : lstOf M d with
  | none => rw [q] at e; cases e
  | some ds =>
    rw [q] at e
    obtain ⟨a, vs, rfl, hs, r⟩ := lst_of R p q
    rw [ints_of r e] at hs
    exact ⟨a, rfl, hs⟩
def cSum : RLt := fun ds M Q => match ds with
  | [x] => match intLst M x with
    | some is => Q (.int is.sum) M
    | none => False
  | _ => False
def cMax : RLt := fun ds M Q => match ds with
  | [x] => match intLst M x with
    | some is => 0 < is.length ∧ ∀ m, m ∈ is → (∀ y, y ∈ is → y ≤ m) → Q (.int m) M
    | none => False
  | _ => False
def cMin : RLt := fun ds M Q => match ds with
  | [x] => match intLst M x with
    | some is => 0 < is.length ∧ ∀ m, m ∈ is → (∀ y, y ∈ is → m ≤ y) → Q (.int m) M
    | none => False
  | _ => False
theorem cq_sum (hc : X.calm = true) : CallQ X (.builtin "sum") cSum := CallRimp (cr_sum hc) (by
  rintro xs H Q ⟨G, F, M, ds, Qt, R, r, h, k⟩
  match ds, r, h with
  | [x], .cons h1 .nil, h =>
    have h : (match intLst M x with | some is => Qt (.int is.sum) M | none => False) := h
    cases e : intLst M x with
    | none => rw [e] at h; exact h.elim
    | some is =>
      rw [e] at h
      obtain ⟨a, rfl, hs⟩ := intLst_of R h1 e
      exact ⟨a, is, rfl, hs, k _ F H M _ (Same.refl _) R (.int _) h⟩)
theorem cq_max (hc : X.calm = true) : CallQ X (.builtin "max") cMax := CallRimp (cr_max hc) (by
  rintro xs H Q ⟨G, F, M, ds, Qt, R, r, h, k⟩
  match ds, r, h with
  | [x], .cons h1 .nil, h =>
    have h : (match intLst M x with | some is => 0 < is.length ∧ ∀ m, m ∈ is → (∀ y, y ∈ is → y ≤ m) → Qt (.int m) M | none => False) := h
    cases e : intLst M x with
    | none => rw [e] at h; exact h.elim
    | some is =>
      rw [e] at h
      obtain ⟨a, rfl, hs⟩ := intLst_of R h1 e
      exact ⟨a, is, rfl, hs, h.1, fun m hm hy => k _ F H M _ (Same.refl _) R (.int _) (h.2 m hm hy)⟩)
theorem cq_min (hc : X.calm = true) : CallQ X (.builtin "min") cMin := CallRimp (cr_min hc) (by
  rintro xs H Q ⟨G, F, M, ds, Qt, R, r, h, k⟩
  match ds, r, h with
  | [x], .cons h1 .nil, h =>
    have h : (match intLst M x with | some is => 0 < is.length ∧ ∀ m, m ∈ is → (∀ y, y ∈ is → m ≤ y) → Qt (.int m) M | none => False) := h
    cases e : intLst M x with
    | none => rw [e] at h; exact h.elim
    | some is =>
      rw [e] at h
      obtain ⟨a, rfl, hs⟩ := intLst_of R h1 e
      exact ⟨a, is, rfl, hs, h.1, fun m hm hy => k _ F H M _ (Same.refl _) R (.int _) (h.2 m hm hy)⟩)
def cMax2 : RLt := fun ds M Q => match ds with
  | [.int i, .int j] => Q (.int (if j > i then j else i)) M
  | _ => False
def cMin2 : RLt := fun ds M Q => match ds with
  | [.int i, .int j] => Q (.int (if j < i then j else i)) M
  | _ => False
theorem cq_max2 (hc : X.calm = true) : CallQ X (.builtin "max") cMax2 := CallRimp (call_max2 hc) (by
  rintro xs H Q ⟨G, F, M, ds, Qt, R, r, h, k⟩
  match ds, r, h with
  | [.int i, .int j], .cons (.int _) (.cons (.int _) .nil), h => exact ⟨i, j, rfl, k _ F H M _ (Same.refl _) R (.int _) h⟩)
theorem cq_min2 (hc : X.calm = true) : CallQ X (.builtin "min") cMin2 := CallRimp (call_min2 hc) (by
  rintro xs H Q ⟨G, F, M, ds, Qt, R, r, h, k⟩
  match ds, r, h with
  | [.int i, .int j], .cons (.int _) (.cons (.int _) .nil), h => exact ⟨i, j, rfl, k _ F H M _ (Same.refl _) R (.int _) h⟩)
def cAbs : RLt := fun ds M Q => match ds with
  | [.int i] => Q (.int (if i < 0 then -i else i)) M
  | _ => False
theorem cq_abs : CallQ X (.builtin "abs") cAbs := CallRimp call_abs (by
  rintro xs H Q ⟨G, F, M, ds, Qt, R, r, h, k⟩
  match ds, r, h with
  | [.int i], .cons (.int _) .nil, h => exact ⟨i, rfl, k _ F H M _ (Same.refl _) R (.int _) h⟩)
/-- a list of truths -/
def blsD : List D → Option (List Bool)
  | [] => some []
  | .bl i :: r => match blsD r with
    | some is => some (i :: is)
    | none => none
  | _ => none
theorem blsD_map : ∀ is : List Bool, blsD (is.map D.bl) = some is
  | [] => rfl
  | i :: is => by simp only [List.map_cons, blsD, blsD_map is]
theorem bls_of {K : PySem.W.Frag} {F : Hp} : ∀ {vs : List V} {ds : List D} {is : List Bool}, Rps K F vs ds → blsD ds = some is → vs = is.map V.bl
  | _, _, _, .nil, e => by cases e; rfl
  | _, _, _, .cons (.bl i) t, e => by
    unfold blsD at e
    split at e
    · rename_i is' q
      cases e
      rw [bls_of t q]; rfl
    · cases e
  | _, _, _, .cons .non _, e => by cases e
  | _, _, _, .cons (.int _) _, e => by cases e
  | _, _, _, .cons (.str _) _, e => by cases e
  | _, _, _, .cons (.ty _) _, e => by cases e
  | _, _, _, .cons (.ref _) _, e => by cases e
  | _, _, _, .cons (.tup _ _) _, e => by cases e
  | _, _, _, .cons (.tab _ _) _, e => by cases e
  | _, _, _, .cons (.scr _ _) _, e => by cases e
  | _, _, _, .cons (.lst _ _) _, e => by cases e
def blLst (M : MH) (d : D) : Option (List Bool) := match lstOf M d with
  | some ds => blsD ds
  | none => none
theorem blLst_of {K : PySem.W.Frag} {G F H : Hp} {M : MH} {v : V} {d : D} {is : List Bool} (R : Rel K G F H M) (p : Rp K F v d) (e : blLst M d = some is) : ∃ a, v = .ref a ∧ SqL K H a (is.map V.bl) := by
  unfold blLst at e
  cases q : lstOf M d with
  | none => rw [q] at e; cases e
  | some ds =>
    rw [q] at e
    obtain ⟨a, vs, rfl, hs, r⟩ := lst_of R p q
    rw [bls_of r e] at hs
    exact ⟨a, rfl, hs⟩
def cAny : RLt := fun ds M Q => match ds with
  | [x] => match blLst M x with
    | some is => Q (.bl (is.any id)) M
    | none => False
  | _ => False
def cAll : RLt := fun ds M Q => match ds with
  | [x] => match blLst M x with
    | some is => Q (.bl (is.all id)) M
    | none => False
  | _ => False
theorem cq_any (hc : X.calm = true) : CallQ X (.builtin "any") cAny := CallRimp (cr_any hc) (by
  rintro xs H Q ⟨G, F, M, ds, Qt, R, r, h, k⟩
  match ds, r, h with
  | [x], .cons h1 .nil, h =>
    have h : (match blLst M x with | some is => Qt (.bl (is.any id)) M | none => False) := h
    cases e : blLst M x with
    | none => rw [e] at h; exact h.elim
    | some is =>
      rw [e] at h
      obtain ⟨a, rfl, hs⟩ := blLst_of R h1 e
      exact ⟨a, is, rfl, hs, k _ F H M _ (Same.refl _) R (.bl _) h⟩)
theorem cq_all (hc : X.calm = true) : CallQ X (.builtin "all") cAll := CallRimp (cr_all hc) (by
  rintro xs H Q ⟨G, F, M, ds, Qt, R, r, h, k⟩
  match ds, r, h with
  | [x], .cons h1 .nil, h =>
    have h : (match blLst M x with | some is => Qt (.bl (is.all id)) M | none => False) := h
    cases e : blLst M x with
    | none => rw [e] at h; exact h.elim
    | some is =>
      rw [e] at h
      obtain ⟨a, rfl, hs⟩ := blLst_of R h1 e
      exact ⟨a, is, rfl, hs, k _ F H M _ (Same.refl _) R (.bl _) h⟩)
end
/-! ### enumerate, zip, range with a step, a text sign by sign -/
def enumD (xs : List D) : List D := xs.mapIdx fun i x => .tup [.int (i : Nat), x]
def zipD (xs ys : List D) : List D := List.zipWith (fun x y => .tup [x, y]) xs ys
def iEn (ta : TAt) : TIt := fun τ M Q => ta τ M fun ds M1 => match ds with
  | [d] => match lstOf M1 d with
    | some xs => Q ⟨enumD xs, fun M => lstOf M d = some xs⟩ M1
    | none => False
  | _ => False
def iZi (ta : TAt) : TIt := fun τ M Q => ta τ M fun ds M1 => match ds with
  | [d, e] => match lstOf M1 d with
    | some xs => match lstOf M1 e with
      | some ys => Q ⟨zipD xs ys, fun M => lstOf M d = some xs ∧ lstOf M e = some ys⟩ M1
      | none => False
    | none => False
  | _ => False
def iR3 (ta : TAt) : TIt := fun τ M Q => ta τ M fun ds M1 => match ds with
  | [.int i, .int j, .int c] => ∃ n, RgC i j c n ∧ Q ⟨(List.range n).map fun k => .int (i + (k : Nat) * c), fun _ => True⟩ M1
  | _ => False
def iSt (te : TEt) : TIt := fun τ M Q => te τ M fun d M1 => match d with
  | .str z => Q ⟨z.cps.toList.map fun c => .str ⟨#[c]⟩, fun _ => True⟩ M1
  | _ => False
def iRv (ta : TAt) : TIt := fun τ M Q => ta τ M fun ds M1 => match ds with
  | [d] => match lstOf M1 d with
    | some xs => Q ⟨xs.reverse, fun M => lstOf M d = some xs⟩ M1
    | none => False
  | _ => False
section
variable {X : Cx} {E : XK} {Et : XT} {pos p tpos : Pos} {elts : List Expr} {kk : Nat} {tg e e2 : Expr} {ta : TAt} {te : TEt}
theorem enumD_get {xs : List D} {i : Nat} {x : D} (h : (enumD xs)[i]? = some x) : ∃ y, xs[i]? = some y ∧ x = .tup [.int (i : Nat), y] := by
  unfold enumD at h
  rw [List.getElem?_mapIdx] at h
  cases e : xs[i]? with
  | none => rw [e] at h; cases h
  | some y => rw [e] at h; exact ⟨y, rfl, (Option.some.inj h).symm⟩
theorem itOk_enum {K : PySem.W.Frag} {F0 : Hp} {a : Addr} {d : D} {ds : List D} (p : Rp K F0 (.ref a) d) : ItOk K F0 (Ite K a) ⟨enumD ds, fun M => lstOf M d = some ds⟩ where
  go := fun i G F H M x s R h hx => by
    obtain ⟨b, vs, e, hs, r⟩ := lst_of R (p.mono s) h
    cases e
    obtain ⟨y, hy, _⟩ := enumD_get hx
    obtain ⟨v, hv, _⟩ := r.getD hy
    exact ⟨vs, v, hs, hv⟩
  yld := fun i G F H M x v H' s R h hx y => by
    obtain ⟨b, vs, e, hs, r⟩ := lst_of R (p.mono s) h
    cases e
    obtain ⟨z, hz, rfl⟩ := enumD_get hx
    obtain ⟨v', hv, rv⟩ := r.getD hz
    obtain ⟨T, w, rfl, nT, rfl, f⟩ := y
    have := SqL_get hs hv f
    subst this
    obtain ⟨s2, r2⟩ := R.newF (o := .tup [.int (i : Nat), w]) nT
    exact ⟨_, s2, r2, .tup upd_same (.cons (.int _) (.cons (rv.mono s2) .nil))⟩
  stop := fun i G F H M s R h hl => by
    obtain ⟨b, vs, e, hs, r⟩ := lst_of R (p.mono s) h
    cases e
    have hl : (enumD ds).length ≤ i := hl
    unfold enumD at hl
    rw [List.length_mapIdx] at hl
    exact ⟨vs, hs, by rw [r.length]; exact hl⟩
theorem qi_enum (hm : X.mg "enumerate" = none) (ha : QA X E Et [e] ta) (hg : Gl X "enumerate" := by rfl) (hs : starEach [e] X.env = [(false, eval e X.env)] := by rfl) : QI X E Et (.Tuple elts kk tpos) (.Call (.Name "enumerate" p) [e] [] pos) (iEn ta) := by
  refine ⟨fun pins s σ H R I h => (pi_enum hg hm ha hs).run pins s σ H R I ?_⟩
  obtain ⟨G, F, M, τ, Qt, a, h, k⟩ := h
  refine ⟨G, F, M, τ, _, a, h, fun vs F1 H1 M1 ds s1 r1 p1 q1 => ?_⟩
  match ds, p1, q1 with
  | [d], .cons h1 .nil, q1 =>
    have q1 : (match lstOf M1 d with | some xs => Qt ⟨enumD xs, fun M => lstOf M d = some xs⟩ M1 | none => False) := q1
    cases q : lstOf M1 d with
    | none => rw [q] at q1; exact q1.elim
    | some xs =>
      rw [q] at q1
      obtain ⟨b, vs, rfl, hs, r⟩ := lst_of r1 h1 q
      exact ⟨b, vs, rfl, hs, k _ _ F1 H1 M1 s1 r1 (itOk_enum h1) q1⟩
theorem zipD_get {xs ys : List D} {i : Nat} {x : D} (h : (zipD xs ys)[i]? = some x) : ∃ y z, xs[i]? = some y ∧ ys[i]? = some z ∧ x = .tup [y, z] := by
  unfold zipD at h
  rw [List.getElem?_zipWith] at h
  cases e : xs[i]? with
  | none => rw [e] at h; cases h
  | some y =>
    cases e2 : ys[i]? with
    | none => rw [e, e2] at h; cases h
    | some z => rw [e, e2] at h; exact ⟨y, z, rfl, rfl, (Option.some.inj h).symm⟩
theorem itOk_zip {K : PySem.W.Frag} {F0 : Hp} {a b : Addr} {d d2 : D} {ds ds2 : List D} (p : Rp K F0 (.ref a) d) (p2 : Rp K F0 (.ref b) d2) : ItOk K F0 (Itz K a b) ⟨zipD ds ds2, fun M => lstOf M d = some ds ∧ lstOf M d2 = some ds2⟩ where
  go := fun i G F H M x s R h hx => by
    obtain ⟨a', vs, e, hs, r⟩ := lst_of R (p.mono s) h.1
    cases e
    obtain ⟨b', ws, e, hs2, r2⟩ := lst_of R (p2.mono s) h.2
    cases e
    obtain ⟨y, z, hy, hz, _⟩ := zipD_get hx
    obtain ⟨v, hv, _⟩ := r.getD hy
    obtain ⟨w, hw, _⟩ := r2.getD hz
    exact ⟨vs, ws, v, w, hs, hs2, hv, hw⟩
  yld := fun i G F H M x v H' s R h hx y => by
    obtain ⟨a', vs, e, hs, r⟩ := lst_of R (p.mono s) h.1
    cases e
    obtain ⟨b', ws, e, hs2, r2⟩ := lst_of R (p2.mono s) h.2
    cases e
    obtain ⟨y1, z1, hy, hz, rfl⟩ := zipD_get hx
    obtain ⟨v', hv, rv⟩ := r.getD hy
    obtain ⟨w', hw, rw'⟩ := r2.getD hz
    obtain ⟨T, c1, c2, rfl, nT, rfl, f1, f2⟩ := y
    have e1 := SqL_get hs hv f1
    subst e1
    have e2 := SqL_get hs2 hw f2
    subst e2
    obtain ⟨s2, r2⟩ := R.newF (o := .tup [c1, c2]) nT
    exact ⟨_, s2, r2, .tup upd_same (.cons (rv.mono s2) (.cons (rw'.mono s2) .nil))⟩
  stop := fun i G F H M s R h hl => by
    obtain ⟨a', vs, e, hs, r⟩ := lst_of R (p.mono s) h.1
    cases e
    obtain ⟨b', ws, e, hs2, r2⟩ := lst_of R (p2.mono s) h.2
    cases e
    have hl : (zipD ds ds2).length ≤ i := hl
    unfold zipD at hl
    rw [List.length_zipWith] at hl
    exact ⟨vs, ws, hs, hs2, by rw [r.length, r2.length]; omega⟩
theorem qi_zip (hm : X.mg "zip" = none) (ha : QA X E Et [e, e2] ta) (hg : Gl X "zip" := by rfl)
    (hs : starEach [e, e2] X.env = (false, eval e X.env) :: starEach [e2] X.env := by rfl) (hpl : (backTo pos (starEach [e2] X.env)).any (·.1) = false := by rfl) : QI X E Et (.Tuple elts kk tpos) (.Call (.Name "zip" p) [e, e2] [] pos) (iZi ta) := by
  refine ⟨fun pins s σ H R I h => (pi_zip hg hm ha hs hpl).run pins s σ H R I ?_⟩
  obtain ⟨G, F, M, τ, Qt, a, h, k⟩ := h
  refine ⟨G, F, M, τ, _, a, h, fun vs F1 H1 M1 ds s1 r1 p1 q1 => ?_⟩
  match ds, p1, q1 with
  | [d, d2], .cons h1 (.cons h2 .nil), q1 =>
    have q1 : (match lstOf M1 d with | some xs => (match lstOf M1 d2 with | some ys => Qt ⟨zipD xs ys, fun M => lstOf M d = some xs ∧ lstOf M d2 = some ys⟩ M1 | none => False) | none => False) := q1
    cases q : lstOf M1 d with
    | none => rw [q] at q1; exact q1.elim
    | some xs =>
      rw [q] at q1
      have q1 : (match lstOf M1 d2 with | some ys => Qt ⟨zipD xs ys, fun M => lstOf M d = some xs ∧ lstOf M d2 = some ys⟩ M1 | none => False) := q1
      cases qq : lstOf M1 d2 with
      | none => rw [qq] at q1; exact q1.elim
      | some ys =>
        rw [qq] at q1
        obtain ⟨b, vs, rfl, hs, r⟩ := lst_of r1 h1 q
        obtain ⟨c, ws, rfl, hs2, r2⟩ := lst_of r1 h2 qq
        exact ⟨b, c, vs, ws, rfl, hs, hs2, k _ _ F1 H1 M1 s1 r1 (itOk_zip h1 h2) q1⟩
theorem itOk_rangeC {K : PySem.W.Frag} {F0 : Hp} {lo c : Int} {n : Nat} : ItOk K F0 (Itc lo c n) ⟨(List.range n).map fun k => .int (lo + (k : Nat) * c), fun _ => True⟩ where
  go := fun i G F H M x s R _ hx => (range_at hx).1
  yld := fun i G F H M x v H' s R _ hx y => by
    obtain ⟨rfl, rfl⟩ := y
    obtain ⟨_, rfl⟩ := range_at hx
    exact ⟨F, Same.refl _, R, .int _⟩
  stop := fun i G F H M s R _ hl => by
    rw [List.length_map, List.length_range] at hl
    exact hl
theorem qi_range3 {a b c : Expr} (hm : X.mg "range" = none) (ha : QA X E Et [a, b, c] ta) (hg : Gl X "range" := by rfl)
    (hs : starEach [a, b, c] X.env = (false, eval a X.env) :: starEach [b, c] X.env := by rfl) (hpl : (backTo pos (starEach [b, c] X.env)).any (·.1) = false := by rfl) : QI X E Et tg (.Call (.Name "range" p) [a, b, c] [] pos) (iR3 ta) := by
  refine ⟨fun pins s σ H R I h => (pi_range3 hg hm ha hs hpl).run pins s σ H R I ?_⟩
  obtain ⟨G, F, M, τ, Qt, a, h, k⟩ := h
  refine ⟨G, F, M, τ, _, a, h, fun vs F1 H1 M1 ds s1 r1 p1 q1 => ?_⟩
  match ds, p1, q1 with
  | [.int i, .int j, .int c], .cons h1 (.cons h2 (.cons h3 .nil)), q1 =>
    cases h1
    cases h2
    cases h3
    obtain ⟨n, b, q1⟩ := q1
    exact ⟨i, j, c, n, rfl, b, k _ _ F1 H1 M1 s1 r1 itOk_rangeC q1⟩
theorem itOk_str {K : PySem.W.Frag} {F0 : Hp} {z : Str} : ItOk K F0 (L2.Its z) ⟨z.cps.toList.map fun c => .str ⟨#[c]⟩, fun _ => True⟩ where
  go := fun i G F H M x s R _ hx => by
    have := (List.getElem?_eq_some_iff.mp hx).1
    rw [List.length_map] at this
    show i < z.cps.size
    simpa using this
  yld := fun i G F H M x v H' s R _ hx y => by
    obtain ⟨rfl, c, hc, rfl⟩ := y
    have hx : (z.cps.toList.map fun c => D.str ⟨#[c]⟩)[i]? = some x := hx
    rw [List.getElem?_map, Array.getElem?_toList, hc] at hx
    cases hx
    exact ⟨F, Same.refl _, R, .str _⟩
  stop := fun i G F H M s R _ hl => by
    have hl : (z.cps.toList.map fun c => D.str ⟨#[c]⟩).length ≤ i := hl
    rw [List.length_map] at hl
    show z.cps.size ≤ i
    simpa using hl
theorem qi_str (he : QE X E Et e te) : QI X E Et tg e (iSt te) := by
  refine ⟨fun pins s σ H R I h => (pi_str he).run pins s σ H R I ?_⟩
  obtain ⟨G, F, M, τ, Qt, a, h, k⟩ := h
  refine ⟨G, F, M, τ, _, a, h, fun v F1 H1 M1 d s1 r1 p1 q1 => ?_⟩
  cases p1 <;> first | exact (show False from q1).elim | exact ⟨_, rfl, k _ _ F1 H1 M1 s1 r1 itOk_str q1⟩
theorem itOk_rev {K : PySem.W.Frag} {F0 : Hp} {a : Addr} {d : D} {ds : List D} (p : Rp K F0 (.ref a) d) : ItOk K F0 (Itv K a ds.length) ⟨ds.reverse, fun M => lstOf M d = some ds⟩ where
  go := fun i G F H M x s R h hx => by
    obtain ⟨b, vs, e, hs, r⟩ := lst_of R (p.mono s) h
    cases e
    have hx : ds.reverse[i]? = some x := hx
    have hi := (List.getElem?_eq_some_iff.mp hx).1
    rw [List.length_reverse] at hi
    rw [List.getElem?_reverse hi] at hx
    obtain ⟨v, hv, _⟩ := r.getD hx
    exact ⟨hi, vs, v, hs, hv⟩
  yld := fun i G F H M x v H' s R h hx y => by
    obtain ⟨b, vs, e, hs, r⟩ := lst_of R (p.mono s) h
    cases e
    have hx : ds.reverse[i]? = some x := hx
    have hi := (List.getElem?_eq_some_iff.mp hx).1
    rw [List.length_reverse] at hi
    rw [List.getElem?_reverse hi] at hx
    obtain ⟨v', hv, rv⟩ := r.getD hx
    obtain ⟨rfl, f⟩ := y
    have e1 := Option.some.inj ((f _ hs).symm.trans hv)
    subst e1
    exact ⟨F, Same.refl _, R, rv⟩
  stop := fun i G F H M s R h hl => by
    have hl : ds.reverse.length ≤ i := hl
    rw [List.length_reverse] at hl
    exact hl
theorem qi_rev (hm : X.mg "reversed" = none) (ha : QA X E Et [e] ta) (hg : Gl X "reversed" := by rfl) (hs : starEach [e] X.env = [(false, eval e X.env)] := by rfl) : QI X E Et tg (.Call (.Name "reversed" p) [e] [] pos) (iRv ta) := by
  refine ⟨fun pins s σ H R I h => (pi_reversed hg hm ha hs).run pins s σ H R I ?_⟩
  obtain ⟨G, F, M, τ, Qt, a, h, k⟩ := h
  refine ⟨G, F, M, τ, _, a, h, fun vs F1 H1 M1 ds s1 r1 p1 q1 => ?_⟩
  match ds, p1, q1 with
  | [d], .cons h1 .nil, q1 =>
    have q1 : (match lstOf M1 d with | some xs => Qt ⟨xs.reverse, fun M => lstOf M d = some xs⟩ M1 | none => False) := q1
    cases q : lstOf M1 d with
    | none => rw [q] at q1; exact q1.elim
    | some xs =>
      rw [q] at q1
      obtain ⟨b, vs, rfl, hs, r⟩ := lst_of r1 h1 q
      exact ⟨b, vs, rfl, hs, by rw [r.length]; exact k _ _ F1 H1 M1 s1 r1 (itOk_rev h1) q1⟩
end
/-! ### list methods, stores -/
/-- a list of the program's own, frozen or not -/
def trkOf (M : MH) : D → Option (List D)
  | .lst ds => some ds
  | .ref a => match M a with
    | some (.lst ds) => some ds
    | _ => none
  | _ => none
theorem trk_of {K : PySem.W.Frag} {G F H : Hp} {M : MH} {v : V} {d : D} {ds : List D} (R : Rel K G F H M) (p : Rp K F v d) (e : trkOf M d = some ds) : ∃ a vs, v = .ref a ∧ H a = some (.lst vs) ∧ Rps K F vs ds := by
  cases p with
  | lst h r =>
    cases e
    exact ⟨_, _, rfl, R.sub _ _ h, r⟩
  | ref a =>
    unfold trkOf at e
    cases q : M a with
    | none => simp only [q] at e; cases e
    | some o =>
      simp only [q] at e
      obtain ⟨_, u, hu, r⟩ := R.chg a o q
      cases o with
      | lst xs =>
        cases e
        cases u with
        | lst vs => exact ⟨a, vs, rfl, hu, r⟩
        | _ => exact (r : False).elim
      | _ => cases e
  | _ => cases e
def mExtend : RMt := fun x xs M Q => match x, xs with
  | .ref l, [y] => match M l with
    | some (.lst ds) => match trkOf M y with
      | some es => ds.length + es.length ≤ sizeLine ∧ Q .non (mup M l (.lst (ds ++ es)))
      | none => False
    | _ => False
  | _, _ => False
def mPop : RMt := fun x xs M Q => match x, xs with
  | .ref l, [] => match M l with
    | some (.lst ds) => match ds.getLast? with
      | some y => Q y (mup M l (.lst ds.dropLast))
      | none => False
    | _ => False
  | _, _ => False
section
variable {X : Cx} {E : XK} {Et : XT} {o e : Expr} {es : List Expr} {to : TEt} {t : TAt} {apos cpos : Pos}
theorem chg_lst {K : PySem.W.Frag} {G F H : Hp} {M : MH} {l : Addr} {ds : List D} (R : Rel K G F H M) (q : M l = some (.lst ds)) : ∃ vs, H l = some (.lst vs) ∧ Rps K F vs ds := by
  obtain ⟨_, u, hu, r⟩ := R.chg l _ q
  cases u with
  | lst vs => exact ⟨vs, hu, r⟩
  | _ => exact (r : False).elim
theorem q_extend (ho : QE X E Et o to) (ha : QA X E Et (e :: es) t)
    (hbase : attributeBase o "extend" X.env (eval o X.env) = eval o X.env := by rfl)
    (hfew : ((backTo cpos (starEach (e :: es) X.env)).all (fun x => !x.1) && (backToKw cpos (keywordEach [] X.env)).all (fun x => x.1.isSome)
      && decide ((e :: es).length + ([] : List Keyword).length + (if ([] : List Keyword).isEmpty then 0 else 1) < 30)) = true := by rfl)
    (hline : (apos.endLine == cpos.line) = true := by rfl) (hs : starEach (e :: es) X.env = (false, eval e X.env) :: starEach es X.env := by rfl) (hplain : (backTo cpos (starEach es X.env)).any (·.1) = false := by rfl) :
    QE X E Et (.Call (.Attribute o "extend" apos) (e :: es) [] cpos) (tMt mExtend to t) :=
  PEimp (pe_bm PySem.F.plainAttrs_list PySem.F.slot_list_extend PySem.F.type_list_extend mt_extend ho ha hbase hfew hline hs hplain) (lv_bm (by
    rintro x xs H Q ⟨G, F, M, dx, ds, Qt, R, p, ps, h, k⟩
    match dx, ds, p, ps, h with
    | .ref l, [y], .ref _, .cons py .nil, h =>
      have h : (match M l with | some (.lst ds) => (match trkOf M y with | some es => ds.length + es.length ≤ sizeLine ∧ Qt .non (mup M l (.lst (ds ++ es))) | none => False) | _ => False) := h
      cases q : M l with
      | none => simp only [q] at h
      | some mo =>
        cases mo with
        | lst ds =>
          simp only [q] at h
          obtain ⟨vs, hu, r⟩ := chg_lst R q
          cases qb : trkOf M y with
          | none => rw [qb] at h; exact h.elim
          | some es =>
            rw [qb] at h
            obtain ⟨b, ws, rfl, hb, rb⟩ := trk_of R py qb
            refine ⟨l, b, vs, ws, rfl, rfl, hu, hb, by rw [r.length, rb.length]; exact h.1, ?_⟩
            exact k .non F _ _ .non (Same.refl _) (R.put (u := .lst (vs ++ ws)) (o := .lst (ds ++ es)) q (r.append rb)) .non h.2
        | _ => simp only [q] at h))
theorem q_pop (ho : QE X E Et o to) (hbase : attributeBase o "pop" X.env (eval o X.env) = eval o X.env := by rfl) (hline : (apos.endLine == cpos.line) = true := by rfl) : QE X E Et (.Call (.Attribute o "pop" apos) [] [] cpos) (tMt0 mPop to) :=
  PEimp (pe_bm0 PySem.F.plainAttrs_list PySem.F.slot_list_pop PySem.F.type_list_pop mt_pop ho hbase hline) (lv_bm0 (by
    rintro x xs H Q ⟨G, F, M, dx, ds, Qt, R, p, ps, h, k⟩
    match dx, ds, p, ps, h with
    | .ref l, [], .ref _, .nil, h =>
      have h : (match M l with | some (.lst ds) => (match ds.getLast? with | some y => Qt y (mup M l (.lst ds.dropLast)) | none => False) | _ => False) := h
      cases q : M l with
      | none => simp only [q] at h
      | some mo =>
        cases mo with
        | lst ds =>
          simp only [q] at h
          obtain ⟨vs, hu, r⟩ := chg_lst R q
          cases q2 : ds.getLast? with
          | none => rw [q2] at h; exact h.elim
          | some y =>
            rw [q2] at h
            rw [List.getLast?_eq_getElem?] at q2
            obtain ⟨v, hv, rv⟩ := r.getD q2
            refine ⟨l, vs, v, rfl, rfl, hu, by rw [r.length]; exact hv, ?_⟩
            exact k v F _ _ y (Same.refl _) (R.put (u := .lst vs.dropLast) (o := .lst ds.dropLast) q r.dropLast) rv h
        | _ => simp only [q] at h))
/-- l[i] = v -/
def zList : TSett := fun o i v M Q => match o, i with
  | .ref l, .int k => match M l with
    | some (.lst ds) => match ixN ds.length k with
      | some j => Q (mup M l (.lst (ds.set j v)))
      | none => False
    | _ => False
  | _, _ => False
theorem sq_list : PSet X (lSet X.K zList) := by
  intro pins s σ H o i v ov iv u Q I ro ri rv h
  obtain ⟨G, F, M, od, idd, vd, Qt, R, po, pi, pv, h, k⟩ := h
  match od, idd, po, pi, h with
  | .ref l, .int z, .ref _, .int _, h =>
    have h : (match M l with | some (.lst ds) => (match ixN ds.length z with | some j => Qt (mup M l (.lst (ds.set j vd))) | none => False) | _ => False) := h
    cases q : M l with
    | none => simp only [q] at h
    | some mo =>
      cases mo with
      | lst ds =>
        simp only [q] at h
        obtain ⟨vs, hu, r⟩ := chg_lst R q
        cases q2 : ixN ds.length z with
        | none => rw [q2] at h; exact h.elim
        | some j =>
          rw [q2] at h
          refine set_list pins s σ H _ _ v ov iv u Q I ro ri rv ⟨l, vs, z, j, rfl, rfl, hu, by rw [r.length]; exact q2, ?_⟩
          exact k F _ _ (Same.refl _) (R.put (u := .lst (vs.set j v)) (o := .lst (ds.set j vd)) q (r.set pv j)) h
      | _ => simp only [q] at h
end
end Tl

namespace Tl
open PySem PySem.Spec PyProof.Rows L2
/-! ### the readings, unfolded as far as the values are known -/
def oBl (x : D) (k : Bool → Prop) : Prop := match x with
  | .bl c => k c
  | _ => False
def oInt (x : D) (k : Int → Prop) : Prop := match x with
  | .int c => k c
  | _ => False
def oStr (x : D) (k : Str → Prop) : Prop := match x with
  | .str c => k c
  | _ => False
def oTup (x : D) (k : List D → Prop) : Prop := match x with
  | .tup c => k c
  | _ => False
def oSome {α : Type} (x : Option α) (k : α → Prop) : Prop := match x with
  | some c => k c
  | none => False
theorem oBl_i {c : Bool} {k : Bool → Prop} : oBl (.bl c) k = k c := propext Iff.rfl
theorem oInt_i {c : Int} {k : Int → Prop} : oInt (.int c) k = k c := propext Iff.rfl
theorem oStr_i {c : Str} {k : Str → Prop} : oStr (.str c) k = k c := propext Iff.rfl
theorem oTup_i {c : List D} {k : List D → Prop} : oTup (.tup c) k = k c := propext Iff.rfl
theorem oSome_i {α : Type} {c : α} {k : α → Prop} : oSome (some c) k = k c := propext Iff.rfl
theorem oBl_if {p : Prop} [Decidable p] {a b : D} {k : Bool → Prop} : oBl (if p then a else b) k = if p then oBl a k else oBl b k := by split <;> rfl
section
variable {τ : Sg} {M : MH} {Q : VD} {D0 : En} {t u : TSt} {te ta tb : TEt} {tt : TTt} {x y : D} {ds : List D} {n i : Nat} {k : Int} {g : TGt} {gs : TGst} {Qg : Sg → MH → Prop} {QI : Its → MH → Prop} {QO : Option Int → MH → Prop} {QB : Bool → MH → Prop} {tA : TAt} {lo hi : Option Int}
theorem uV : tV i τ M Q = oSome (nth τ i) fun d => Q d M := by unfold tV oSome; cases nth τ i <;> rfl
theorem uBo : tBo te τ M QB = te τ M fun x M1 => oBl x fun c => QB c M1 := by
  unfold tBo oBl
  first | rfl | (congr; first | rfl | (funext x M1; cases x <;> rfl))
theorem uAnV : tAnV ta tb τ M Q = ta τ M fun x M1 => oBl x fun c => if c = true then tb τ M1 Q else Q (.bl false) M1 := by
  unfold tAnV oBl
  first | rfl | (congr; first | rfl | (funext x M1; cases x <;> rfl))
theorem uOrV : tOrV' ta tb τ M Q = ta τ M fun x M1 => oBl x fun c => if c = true then Q (.bl true) M1 else tb τ M1 Q := by
  unfold tOrV' oBl
  first | rfl | (congr; first | rfl | (funext x M1; cases x <;> rfl))
theorem uNoV : tNoV ta τ M Q = ta τ M fun x M1 => oBl x fun c => Q (.bl (!c)) M1 := by
  unfold tNoV oBl
  first | rfl | (congr; first | rfl | (funext x M1; cases x <;> rfl))
theorem uCh {r r' : R2t} {tc : TEt} : tCh r r' ta tb tc τ M Q = ta τ M fun x M1 => tb τ M1 fun y M2 => r x y M2 fun z M3 => oBl z fun k => if k = true then tc τ M3 fun w M4 => r' y w M4 Q else Q (.bl false) M3 := by
  unfold tCh oBl
  first | rfl | (congr; funext x M1; congr; funext y M2; congr; funext z M3; cases z <;> rfl)
theorem uNl0 : gNl [] τ M Qg = Qg τ M := propext Iff.rfl
theorem uCs1 : gCs g gs (x :: ds) τ M Qg = g x τ M fun τ' M' => gs ds τ' M' Qg := propext Iff.rfl
theorem uTp : gTp n gs x τ M Qg = oTup x fun ds => ds.length = n ∧ gs ds τ M Qg := by unfold gTp oTup; cases x <;> rfl
theorem uAg {r : R2t} : sAg i te r D0 τ M = oSome (nth τ i) fun x => te τ M fun y M1 => r x y M1 fun z M2 => D0.nx (τ.set i (some z)) M2 := by unfold sAg oSome; cases nth τ i <;> rfl
theorem uInt {C : Int → Int → Prop} {h : Int → Int → D} : bInt C h x y M Q = oInt x fun i => oInt y fun j => C i j ∧ Q (h i j) M := by unfold bInt oInt; cases x <;> cases y <;> rfl
theorem uInt0 {h : Int → Int → D} : bInt0 h x y M Q = oInt x fun i => oInt y fun j => Q (h i j) M := by unfold bInt0 oInt; cases x <;> cases y <;> rfl
theorem uNegI : uNeg x M Q = oInt x fun i => Q (.int (-i)) M := by unfold uNeg oInt; cases x <;> rfl
theorem uEq : bEq x y M Q = oSome (dScal x y) fun b => Q (.bl b) M := by unfold bEq oSome; cases dScal x y <;> rfl
theorem uNe : bNe x y M Q = oSome (dScal x y) fun b => Q (.bl (!b)) M := by unfold bNe oSome; cases dScal x y <;> rfl
theorem dScal_ii {a b : Int} : dScal (.int a) (.int b) = some (decide (a = b)) := rfl
theorem dScal_ss {a b : Str} : dScal (.str a) (.str b) = some (decide (a = b)) := rfl
theorem dScal_bb {a b : Bool} : dScal (.bl a) (.bl b) = some (decide (a = b)) := rfl
theorem dScal_nn : dScal .non .non = some true := rfl
theorem dScal_ni {a : Int} : dScal .non (.int a) = some false := rfl
theorem dScal_in {a : Int} : dScal (.int a) .non = some false := rfl
theorem dScal_is {a : Int} {s : Str} : dScal (.int a) (.str s) = some false := rfl
theorem dScal_si {a : Int} {s : Str} : dScal (.str s) (.int a) = some false := rfl
theorem uIsN : bIsN x .non M Q = Q (.bl (isNonD x)) M := propext Iff.rfl
theorem uNotN : bNotN x .non M Q = Q (.bl (!isNonD x)) M := propext Iff.rfl
theorem nonD_n : isNonD .non = true := rfl
theorem nonD_i {a : Int} : isNonD (.int a) = false := rfl
theorem nonD_s {a : Str} : isNonD (.str a) = false := rfl
theorem nonD_t {a : List D} : isNonD (.tup a) = false := rfl
theorem nonD_l {a : List D} : isNonD (.lst a) = false := rfl
theorem nonD_b {a : Bool} : isNonD (.bl a) = false := rfl
theorem nonD_r {a : Addr} : isNonD (.ref a) = false := rfl
theorem uCatS : bCatS x y M Q = oStr x fun a => oStr y fun b => a.length + b.length ≤ 16777216 ∧ Q (.str (a ++ b)) M := by unfold bCatS oStr; rw [sizeLine_eq]; cases x <;> cases y <;> rfl
theorem uCatL : bCatL x y M Q = oSome (lstOf M x) fun a => oSome (lstOf M y) fun b => a.length + b.length ≤ 16777216 ∧ Q (.lst (a ++ b)) M := by unfold bCatL oSome; rw [sizeLine_eq]; cases lstOf M x <;> cases lstOf M y <;> rfl
theorem uCatM : bCatM x y M Q = oSome (lstOf M x) fun a => oSome (lstOf M y) fun b => a.length + b.length ≤ 16777216 ∧ ∀ p, M p = none → Q (.ref p) (mup M p (.lst (a ++ b))) := by unfold bCatM oSome; rw [sizeLine_eq]; cases lstOf M x <;> cases lstOf M y <;> rfl
theorem lstOf_l : lstOf M (.lst ds) = some ds := rfl
theorem lstOf_c : lstOf M (.scr ds) = some ds := rfl
theorem lstOf_m {a : Addr} : lstOf (mup M a (.lst ds)) (.ref a) = some ds := by simp only [lstOf, mup_same]
theorem lstOf_at {a : Addr} (h : M a = some (.lst ds)) : lstOf M (.ref a) = some ds := by simp only [lstOf, h]
theorem trkOf_l : trkOf M (.lst ds) = some ds := rfl
theorem trkOf_m {a : Addr} : trkOf (mup M a (.lst ds)) (.ref a) = some ds := by simp only [trkOf, mup_same]
theorem trkOf_at {a : Addr} (h : M a = some (.lst ds)) : trkOf M (.ref a) = some ds := by simp only [trkOf, h]
theorem tupOf_t : tupOf (.tup ds) = some ds := rfl
theorem tupOf_b : tupOf (.tab ds) = some ds := rfl
theorem seqOf_t : seqOf M (.tup ds) = some ds := rfl
theorem seqOf_b : seqOf M (.tab ds) = some ds := rfl
theorem seqOf_l : seqOf M (.lst ds) = some ds := rfl
theorem seqOf_c : seqOf M (.scr ds) = some ds := rfl
theorem seqOf_r {a : Addr} : seqOf M (.ref a) = lstOf M (.ref a) := rfl
theorem uIx_t : bIx (.tup ds) (.int k) M Q = oSome (atI ds k) fun d => Q d M := by
  show (match atI ds k with | some d => Q d M | none => False) = _
  unfold oSome; cases atI ds k <;> rfl
theorem uIx_b : bIx (.tab ds) (.int k) M Q = oSome (atI ds k) fun d => Q d M := by
  show (match atI ds k with | some d => Q d M | none => False) = _
  unfold oSome; cases atI ds k <;> rfl
theorem uIx_l : bIx (.lst ds) (.int k) M Q = oSome (atI ds k) fun d => Q d M := by
  show (match atI ds k with | some d => Q d M | none => False) = _
  unfold oSome; cases atI ds k <;> rfl
theorem uIx_c : bIx (.scr ds) (.int k) M Q = oSome (atI ds k) fun d => Q d M := by
  show (match atI ds k with | some d => Q d M | none => False) = _
  unfold oSome; cases atI ds k <;> rfl
theorem uIx_s {z : Str} : bIx (.str z) (.int k) M Q = (z.length ≤ 16777216 ∧ oSome (atI z.cps.toList k) fun c => Q (.str ⟨#[c]⟩) M) := by
  show (z.length ≤ sizeLine ∧ match atI z.cps.toList k with | some c => Q (.str ⟨#[c]⟩) M | none => False) = _
  unfold oSome; rw [sizeLine_eq]; cases atI z.cps.toList k <;> rfl
theorem uIx_r {a : Addr} : bIx (.ref a) (.int k) M Q = oSome (lstOf M (.ref a)) fun ds => oSome (atI ds k) fun d => Q d M := by
  show (match lstOf M (.ref a) with | some ds => (match atI ds k with | some d => Q d M | none => False) | none => False) = _
  unfold oSome
  cases lstOf M (.ref a) with
  | none => rfl
  | some ds => cases h : atI ds k <;> simp [h]
theorem uYes : oYes te τ M QO = te τ M fun d M1 => oInt d fun i => QO (some i) M1 := by
  unfold oYes oInt
  first | rfl | (congr; first | rfl | (funext x M1; cases x <;> rfl))
theorem uSlL : cSlL x lo hi M Q = oSome (lstOf M x) fun ds => Q (.lst (cutD ds lo hi)) M := by unfold cSlL oSome; cases lstOf M x <;> rfl
theorem uSlM : cSlM x lo hi M Q = oSome (lstOf M x) fun ds => ∀ p, M p = none → Q (.ref p) (mup M p (.lst (cutD ds lo hi))) := by unfold cSlM oSome; cases lstOf M x <;> rfl
theorem uSlS : cSlS x lo hi M Q = oStr x fun z => z.length ≤ 16777216 ∧ Q (.str (cutS z lo hi)) M := by unfold cSlS oStr; rw [sizeLine_eq] <;> (cases x <;> rfl)
theorem uIsi {T : String} : cIsi [x, .ty T] M Q = oSome (dTy M x) fun t => oSome (kitB t T) fun b => Q (.bl b) M := by
  show (match dTy M x with | some t => (match kitB t T with | some b => Q (.bl b) M | none => False) | none => False) = _
  unfold oSome
  cases dTy M x with
  | none => rfl
  | some t => cases h : kitB t T <;> simp [h]
theorem dTy_n : dTy M .non = some "NoneType" := rfl
theorem dTy_b {b : Bool} : dTy M (.bl b) = some "bool" := rfl
theorem dTy_i {i : Int} : dTy M (.int i) = some "int" := rfl
theorem dTy_s {s : Str} : dTy M (.str s) = some "str" := rfl
theorem dTy_t : dTy M (.tup ds) = some "tuple" := rfl
theorem dTy_l : dTy M (.lst ds) = some "list" := rfl
theorem dTy_d {a : Addr} {kvs : List (List Key × D)} (h : M a = some (.dT kvs)) : dTy M (.ref a) = some "dict" := by simp only [dTy, h]
theorem uLen : cLen [x] M Q = oSome (lenOf M x) fun n => Q (.int (n : Int)) M := by
  show (match lenOf M x with | some n => Q (.int (n : Int)) M | none => False) = _
  unfold oSome; cases lenOf M x <;> rfl
theorem lenOf_t : lenOf M (.tup ds) = some ds.length := rfl
theorem lenOf_b : lenOf M (.tab ds) = some ds.length := rfl
theorem lenOf_l : lenOf M (.lst ds) = some ds.length := rfl
theorem lenOf_c : lenOf M (.scr ds) = some ds.length := rfl
theorem lenOf_m {a : Addr} : lenOf (mup M a (.lst ds)) (.ref a) = some ds.length := by simp only [lenOf, mup_same]
theorem lenOf_at {a : Addr} (h : M a = some (.lst ds)) : lenOf M (.ref a) = some ds.length := by simp only [lenOf, h]
theorem lenOf_s {z : Str} (h : z.length ≤ 16777216) : lenOf M (.str z) = some z.length := by
  unfold lenOf; rw [sizeLine_eq]; exact if_pos h
theorem uIntI {i : Int} : cInt [.int i] M Q = Q (.int i) M := propext Iff.rfl
theorem uIntB {b : Bool} : cInt [.bl b] M Q = Q (.int (if b then 1 else 0)) M := propext Iff.rfl
theorem uLs : iLs te τ M QI = te τ M fun d M1 => oSome (lstOf M1 d) fun ds => QI ⟨ds, fun M => lstOf M d = some ds⟩ M1 := by
  unfold iLs oSome
  first | rfl | (congr; funext d M1; cases lstOf M1 d <;> rfl)
theorem uTu : iTu te τ M QI = te τ M fun d M1 => oSome (tupOf d) fun ds => QI ⟨ds, fun _ => True⟩ M1 := by
  unfold iTu oSome
  first | rfl | (congr; funext d M1; cases tupOf d <;> rfl)
def oL1 (ds : List D) (k : D → Prop) : Prop := match ds with
  | [x] => k x
  | _ => False
def oL2 (ds : List D) (k : D → D → Prop) : Prop := match ds with
  | [x, y] => k x y
  | _ => False
def oL3 (ds : List D) (k : D → D → D → Prop) : Prop := match ds with
  | [x, y, z] => k x y z
  | _ => False
theorem oL1_i {x : D} {k : D → Prop} : oL1 [x] k = k x := propext Iff.rfl
theorem oL2_i {x y : D} {k : D → D → Prop} : oL2 [x, y] k = k x y := propext Iff.rfl
theorem oL3_i {x y z : D} {k : D → D → D → Prop} : oL3 [x, y, z] k = k x y z := propext Iff.rfl
theorem uR1 : iR1 tA τ M QI = tA τ M fun ds M1 => oL1 ds fun d => oInt d fun j => (-4611686018427387904 ≤ j ∧ j < 4611686018427387904) ∧ QI ⟨(List.range j.toNat).map fun i => .int (i : Nat), fun _ => True⟩ M1 := by
  unfold iR1
  congr; funext ds M1
  rcases ds with _ | ⟨d, _ | ⟨e, r⟩⟩
  · rfl
  · cases d <;> rfl
  · cases d <;> rfl
theorem uR2 : iR2 tA τ M QI = tA τ M fun ds M1 => oL2 ds fun d e => oInt d fun i => oInt e fun j => (-4611686018427387904 ≤ i ∧ i < 4611686018427387904 ∧ -4611686018427387904 ≤ j ∧ j < 4611686018427387904) ∧ QI ⟨(List.range (j - i).toNat).map fun k => .int (i + (k : Nat)), fun _ => True⟩ M1 := by
  unfold iR2
  congr; funext ds M1
  rcases ds with _ | ⟨d, _ | ⟨e, _ | ⟨f, r⟩⟩⟩
  · rfl
  · cases d <;> rfl
  · cases d <;> cases e <;> rfl
  · cases d <;> cases e <;> rfl
theorem uR3 : iR3 tA τ M QI = tA τ M fun ds M1 => oL3 ds fun d e f => oInt d fun i => oInt e fun j => oInt f fun c => ∃ n, RgC i j c n ∧ QI ⟨(List.range n).map fun k => .int (i + (k : Nat) * c), fun _ => True⟩ M1 := by
  unfold iR3
  congr; funext ds M1
  rcases ds with _ | ⟨d, _ | ⟨e, _ | ⟨f, _ | ⟨f2, r⟩⟩⟩⟩
  · rfl
  · cases d <;> rfl
  · cases d <;> cases e <;> rfl
  · cases d <;> cases e <;> cases f <;> rfl
  · cases d <;> cases e <;> cases f <;> rfl
theorem uEn : iEn tA τ M QI = tA τ M fun ds M1 => oL1 ds fun d => oSome (lstOf M1 d) fun xs => QI ⟨enumD xs, fun M => lstOf M d = some xs⟩ M1 := by
  unfold iEn
  congr; funext ds M1
  rcases ds with _ | ⟨d, _ | ⟨e, r⟩⟩
  · rfl
  · simp only [oL1, oSome]; cases lstOf M1 d <;> rfl
  · rfl
theorem uZi : iZi tA τ M QI = tA τ M fun ds M1 => oL2 ds fun d e => oSome (lstOf M1 d) fun xs => oSome (lstOf M1 e) fun ys => QI ⟨zipD xs ys, fun M => lstOf M d = some xs ∧ lstOf M e = some ys⟩ M1 := by
  unfold iZi
  congr; funext ds M1
  rcases ds with _ | ⟨d, _ | ⟨e, _ | ⟨f, r⟩⟩⟩
  · rfl
  · rfl
  · simp only [oL2, oSome]; cases lstOf M1 d <;> cases lstOf M1 e <;> rfl
  · rfl
theorem uSt : iSt te τ M QI = te τ M fun d M1 => oStr d fun z => QI ⟨z.cps.toList.map fun c => .str ⟨#[c]⟩, fun _ => True⟩ M1 := by
  unfold iSt oStr
  first | rfl | (congr; first | rfl | (funext x M1; cases x <;> rfl))
theorem uRv : iRv tA τ M QI = tA τ M fun ds M1 => oL1 ds fun d => oSome (lstOf M1 d) fun xs => QI ⟨xs.reverse, fun M => lstOf M d = some xs⟩ M1 := by
  unfold iRv
  congr; funext ds M1
  rcases ds with _ | ⟨d, _ | ⟨e, r⟩⟩
  · rfl
  · simp only [oL1, oSome]; cases lstOf M1 d <;> rfl
  · rfl
theorem uDivmod : cDivmod [x, y] M Q = oInt x fun i => oInt y fun j => CDivZ i j ∧ Q (.tup [.int (i.fdiv j), .int (i.fmod j)]) M := by unfold oInt; cases x <;> cases y <;> rfl
theorem uList : cList [x] M Q = oSome (seqOf M x) fun es => Q (.lst es) M := by
  show (match seqOf M x with | some es => Q (.lst es) M | none => False) = _
  unfold oSome; cases seqOf M x <;> rfl
theorem uListM : cListM [x] M Q = oSome (seqOf M x) fun es => ∀ p, M p = none → Q (.ref p) (mup M p (.lst es)) := by
  show (match seqOf M x with | some es => ∀ p, M p = none → Q (.ref p) (mup M p (.lst es)) | none => False) = _
  unfold oSome; cases seqOf M x <;> rfl
theorem uSum : cSum [x] M Q = oSome (intLst M x) fun is => Q (.int is.sum) M := by
  show (match intLst M x with | some is => Q (.int is.sum) M | none => False) = _
  unfold oSome; cases intLst M x <;> rfl
theorem uMax : cMax [x] M Q = oSome (intLst M x) fun is => 0 < is.length ∧ ∀ m, m ∈ is → (∀ y, y ∈ is → y ≤ m) → Q (.int m) M := by
  show (match intLst M x with | some is => 0 < is.length ∧ ∀ m, m ∈ is → (∀ y, y ∈ is → y ≤ m) → Q (.int m) M | none => False) = _
  unfold oSome; cases intLst M x <;> rfl
theorem uMin : cMin [x] M Q = oSome (intLst M x) fun is => 0 < is.length ∧ ∀ m, m ∈ is → (∀ y, y ∈ is → m ≤ y) → Q (.int m) M := by
  show (match intLst M x with | some is => 0 < is.length ∧ ∀ m, m ∈ is → (∀ y, y ∈ is → m ≤ y) → Q (.int m) M | none => False) = _
  unfold oSome; cases intLst M x <;> rfl
theorem intLst_l {is : List Int} : intLst M (.lst (is.map D.int)) = some is := intsD_map is
theorem intLst_c {is : List Int} : intLst M (.scr (is.map D.int)) = some is := intsD_map is
theorem blLst_l {is : List Bool} : blLst M (.lst (is.map D.bl)) = some is := blsD_map is
theorem uMax2 : cMax2 [x, y] M Q = oInt x fun i => oInt y fun j => Q (.int (if j > i then j else i)) M := by unfold oInt; cases x <;> cases y <;> rfl
theorem uMin2 : cMin2 [x, y] M Q = oInt x fun i => oInt y fun j => Q (.int (if j < i then j else i)) M := by unfold oInt; cases x <;> cases y <;> rfl
theorem uAbs : cAbs [x] M Q = oInt x fun i => Q (.int (if i < 0 then -i else i)) M := by unfold oInt; cases x <;> rfl
theorem uAny : cAny [x] M Q = oSome (blLst M x) fun is => Q (.bl (is.any id)) M := by
  show (match blLst M x with | some is => Q (.bl (is.any id)) M | none => False) = _
  unfold oSome; cases blLst M x <;> rfl
theorem uAll : cAll [x] M Q = oSome (blLst M x) fun is => Q (.bl (is.all id)) M := by
  show (match blLst M x with | some is => Q (.bl (is.all id)) M | none => False) = _
  unfold oSome; cases blLst M x <;> rfl
def mLst (M : MH) (a : Addr) : Option (List D) := match M a with
  | some (.lst ds) => some ds
  | _ => none
theorem mLst_m {a : Addr} : mLst (mup M a (.lst ds)) a = some ds := by unfold mLst; rw [mup_same]
theorem mLst_at {a : Addr} (h : M a = some (.lst ds)) : mLst M a = some ds := by unfold mLst; rw [h]
theorem uAppend {l : Addr} : mAppend (.ref l) [y] M Q = oSome (mLst M l) fun ds => ds.length < 16777216 ∧ Q .non (mup M l (.lst (ds ++ [y]))) := by
  show (match M l with | some (.lst ds) => ds.length < sizeLine ∧ Q .non (mup M l (.lst (ds ++ [y]))) | _ => False) = _
  unfold oSome mLst; rw [sizeLine_eq]
  cases M l with
  | none => rfl
  | some o => cases o <;> rfl
theorem uExtend {l : Addr} : mExtend (.ref l) [y] M Q = oSome (mLst M l) fun ds => oSome (trkOf M y) fun es => ds.length + es.length ≤ 16777216 ∧ Q .non (mup M l (.lst (ds ++ es))) := by
  show (match M l with | some (.lst ds) => (match trkOf M y with | some es => ds.length + es.length ≤ sizeLine ∧ Q .non (mup M l (.lst (ds ++ es))) | none => False) | _ => False) = _
  unfold oSome mLst; rw [sizeLine_eq]
  cases M l with
  | none => rfl
  | some o => cases o <;> first | rfl | (cases h : trkOf M y <;> simp [h])
theorem uPop {l : Addr} : mPop (.ref l) [] M Q = oSome (mLst M l) fun ds => oSome ds.getLast? fun y => Q y (mup M l (.lst ds.dropLast)) := by
  show (match M l with | some (.lst ds) => (match ds.getLast? with | some y => Q y (mup M l (.lst ds.dropLast)) | none => False) | _ => False) = _
  unfold oSome mLst
  cases M l with
  | none => rfl
  | some o =>
    cases o with
    | lst ds => cases h : ds.getLast? <;> simp [h]
    | _ => rfl
theorem uSet {l : Addr} {Qm : MH → Prop} : zList (.ref l) (.int k) y M Qm = oSome (mLst M l) fun ds => oSome (ixN ds.length k) fun j => Qm (mup M l (.lst (ds.set j y))) := by
  show (match M l with | some (.lst ds) => (match ixN ds.length k with | some j => Qm (mup M l (.lst (ds.set j y))) | none => False) | _ => False) = _
  unfold oSome mLst
  cases M l with
  | none => rfl
  | some o =>
    cases o with
    | lst ds => cases h : ixN ds.length k <;> simp [h]
    | _ => rfl
theorem uLcV {ti : TIt} {vs : List Nat} : tLcV ti g tt te vs τ M Q = tLcF ti g tt te vs τ M fun d M1 => (match d with | .lst acc => ∀ p, M1 p = none → Q (.ref p) (mup M1 p (.lst acc)) | _ => False) := rfl
theorem lMt_l : (lstOf M (.lst ds)).isSome = true := rfl
theorem isS_m {a : Addr} : (lstOf (mup M a (.lst ds)) (.ref a)).isSome = true := by rw [lstOf_m]; rfl
theorem atI_0 {α : Type} {x : α} {r : List α} : atI (x :: r) 0 = some x := atI_nat (j := 0) rfl
theorem atI_1 {α : Type} {x y : α} {r : List α} : atI (x :: y :: r) 1 = some y := atI_nat (j := 1) rfl
theorem atI_2 {α : Type} {x y z : α} {r : List α} : atI (x :: y :: z :: r) 2 = some z := atI_nat (j := 2) rfl
theorem atI_3 {α : Type} {x y z a : α} {r : List α} : atI (x :: y :: z :: a :: r) 3 = some a := atI_nat (j := 3) rfl
theorem atI_4 {α : Type} {x y z a b : α} {r : List α} : atI (x :: y :: z :: a :: b :: r) 4 = some b := atI_nat (j := 4) rfl
theorem atI_5 {α : Type} {x y z a b c : α} {r : List α} : atI (x :: y :: z :: a :: b :: c :: r) 5 = some c := atI_nat (j := 5) rfl
end
end Tl

namespace Tl
open PySem PySem.Spec PyProof.Rows L2
/-! ### comprehensions whose turns change nothing -/
/-- what is kept and what it comes to; what is left out -/
inductive Sel {α β : Type} (P : α → β → Prop) (N : α → Prop) : List α → List β → Prop
  | nil : Sel P N [] []
  | keep {x : α} {y : β} {xs : List α} {ys : List β} (h : P x y) (t : Sel P N xs ys) : Sel P N (x :: xs) (y :: ys)
  | drop {x : α} {xs : List α} {ys : List β} (h : N x) (t : Sel P N xs ys) : Sel P N (x :: xs) ys
section
variable {α β : Type} {P : α → β → Prop} {N : α → Prop}
theorem Sel.snoc_keep {xs : List α} {ys : List β} {x : α} {y : β} (h : Sel P N xs ys) (p : P x y) : Sel P N (xs ++ [x]) (ys ++ [y]) := by
  induction h with
  | nil => exact .keep p .nil
  | keep h t ih => exact .keep h ih
  | drop h t ih => exact .drop h ih
theorem Sel.snoc_drop {xs : List α} {ys : List β} {x : α} (h : Sel P N xs ys) (p : N x) : Sel P N (xs ++ [x]) ys := by
  induction h with
  | nil => exact .drop p .nil
  | keep h t ih => exact .keep h ih
  | drop h t ih => exact .drop h ih
theorem Sel.len {xs : List α} {ys : List β} (h : Sel P N xs ys) : ys.length ≤ xs.length := by
  induction h with
  | nil => exact Nat.le_refl _
  | keep h t ih => exact Nat.succ_le_succ ih
  | drop h t ih => exact Nat.le_succ_of_le ih
theorem Sel.map {f : α → β} {xs : List α} {ys : List β} (h : Sel (fun x y => y = f x) (fun _ => False) xs ys) : ys = xs.map f := by
  induction h with
  | nil => rfl
  | keep h t ih => rw [h, ih]; rfl
  | drop h t ih => exact h.elim
theorem Sel.filter {f : α → β} {p : α → Bool} {xs : List α} {ys : List β} (h : Sel (fun x y => p x = true ∧ y = f x) (fun x => p x = false) xs ys) : ys = (xs.filter p).map f := by
  induction h with
  | nil => rfl
  | keep h t ih => rw [List.filter_cons, if_pos h.1, h.2, ih]; rfl
  | drop h t ih => rw [List.filter_cons, if_neg (by rw [h]; decide), ih]
theorem Sel.ex {α β γ : Type} {Pz : α → γ → Prop} {Nz : α → Prop} {a : γ → β} {xs : List α} {ys : List β} (h : Sel (fun x y => ∃ b, y = a b ∧ Pz x b) Nz xs ys) : ∃ bs : List γ, ys = bs.map a ∧ ∀ b ∈ bs, ∃ x ∈ xs, Pz x b := by
  induction h with
  | nil => exact ⟨[], rfl, by simp⟩
  | @keep x y xs ys h t ih =>
    obtain ⟨ms, rfl, h2⟩ := ih
    obtain ⟨n, rfl, hn⟩ := h
    refine ⟨n :: ms, rfl, fun b hb => ?_⟩
    rcases List.mem_cons.mp hb with rfl | hm
    · exact ⟨x, List.mem_cons_self .., hn⟩
    · obtain ⟨x', hx, hp⟩ := h2 b hm
      exact ⟨x', List.mem_cons_of_mem _ hx, hp⟩
  | drop h t ih =>
    obtain ⟨ms, rfl, h2⟩ := ih
    refine ⟨ms, rfl, fun b hb => ?_⟩
    obtain ⟨x', hx, hp⟩ := h2 b hb
    exact ⟨x', List.mem_cons_of_mem _ hx, hp⟩
theorem Sel.all {Z : β → Prop} {xs : List α} {ys : List β} (h : Sel P N xs ys) (hz : ∀ x y, x ∈ xs → P x y → Z y) : ∀ y ∈ ys, Z y := by
  induction h with
  | nil => intro y hy; cases hy
  | keep h t ih =>
    intro y hy
    rcases List.mem_cons.mp hy with e | hy
    · rw [e]; exact hz _ _ (List.mem_cons_self ..) h
    · exact ih (fun x y hx => hz x y (List.mem_cons_of_mem _ hx)) y hy
  | drop h t ih => exact ih (fun x y hx => hz x y (List.mem_cons_of_mem _ hx))
end
section
variable {ti : TIt} {g : TGt} {tt : TTt} {te : TEt} {vs : List Nat} {τ : Sg} {M : MH} {Q : VD}
/-- the rest of a comprehension when its source is known -/
def LcGo (g : TGt) (tt : TTt) (te : TEt) (vs : List Nat) (τ : Sg) (Q : VD) (I : Its) (M1 : MH) : Prop := I.items.length < sizeLine ∧ ∃ W : Nat → List D → MH → Prop, W 0 [] M1 ∧ (∀ i acc M, W i acc M → I.src M ∧ acc.length ≤ i) ∧
  (∀ i x acc M, I.items[i]? = some x → W i acc M → g x (wip τ vs) M fun τ2 M2 => tt τ2 M2 fun b M3 => if b = true then te τ2 M3 fun y M4 => W (i + 1) (acc ++ [y]) M4 else W (i + 1) acc M3) ∧ ∀ acc M, W I.items.length acc M → Q (.lst acc) M
theorem uLcF : tLcF ti g tt te vs τ M Q = ti τ M (LcGo g tt te vs τ Q) := propext Iff.rfl
def asRef (Q : VD) : VD := fun d M1 => match d with
  | .lst acc => ∀ p, M1 p = none → Q (.ref p) (mup M1 p (.lst acc))
  | _ => False
theorem uLcV' : tLcV ti g tt te vs τ M Q = ti τ M (LcGo g tt te vs τ (asRef Q)) := rfl
theorem uAsRef {acc : List D} : asRef Q (.lst acc) M = ∀ p, M p = none → Q (.ref p) (mup M p (.lst acc)) := propext Iff.rfl
/-- a comprehension, from the left: W holds of what was gathered -/
theorem lc_any {I : Its} {M : MH} (W : Nat → List D → MH → Prop) (hz : I.items.length < sizeLine) (w0 : W 0 [] M) (ws : ∀ i acc M, W i acc M → I.src M ∧ acc.length ≤ i)
    (hs : ∀ i x acc M, I.items[i]? = some x → W i acc M → g x (wip τ vs) M fun τ2 M2 => tt τ2 M2 fun b M3 => if b = true then te τ2 M3 fun y M4 => W (i + 1) (acc ++ [y]) M4 else W (i + 1) acc M3) (hd : ∀ acc M, W I.items.length acc M → Q (.lst acc) M) :
    LcGo g tt te vs τ Q I M := ⟨hz, W, w0, ws, hs, hd⟩
theorem lc_sel {I : Its} (P : D → D → Prop) (N : D → Prop) (hz : I.items.length < sizeLine) (hs : I.src M)
    (h : ∀ (i : Nat) (x : D) (R1 : VD) (R0 : MH → Prop), I.items[i]? = some x → (∀ y, P x y → R1 y M) → (N x → R0 M) → g x (wip τ vs) M fun τ2 M2 => tt τ2 M2 fun b M3 => if b = true then te τ2 M3 R1 else R0 M3)
    (k : ∀ acc, Sel P N I.items acc → Q (.lst acc) M) : LcGo g tt te vs τ Q I M := by
  have tk : ∀ {i : Nat} {x : D}, I.items[i]? = some x → I.items.take (i + 1) = I.items.take i ++ [x] := fun {i x} e => by
    rw [List.take_add_one, e]; rfl
  refine ⟨hz, fun i acc M' => M' = M ∧ i ≤ I.items.length ∧ Sel P N (I.items.take i) acc, ⟨rfl, Nat.zero_le _, .nil⟩, ?_, ?_, ?_⟩
  · rintro i acc _ ⟨rfl, hi, s⟩
    have := s.len
    rw [List.length_take] at this
    exact ⟨hs, by omega⟩
  · rintro i x acc _ hx ⟨rfl, hi, s⟩
    have hi' := (List.getElem?_eq_some_iff.mp hx).1
    refine h i x _ _ hx (fun y p => ⟨rfl, hi', ?_⟩) (fun n => ⟨rfl, hi', ?_⟩)
    · rw [tk hx]; exact s.snoc_keep p
    · rw [tk hx]; exact s.snoc_drop n
  · rintro acc _ ⟨rfl, _, s⟩
    rw [List.take_length] at s
    exact k acc s
/-- a comprehension that computes f of each item, and keeps the memory -/
theorem lc_map {I : Its} (xs : List α) (a : α → D) (f : α → D) (hi : I.items = xs.map a) (hz : xs.length < sizeLine) (hs : I.src M)
    (h : ∀ (x : α) (R1 : VD) (R0 : MH → Prop), x ∈ xs → R1 (f x) M → g (a x) (wip τ vs) M fun τ2 M2 => tt τ2 M2 fun b M3 => if b = true then te τ2 M3 R1 else R0 M3)
    (k : Q (.lst (xs.map f)) M) : LcGo g tt te vs τ Q I M := by
  refine ⟨by rw [hi, List.length_map]; exact hz, fun i acc M' => M' = M ∧ acc = (xs.take i).map f, ⟨rfl, by simp⟩, ?_, ?_, ?_⟩
  · rintro i acc _ ⟨rfl, rfl⟩
    exact ⟨hs, by simp only [List.length_map, List.length_take]; omega⟩
  · rintro i x acc _ hx ⟨rfl, rfl⟩
    rw [hi, List.getElem?_map] at hx
    obtain ⟨y, hy, rfl⟩ := Option.map_eq_some_iff.mp hx
    refine h y _ _ (List.mem_of_getElem? hy) ⟨rfl, ?_⟩
    rw [List.take_add_one, hy]; simp
  · rintro acc _ ⟨rfl, rfl⟩
    rw [hi, List.length_map, List.take_length]
    exact k
/-- a comprehension that keeps the items that answer p, and computes f of them -/
theorem lc_filter {I : Its} (xs : List α) (a : α → D) (p : α → Bool) (f : α → D) (hi : I.items = xs.map a) (hz : xs.length < sizeLine) (hs : I.src M)
    (h : ∀ (x : α) (R1 : VD) (R0 : MH → Prop), x ∈ xs → (p x = true → R1 (f x) M) → (p x = false → R0 M) → g (a x) (wip τ vs) M fun τ2 M2 => tt τ2 M2 fun b M3 => if b = true then te τ2 M3 R1 else R0 M3)
    (k : Q (.lst ((xs.filter p).map f)) M) : LcGo g tt te vs τ Q I M := by
  refine ⟨by rw [hi, List.length_map]; exact hz, fun i acc M' => M' = M ∧ acc = ((xs.take i).filter p).map f, ⟨rfl, by simp⟩, ?_, ?_, ?_⟩
  · rintro i acc _ ⟨rfl, rfl⟩
    refine ⟨hs, ?_⟩
    simp only [List.length_map]
    have := List.length_filter_le p (xs.take i)
    rw [List.length_take] at this
    omega
  · rintro i x acc _ hx ⟨rfl, rfl⟩
    rw [hi, List.getElem?_map] at hx
    obtain ⟨y, hy, rfl⟩ := Option.map_eq_some_iff.mp hx
    refine h y _ _ (List.mem_of_getElem? hy) (fun e => ⟨rfl, ?_⟩) fun e => ⟨rfl, ?_⟩
    · rw [List.take_add_one, hy]; simp [List.filter_append, e]
    · rw [List.take_add_one, hy]; simp [List.filter_append, e]
  · rintro acc _ ⟨rfl, rfl⟩
    rw [hi, List.length_map, List.take_length]
    exact k
end
/-- the rest of a loop when its source is known -/
def ForGo (g : TGt) (tb : TSt) (D0 : En) (τ : Sg) (I : Its) (M1 : MH) : Prop := ∃ W : Nat → Sg → MH → Prop, W 0 τ M1 ∧ (∀ i τ M, W i τ M → I.src M) ∧
  (∀ i x τ M, I.items[i]? = some x → W i τ M → g x τ M fun τ2 M2 => tb { D0 with nx := W (i + 1), ct := W (i + 1), bk := D0.nx } τ2 M2) ∧ ∀ τ M, W I.items.length τ M → D0.nx τ M
theorem uFo {ti : TIt} {g : TGt} {tb : TSt} {D0 : En} {τ : Sg} {M : MH} : sFo ti g tb D0 τ M = ti τ M (ForGo g tb D0 τ) := propext Iff.rfl
/-- a loop whose turns keep a word of the slots, from the left; a return on the way ends it -/
theorem for_any {I : Its} {g : TGt} {tb : TSt} {D0 : En} {τ : Sg} {M : MH} (W : Nat → Sg → MH → Prop) (w0 : W 0 τ M) (ws : ∀ i τ M, W i τ M → I.src M)
    (hs : ∀ i x τ M, I.items[i]? = some x → W i τ M → g x τ M fun τ2 M2 => tb { D0 with nx := W (i + 1), ct := W (i + 1), bk := D0.nx } τ2 M2) (hd : ∀ τ M, W I.items.length τ M → D0.nx τ M) :
    ForGo g tb D0 τ I M := ⟨W, w0, ws, hs, hd⟩
/-- the same over a mapped list, the invariant told of what is done -/
theorem for_map {I : Its} {g : TGt} {tb : TSt} {D0 : En} {τ : Sg} {M : MH} (xs : List α) (a : α → D) (hi : I.items = xs.map a) (W : List α → Sg → MH → Prop) (w0 : W [] τ M) (ws : ∀ ys τ M, W ys τ M → I.src M)
    (hs : ∀ ys x zs τ M (Nx : Sg → MH → Prop), xs = ys ++ x :: zs → W ys τ M → (∀ τ' M', W (ys ++ [x]) τ' M' → Nx τ' M') → g (a x) τ M fun τ2 M2 => tb { D0 with nx := Nx, ct := Nx, bk := D0.nx } τ2 M2) (hd : ∀ τ M, W xs τ M → D0.nx τ M) :
    ForGo g tb D0 τ I M := by
  refine ⟨fun i => W (xs.take i), by simpa using w0, fun i τ M w => ws _ τ M w, ?_, ?_⟩
  · intro i x τ M hx w
    rw [hi, List.getElem?_map] at hx
    obtain ⟨y, hy, rfl⟩ := Option.map_eq_some_iff.mp hx
    have hl := (List.getElem?_eq_some_iff.mp hy)
    obtain ⟨h1, h2⟩ := hl
    refine hs (xs.take i) y (xs.drop (i + 1)) τ M _ ?_ w fun τ' M' w' => ?_
    · rw [← h2, List.getElem_cons_drop, List.take_append_drop]
    · show W (xs.take (i + 1)) τ' M'
      rw [List.take_add_one, hy]; exact w'
  · intro τ M w
    refine hd τ M ?_
    rw [hi, List.length_map, List.take_length] at w
    exact w
/-- a while loop with a measure -/
theorem wh_any {c : TTt} {tb : TSt} {D0 : En} {τ : Sg} {M : MH} (W : Nat → Sg → MH → Prop) (m : Nat) (w0 : W m τ M)
    (hs : ∀ m τ M, W m τ M → c τ M fun b M1 => if b = true then tb { D0 with nx := fun τ' M' => ∃ m', m' < m ∧ W m' τ' M', ct := fun τ' M' => ∃ m', m' < m ∧ W m' τ' M', bk := D0.nx } τ M1 else D0.nx τ M1) : sWh c tb D0 τ M := ⟨W, ⟨m, w0⟩, hs⟩
end Tl

namespace Tl
open PySem PySem.Spec PyProof.Rows L2

/-! ### instances -/
def oObj (M : MH) (x : D) (k : Addr → Addr → Addr → List Str → List D → Prop) : Prop := match x with
  | .ref a => match M a with
    | some (.obj C dx fl ds) => k a C dx fl ds
    | _ => False
  | _ => False
theorem oObj_i {M : MH} {a C dx : Addr} {fl : List Str} {ds : List D} {k : Addr → Addr → Addr → List Str → List D → Prop} (h : M a = some (.obj C dx fl ds)) : oObj M (.ref a) k = k a C dx fl ds := by
  unfold oObj; simp only [h]
theorem oObj_e {M : MH} {x : D} {k : Addr → Addr → Addr → List Str → List D → Prop} (h : oObj M x k) : ∃ a C dx fl ds, x = .ref a ∧ M a = some (.obj C dx fl ds) ∧ k a C dx fl ds := by
  unfold oObj at h
  cases x with
  | ref a =>
    cases e : M a with
    | none => simp only [e] at h
    | some o =>
      cases o with
      | obj C dx fl ds => simp only [e] at h; exact ⟨a, C, dx, fl, ds, rfl, e, h⟩
      | _ => simp only [e] at h
  | _ => exact h.elim
theorem RpO_obj {K : PySem.W.Frag} {F : Hp} {u : HO} {C dx : Addr} {fl : List Str} {ds : List D} (r : RpO K F u (.obj C dx fl ds)) : ∃ fs, u = .ins C dx fs ∧ fl.Nodup ∧ fs.map (·.1) = fl.take ds.length ∧ Rps K F (fs.map (·.2)) ds := by
  cases u with
  | ins C1 dx1 fs =>
    obtain ⟨rfl, rfl, nd, hn, rr⟩ := r
    exact ⟨fs, rfl, nd, hn, rr⟩
  | _ => exact (r : False).elim
def nthD : List D → Nat → Option D
  | [], _ => none
  | x :: _, 0 => some x
  | _ :: t, n + 1 => nthD t n
def putD : List D → Nat → D → List D
  | [], _, d => [d]
  | _ :: t, 0, d => d :: t
  | x :: t, n + 1, d => x :: putD t n d
theorem nthD_get : ∀ {l : List D} {i : Nat} {d : D}, nthD l i = some d → l[i]? = some d
  | [], _, _, h => by cases h
  | x :: _, 0, d, h => by rw [List.getElem?_cons_zero]; exact h
  | _ :: t, n + 1, d, h => by rw [List.getElem?_cons_succ]; exact nthD_get (l := t) h
theorem look_at {f : Str} {v : V} : ∀ {fs : List (Str × V)} {i : Nat}, (fs.map (·.1)).Nodup → fs[i]? = some (f, v) → fs.lookup f = some v
  | [], _, _, h => by rw [List.getElem?_nil] at h; cases h
  | (g, x) :: r, 0, _, h => by
    rw [List.getElem?_cons_zero] at h
    cases h
    show (match f == f with | true => some v | false => r.lookup f) = some v
    rw [show (f == f) = true from beq_iff_eq.mpr rfl]
  | (g, x) :: r, n + 1, nd, h => by
    rw [List.getElem?_cons_succ] at h
    have hm : f ∈ r.map (·.1) := List.mem_map.mpr ⟨(f, v), List.mem_of_getElem? h, rfl⟩
    have nd2 := List.nodup_cons.mp (show (g :: r.map (·.1)).Nodup from nd)
    have ne : (f == g) = false := beq_eq_false_iff_ne.mpr fun e => nd2.1 (e ▸ hm)
    show (match f == g with | true => some x | false => r.lookup f) = some v
    rw [ne]
    exact look_at nd2.2 h
theorem look_not {f : Str} : ∀ {fs : List (Str × V)}, f ∉ fs.map (·.1) → fs.lookup f = none
  | [], _ => rfl
  | (g, x) :: r, h => by
    have h2 : f ∉ g :: r.map (·.1) := h
    rw [List.mem_cons, not_or] at h2
    show (match f == g with | true => some x | false => r.lookup f) = none
    rw [show (f == g) = false from beq_eq_false_iff_ne.mpr h2.1]
    exact look_not h2.2
theorem putF_at {f : Str} {v v0 : V} : ∀ {fs : List (Str × V)} {i : Nat}, (fs.map (·.1)).Nodup → fs[i]? = some (f, v0) → putF f v fs = fs.set i (f, v)
  | [], _, _, h => by rw [List.getElem?_nil] at h; cases h
  | (g, x) :: r, 0, _, h => by
    rw [List.getElem?_cons_zero] at h
    cases h
    show (if f = f then (f, v) :: r else (f, v0) :: putF f v r) = (f, v) :: r
    rw [if_pos rfl]
  | (g, x) :: r, n + 1, nd, h => by
    rw [List.getElem?_cons_succ] at h
    have hm : f ∈ r.map (·.1) := List.mem_map.mpr ⟨(f, v0), List.mem_of_getElem? h, rfl⟩
    have nd2 := List.nodup_cons.mp (show (g :: r.map (·.1)).Nodup from nd)
    show (if g = f then (g, v) :: r else (g, x) :: putF f v r) = (g, x) :: r.set n (f, v)
    rw [if_neg fun e : g = f => nd2.1 (e ▸ hm), putF_at nd2.2 h]
theorem putF_new {f : Str} {v : V} : ∀ {fs : List (Str × V)}, f ∉ fs.map (·.1) → putF f v fs = fs ++ [(f, v)]
  | [], _ => rfl
  | (g, x) :: r, h => by
    have h2 : f ∉ g :: r.map (·.1) := h
    rw [List.mem_cons, not_or] at h2
    show (if g = f then (g, v) :: r else (g, x) :: putF f v r) = (g, x) :: (r ++ [(f, v)])
    rw [if_neg fun e : g = f => h2.1 e.symm, putF_new h2.2]
theorem putD_lt : ∀ {ds : List D} {i : Nat} {d : D}, i < ds.length → putD ds i d = ds.set i d
  | [], _, _, h => absurd h (Nat.not_lt_zero _)
  | _ :: _, 0, _, _ => rfl
  | x :: t, n + 1, d, h => by
    show x :: putD t n d = x :: t.set n d
    rw [putD_lt (Nat.lt_of_succ_lt_succ h)]
theorem putD_eq : ∀ {ds : List D} {d : D}, putD ds ds.length d = ds ++ [d]
  | [], _ => rfl
  | x :: t, d => by
    show x :: putD t t.length d = x :: (t ++ [d])
    rw [putD_eq]
theorem take_not {α : Type} {fl : List α} (nd : fl.Nodup) {n i : Nat} {f : α} (h : fl[i]? = some f) (hi : n ≤ i) : f ∉ fl.take n := by
  intro hm
  obtain ⟨j, hj⟩ := List.mem_iff_getElem?.mp hm
  have hj2 : j < n := by
    have := (List.getElem?_eq_some_iff.mp hj).1
    rw [List.length_take] at this; omega
  rw [List.getElem?_take_of_lt hj2] at hj
  obtain ⟨h1, e1⟩ := List.getElem?_eq_some_iff.mp h
  obtain ⟨h2, e2⟩ := List.getElem?_eq_some_iff.mp hj
  have := (List.getElem?_inj h2 nd).mp (hj.trans h.symm)
  omega
section
variable {K : PySem.W.Frag} {F : Hp} {fs : List (Str × V)} {fl : List Str} {ds : List D}
theorem fs_get (nd : fl.Nodup) (hn : fs.map (·.1) = fl.take ds.length) (r : Rps K F (fs.map (·.2)) ds) {i : Nat} {f : Str} {d : D} (hf : fl[i]? = some f) (hd : ds[i]? = some d) : ∃ v, fs.lookup f = some v ∧ fs[i]? = some (f, v) ∧ Rp K F v d := by
  obtain ⟨v, hv, rv⟩ := r.getD hd
  rw [List.getElem?_map] at hv
  obtain ⟨⟨g, v'⟩, e, rfl⟩ := Option.map_eq_some_iff.mp hv
  have hl := (List.getElem?_eq_some_iff.mp hd).1
  have h1 : (fs.map (·.1))[i]? = some g := by rw [List.getElem?_map, e]; rfl
  rw [hn, List.getElem?_take_of_lt hl, hf] at h1
  cases h1
  exact ⟨v', look_at (by rw [hn]; exact (List.take_sublist _ _).nodup nd) e, e, rv⟩
theorem fs_put (nd : fl.Nodup) (hn : fs.map (·.1) = fl.take ds.length) (r : Rps K F (fs.map (·.2)) ds) {i : Nat} {f : Str} {v : V} {d : D} (hf : fl[i]? = some f) (hi : i ≤ ds.length) (rv : Rp K F v d) :
    (putF f v fs).map (·.1) = fl.take (putD ds i d).length ∧ Rps K F ((putF f v fs).map (·.2)) (putD ds i d) := by
  have hlen : fs.length = ds.length := by rw [← r.length, List.length_map]
  have nd2 : (fs.map (·.1)).Nodup := by rw [hn]; exact (List.take_sublist _ _).nodup nd
  by_cases hlt : i < ds.length
  · obtain ⟨v0, _, e, _⟩ := fs_get nd hn r hf (List.getElem?_eq_getElem hlt)
    rw [putF_at nd2 e, putD_lt hlt]
    constructor
    · rw [List.map_set, List.length_set, ← hn]
      apply List.ext_getElem?
      intro j
      by_cases hj : i = j
      · subst hj
        rw [List.getElem?_set_self (by rw [List.length_map, hlen]; exact hlt), List.getElem?_map, e]; rfl
      · rw [List.getElem?_set_ne hj]
    · rw [List.map_set]
      exact r.set rv i
  · obtain rfl : i = ds.length := by omega
    have hnot : f ∉ fs.map (·.1) := by rw [hn]; exact take_not nd hf (Nat.le_refl _)
    rw [putF_new hnot, putD_eq]
    constructor
    · rw [List.map_append, List.length_append, hn]
      rw [show ds.length + [d].length = ds.length + 1 from rfl, List.take_add_one, hf]; rfl
    · rw [List.map_append]
      exact r.append (.cons rv .nil)
end
/-- e.f of an instance -/
def tFd (P : Addr → Prop) (fl : List Str) (i : Nat) (te : TEt) : TEt := fun τ M Q => te τ M fun x M1 => oObj M1 x fun _ C _ fl' ds => P C ∧ fl' = fl ∧ oSome (nthD ds i) fun d => Q d M1
/-- e.f = v -/
def sFd (P : Addr → Prop) (fl : List Str) (i : Nat) (te tv : TEt) : TSt := fun D τ M => tv τ M fun y M1 => te τ M1 fun x M2 => oObj M2 x fun a C dx fl' ds => P C ∧ fl' = fl ∧ i ≤ ds.length ∧ D.nx τ (mup M2 a (.obj C dx fl (putD ds i y)))
/-- e.f op= v -/
def sFa (P : Addr → Prop) (fl : List Str) (i : Nat) (te tv : TEt) (r : R2t) : TSt := fun D τ M => te τ M fun x M1 => oObj M1 x fun _ C _ fl' ds => P C ∧ fl' = fl ∧ oSome (nthD ds i) fun d =>
  tv τ M1 fun y M2 => r d y M2 fun z M3 => oObj M3 x fun a C' dx fl' ds => C' = C ∧ fl' = fl ∧ i ≤ ds.length ∧ D.nx τ (mup M3 a (.obj C dx fl (putD ds i z)))
section
variable {X : Cx} {E : XK} {Et : XT} {e value : Expr} {pos pos' : Pos} {te tv : TEt} {P : Addr → Prop} {fl : List Str} {i : Nat} {f : Str}
theorem oSome_e {α : Type} {o : Option α} {k : α → Prop} (h : oSome o k) : ∃ d, o = some d ∧ k d := by
  cases o with
  | none => exact h.elim
  | some d => exact ⟨d, rfl, h⟩
theorem q_fld (i : Nat) (fl : List Str) (c : ∀ C, P C → Cls X.K C ∧ NoAttr X.K C f) (he : QE X E Et e te) (hf : fl[i]? = some f := by rfl) (hb : attributeBase e f X.env (eval e X.env) = eval e X.env := by rfl) : QE X E Et (.Attribute e f pos) (tFd P fl i te) := PEimp (pe_fld he hb) (by
  rintro σ H Q ⟨G, F, M, τ, Qt, a, h, k⟩
  refine ⟨G, F, M, τ, _, a, h, fun v F1 H1 M1 d s1 r1 p1 q1 => ?_⟩
  obtain ⟨b, C, dx, fl', ds, rfl, hM, hP, rfl, q5⟩ := oObj_e q1
  obtain ⟨d', hd, q6⟩ := oSome_e q5
  cases p1
  obtain ⟨_, u, hu, r⟩ := r1.chg b _ hM
  · obtain ⟨fs, rfl, nd, hn, rr⟩ := RpO_obj r
    obtain ⟨v', e1, _, rv⟩ := fs_get nd hn rr hf (nthD_get hd)
    exact ⟨b, C, dx, fs, v', rfl, hu, (c _ hP).1, (c _ hP).2, e1, k v' F1 H1 M1 d' s1 r1 rv q6⟩)
theorem qs_fld (i : Nat) (fl : List Str) (c : ∀ C, P C → Cls X.K C ∧ NoAttr X.K C f) (he : QE X E Et e te) (hv : QE X E Et value tv) (hf : fl[i]? = some f := by rfl) (hl : fl.length < 1000 := by decide)
    (hs : swapsWith value (some (.Attribute e f pos')) pos.line X.env = pure false := by rfl) : QS X E Et (.Assign [.Attribute e f pos'] value pos) (sFd P fl i te tv) := PSimp (ps_fld he hv hs) (by
  rintro D σ H ⟨G, F, M, τ, Dt, a, en, h⟩
  refine ⟨G, F, M, τ, _, a, h, fun v F1 H1 M1 d s1 r1 p1 q1 => ?_⟩
  refine ⟨G, F1, M1, τ, _, a.step s1 r1, q1, fun x F2 H2 M2 xd s2 r2 p2 q2 => ?_⟩
  obtain ⟨b, C, dx, fl', ds, rfl, hM, hP, rfl, hi, q5⟩ := oObj_e q2
  cases p2
  obtain ⟨_, u, hu, r⟩ := r2.chg b _ hM
  · obtain ⟨fs, rfl, nd, hn, rr⟩ := RpO_obj r
    have z := fs_put nd hn rr hf hi (p1.mono s2)
    have z2 : RpO X.K F2 (.ins C dx (putF f v fs)) (.obj C dx _ (putD ds i d)) := ⟨rfl, rfl, nd, z.1, z.2⟩
    have hlen : fs.length < 1000 := by
      have := congrArg List.length hn
      rw [List.length_map, List.length_take] at this; omega
    exact ⟨b, C, dx, fs, rfl, hu, (c _ hP).1, (c _ hP).2, hlen, en.nx F2 _ _ _ _ (s1.trans s2) ⟨r2.put hM z2, (a.sg.mono s1).mono s2, (a.el.mono s1).mono s2⟩ q5⟩)
theorem qs_fldaug (i : Nat) (fl : List Str) {op : Operator} {r : R2t} (c : ∀ C, P C → Cls X.K C ∧ NoAttr X.K C f) (ho : OpQ X (inplaceOp op) r) (he : QE X E Et e te) (hv : QE X E Et value tv) (hf : fl[i]? = some f := by rfl) (hl : fl.length < 1000 := by decide) :
    QS X E Et (.AugAssign (.Attribute e f pos') op value pos) (sFa P fl i te tv r) := PSimp (ps_fldaug he hv (fun pins s σ H x y u v Q I rx ry h => ho pins s σ H x y u v Q I rx ry h)) (by
  rintro D σ H ⟨G, F, M, τ, Dt, a, en, h⟩
  refine ⟨G, F, M, τ, _, a, h, fun x F1 H1 M1 d s1 r1 p1 q1 => ?_⟩
  obtain ⟨b, C, dx, fl', ds, rfl, hM, hP, rfl, q5⟩ := oObj_e q1
  obtain ⟨d', hd, q6⟩ := oSome_e q5
  cases p1
  obtain ⟨_, u, hu, r⟩ := r1.chg b _ hM
  · obtain ⟨fs, rfl, nd, hn, rr⟩ := RpO_obj r
    obtain ⟨v', e1, _, rv⟩ := fs_get nd hn rr hf (nthD_get hd)
    refine ⟨b, C, dx, fs, v', rfl, hu, (c _ hP).1, (c _ hP).2, e1, G, F1, M1, τ, _, a.step s1 r1, q6, fun y F2 H2 M2 yd s2 r2 p2 q2 => ?_⟩
    refine ⟨G, F2, M2, d', yd, _, r2, rv.mono s2, p2, q2, fun z F3 H3 M3 zd s3 r3 p3 q3 => ?_⟩
    obtain ⟨b', C', dx', fl'', ds', eb, hM', rfl, rfl, hi, q5⟩ := oObj_e q3
    cases eb
    obtain ⟨_, u', hu', r'⟩ := r3.chg b _ hM'
    · obtain ⟨fs2, rfl, nd', hn', rr'⟩ := RpO_obj r'
      have z := fs_put nd' hn' rr' hf hi p3
      have z2 : RpO X.K F3 (.ins C' dx' (putF f _ fs2)) (.obj C' dx' _ (putD ds' i zd)) := ⟨rfl, rfl, nd', z.1, z.2⟩
      have hlen : fs2.length < 1000 := by
        have := congrArg List.length hn'
        rw [List.length_map, List.length_take] at this; omega
      exact ⟨dx', fs2, hu', hlen, en.nx F3 _ _ _ _ ((s1.trans s2).trans s3) ⟨r3.put hM' z2, ((a.sg.mono s1).mono s2).mono s3, ((a.el.mono s1).mono s2).mono s3⟩ q5⟩)
end
/-! ### methods -/
/-- a method of the class c -/
structure Fm (P : Program) (w : World) (K : PySem.W.Frag) (mg : Str → Option Value) (base : Heap) (CX : CXT) (k : Nat) (c m : Str) (sp : SpT) : Prop where
  ok : ∃ fd ps, FnOk P w K mg base CX k (He.ma K (He.ga K c) m) fd ps (lSp K sp) ∧ Binds K fd ps []
  me : Meth K (He.ga K c) m (He.ma K (He.ga K c) m)
  cl : Cls K (He.ga K c)
/-- a class that is made -/
structure Fi (P : Program) (w : World) (K : PySem.W.Frag) (mg : Str → Option Value) (base : Heap) (CX : CXT) (k : Nat) (c : Str) (sp : SpT) : Prop where
  ok : ∃ fd ps, FnOk P w K mg base CX k (He.ma K (He.ga K c) "__init__") fd ps (lSp K sp) ∧ Binds K fd ps []
  mkr : Mk K (He.ga K c) (He.ma K (He.ga K c) "__init__")
  m : mg c = some (.ref (He.ga K c))
def tMe (C : Addr) (fl : List Str) (sp : SpT) (te : TEt) (ta : TAt) : TEt := fun τ M Q => te τ M fun x M1 => oObj M1 x fun _ C' _ fl' _ => C' = C ∧ fl' = fl ∧ ta τ M1 fun ys M2 => sp (x :: ys) M2 Q Et0
def tMk (C : Addr) (fl : List Str) (sp : SpT) (ta : TAt) : TEt := fun τ M Q => ta τ M fun ys M1 => ∀ x dx, M1 x = none → sp (.ref x :: ys) (mup M1 x (.obj C dx fl [])) (fun v M2 => v = .non ∧ Q (.ref x) M2) Et0
def tAlt (t u : TEt) : TEt := fun τ M Q => t τ M Q ∨ u τ M Q
section
variable {X : Cx} {E : XK} {Et : XT} {e : Expr} {es : List Expr} {pos apos p : Pos} {te : TEt} {ta : TAt} {fl : List Str} {c m : Str} {sp : SpT} {k : Nat} {o : Expr}
theorem q_alt {t u : TEt} (h : QE X E Et e t) (h2 : QE X E Et e u) : QE X E Et e (tAlt t u) := ⟨fun pins s σ H Q I w => by
  obtain ⟨G, F, M, τ, Qt, a, h3, k⟩ := w
  rcases h3 with h3 | h3
  · exact h.run pins s σ H Q I ⟨G, F, M, τ, Qt, a, h3, k⟩
  · exact h2.run pins s σ H Q I ⟨G, F, M, τ, Qt, a, h3, k⟩⟩
theorem lv_meth {E' : XK} {to : TEt} (hm : m ∉ fl) : ∀ σ H Q, liftE X.K E Et (tMe (He.ga X.K c) fl sp to ta) σ H Q → tMeth (He.ga X.K c) m (lSp X.K sp) [] E' (liftE X.K E Et to) (liftA X.K E Et ta) σ H Q := by
  rintro σ H Q ⟨G, F, M, τ, Qt, a, h, k⟩
  refine ⟨G, F, M, τ, _, a, h, fun x F1 H1 M1 d s1 r1 p1 q1 => ?_⟩
  obtain ⟨b, C, dx, fl', ds, rfl, hM, rfl, rfl, q5⟩ := oObj_e q1
  cases p1
  obtain ⟨_, u, hu, r⟩ := r1.chg b _ hM
  · obtain ⟨fs, rfl, nd, hn, rr⟩ := RpO_obj r
    refine ⟨b, dx, fs, rfl, hu, look_not (by rw [hn]; exact fun z => hm (List.mem_of_mem_take z)), G, F1, M1, τ, _, a.step s1 r1, q5, fun vs F2 H2 M2 ys s2 r2 p2 q2 => ?_⟩
    show lSp X.K sp (.ref b :: (vs ++ [])) H2 Q E'
    rw [List.append_nil]
    exact ⟨G, F2, M2, .ref b :: ys, Qt, Et0, r2, .cons (.ref b) p2, .never, q2, fun v F' H' M' d s => k v F' H' M' d ((s1.trans s2).trans s)⟩
theorem q_meth (fl : List Str) (Fo : Fm X.prog X.w X.K X.mg X.base CX0 k c m sp) (hr : Room k X.A) {to : TEt} (he : QE X E Et o to) (ha : QA X E Et (e :: es) ta) (hm : m ∉ fl := by decide)
    (hst : starEach (e :: es) X.env = (false, eval e X.env) :: starEach es X.env := by rfl) (hpl : (backTo pos (starEach es X.env)).any (·.1) = false := by rfl)
    {pl : Sem Bool} (ht : eval (.Call (.Attribute o m apos) (e :: es) [] pos) X.env = (do
      let ov ← eval o X.env
      standAt apos.atName
      let (f, first) ← holding [ov] (getMethod ov m pl)
      callWith pos f first (backTo pos (starEach (e :: es) X.env)) (backToKw pos (keywordEach [] X.env))) := by rfl) :
    QE X E Et (.Call (.Attribute o m apos) (e :: es) [] pos) (tMe (He.ga X.K c) fl sp to ta) := by
  obtain ⟨⟨fd, ps, F1, b⟩, me, cl⟩ := Fo
  exact PEimp (pe_meth he cl me F1 hr b .nil pass0 ha hst hpl ht) (lv_meth hm)
theorem q_meth0 (fl : List Str) (Fo : Fm X.prog X.w X.K X.mg X.base CX0 k c m sp) (hr : Room k X.A) {to : TEt} (he : QE X E Et o to) (hm : m ∉ fl := by decide)
    {pl : Sem Bool} (ht : eval (.Call (.Attribute o m apos) [] [] pos) X.env = (do
      let ov ← eval o X.env
      standAt apos.atName
      let (f, first) ← holding [ov] (getMethod ov m pl)
      callWith pos f first (backTo pos (starEach [] X.env)) (backToKw pos (keywordEach [] X.env))) := by rfl) :
    QE X E Et (.Call (.Attribute o m apos) [] [] pos) (tMe (He.ga X.K c) fl sp to tN) := by
  obtain ⟨⟨fd, ps, F1, b⟩, me, cl⟩ := Fo
  refine PEimp (pe_meth0 he cl me F1 hr b .nil pass0 ht) ?_
  rintro σ H Q h
  obtain ⟨hx⟩ : Nonempty Unit := ⟨()⟩
  obtain ⟨G, F, M, τ, Qt, a, h, k⟩ := h
  refine ⟨G, F, M, τ, _, a, h, fun x F1 H1 M1 d s1 r1 p1 q1 => ?_⟩
  obtain ⟨b', C, dx, fl', ds, rfl, hM, rfl, rfl, q5⟩ := oObj_e q1
  cases p1
  obtain ⟨_, u, hu, r⟩ := r1.chg b' _ hM
  · obtain ⟨fs, rfl, nd, hn, rr⟩ := RpO_obj r
    refine ⟨b', dx, fs, rfl, hu, look_not (by rw [hn]; exact fun z => hm (List.mem_of_mem_take z)), ?_⟩
    exact ⟨G, F1, M1, [.ref b'], Qt, Et0, r1, .cons (.ref b') .nil, .never, q5, fun v F' H' M' d s => k v F' H' M' d (s1.trans s)⟩
theorem lv_make1 {E' : XK} {H1 : Hp} {F1 G : Hp} {M1 : MH} {ys : List D} {vs : List V} {Q : VK} {Qt : VD} (nd : fl.Nodup) (r1 : Rel X.K G F1 H1 M1) (p1 : Rps X.K F1 vs ys)
    (h : ∀ x dx, M1 x = none → sp (.ref x :: ys) (mup M1 x (.obj (He.ga X.K c) dx fl [])) (fun v M2 => v = .non ∧ Qt (.ref x) M2) Et0)
    (k : ∀ v F' H' M' d, Same F1 F' → Rel X.K G F' H' M' → Rp X.K F' v d → Qt d M' → Q v H') :
    ∀ x dx, H1 x = none → H1 dx = none → dx ≠ x → lSp X.K sp (.ref x :: vs) (upd (upd H1 dx (.own x)) x (.ins (He.ga X.K c) dx [])) (fun v H2 => v = .non ∧ Q (.ref x) H2) E' := by
  intro x dx nx ndx ne
  obtain ⟨s2, r2⟩ := r1.newF (o := .own x) ndx
  have r3 := r2.newM (p := x) (u := .ins (He.ga X.K c) dx []) (o := .obj (He.ga X.K c) dx fl []) (by rw [upd_ne (Ne.symm ne)]; exact nx) ⟨rfl, rfl, nd, rfl, .nil⟩
  refine ⟨G, _, _, .ref x :: ys, _, Et0, r3, .cons (.ref x) (p1.mono s2), .never, h x dx (r1.free nx).2, fun v F' H' M' d s r p q => ?_⟩
  obtain ⟨rfl, q⟩ := q
  cases p
  exact ⟨rfl, k _ F' H' M' (.ref x) (s2.trans s) r (.ref x) q⟩
theorem q_make (fl : List Str) (Fo : Fi X.prog X.w X.K X.mg X.base CX0 k c sp) (hr : Room (k + 1) X.A) (ha : QA X E Et (e :: es) ta) (hg : Gl X c := by rfl) (nd : fl.Nodup := by decide) (hdb : (c == ("__debug__" : Str)) = false := by decide)
    (he : starEach (e :: es) X.env = (false, eval e X.env) :: starEach es X.env := by rfl) (hpl : (backTo pos (starEach es X.env)).any (·.1) = false := by rfl) : QE X E Et (.Call (.Name c p) (e :: es) [] pos) (tMk (He.ga X.K c) fl sp ta) := by
  obtain ⟨⟨fd, ps, F1, b⟩, mk, m⟩ := Fo
  refine PEimp (pe_make mk F1 hr hg m b .nil pass0 ha hdb he hpl) ?_
  rintro σ H Q ⟨G, F, M, τ, Qt, a, h, k⟩
  refine ⟨G, F, M, τ, _, a, h, fun vs F1 H1 M1 ys s1 r1 p1 q1 => ?_⟩
  intro x dx nx ndx ne
  show lSp X.K sp (.ref x :: (vs ++ [])) _ _ E0
  rw [List.append_nil]
  exact lv_make1 nd r1 p1 q1 (fun v F' H' M' d s => k v F' H' M' d (s1.trans s)) x dx nx ndx ne
theorem q_make0 (fl : List Str) (Fo : Fi X.prog X.w X.K X.mg X.base CX0 k c sp) (hr : Room (k + 1) X.A) (hg : Gl X c := by rfl) (nd : fl.Nodup := by decide) (hdb : (c == ("__debug__" : Str)) = false := by decide) :
    QE X E Et (.Call (.Name c p) [] [] pos) (tMk (He.ga X.K c) fl sp tN) := by
  obtain ⟨⟨fd, ps, F1, b⟩, mk, m⟩ := Fo
  refine PEimp (pe_make0 mk F1 hr hg m b .nil pass0 hdb) ?_
  rintro σ H Q ⟨G, F, M, τ, Qt, a, h, k⟩
  intro x dx nx ndx ne
  exact lv_make1 nd a.rel .nil h k x dx nx ndx ne
end
section
variable {P : Program} {w : World} {K : PySem.W.Frag} {mg : Str → Option Value} {base : Heap} {c m : Str} {N ps : List Str} {k : Nat} {sp : SpT} {fa : List He.Fa} {fn : List He.DefD}
theorem Top.cls (T : Top fa fn K mg) (i : Nat) {x : Str} (h : fa[i]? = some (.cls x) := by rfl) : Cls K (He.ga K x) := He.cls_ok (T.says.fact i h)
theorem Top.noat (T : Top fa fn K mg) (i : Nat) {x f : Str} (h : fa[i]? = some (.noat x f) := by rfl) : NoAttr K (He.ga K x) f := He.noat_ok (T.says.fact i h)
theorem Top.meth (T : Top fa fn K mg) (i : Nat) {x f : Str} (h : fa[i]? = some (.meth x f) := by rfl) : Meth K (He.ga K x) f (He.ma K (He.ga K x) f) := He.meth_ok (T.says.fact i h)
theorem Top.mkr (T : Top fa fn K mg) (i : Nat) {x : Str} (h : fa[i]? = some (.mkr x) := by rfl) : Mk K (He.ga K x) (He.ma K (He.ga K x) "__init__") := He.mkr_ok (T.says.fact i h)
/-- THE RULE of a method's code, at whatever place -/
theorem fa_top (T : Top fa fn K mg) (d : He.DefD) (i : Nat) (S : FnScope N ps d.scope) (len : ∀ ds M Q Et, sp ds M Q Et → ds.length = ps.length)
    (hb : ∀ (cdv : Value) (A : Around) (outer : List Env) (s : Shared) (H : Hp) (E : XK), Room k (A.deeper (envOfC d.qual d.scope s.heap.objs.size (He.fAd K d.at_) cdv)) →
      ∃ t, QSs (cxOf CX0 P w K mg base N d.qual d.scope (He.fAd K d.at_) cdv A outer s H E).nox E0 Et0 d.body t ∧ ∀ ds M Q Et, sp ds M Q Et → t { nx := fun _ M' => Q .non M', rt := Q } (begin_ N ds) M)
    (bd : ∀ (kV doc pm : Value) (an : Option Addr) (cdv ct : Value) (us : List Value), us.length = ps.length → bindArgs (PySem.W.fnOf d.name d.qual d.params d.body d.scope .none kV doc pm an cdv ct) ⟨us, []⟩ = pure (ps.zip us))
    (h : fn[i]? = some d := by rfl) (h0 : d.dfl = [] := by rfl) (h1 : d.kwd = [] := by rfl) : ∃ fd ps, FnOk P w K mg base CX0 (k + 1) (He.fAd K d.at_) fd ps (lSp K sp) ∧ Binds K fd ps [] := by
  obtain ⟨fd, F⟩ := T.says.def_ i h
  have e0 : d.dvs K = [] := by unfold He.DefD.dvs; rw [h0]; rfl
  have e1 : d.kws K = [] := by unfold He.DefD.kws; rw [h1]; rfl
  rw [e0, e1] at F
  exact ⟨fd, ps, fn_ok d fd F S len hb, F.bindsN bd⟩
theorem fm_top (T : Top fa fn K mg) (d : He.DefD) (i : Nat) (S : FnScope N ps d.scope) (me : Meth K (He.ga K c) m (He.ma K (He.ga K c) m)) (cl : Cls K (He.ga K c)) (len : ∀ ds M Q Et, sp ds M Q Et → ds.length = ps.length)
    (hb : ∀ (cdv : Value) (A : Around) (outer : List Env) (s : Shared) (H : Hp) (E : XK), Room k (A.deeper (envOfC d.qual d.scope s.heap.objs.size (He.fAd K d.at_) cdv)) →
      ∃ t, QSs (cxOf CX0 P w K mg base N d.qual d.scope (He.fAd K d.at_) cdv A outer s H E).nox E0 Et0 d.body t ∧ ∀ ds M Q Et, sp ds M Q Et → t { nx := fun _ M' => Q .non M', rt := Q } (begin_ N ds) M)
    (bd : ∀ (kV doc pm : Value) (an : Option Addr) (cdv ct : Value) (us : List Value), us.length = ps.length → bindArgs (PySem.W.fnOf d.name d.qual d.params d.body d.scope .none kV doc pm an cdv ct) ⟨us, []⟩ = pure (ps.zip us))
    (h : fn[i]? = some d := by rfl) (h0 : d.dfl = [] := by rfl) (h1 : d.kwd = [] := by rfl) (hx : d.at_ = (c, some m) := by rfl) : Fm P w K mg base CX0 (k + 1) c m sp := by
  have z := fa_top (P := P) (w := w) (base := base) T d i S len hb bd h h0 h1
  rw [hx] at z
  exact ⟨z, me, cl⟩
theorem fi_top (T : Top fa fn K mg) (d : He.DefD) (i : Nat) (S : FnScope N ps d.scope) (mk : Mk K (He.ga K c) (He.ma K (He.ga K c) "__init__")) (hm : mg c = some (.ref (He.ga K c))) (len : ∀ ds M Q Et, sp ds M Q Et → ds.length = ps.length)
    (hb : ∀ (cdv : Value) (A : Around) (outer : List Env) (s : Shared) (H : Hp) (E : XK), Room k (A.deeper (envOfC d.qual d.scope s.heap.objs.size (He.fAd K d.at_) cdv)) →
      ∃ t, QSs (cxOf CX0 P w K mg base N d.qual d.scope (He.fAd K d.at_) cdv A outer s H E).nox E0 Et0 d.body t ∧ ∀ ds M Q Et, sp ds M Q Et → t { nx := fun _ M' => Q .non M', rt := Q } (begin_ N ds) M)
    (bd : ∀ (kV doc pm : Value) (an : Option Addr) (cdv ct : Value) (us : List Value), us.length = ps.length → bindArgs (PySem.W.fnOf d.name d.qual d.params d.body d.scope .none kV doc pm an cdv ct) ⟨us, []⟩ = pure (ps.zip us))
    (h : fn[i]? = some d := by rfl) (h0 : d.dfl = [] := by rfl) (h1 : d.kwd = [] := by rfl) (hx : d.at_ = (c, some ("__init__" : Str)) := by rfl) : Fi P w K mg base CX0 (k + 1) c sp := by
  have z := fa_top (P := P) (w := w) (base := base) T d i S len hb bd h h0 h1
  rw [hx] at z
  exact ⟨z, mk, hm⟩
end
/-! ### readings, for simp -/
section
variable {τ : Sg} {M : MH} {Q : VD} {te tv : TEt} {ta : TAt} {P : Addr → Prop} {fl : List Str} {i : Nat} {a C dx : Addr} {ds : List D} {sp : SpT}
def oAt (o : Option MO) (k : Addr → Addr → List Str → List D → Prop) : Prop := match o with
  | some (.obj C dx fl ds) => k C dx fl ds
  | _ => False
theorem uObj {k : Addr → Addr → Addr → List Str → List D → Prop} : oObj M (.ref a) k = oAt (M a) (k a) := by
  show (match M a with | some (.obj C dx fl ds) => k a C dx fl ds | _ => False) = oAt (M a) (k a)
  cases M a with
  | none => rfl
  | some o => cases o <;> rfl
theorem oAt_i {k : Addr → Addr → List Str → List D → Prop} : oAt (some (.obj C dx fl ds)) k = k C dx fl ds := propext Iff.rfl
theorem cxK {CX : CXT} {P : Program} {w : World} {K : PySem.W.Frag} {mg : Str → Option Value} {base : Heap} {N : List Str} {qual : Str} {scope : Scope} {f : Addr} {cdv : Value} {A : Around} {outer : List Env} {s : Shared} {H : Hp} {E : XK} : (cxOf CX P w K mg base N qual scope f cdv A outer s H E).K = K := rfl
theorem cxKn {CX : CXT} {P : Program} {w : World} {K : PySem.W.Frag} {mg : Str → Option Value} {base : Heap} {N : List Str} {qual : Str} {scope : Scope} {f : Addr} {cdv : Value} {A : Around} {outer : List Env} {s : Shared} {H : Hp} {E : XK} : (cxOf CX P w K mg base N qual scope f cdv A outer s H E).nox.K = K := rfl
theorem uAlt {t u : TEt} : tAlt t u τ M Q = (t τ M Q ∨ u τ M Q) := propext Iff.rfl
end
end Tl

namespace Tl
open PySem PySem.Spec PyProof.Rows L2

/-! ### == of nested data -/
mutual
def pyD : D → Option PyData
  | .non => some .none
  | .bl b => some (.bool b)
  | .int i => some (.int i)
  | .str s => some (.str s)
  | .tup l => (pyDs l).map .tuple
  | .tab l => (pyDs l).map .tuple
  | .lst l => (pyDs l).map .list
  | .scr l => (pyDs l).map .list
  | .ref _ => none
  | .ty _ => none
def pyDs : List D → Option (List PyData)
  | [] => some []
  | x :: t => match pyD x, pyDs t with
    | some a, some b => some (a :: b)
    | _, _ => none
end
def pyM (M : MH) (d : D) : Option PyData := match d with
  | .ref a => match M a with
    | some (.lst ds) => (pyDs ds).map .list
    | _ => none
  | d => pyD d
section
variable {K : PySem.W.Frag} {F H : Hp}
mutual
theorem Rp.dp (s : Same F H) : ∀ {v : V} {d : D} {y : PyData}, Rp K F v d → pyD d = some y → Dp K H v y
  | _, _, _, .non, e => by unfold pyD at e; cases e; exact .non
  | _, _, _, .bl b, e => by unfold pyD at e; cases e; exact .bl b
  | _, _, _, .int i, e => by unfold pyD at e; cases e; exact .int i
  | _, _, _, .str x, e => by unfold pyD at e; cases e; exact .str x
  | _, _, _, .ty n, e => by unfold pyD at e; cases e
  | _, _, _, .ref a, e => by unfold pyD at e; cases e
  | _, _, _, .tup h r, e => by
    unfold pyD at e
    obtain ⟨ys, e2, rfl⟩ := Option.map_eq_some_iff.mp e
    exact .tup (SqT.of (s _ _ h)) (Rps.dp s r e2)
  | _, _, _, .tab h r, e => by
    unfold pyD at e
    obtain ⟨ys, e2, rfl⟩ := Option.map_eq_some_iff.mp e
    exact .tup (SameT s h) (Rps.dp s r e2)
  | _, _, _, .lst h r, e => by
    unfold pyD at e
    obtain ⟨ys, e2, rfl⟩ := Option.map_eq_some_iff.mp e
    exact .lst (SqL.of (s _ _ h)) (Rps.dp s r e2)
  | _, _, _, .scr h r, e => by
    unfold pyD at e
    obtain ⟨ys, e2, rfl⟩ := Option.map_eq_some_iff.mp e
    exact .lst (s.seq h) (Rps.dp s r e2)
theorem Rps.dp (s : Same F H) : ∀ {vs : List V} {ds : List D} {ys : List PyData}, Rps K F vs ds → pyDs ds = some ys → DpAll K H vs ys
  | _, _, _, .nil, e => by unfold pyDs at e; cases e; exact .nil
  | _, _, _, .cons (d := d) (ds := ds) h t, e => by
    unfold pyDs at e
    cases q : pyD d with
    | none => simp only [q] at e; cases e
    | some a =>
      cases q2 : pyDs ds with
      | none => simp only [q, q2] at e; cases e
      | some b =>
        simp only [q, q2] at e
        cases e
        exact .cons (Rp.dp s h q) (Rps.dp s t q2)
end
theorem dp_of {G : Hp} {M : MH} {v : V} {d : D} {y : PyData} (R : Rel K G F H M) (p : Rp K F v d) (e : pyM M d = some y) : Dp K H v y := by
  cases d with
  | ref a =>
    cases p
    unfold pyM at e
    cases q : M a with
    | none => simp only [q] at e; cases e
    | some o =>
      simp only [q] at e
      obtain ⟨_, u, hu, r⟩ := R.chg a o q
      cases o with
      | lst ds =>
        obtain ⟨ys, e2, rfl⟩ := Option.map_eq_some_iff.mp e
        cases u with
        | lst vs => exact .lst (SqL.of hu) (Rps.dp R.sub r e2)
        | _ => exact (r : False).elim
      | _ => cases e
  | _ => exact Rp.dp R.sub p e
end
def bEqD : R2t := fun x y M Q => match pyM M x, pyM M y with
  | some d, some e => SeqAt.shaped d = true ∧ SeqAt.shaped e = true ∧ Q (.bl (PyData.eqv d e)) M
  | _, _ => False
def bNeD : R2t := fun x y M Q => match pyM M x, pyM M y with
  | some d, some e => SeqAt.shaped d = true ∧ SeqAt.shaped e = true ∧ Q (.bl (!PyData.eqv d e)) M
  | _, _ => False
section
variable {X : Cx}
theorem oq_eqD (hu : X.A.units + 64 < cLine) : OpQ X (compareOp .Eq) bEqD := OpRimp (op_eqD hu) (by
  rintro x y H Q ⟨G, F, M, dx, dy, Qt, R, px, py, h, k⟩
  unfold bEqD at h
  cases e1 : pyM M dx with
  | none => simp only [e1] at h
  | some d =>
    cases e2 : pyM M dy with
    | none => simp only [e1, e2] at h
    | some e =>
      simp only [e1, e2] at h
      exact ⟨d, e, dp_of R px e1, dp_of R py e2, h.1, h.2.1, k _ F H M _ (Same.refl _) R (.bl _) h.2.2⟩)
theorem oq_neD (hu : X.A.units + 64 < cLine) : OpQ X (compareOp .NotEq) bNeD := OpRimp (op_neD hu) (by
  rintro x y H Q ⟨G, F, M, dx, dy, Qt, R, px, py, h, k⟩
  unfold bNeD at h
  cases e1 : pyM M dx with
  | none => simp only [e1] at h
  | some d =>
    cases e2 : pyM M dy with
    | none => simp only [e1, e2] at h
    | some e =>
      simp only [e1, e2] at h
      exact ⟨d, e, dp_of R px e1, dp_of R py e2, h.1, h.2.1, k _ F H M _ (Same.refl _) R (.bl _) h.2.2⟩)
end
/-! data whose == is sameness: its texts are texts, its nesting is below n -/
mutual
def okD : Nat → D → Prop
  | _, .non => True
  | _, .int _ => True
  | _, .bl _ => True
  | _, .str s => PyData.strOk s = true
  | n + 1, .tup l => okDs n l
  | n + 1, .lst l => okDs n l
  | n + 1, .scr l => okDs n l
  | n + 1, .tab l => okDs n l
  | _, _ => False
def okDs : Nat → List D → Prop
  | _, [] => True
  | n, x :: t => okD n x ∧ okDs n t
end
mutual
theorem okD_py : ∀ (n : Nat) (d : D), okD n d → ∃ y, pyD d = some y ∧ y.canLay0 = true ∧ y.depth ≤ n
  | n, .non, _ => ⟨.none, by unfold pyD; rfl, by unfold PyData.canLay0; rfl, by unfold PyData.depth; omega⟩
  | n, .int i, _ => ⟨.int i, by unfold pyD; rfl, by unfold PyData.canLay0; rfl, by unfold PyData.depth; omega⟩
  | n, .bl b, _ => ⟨.bool b, by unfold pyD; rfl, by unfold PyData.canLay0; rfl, by unfold PyData.depth; omega⟩
  | n, .str s, h => ⟨.str s, by unfold pyD; rfl, by unfold PyData.canLay0; unfold okD at h; exact h, by unfold PyData.depth; omega⟩
  | n + 1, .tup l, h => by
    unfold okD at h
    obtain ⟨ys, e, c, dp⟩ := okDs_py n l h
    exact ⟨.tuple ys, by unfold pyD; rw [e]; rfl, by unfold PyData.canLay0; exact c, by unfold PyData.depth; omega⟩
  | n + 1, .tab l, h => by
    unfold okD at h
    obtain ⟨ys, e, c, dp⟩ := okDs_py n l h
    exact ⟨.tuple ys, by unfold pyD; rw [e]; rfl, by unfold PyData.canLay0; exact c, by unfold PyData.depth; omega⟩
  | n + 1, .lst l, h => by
    unfold okD at h
    obtain ⟨ys, e, c, dp⟩ := okDs_py n l h
    exact ⟨.list ys, by unfold pyD; rw [e]; rfl, by unfold PyData.canLay0; exact c, by unfold PyData.depth; omega⟩
  | n + 1, .scr l, h => by
    unfold okD at h
    obtain ⟨ys, e, c, dp⟩ := okDs_py n l h
    exact ⟨.list ys, by unfold pyD; rw [e]; rfl, by unfold PyData.canLay0; exact c, by unfold PyData.depth; omega⟩
  | 0, .tup l, h => by unfold okD at h; exact h.elim
  | 0, .tab l, h => by unfold okD at h; exact h.elim
  | 0, .lst l, h => by unfold okD at h; exact h.elim
  | 0, .scr l, h => by unfold okD at h; exact h.elim
  | _, .ref _, h => by unfold okD at h; exact h.elim
  | _, .ty _, h => by unfold okD at h; exact h.elim
theorem okDs_py : ∀ (n : Nat) (l : List D), okDs n l → ∃ ys, pyDs l = some ys ∧ PyData.canLayAll0 ys = true ∧ PyData.depthAll ys ≤ n
  | n, [], _ => ⟨[], by unfold pyDs; rfl, by unfold PyData.canLayAll0; rfl, by unfold PyData.depthAll; omega⟩
  | n, x :: t, h => by
    unfold okDs at h
    obtain ⟨y, e1, c1, d1⟩ := okD_py n x h.1
    obtain ⟨ys, e2, c2, d2⟩ := okDs_py n t h.2
    exact ⟨y :: ys, by unfold pyDs; rw [e1, e2], by unfold PyData.canLayAll0; rw [c1, c2]; rfl, by unfold PyData.depthAll; omega⟩
end
theorem okDs_of {n : Nat} : ∀ {l : List D}, (∀ x ∈ l, okD n x) → okDs n l
  | [], _ => by unfold okDs; trivial
  | x :: t, h => by unfold okDs; exact ⟨h x (List.mem_cons_self ..), okDs_of fun y hy => h y (List.mem_cons_of_mem _ hy)⟩
/-- a frozen thing, or a changing list of frozen things -/
def asD (M : MH) (d : D) : Option D := match d with
  | .ref a => match M a with
    | some (.lst ds) => some (.lst ds)
    | _ => none
  | d => some d
theorem pyM_asD {M : MH} {d e : D} (h : asD M d = some e) : pyM M d = pyD e := by
  cases d with
  | ref a =>
    unfold asD at h
    unfold pyM
    cases q : M a with
    | none => simp only [q] at h; cases h
    | some o => cases o <;> simp only [q] at h ⊢ <;> cases h; unfold pyD; rfl
  | _ => cases h; rfl
theorem eqD_same {M : MH} {x y z : D} {Q : VD} (n : Nat) (hx : asD M x = some z) (hy : asD M y = some z) (ok : okD n z) (h : Q (.bl true) M) (hn : n ≤ 64 := by decide) : bEqD x y M Q := by
  obtain ⟨d, e, c, dp⟩ := okD_py n z ok
  unfold bEqD
  simp only [pyM_asD hx, pyM_asD hy, e]
  have sh : SeqAt.shaped d = true := Bool.and_eq_true_iff.mpr ⟨c, decide_eq_true (by omega)⟩
  exact ⟨sh, sh, by rw [SeqAt.eqv_refl d c]; exact h⟩
theorem neD_same {M : MH} {x y z : D} {Q : VD} (n : Nat) (hx : asD M x = some z) (hy : asD M y = some z) (ok : okD n z) (h : Q (.bl false) M) (hn : n ≤ 64 := by decide) : bNeD x y M Q := by
  obtain ⟨d, e, c, dp⟩ := okD_py n z ok
  unfold bNeD
  simp only [pyM_asD hx, pyM_asD hy, e]
  have sh : SeqAt.shaped d = true := Bool.and_eq_true_iff.mpr ⟨c, decide_eq_true (by omega)⟩
  exact ⟨sh, sh, by rw [SeqAt.eqv_refl d c]; exact h⟩
/-- what was made and is needed no more -/
theorem ReR.new {K : PySem.W.Frag} {d : D} {M : MH} {a : Addr} {o : MO} (h : M a = none) : ReR K d (mup M a o) d M := ReR.drop fun b o' e => by
  rw [mup_ne (by rintro rfl; rw [h] at e; cases e)]; exact e
theorem wm60 {i j : Int} (hi : -(2 ^ 60) < i ∧ i < 2 ^ 60) (hj : -(2 ^ 60) < j ∧ j < 2 ^ 60) : CMulW i j := wide_mul (a := 60) (b := 60) (by omega) (by omega) (by decide) (by decide) (by decide)
theorem wd60 {i j : Int} (h : 0 < j) (hj : j < 2 ^ 60) : CDivW i j := wide_div (b := 60) h (by omega) (by decide) (by decide)
theorem modB {a b : Int} (h : 0 < b) : 0 ≤ a % b ∧ a % b < b := ⟨Int.emod_nonneg _ (by omega), Int.emod_lt_of_pos _ h⟩
theorem rng_get {f : Nat → D} {n i : Nat} {x : D} (h : ((List.range n).map f)[i]? = some x) : i < n ∧ x = f i := by
  rw [List.getElem?_map] at h
  obtain ⟨y, hy, rfl⟩ := Option.map_eq_some_iff.mp h
  obtain ⟨h1, h2⟩ := List.getElem?_eq_some_iff.mp hy
  rw [List.getElem_range] at h2
  rw [List.length_range] at h1
  exact ⟨h1, by rw [h2]⟩
theorem map_get {α : Type} {a : α → D} {xs : List α} {i : Nat} {x : D} (h : (xs.map a)[i]? = some x) : ∃ y, xs[i]? = some y ∧ x = a y := by
  rw [List.getElem?_map] at h
  obtain ⟨y, hy, rfl⟩ := Option.map_eq_some_iff.mp h
  exact ⟨y, hy, rfl⟩
theorem cut_mem {x : D} {xs : List D} {lo hi : Option Int} (h : x ∈ Tl.cutD xs lo hi) : x ∈ xs := List.mem_of_mem_drop (List.mem_of_mem_take h)
theorem cut_len {xs : List D} {lo hi : Option Int} : (Tl.cutD xs lo hi).length ≤ xs.length := by
  unfold Tl.cutD
  rw [List.length_take, List.length_drop]
  omega
theorem rgc_up {i j c : Int} (hi : 0 ≤ i ∧ i ≤ 1000000) (hj : 0 ≤ j ∧ j ≤ 1000000) (hc : 1 ≤ c ∧ c ≤ 1000000) : ∃ n, RgC i j c n ∧ ∀ k : Nat, k < n → i + k * c < j := by
  have e : Builtin.Range.rangeSize i j c = if i < j then (j - i - 1) / c + 1 else 0 := by
    unfold Builtin.Range.rangeSize
    rw [if_pos (by omega)]
  have hb : i < j → 0 ≤ (j - i - 1) / c ∧ (j - i - 1) / c ≤ 1000000 := fun h => by
    refine ⟨Int.ediv_nonneg (by omega) (by omega), ?_⟩
    have := Int.ediv_le_self (a := j - i - 1) c (by omega)
    omega
  have hn : 0 ≤ Builtin.Range.rangeSize i j c ∧ Builtin.Range.rangeSize i j c ≤ 1000001 := by
    rw [e]
    split
    · rename_i h
      have := hb h
      omega
    · omega
  refine ⟨(Builtin.Range.rangeSize i j c).toNat, ⟨by omega, by omega, ?_, by omega⟩, fun k hk => ?_⟩
  · unfold Builtin.Range.small
    simp only [Builtin.Range.rangeFitsLong, Bool.and_eq_true, Bool.or_eq_true, decide_eq_true_eq, beq_iff_eq]
    rw [if_pos (by omega), Bool.and_eq_true, decide_eq_true_eq, decide_eq_true_eq]
    omega
  · rw [e] at hk
    split at hk
    · rename_i h
      have := hb h
      have h2 : (k : Int) ≤ (j - i - 1) / c := by omega
      have h3 := (Int.le_ediv_iff_mul_le (show 0 < c by omega)).mp h2
      omega
    · simp at hk
theorem cut_tail {x : D} {t : List D} : Tl.cutD (x :: t) (some 1) none = t := by
  unfold Tl.cutD
  rw [show (1 : Int) = ((1 : Nat) : Int) from rfl, HT.sIx_nat, HT.sIx_none]
  simp
def cutA {α : Type} (xs : List α) (lo hi : Option Int) : List α := (xs.drop (HT.sIx xs.length 0 lo)).take (HT.sIx xs.length xs.length hi - HT.sIx xs.length 0 lo)
theorem cut_map {α : Type} {a : α → D} {xs : List α} {lo hi : Option Int} : Tl.cutD (xs.map a) lo hi = (cutA xs lo hi).map a := by
  unfold Tl.cutD cutA
  rw [List.length_map, List.map_take, List.map_drop]
theorem cutA_len {α : Type} {xs : List α} {lo hi : Option Int} : (cutA xs lo hi).length ≤ xs.length := by
  unfold cutA
  rw [List.length_take, List.length_drop]
  omega
theorem cutA_pos {α : Type} {xs : List α} {i w : Nat} (h : i < xs.length) (hw : 0 < w) : 0 < (cutA xs (some i) (some ((i : Int) + w))).length := by
  unfold cutA
  rw [show (i : Int) + w = ((i + w : Nat) : Int) from by omega, HT.sIx_nat, HT.sIx_nat, List.length_take, List.length_drop]
  omega
theorem un64 {k : Nat} {A : Around} (hr : Room k A) : A.units + 64 < cLine := hr.units
end Tl

namespace Tl
open PySem PySem.Spec PyProof.Rows L2

/-! ### dicts -/
section
variable {κ : Type} [DecidableEq κ]
def valD (kvs : List (κ × D)) (k : κ) : Option D := (kvs.find? fun kv => decide (kv.1 = k)).map (·.2)
def putM (kvs : List (κ × D)) (k : κ) (v : D) : List (κ × D) :=
  if (kvs.any fun kv => decide (kv.1 = k)) = true then kvs.map (fun kv => if kv.1 = k then (kv.1, v) else kv) else kvs ++ [(k, v)]
theorem valD_nil {k : κ} : valD ([] : List (κ × D)) k = none := rfl
theorem valD_pos {p : κ × D} {r : List (κ × D)} {k : κ} (e : p.1 = k) : valD (p :: r) k = some p.2 := by simp [valD, List.find?_cons, e]
theorem valD_neg {p : κ × D} {r : List (κ × D)} {k : κ} (e : ¬ p.1 = k) : valD (p :: r) k = valD r k := by simp [valD, List.find?_cons, e]
abbrev KP (K : PySem.W.Frag) (F : Hp) (vs : List (κ × V)) (ds : List (κ × D)) : Prop := Paired (fun (p : κ × V) (q : κ × D) => p.1 = q.1 ∧ Rp K F p.2 q.2) vs ds
variable {K : PySem.W.Frag} {F : Hp}
theorem kp_val {k : κ} : ∀ {vs : List (κ × V)} {ds : List (κ × D)}, KP K F vs ds → (valD ds k = none → valV vs k = none) ∧ ∀ d, valD ds k = some d → ∃ v, valV vs k = some v ∧ Rp K F v d
  | _, _, .nil => ⟨fun _ => rfl, fun _ h => by cases h⟩
  | _, _, .cons (a := p) (b := q) r t => by
    have ih := kp_val (k := k) t
    by_cases e : q.1 = k
    · rw [valD_pos e, valV_pos (r.1.trans e)]
      exact ⟨fun h => (by cases h), fun d h => (by cases h; exact ⟨_, rfl, r.2⟩)⟩
    · rw [valD_neg e, valV_neg (fun h => e (r.1.symm.trans h))]
      exact ih
theorem kp_any {k : κ} : ∀ {vs : List (κ × V)} {ds : List (κ × D)}, KP K F vs ds → (vs.any fun kv => decide (kv.1 = k)) = (ds.any fun kv => decide (kv.1 = k))
  | _, _, .nil => rfl
  | _, _, .cons r t => by rw [List.any_cons, List.any_cons, r.1, kp_any t]
theorem kp_map {k : κ} {v : V} {d : D} (rv : Rp K F v d) : ∀ {vs : List (κ × V)} {ds : List (κ × D)}, KP K F vs ds → KP K F (vs.map fun kv => if kv.1 = k then (kv.1, v) else kv) (ds.map fun kv => if kv.1 = k then (kv.1, d) else kv)
  | _, _, .nil => .nil
  | _, _, .cons (a := p) (b := q) r t => by
    refine .cons ?_ (kp_map rv t)
    dsimp only
    by_cases e : q.1 = k
    · rw [if_pos e, if_pos (r.1.trans e)]; exact ⟨r.1, rv⟩
    · rw [if_neg e, if_neg (fun h => e (r.1.symm.trans h))]; exact r
theorem kp_app {vs ws : List (κ × V)} {ds es : List (κ × D)} (h : KP K F vs ds) (h2 : KP K F ws es) : KP K F (vs ++ ws) (ds ++ es) := by
  induction h with
  | nil => exact h2
  | cons r t ih => exact .cons r ih
theorem kp_put {k : κ} {v : V} {d : D} (rv : Rp K F v d) {vs : List (κ × V)} {ds : List (κ × D)} (h : KP K F vs ds) : KP K F (putK vs k v) (putM ds k d) := by
  unfold putK putM
  rw [kp_any h]
  split
  · exact kp_map rv h
  · exact kp_app h (.cons ⟨rfl, rv⟩ .nil)
theorem kp_len {vs : List (κ × V)} {ds : List (κ × D)} (h : KP K F vs ds) : vs.length = ds.length := by
  induction h with
  | nil => rfl
  | cons r t ih => rw [List.length_cons, List.length_cons, ih]
end
def kD : Key → D
  | .inl i => .int i
  | .inr s => .str s
def k1 : D → Option Key
  | .int i => some (.inl i)
  | .str s => some (.inr s)
  | _ => none
def kT : List D → Option (List Key)
  | [] => some []
  | x :: t => match k1 x, kT t with
    | some a, some b => some (a :: b)
    | _, _ => none
section
variable {K : PySem.W.Frag} {F : Hp}
theorem k1_of {v : V} {d : D} {k : Key} (p : Rp K F v d) (e : k1 d = some k) : v = kV k := by
  cases p <;> first | (cases e; rfl) | cases e
theorem kT_of : ∀ {vs : List V} {ds : List D} {ks : List Key}, Rps K F vs ds → kT ds = some ks → vs = ks.map kV
  | _, _, _, .nil, e => by cases e; rfl
  | _, _, _, .cons (d := d) (ds := ds) h t, e => by
    unfold kT at e
    cases q : k1 d with
    | none => simp only [q] at e; cases e
    | some a =>
      cases q2 : kT ds with
      | none => simp only [q, q2] at e; cases e
      | some b =>
        simp only [q, q2] at e
        cases e
        rw [k1_of h q, kT_of t q2]; rfl
end
/-- what the dict o holds at the key k -/
def oDA (o : Option MO) (k : D) (f : Option D → Prop) : Prop := match o with
  | some (.dK kvs) => match k1 k with
    | some c => f (valD kvs c)
    | none => False
  | some (.lk _ _ kvs) => match k1 k with
    | some c => f (valD kvs c)
    | none => False
  | some (.dT kvs) => match k with
    | .tup ds => match kT ds with
      | some c => f (valD kvs c)
      | none => False
    | _ => False
  | _ => False
def oDic (M : MH) (x k : D) (f : Option D → Prop) : Prop := match x with
  | .ref a => oDA (M a) k f
  | _ => False
def oPA (o : Option MO) (k d : D) (f : MO → Prop) : Prop := match o with
  | some (.dK kvs) => match k1 k with
    | some c => kvs.length < sizeLine ∧ f (.dK (putM kvs c d))
    | none => False
  | some (.dT kvs) => match k with
    | .tup ds => match kT ds with
      | some c => kvs.length < sizeLine ∧ f (.dT (putM kvs c d))
      | none => False
    | _ => False
  | _ => False
def isDic : MO → Prop
  | .dK _ => True
  | .dT _ => True
  | _ => False
theorem dic_of {K : PySem.W.Frag} {G F H : Hp} {M : MH} {a : Addr} {k : D} {y : V} {f : Option D → Prop} (R : Rel K G F H M) (p : Rp K F y k) (h : oDA (M a) k f) : ∃ o r, DGet H a y o ∧ f r ∧ (r = none → o = none) ∧ ∀ d, r = some d → ∃ v, o = some v ∧ Rp K F v d := by
  cases q : M a with
  | none => rw [q] at h; exact h.elim
  | some mo =>
    rw [q] at h
    obtain ⟨_, u, hu, r⟩ := R.chg a mo q
    cases mo with
    | dK kvs =>
      unfold oDA at h
      dsimp only at h
      cases q2 : k1 k with
      | none => simp only [q2] at h
      | some c =>
        simp only [q2] at h
        cases u with
        | dK vs =>
          have e := k1_of p q2
          subst e
          exact ⟨_, _, DGet.k hu, h, (kp_val r).1, (kp_val r).2⟩
        | _ => exact (r : False).elim
    | lk ob0 ks kvs =>
      unfold oDA at h
      dsimp only at h
      cases q2 : k1 k with
      | none => simp only [q2] at h
      | some c =>
        simp only [q2] at h
        cases u with
        | frz ob u =>
          obtain ⟨_, rfl, r2⟩ := (show ob = ob0 ∧ RpLk K F u ks kvs from r)
          have e := k1_of p q2
          subst e
          exact ⟨_, _, .inl ⟨ks, _, .inr ⟨ob, hu⟩, rfl, rfl⟩, h, (kp_val r2).1, (kp_val r2).2⟩
        | _ => exact (r : False).elim
    | dT kvs =>
      cases k with
      | tup ds =>
        unfold oDA at h
        dsimp only at h
        cases q2 : kT ds with
        | none => simp only [q2] at h
        | some c =>
          simp only [q2] at h
          cases u with
          | dT vs =>
            cases p with
            | tup hb rs =>
              have e := kT_of rs q2
              subst e
              exact ⟨_, _, DGet.t hu (R.sub _ _ hb), h, (kp_val r).1, (kp_val r).2⟩
          | _ => exact (r : False).elim
      | _ => exact h.elim
    | _ => exact h.elim
theorem put_of {K : PySem.W.Frag} {G F H : Hp} {M : MH} {a : Addr} {k d : D} {y v : V} {f : MO → Prop} (R : Rel K G F H M) (p : Rp K F y k) (pv : Rp K F v d) (h : oPA (M a) k d f) : ∃ o u, DPut H a y v (upd H a u) ∧ f o ∧ Rel K G F (upd H a u) (mup M a o) := by
  cases q : M a with
  | none => rw [q] at h; exact h.elim
  | some mo =>
    rw [q] at h
    obtain ⟨_, u, hu, r⟩ := R.chg a mo q
    cases mo with
    | dK kvs =>
      unfold oPA at h
      dsimp only at h
      cases q2 : k1 k with
      | none => simp only [q2] at h
      | some c =>
        simp only [q2] at h
        cases u with
        | dK vs =>
          have e := k1_of p q2
          subst e
          have r2 : RpO K F (.dK vs) (.dK kvs) := r
          exact ⟨_, _, DPut.k hu (by rw [kp_len (show KP K F vs kvs from r2)]; exact h.1), h.2, R.put q (show RpO K F (.dK (putK vs c v)) (.dK (putM kvs c d)) from kp_put pv r2)⟩
        | _ => exact (r : False).elim
    | dT kvs =>
      cases k with
      | tup ds =>
        unfold oPA at h
        dsimp only at h
        cases q2 : kT ds with
        | none => simp only [q2] at h
        | some c =>
          simp only [q2] at h
          cases u with
          | dT vs =>
            cases p with
            | tup hb rs =>
              have e := kT_of rs q2
              subst e
              have r2 : RpO K F (.dT vs) (.dT kvs) := r
              exact ⟨_, _, DPut.t hu (R.sub _ _ hb) (by rw [kp_len (show KP K F vs kvs from r2)]; exact h.1), h.2, R.put q (show RpO K F (.dT (putK vs c v)) (.dT (putM kvs c d)) from kp_put pv r2)⟩
          | _ => exact (r : False).elim
      | _ => exact h.elim
    | _ => exact h.elim
def tDnK : TEt := fun _ M Q => ∀ p, M p = none → Q (.ref p) (mup M p (.dK []))
def tDnT : TEt := fun _ M Q => ∀ p, M p = none → Q (.ref p) (mup M p (.dT []))
def tDg (to ti : TEt) : TEt := fun τ M Q => to τ M fun x M1 => ti τ M1 fun k M2 => oDic M2 x k fun r => oSome r fun d => Q d M2
def tDi (neg : Bool) (ti to : TEt) : TEt := fun τ M Q => ti τ M fun k M1 => to τ M1 fun x M2 => oDic M2 x k fun r => Q (.bl (if neg = true then !r.isSome else r.isSome)) M2
def tDg2 (to ti tz : TEt) : TEt := fun τ M Q => to τ M fun x M1 => (∃ a o, x = .ref a ∧ M1 a = some o ∧ isDic o) ∧ ti τ M1 fun k M2 => tz τ M2 fun z M3 => oDic M3 x k fun r => Q (r.getD z) M3
def zDict : TSett := fun o i v M Q => match o with
  | .ref a => oPA (M a) i v fun mo => Q (mup M a mo)
  | _ => False
section
variable {X : Cx} {E : XK} {Et : XT} {o i z : Expr} {pos apos cpos : Pos} {to ti tz : TEt}
theorem q_dnewK : QE X E Et (.Dict [] [] pos) tDnK := PEimp pe_dnewK (by
  rintro σ H Q ⟨G, F, M, τ, Qt, a, h, k⟩ p np
  exact k _ F _ _ _ (Same.refl _) (a.rel.newM (u := .dK []) (o := .dK []) np .nil) (.ref p) (h p (a.rel.free np).2))
theorem q_dnewT : QE X E Et (.Dict [] [] pos) tDnT := PEimp pe_dnewT (by
  rintro σ H Q ⟨G, F, M, τ, Qt, a, h, k⟩ p np
  exact k _ F _ _ _ (Same.refl _) (a.rel.newM (u := .dT []) (o := .dT []) np .nil) (.ref p) (h p (a.rel.free np).2))
theorem dic_ref {M : MH} {x k : D} {f : Option D → Prop} (h : oDic M x k f) : ∃ a, x = .ref a ∧ oDA (M a) k f := by
  cases x with
  | ref a => exact ⟨a, rfl, h⟩
  | _ => exact h.elim
theorem q_dget (hu : X.A.units + 1 < cLine) (ho : QE X E Et o to) (hi : QE X E Et i ti) (hs : NoSl i := by intro _ _; rfl) : QE X E Et (.Subscript o i pos) (tDg to ti) := PEimp (pe_dget hu ho hi hs) (by
  rintro σ H Q ⟨G, F, M, τ, Qt, a, h, k⟩
  refine ⟨G, F, M, τ, _, a, h, fun x F1 H1 M1 d s1 r1 p1 q1 => ?_⟩
  refine ⟨G, F1, M1, τ, _, a.step s1 r1, q1, fun y F2 H2 M2 e s2 r2 p2 q2 => ?_⟩
  obtain ⟨b, rfl, q3⟩ := dic_ref q2
  obtain ⟨ov, r, g, hf, h0, h1⟩ := dic_of r2 p2 q3
  obtain ⟨d, rfl, q4⟩ := oSome_e hf
  obtain ⟨v, rfl, pv⟩ := h1 d rfl
  cases p1
  exact ⟨b, v, rfl, g, k v F2 H2 M2 d (s1.trans s2) r2 pv q4⟩)
theorem lv_din {neg : Bool} : ∀ σ H Q, liftE X.K E Et (tDi neg ti to) σ H Q → (liftE X.K E Et ti σ H fun y H1 => liftE X.K E Et to σ H1 fun x H2 => ∃ a o, x = .ref a ∧ DGet H2 a y o ∧ Q (.bl (if neg = true then !o.isSome else o.isSome)) H2) := by
  rintro σ H Q ⟨G, F, M, τ, Qt, a, h, k⟩
  refine ⟨G, F, M, τ, _, a, h, fun y F1 H1 M1 e s1 r1 p1 q1 => ?_⟩
  refine ⟨G, F1, M1, τ, _, a.step s1 r1, q1, fun x F2 H2 M2 d s2 r2 p2 q2 => ?_⟩
  obtain ⟨b, rfl, q3⟩ := dic_ref q2
  obtain ⟨ov, r, g, hf, h0, h1⟩ := dic_of r2 (p1.mono s2) q3
  have e : ov.isSome = r.isSome := by
    cases r with
    | none => rw [h0 rfl]; rfl
    | some d => obtain ⟨v, rfl, _⟩ := h1 d rfl; rfl
  cases p2
  exact ⟨b, ov, rfl, g, by rw [e]; exact k _ F2 H2 M2 _ (s1.trans s2) r2 (.bl _) hf⟩
theorem q_din (hu : X.A.units + 1 < cLine) (hi : QE X E Et i ti) (ho : QE X E Et o to) (hm : behindInMarks .In o = false := by rfl) : QE X E Et (.Compare i [.In] [o] pos) (tDi false ti to) := PEimp (pe_cmp (pc_din hu hi ho) hm) lv_din
theorem q_dnotin (hu : X.A.units + 1 < cLine) (hi : QE X E Et i ti) (ho : QE X E Et o to) (hm : behindInMarks .NotIn o = false := by rfl) : QE X E Et (.Compare i [.NotIn] [o] pos) (tDi true ti to) := PEimp (pe_cmp (pc_dnotin hu hi ho) hm) lv_din
theorem lv_boP {te : TEt} {t : TE} (h : ∀ σ H Q, liftE X.K E Et te σ H Q → t σ H Q) : ∀ σ H Q, liftT X.K E Et (tBo te) σ H Q → tB t σ H Q := by
  rintro σ H Q ⟨G, F, M, τ, Qt, a, w, k⟩
  unfold tB
  refine h σ H _ ⟨G, F, M, τ, _, a, w, fun v F1 H1 M1 d s1 r1 p1 q1 => ?_⟩
  cases p1 <;> first | exact (show False from q1).elim | exact ⟨_, rfl, k _ F1 H1 M1 s1 r1 q1⟩
theorem qt_din (hu : X.A.units + 1 < cLine) (hi : QE X E Et i ti) (ho : QE X E Et o to) (hm : behindInMarks .In o = false := by rfl) : QT X E Et (.Compare i [.In] [o] pos) (tBo (tDi false ti to)) := PTimp (pt_cmp (pc_din hu hi ho) hm) (lv_boP lv_din)
theorem qt_dnotin (hu : X.A.units + 1 < cLine) (hi : QE X E Et i ti) (ho : QE X E Et o to) (hm : behindInMarks .NotIn o = false := by rfl) : QT X E Et (.Compare i [.NotIn] [o] pos) (tBo (tDi true ti to)) := PTimp (pt_cmp (pc_dnotin hu hi ho) hm) (lv_boP lv_din)
theorem q_dget2 (hu : X.A.units + 1 < cLine) (ho : QE X E Et o to) (hi : QE X E Et i ti) (hz : QE X E Et z tz) (m : M2 X o "get" apos i z cpos := by exact ⟨rfl, rfl, rfl, rfl⟩) : QE X E Et (.Call (.Attribute o "get" apos) [i, z] [] cpos) (tDg2 to ti tz) := PEimp (pe_dget2 hu ho hi hz m) (by
  rintro σ H Q ⟨G, F, M, τ, Qt, a, h, k⟩
  refine ⟨G, F, M, τ, _, a, h, fun x F1 H1 M1 d s1 r1 p1 q1 => ?_⟩
  obtain ⟨⟨b, mo, rfl, hb, hd⟩, q1⟩ := q1
  cases p1
  have isd : IsD H1 b := by
    obtain ⟨_, u, hu, r⟩ := r1.chg b _ hb
    cases mo with
    | dK kvs =>
      cases u with
      | dK vs => exact .inl ⟨vs, .inl hu⟩
      | _ => exact (r : False).elim
    | dT kvs =>
      cases u with
      | dT vs => exact .inr ⟨vs, .inl hu⟩
      | _ => exact (r : False).elim
    | _ => exact hd.elim
  refine ⟨b, rfl, isd, G, F1, M1, τ, _, a.step s1 r1, q1, fun y F2 H2 M2 e s2 r2 p2 q2 => ?_⟩
  refine ⟨G, F2, M2, τ, _, a.step (s1.trans s2) r2, q2, fun w F3 H3 M3 zd s3 r3 p3 q3 => ?_⟩
  obtain ⟨ov, r, g, hf, h0, h1⟩ := dic_of (f := fun r => Qt (r.getD zd) M3) r3 (p2.mono s3) q3
  refine ⟨ov, g, ?_⟩
  cases r with
  | none => rw [h0 rfl]; exact k _ F3 H3 M3 _ ((s1.trans s2).trans s3) r3 p3 hf
  | some d =>
    obtain ⟨v, rfl, pv⟩ := h1 d rfl
    exact k _ F3 H3 M3 _ ((s1.trans s2).trans s3) r3 pv hf)
theorem sq_dict (hu : X.A.units + 1 < cLine) : PSet X (lSet X.K zDict) := by
  intro pins s σ H o i v ov iv u Q I ro ri rv h
  obtain ⟨G, F, M, od, idd, vd, Qt, R, po, pi, pv, h, k⟩ := h
  cases po with
  | ref a =>
    have h : oPA (M a) idd vd fun mo => Qt (mup M a mo) := h
    obtain ⟨mo, u', g, hq, R2⟩ := put_of R pi pv h
    obtain rfl : ov = Value.ref a := ro
    refine d_setItem hu I g ri rv fun s4 I4 => ?_
    exact ⟨_, I4, k F _ _ (Same.refl _) R2 hq⟩
  | _ => exact h.elim
end
/-! ### len of a dict, of anything -/
def cLenD : RLt := fun ds M Q => match ds with
  | [.ref a] => match M a with
    | some (.dK kvs) => Q (.int (kvs.length : Nat)) M
    | some (.dT kvs) => Q (.int (kvs.length : Nat)) M
    | _ => False
  | _ => False
section
variable {X : Cx} {E : XK} {Et : XT}
theorem call_len_dK : CallR X (.builtin "len") (fun xs H Q => ∃ (p : Addr) (kvs : List (Key × V)), xs = [.ref p] ∧ H p = some (.dK kvs) ∧ Q (.int ((kvs.length : Nat) : Int)) H) := by
  intro pins s σ H xs us Q I r h
  obtain ⟨p, kvs, rfl, e, q⟩ := h
  obtain ⟨u, rfl, rx⟩ := vals1 r
  cases rx
  exact d_len I (.inl e) fun t s' I' => ⟨.int (kvs.length : Nat), H, I', ⟨t, rfl⟩, q⟩
theorem cq_lenD : CallQ X (.builtin "len") cLenD := by
  intro pins s σ H xs us Q I r h
  obtain ⟨G, F, M, ds, Qt, R, rp, h, k⟩ := h
  match ds, rp, h with
  | [.ref a], .cons (.ref _) .nil, h =>
    have h : (match M a with | some (.dK kvs) => Qt (.int (kvs.length : Nat)) M | some (.dT kvs) => Qt (.int (kvs.length : Nat)) M | _ => False) := h
    cases e : M a with
    | none => rw [e] at h; exact h.elim
    | some mo =>
      obtain ⟨_, u, hu, rr⟩ := R.chg a mo e
      rw [e] at h
      cases mo with
      | dK kvs =>
        cases u with
        | dK vs =>
          refine call_len_dK pins s σ H _ us Q I r ⟨a, vs, rfl, hu, ?_⟩
          rw [kp_len (show KP X.K F vs kvs from rr)]
          exact k _ F H M _ (Same.refl _) R (.int _) h
        | _ => exact (rr : False).elim
      | dT kvs =>
        cases u with
        | dT vs =>
          refine call_len_dT pins s σ H _ us Q I r ⟨a, vs, rfl, hu, ?_⟩
          rw [kp_len (show KP X.K F vs kvs from rr)]
          exact k _ F H M _ (Same.refl _) R (.int _) h
        | _ => exact (rr : False).elim
      | _ => exact h.elim
/-! ### x in a row of plain values -/
def flatD : D → Bool
  | .non => true
  | .bl _ => true
  | .int _ => true
  | .str _ => true
  | _ => false
def eqD : D → D → Bool
  | .non, .non => true
  | .bl a, .bl b => a == b
  | .bl a, .int b => (if a then 1 else 0) == b
  | .int a, .bl b => a == (if b then 1 else 0)
  | .int a, .int b => a == b
  | .str a, .str b => a == b
  | _, _ => false
theorem flat_of {K : PySem.W.Frag} {F : Hp} {v : V} {d : D} (p : Rp K F v d) (h : flatD d = true) : flatV v = true := by
  cases p <;> first | rfl | cases h
theorem flats_of {K : PySem.W.Frag} {F : Hp} : ∀ {vs : List V} {ds : List D}, Rps K F vs ds → ds.all flatD = true → vs.all flatV = true
  | _, _, .nil, _ => rfl
  | _, _, .cons h t, e => by
    rw [List.all_cons, Bool.and_eq_true] at e ⊢
    exact ⟨flat_of h e.1, flats_of t e.2⟩
theorem eqD_of {K : PySem.W.Frag} {F : Hp} {v w : V} {x y : D} (p : Rp K F v x) (q : Rp K F w y) (hx : flatD x = true) (hy : flatD y = true) : eqV v w = eqD x y := by
  cases p <;> first | (cases hx; done) | (cases q <;> first | rfl | (cases hy; done))
theorem in_of {K : PySem.W.Frag} {F : Hp} {v : V} {x : D} (p : Rp K F v x) (hx : flatD x = true) : ∀ {vs : List V} {ds : List D}, Rps K F vs ds → ds.all flatD = true → (vs.any fun y => eqV y v) = (ds.any fun y => eqD y x)
  | _, _, .nil, _ => rfl
  | _, _, .cons h t, e => by
    rw [List.all_cons, Bool.and_eq_true] at e
    rw [List.any_cons, List.any_cons, eqD_of h p e.1 hx, in_of p hx t e.2]
def bIn (neg : Bool) : R2t := fun x y M Q => match seqOf M y with
  | some ds => flatD x = true ∧ ds.all flatD = true ∧ Q (.bl (if neg = true then !(ds.any fun z => eqD z x) else ds.any fun z => eqD z x)) M
  | none => False
theorem lv_in {neg : Bool} : ∀ x y H Q, lr2 X.K (bIn neg) x y H Q → rIn X.K neg x y H Q := by
  rintro x y H Q ⟨G, F, M, dx, dy, Qt, R, px, py, h, k⟩
  unfold bIn at h
  cases e : seqOf M dy with
  | none => simp only [e] at h
  | some ds =>
    simp only [e] at h
    obtain ⟨a, vs, rfl, hs, r⟩ := seq_of R py e
    refine ⟨a, vs, rfl, hs, flat_of px h.1, flats_of r h.2.1, ?_⟩
    unfold inV
    rw [in_of px h.1 r h.2.1]
    exact k _ F H M _ (Same.refl _) R (.bl _) h.2.2
theorem oq_inQ : OpQ X (compareOp .In) (bIn false) := OpRimp op_in_seq lv_in
theorem oq_inQN : OpQ X (compareOp .NotIn) (bIn true) := OpRimp op_notIn_seq lv_in
/-! ### text * n -/
def repS (z : Str) (n : Int) : Str := if n < 1 then Str.empty else if (n == 1 || z.length == 0) = true then z else ⟨(List.replicate n.toNat z.cps).foldl (· ++ ·) #[]⟩
def bRepS : R2t := fun x y M Q => match x, y with
  | .str z, .int n => (0 ≤ n ∧ n ≤ 1000 ∧ z.length ≤ 1000) ∧ Q (.str (repS z n)) M
  | _, _ => False
theorem foldl_rep' (its : List Nat) : ∀ (m : Nat) (acc : List Nat), (List.foldl (fun x1 x2 => x1 ++ x2) acc.toArray (List.replicate m its.toArray)) = (acc ++ (List.replicate m its).flatten).toArray
  | 0, acc => by simp
  | m + 1, acc => by
    rw [List.replicate_succ, List.foldl_cons, List.append_toArray, foldl_rep' its m (acc ++ its), List.replicate_succ, List.flatten_cons, List.append_assoc]
theorem size_rep' (its : List Nat) (m : Nat) : (List.foldl (fun x1 x2 => x1 ++ x2) #[] (List.replicate m its.toArray)) = (List.replicate m its).flatten.toArray := by
  have := foldl_rep' its m []
  rw [List.nil_append] at this
  exact this
theorem len_rep {α : Type} (its : List α) : ∀ m : Nat, (List.replicate m its).flatten.length = m * its.length
  | 0 => by simp
  | m + 1 => by rw [List.replicate_succ, List.flatten_cons, List.length_append, len_rep its m, Nat.succ_mul]; omega
theorem op_repS : OpR X (binaryOp .Mult) (fun x y H Q => ∃ (z : Str) (n : Int), x = .str z ∧ y = .int n ∧ (0 ≤ n ∧ n ≤ 1000 ∧ z.length ≤ 1000) ∧ Q (.str (repS z n)) H) := by
  intro pins s σ H x y v u Q I rx ry h
  obtain ⟨z, n, rfl, rfl, hb, q⟩ := h
  obtain ⟨t, rfl⟩ := rx
  obtain ⟨t2, rfl⟩ := ry
  have hm : z.length * n.toNat ≤ 1000000 := Nat.le_trans (Nat.mul_le_mul hb.2.2 (show n.toNat ≤ 1000 by omega)) (by decide)
  have hz : (⟨(List.replicate n.toNat z.cps).foldl (· ++ ·) #[]⟩ : Str).length ≤ sizeLine := by
    have e := size_rep' z.cps.toList n.toNat
    rw [Array.toArray_toList] at e
    show ((List.replicate n.toNat z.cps).foldl (· ++ ·) #[]).size ≤ sizeLine
    rw [e, sizeLine_eq, List.size_toArray, len_rep]
    have : z.length = z.cps.toList.length := by rw [Array.length_toList]; rfl
    rw [← this, Nat.mul_comm]
    omega
  refine P.mul_str (by simp only [Bool.or_eq_false_iff, decide_eq_false_iff_not]; omega) (fun h1 _ => ?_) (fun h1 _ => ?_) ?_
  · have h3 : (z.length : Int) ≤ 1000 := by omega
    have h2 : (1000 : Int) ≤ (2 ^ 63 - 1) / n := by
      rw [Int.le_ediv_iff_mul_le (by omega)]
      omega
    omega
  · unfold Builtin.Str.tooLong
    simp only [decide_eq_false_iff_not]
    rw [sizeLine_eq]
    omega
  · unfold repS at q
    split
    · rename_i h1
      rw [if_pos h1] at q
      exact ⟨Nat.zero_le _, .str Str.empty, H, I.tok _, ⟨_, rfl⟩, q⟩
    · rename_i h1
      rw [if_neg h1] at q
      split
      · rename_i h2
        rw [if_pos h2] at q
        exact ⟨.str z, H, I, ⟨_, rfl⟩, q⟩
      · rename_i h2
        rw [if_neg h2] at q
        exact ⟨hz, .str _, H, I.tok _, ⟨_, rfl⟩, q⟩
theorem oq_repS : OpQ X (binaryOp .Mult) bRepS := OpRimp op_repS (by
  rintro x y H Q ⟨G, F, M, dx, dy, Qt, R, px, py, h, k⟩
  cases px <;> first
    | exact (show False from h).elim
    | (cases py <;> first | exact (show False from h).elim | exact ⟨_, _, rfl, rfl, h.1, k _ F H M _ (Same.refl _) R (.str _) h.2⟩))
/-! ### list * n -/
def bRep : R2t := fun x y M Q => match x, y with
  | .lst ds, .int n => (0 ≤ n ∧ n ≤ 1000 ∧ ds.length ≤ 1000) ∧ Q (.lst (List.replicate n.toNat ds).flatten) M
  | _, _ => False
theorem rps_rep {K : PySem.W.Frag} {F : Hp} {vs : List V} {ds : List D} (r : Rps K F vs ds) : ∀ n : Nat, Rps K F (List.replicate n vs).flatten (List.replicate n ds).flatten
  | 0 => .nil
  | n + 1 => by
    rw [List.replicate_succ, List.replicate_succ, List.flatten_cons, List.flatten_cons]
    exact r.append (rps_rep r n)
theorem oq_rep : OpQ X (binaryOp .Mult) bRep := OpRimp L2.op_rep (by
  rintro x y H Q ⟨G, F, M, dx, dy, Qt, R, px, py, h, k⟩
  match dx, dy, px, py, h with
  | .lst ds, .int n, .lst (a := a) (vs := vs) ha r, .int _, h =>
    have hm : vs.length * n.toNat ≤ 1000000 := by
      rw [r.length]
      exact Nat.le_trans (Nat.mul_le_mul h.1.2.2 (show n.toNat ≤ 1000 by have := h.1; omega)) (by decide)
    refine ⟨a, n, vs, rfl, rfl, R.sub _ _ ha, by have := h.1; omega, by have := h.1; omega, by rw [sizeLine_eq]; omega, fun p np => ?_⟩
    obtain ⟨s, r1⟩ := R.newF (o := .lst (List.replicate n.toNat vs).flatten) np
    exact k _ _ _ M _ s r1 (.lst upd_same ((rps_rep r _).mono s)) h.2)
def bRepM : R2t := fun x y M Q => match x, y with
  | .lst ds, .int n => (0 ≤ n ∧ n ≤ 1000 ∧ ds.length ≤ 1000) ∧ ∀ p, M p = none → Q (.ref p) (mup M p (.lst (List.replicate n.toNat ds).flatten))
  | _, _ => False
theorem oq_repM : OpQ X (binaryOp .Mult) bRepM := OpRimp L2.op_rep (by
  rintro x y H Q ⟨G, F, M, dx, dy, Qt, R, px, py, h, k⟩
  match dx, dy, px, py, h with
  | .lst ds, .int n, .lst (a := a) (vs := vs) ha r, .int _, h =>
    have hm : vs.length * n.toNat ≤ 1000000 := by
      rw [r.length]
      exact Nat.le_trans (Nat.mul_le_mul h.1.2.2 (show n.toNat ≤ 1000 by have := h.1; omega)) (by decide)
    refine ⟨a, n, vs, rfl, rfl, R.sub _ _ ha, by have := h.1; omega, by have := h.1; omega, by rw [sizeLine_eq]; omega, fun p np => ?_⟩
    exact k _ _ _ _ _ (Same.refl _) (R.newM (u := .lst (List.replicate n.toNat vs).flatten) (o := .lst (List.replicate n.toNat ds).flatten) np (rps_rep r _)) (.ref p) (h.2 p (R.free np).2))
/-! ### tuples: + and slices -/
def bCatT : R2t := fun x y M Q => match x, y with
  | .tup a, .tup b => a.length + b.length ≤ sizeLine ∧ Q (.tup (a ++ b)) M
  | _, _ => False
theorem oq_catT : OpQ X (binaryOp .Add) bCatT := OpRimp op_catA (by
  rintro x y H Q ⟨G, F, M, dx, dy, Qt, R, px, py, h, k⟩
  match dx, dy, px, py, h with
  | .tup ds, .tup es, .tup (a := a) (vs := vs) ha r, .tup (a := b) (vs := ws) hb r2, h =>
    refine ⟨a, b, vs, ws, rfl, rfl, SqT.of (R.sub _ _ ha), SqT.of (R.sub _ _ hb), by rw [r.length, r2.length]; exact h.1, fun e => ?_, fun _ e => ?_, fun _ _ p np => ?_⟩
    · subst e
      cases r
      exact k _ F H M _ (Same.refl _) R (.tup hb r2) h.2
    · subst e
      cases r2
      have h2 := h.2
      rw [List.append_nil] at h2
      exact k _ F H M _ (Same.refl _) R (.tup ha r) h2
    · obtain ⟨s, r1⟩ := R.newF (o := .tup (vs ++ ws)) np
      exact k _ _ _ M _ s r1 (.tup upd_same ((r.append r2).mono s)) h.2)
def cSlT : D → Option Int → Option Int → MH → VD → Prop := fun x lo hi M Q => match x with
  | .tup ds => Q (.tup (cutD ds lo hi)) M
  | _ => False
theorem cut_whole {α : Type} {xs : List α} {i j : Nat} (h1 : i = 0) (h2 : j = xs.length) : (xs.drop i).take (j - i) = xs := by
  subst h1; subst h2; simp
variable {e : Expr} {lo hi : Option Expr} {te : TEt} {tl th : TOt} {pos p2 : Pos}
theorem q_sliceT (he : QE X E Et e te) (hl : QO X E Et lo tl) (hu : QO X E Et hi th) : QE X E Et (.Subscript e (.Slice lo hi none p2) pos) (tSc cSlT te tl th) := q_slice sl_tupA (by
  rintro x lo hi H Q ⟨G, F, M, dx, Qt, R, p, h, k⟩
  match dx, p, h with
  | .tup ds, .tup (a := a) (vs := vs) ha r, h =>
    refine ⟨a, vs, rfl, SqT.of (R.sub _ _ ha), fun hw => ?_, fun hw p np => ?_⟩
    · have e : Tl.cutD ds lo hi = ds := by
        unfold Tl.cutD
        rw [← r.length]
        exact cut_whole hw.1 (by rw [hw.2, r.length])
      rw [show cSlT (.tup ds) lo hi M Qt = Qt (.tup (Tl.cutD ds lo hi)) M from rfl, e] at h
      exact k _ F H M _ (Same.refl _) R (.tup ha r) h
    · obtain ⟨s, r1⟩ := R.newF (o := .tup (cutV vs lo hi)) np
      exact k _ _ _ M _ s r1 (.tup upd_same (r.cut.mono s)) h) he hl hu
/-! ### sorted(d), d a dict of ints -/
def oSD (o : Option MO) (f : List Int → Prop) : Prop := match o with
  | some (.dK kvs) => ∃ ks : List Int, kvs.map (fun p : Key × D => p.1) = ks.map Sum.inl ∧ ks.length < 64 ∧ ∀ ys : List Int, ys.Perm ks → ys.Pairwise (· ≤ ·) → f ys
  | _ => False
def cSortDI : RLt := fun ds M Q => match ds with
  | [.ref a] => oSD (M a) fun ys => Q (.lst (ys.map D.int)) M
  | _ => False
theorem kp_keys {K : PySem.W.Frag} {F : Hp} {κ : Type} {vs : List (κ × V)} {ds : List (κ × D)} (h : KP K F vs ds) : vs.map (·.1) = ds.map (·.1) := by
  induction h with
  | nil => rfl
  | cons r t ih => rw [List.map_cons, List.map_cons, r.1, ih]
theorem cq_sortDI (hc : X.calm = true) : CallQ X (.builtin "sorted") cSortDI := by
  intro pins s σ H xs us Q I r h
  obtain ⟨G, F, M, ds, Qt, R, rp, h, k⟩ := h
  match ds, rp, h with
  | [.ref a], .cons (.ref _) .nil, h =>
    have h : oSD (M a) fun ys => Qt (.lst (ys.map D.int)) M := h
    cases e : M a with
    | none => rw [e] at h; exact h.elim
    | some mo =>
      obtain ⟨_, u, hu, rr⟩ := R.chg a mo e
      rw [e] at h
      cases mo with
      | dK kvs =>
        cases u with
        | dK vs =>
          obtain ⟨ks, hk, h64, h⟩ := h
          refine call_sortedDI hc pins s σ H _ us Q I r ⟨a, vs, ks, rfl, .inl hu, by rw [kp_keys (show KP X.K F vs kvs from rr)]; exact hk, h64, fun ys p hp ho np => ?_⟩
          obtain ⟨s', r1⟩ := R.newF (o := .lst (ys.map V.int)) np
          exact k _ _ _ M _ s' r1 (.lst upd_same (rps_ints ys)) (h ys hp ho)
        | _ => exact (rr : False).elim
      | _ => exact h.elim
end
/-! ### texts written out -/
theorem map_inj' {α β : Type} {f : α → β} (hf : ∀ a b, f a = f b → a = b) : ∀ {l m : List α}, l.map f = m.map f → l = m
  | [], [], _ => rfl
  | [], _ :: _, h => by simp at h
  | _ :: _, [], h => by simp at h
  | a :: l, b :: m, h => by
    simp only [List.map_cons, List.cons.injEq] at h
    rw [hf _ _ h.1, map_inj' hf h.2]
theorem ofS_inj {s t : String} : (Str.ofString s = Str.ofString t) = (s = t) := by
  apply propext
  constructor
  · intro h
    rw [Str.ofString_eq_toList, Str.ofString_eq_toList] at h
    have h2 : (s.toList.map Char.toNat) = (t.toList.map Char.toNat) := by
      have := congrArg (fun z : Str => z.cps.toList) h
      simpa using this
    have h3 : s.toList = t.toList := map_inj' (fun a b e => Char.toNat_inj.mp e) h2
    exact String.toList_inj.mp h3
  · intro h; rw [h]
/-! ### a cut between two statements -/
def sCut (t u : TSt) : TSt := fun D τ M => ∃ W : Sg → MH → Prop, t { D with nx := W } τ M ∧ ∀ τ' M', W τ' M' → u D τ' M'
theorem qss_cut {X : Cx} {E : XK} {Et : XT} {st : Stmt} {rest : List Stmt} {t u : TSt} (h1 : QS X E Et st t) (h2 : QSs X E Et rest u) : QSs X E Et (st :: rest) (sCut t u) := PSsimp (pss_cons h1 h2) (by
  rintro D σ H ⟨G, F, M, τ, Dt, a, en, W, h, hW⟩
  exact ⟨G, F, M, τ, { Dt with nx := W }, a, ⟨fun F' H' M' σ' τ' s a' h' => ⟨G, F', M', τ', Dt, a', en.mono s, hW τ' M' h'⟩, en.rt, en.bk, en.ct⟩, h⟩)
theorem cut_by {t u : TSt} {D0 : En} {τ : Sg} {M : MH} (W : Sg → MH → Prop) (h : t { D0 with nx := W } τ M) (h2 : ∀ τ' M', W τ' M' → u D0 τ' M') : sCut t u D0 τ M := ⟨W, h, h2⟩
/-! ### a branch that is not taken -/
theorem qs_never {X : Cx} {E : XK} {Et : XT} {st : Stmt} : QS X E Et st (fun _ _ _ => False) := ⟨fun pins s σ H D I w => by
  obtain ⟨G, F, M, τ, Dt, a, en, h⟩ := w
  exact h.elim⟩
theorem qss_never {X : Cx} {E : XK} {Et : XT} {st : List Stmt} : QSs X E Et st (fun _ _ _ => False) := ⟨fun pins s σ H D I w => by
  obtain ⟨G, F, M, τ, Dt, a, en, h⟩ := w
  exact h.elim⟩
theorem qe_never {X : Cx} {E : XK} {Et : XT} {e : Expr} : QE X E Et e (fun _ _ _ => False) := ⟨fun pins s σ H D I w => by
  obtain ⟨G, F, M, τ, Dt, a, h, k⟩ := w
  exact h.elim⟩
/-! ### readings, for simp -/
section
variable {M : MH} {Q : VD} {a : Addr} {k x y d : D} {f : Option D → Prop} {g : MO → Prop} {ds es : List D} {i n : Int} {s z : Str}
theorem uDic : oDic M (.ref a) k f = oDA (M a) k f := propext Iff.rfl
theorem oDA_ki {kvs : List (Key × D)} : oDA (some (.dK kvs)) (.int i) f = f (valD kvs (.inl i)) := propext Iff.rfl
theorem oDA_ks {kvs : List (Key × D)} : oDA (some (.dK kvs)) (.str s) f = f (valD kvs (.inr s)) := propext Iff.rfl
theorem oDA_t {kvs : List (List Key × D)} : oDA (some (.dT kvs)) (.tup ds) f = oSome (kT ds) fun c => f (valD kvs c) := by
  unfold oDA oSome; cases h : kT ds <;> simp [h]
theorem oPA_ki {kvs : List (Key × D)} : oPA (some (.dK kvs)) (.int i) d g = (kvs.length < 16777216 ∧ g (.dK (putM kvs (.inl i) d))) := by rw [← sizeLine_eq]; rfl
theorem oPA_ks {kvs : List (Key × D)} : oPA (some (.dK kvs)) (.str s) d g = (kvs.length < 16777216 ∧ g (.dK (putM kvs (.inr s) d))) := by rw [← sizeLine_eq]; rfl
theorem oPA_t {kvs : List (List Key × D)} : oPA (some (.dT kvs)) (.tup ds) d g = oSome (kT ds) fun c => kvs.length < 16777216 ∧ g (.dT (putM kvs c d)) := by
  rw [← sizeLine_eq]; unfold oPA oSome; cases h : kT ds <;> simp [h]
def consK (a : Key) (o : Option (List Key)) : Option (List Key) := match o with
  | some l => some (a :: l)
  | none => none
theorem consK_s {a : Key} {l : List Key} : consK a (some l) = some (a :: l) := rfl
theorem kT_nil : kT [] = some [] := rfl
theorem kT_i {t : List D} : kT (.int i :: t) = consK (.inl i) (kT t) := by
  show (match k1 (.int i), kT t with | some a, some b => some (a :: b) | _, _ => none) = _
  cases kT t <;> rfl
theorem kT_s {t : List D} : kT (.str s :: t) = consK (.inr s) (kT t) := by
  show (match k1 (.str s), kT t with | some a, some b => some (a :: b) | _, _ => none) = _
  cases kT t <;> rfl
theorem uzDict {Qm : MH → Prop} : zDict (.ref a) k d M Qm = oPA (M a) k d fun mo => Qm (mup M a mo) := rfl
theorem uIn {neg : Bool} : bIn neg x y M Q = oSome (seqOf M y) fun ds => flatD x = true ∧ ds.all flatD = true ∧ Q (.bl (if neg = true then !(ds.any fun z => eqD z x) else ds.any fun z => eqD z x)) M := by
  unfold bIn oSome; cases seqOf M y <;> rfl
theorem uRepS : bRepS (.str z) (.int n) M Q = ((0 ≤ n ∧ n ≤ 1000 ∧ z.length ≤ 1000) ∧ Q (.str (repS z n)) M) := propext Iff.rfl
theorem uRep : bRep (.lst ds) (.int n) M Q = ((0 ≤ n ∧ n ≤ 1000 ∧ ds.length ≤ 1000) ∧ Q (.lst (List.replicate n.toNat ds).flatten) M) := propext Iff.rfl
theorem uRepM : bRepM (.lst ds) (.int n) M Q = ((0 ≤ n ∧ n ≤ 1000 ∧ ds.length ≤ 1000) ∧ ∀ p, M p = none → Q (.ref p) (mup M p (.lst (List.replicate n.toNat ds).flatten))) := propext Iff.rfl
theorem uCatT : bCatT (.tup ds) (.tup es) M Q = (ds.length + es.length ≤ 16777216 ∧ Q (.tup (ds ++ es)) M) := by rw [← sizeLine_eq]; rfl
theorem uSlT {lo hi : Option Int} : cSlT (.tup ds) lo hi M Q = Q (.tup (cutD ds lo hi)) M := propext Iff.rfl
def oLD (o : Option MO) (f : Nat → Prop) : Prop := match o with
  | some (.dK kvs) => f kvs.length
  | some (.dT kvs) => f kvs.length
  | _ => False
theorem oLD_k {kvs : List (Key × D)} {f : Nat → Prop} : oLD (some (.dK kvs)) f = f kvs.length := propext Iff.rfl
theorem oLD_t {kvs : List (List Key × D)} {f : Nat → Prop} : oLD (some (.dT kvs)) f = f kvs.length := propext Iff.rfl
theorem uLenD : cLenD [.ref a] M Q = oLD (M a) fun n => Q (.int (n : Nat)) M := by
  show (match M a with | some (.dK kvs) => Q (.int (kvs.length : Nat)) M | some (.dT kvs) => Q (.int (kvs.length : Nat)) M | _ => False) = _
  unfold oLD
  cases M a with
  | none => rfl
  | some o => cases o <;> rfl
theorem oSD_k {kvs : List (Key × D)} {f : List Int → Prop} : oSD (some (.dK kvs)) f = ∃ ks : List Int, kvs.map (·.1) = ks.map Sum.inl ∧ ks.length < 64 ∧ ∀ ys : List Int, ys.Perm ks → ys.Pairwise (· ≤ ·) → f ys := rfl
theorem uSortDI : cSortDI [.ref a] M Q = oSD (M a) fun ys => Q (.lst (ys.map D.int)) M := propext Iff.rfl
end
end Tl

namespace Tl
open PySem PySem.Spec PyProof.Rows L2

/-! ### widelanes: expressions, statements, programs -/
inductive Op7 where
  | add | sub | mul | div | rem | lt | eq
deriving DecidableEq
def Op7.s : Op7 → Str
  | .add => "+" | .sub => "-" | .mul => "*" | .div => "div" | .rem => "rem" | .lt => "<" | .eq => "="
theorem op_lane {o : Op7} : (o.s = Str.ofString "lane") = False := by cases o <;> simp only [Op7.s, ofS_inj, String.reduceEq]
theorem op_lanes {o : Op7} : (o.s = Str.ofString "lanes") = False := by cases o <;> simp only [Op7.s, ofS_inj, String.reduceEq]
theorem op_mine {o : Op7} : (o.s = Str.ofString "mine") = False := by cases o <;> simp only [Op7.s, ofS_inj, String.reduceEq]
theorem op_num {o : Op7} : (o.s = Str.ofString "num") = False := by cases o <;> simp only [Op7.s, ofS_inj, String.reduceEq]
theorem op_name {o : Op7} : (o.s = Str.ofString "name") = False := by cases o <;> simp only [Op7.s, ofS_inj, String.reduceEq]
theorem op_box {o : Op7} : (o.s = Str.ofString "box") = False := by cases o <;> simp only [Op7.s, ofS_inj, String.reduceEq]
inductive Ex where
  | num (i : Int) | nam (x : Str) | lane | lanes | mine | box (e : Ex) | op (w : Op7) (a b : Ex)
def Ex.d : Ex → D
  | .num i => .tup [.str "num", .int i]
  | .nam x => .tup [.str "name", .str x]
  | .lane => .tup [.str "lane"]
  | .lanes => .tup [.str "lanes"]
  | .mine => .tup [.str "mine"]
  | .box e => .tup [.str "box", e.d]
  | .op w a b => .tup [.str w.s, a.d, b.d]
def Ex.deep : Ex → Nat
  | .box e => e.deep + 1
  | .op _ a b => max a.deep b.deep + 1
  | _ => 1
inductive Sm where
  | set (l : Int) (x : Str) (e : Ex) | put (l : Int) (a b : Ex) | tell (l : Int) (e : Ex) | ret (l : Int) (e : Ex) | stop (l : Int) | brk (l : Int) | agn (l : Int) | meet (l : Int)
  | join (l : Int) (x w : Str) (e : Ex) | call (l : Int) (x f : Str) (es : List Ex) | if1 (l : Int) (e : Ex) (b : List Sm) | if2 (l : Int) (e : Ex) (b c : List Sm) | whl (l : Int) (e : Ex) (b : List Sm)
mutual
def Sm.d : Sm → D
  | .set l x e => .tup [.str "set", .int l, .str x, e.d]
  | .put l a b => .tup [.str "put", .int l, a.d, b.d]
  | .tell l e => .tup [.str "tell", .int l, e.d]
  | .ret l e => .tup [.str "return", .int l, e.d]
  | .stop l => .tup [.str "stop", .int l]
  | .brk l => .tup [.str "break", .int l]
  | .agn l => .tup [.str "again", .int l]
  | .meet l => .tup [.str "meet", .int l]
  | .join l x w e => .tup [.str "join", .int l, .str x, .str w, e.d]
  | .call l x f es => .tup [.str "call", .int l, .str x, .str f, .lst (es.map Ex.d)]
  | .if1 l e b => .tup [.str "if", .int l, e.d, .lst (stD b), .non]
  | .if2 l e b c => .tup [.str "if", .int l, e.d, .lst (stD b), .lst (stD c)]
  | .whl l e b => .tup [.str "while", .int l, e.d, .lst (stD b)]
def stD : List Sm → List D
  | [] => []
  | s :: t => s.d :: stD t
end
theorem stD_map : ∀ b : List Sm, stD b = b.map Sm.d
  | [] => by unfold stD; rfl
  | s :: t => by unfold stD; rw [stD_map t]; rfl
theorem stD_len (b : List Sm) : (stD b).length = b.length := by rw [stD_map, List.length_map]
theorem stD_app (a b : List Sm) : stD (a ++ b) = stD a ++ stD b := by rw [stD_map, stD_map, stD_map, List.map_append]
mutual
def Sm.deep : Sm → Nat
  | .if1 _ _ b => deeps b + 1
  | .if2 _ _ b c => max (deeps b) (deeps c) + 1
  | .whl _ _ b => deeps b + 1
  | _ => 1
def deeps : List Sm → Nat
  | [] => 0
  | s :: t => max s.deep (deeps t)
end
theorem deeps_mem : ∀ {b : List Sm} {s : Sm}, s ∈ b → s.deep ≤ deeps b
  | x :: t, s, h => by
    unfold deeps
    rcases List.mem_cons.mp h with rfl | h
    · omega
    · have := deeps_mem h; omega
def Sm.line : Sm → Int
  | .set l _ _ => l | .put l _ _ => l | .tell l _ => l | .ret l _ => l | .stop l => l | .brk l => l | .agn l => l | .meet l => l | .join l _ _ _ => l | .call l _ _ _ => l | .if1 l _ _ => l | .if2 l _ _ _ => l | .whl l _ _ => l
def Sm.word : Sm → Str
  | .set .. => "set" | .put .. => "put" | .tell .. => "tell" | .ret .. => "return" | .stop .. => "stop" | .brk .. => "break" | .agn .. => "again" | .meet .. => "meet" | .join .. => "join" | .call .. => "call" | .if1 .. => "if" | .if2 .. => "if" | .whl .. => "while"
def Sm.given : Sm → Option Str
  | .set _ x _ => some x | .join _ x _ _ => some x | .call _ x _ _ => some x | _ => none
def Sm.blocks : Sm → List (List Sm)
  | .if1 _ _ b => [b] | .if2 _ _ b c => [b, c] | .whl _ _ b => [b] | _ => []
def Sm.rest : Sm → List D
  | .set _ x e => [.str x, e.d] | .put _ a b => [a.d, b.d] | .tell _ e => [e.d] | .ret _ e => [e.d] | .join _ x w e => [.str x, .str w, e.d] | .call _ x f es => [.str x, .str f, .lst (es.map Ex.d)]
  | .if1 _ e b => [e.d, .lst (stD b), .non] | .if2 _ e b c => [e.d, .lst (stD b), .lst (stD c)] | .whl _ e b => [e.d, .lst (stD b)] | _ => []
theorem sm_d (s : Sm) : s.d = .tup (.str s.word :: .int s.line :: s.rest) := by cases s <;> (unfold Sm.d; rfl)
def innerOf (loop : Option Int) : Sm → Option Int
  | .whl l _ _ => some l
  | _ => loop
structure Df where
  name : Str
  ps : List Str
  body : List Sm
  first : Int
  last : Int
def Df.d (f : Df) : D := .tup [.str f.name, .lst (f.ps.map .str), .lst (stD f.body), .int f.first, .int f.last]
abbrev Pg := List Df
def pgD (p : Pg) : List D := p.map Df.d

/-! ### marks -/
inductive MK where
  | name (f x : Str) | row (l : Int) | dfn (f : Str) | back (f : Str)
deriving DecidableEq
def MK.k : MK → List Key
  | .name f x => [.inr "name", .inr f, .inr x]
  | .row l => [.inr "row", .inl l]
  | .dfn f => [.inr "def", .inr f]
  | .back f => [.inr "back", .inr f]
def MK.d : MK → D
  | .name f x => .tup [.str "name", .str f, .str x]
  | .row l => .tup [.str "row", .int l]
  | .dfn f => .tup [.str "def", .str f]
  | .back f => .tup [.str "back", .str f]
theorem MK.k_inj {a b : MK} (h : a.k = b.k) : a = b := by
  have n1 : ("def" : Str) ≠ "back" := by decide
  cases a <;> cases b <;> simp only [MK.k, List.cons.injEq, Sum.inr.injEq, Sum.inl.injEq, and_true, true_and, reduceCtorEq, and_false, false_and] at h <;> first | exact h.elim | (subst h; rfl) | (obtain ⟨rfl, rfl⟩ := h; rfl) | exact absurd h.1 n1 | exact absurd h.1.symm n1
abbrev Why := List (Option MK)
def oD : Option MK → D
  | none => .non
  | some k => k.d
def whyD (w : Why) : D := .lst (w.map oD)
abbrev FM := List (MK × Int × Option MK)
def fmD (fd : FM) : List (List Key × D) := fd.map fun p => (p.1.k, .tup [.int p.2.1, oD p.2.2])
def hasK (fd : FM) (k : MK) : Bool := fd.any fun p => decide (p.1 = k)
theorem val_fm (fd : FM) (k : MK) : (valD (fmD fd) k.k).isSome = hasK fd k := by
  induction fd with
  | nil => rfl
  | cons p t ih =>
    unfold fmD hasK
    rw [List.map_cons, List.any_cons]
    by_cases e : p.1 = k
    · rw [valD_pos (by rw [e]), decide_eq_true e]; rfl
    · rw [valD_neg (fun h => e (MK.k_inj h)), decide_eq_false e]; exact ih
theorem val_name (fd : FM) (f x : Str) : (valD (fmD fd) [.inr "name", .inr f, .inr x]).isSome = hasK fd (.name f x) := val_fm fd (.name f x)
theorem val_row (fd : FM) (l : Int) : (valD (fmD fd) [.inr "row", .inl l]).isSome = hasK fd (.row l) := val_fm fd (.row l)
theorem val_def (fd : FM) (f : Str) : (valD (fmD fd) [.inr "def", .inr f]).isSome = hasK fd (.dfn f) := val_fm fd (.dfn f)
theorem val_back (fd : FM) (f : Str) : (valD (fmD fd) [.inr "back", .inr f]).isSome = hasK fd (.back f) := val_fm fd (.back f)
theorem any_fm (fd : FM) (k : MK) : ((fmD fd).any fun kv => decide (kv.1 = k.k)) = hasK fd k := by
  induction fd with
  | nil => rfl
  | cons p t ih =>
    unfold fmD hasK
    rw [List.map_cons, List.any_cons, List.any_cons]
    have : decide (p.1.k = k.k) = decide (p.1 = k) := by
      by_cases e : p.1 = k
      · rw [decide_eq_true e, decide_eq_true (by rw [e])]
      · rw [decide_eq_false e, decide_eq_false (fun h => e (MK.k_inj h))]
    rw [this]
    exact congrArg _ ih
theorem put_fm {fd : FM} {k : MK} {v : D} (h : hasK fd k = false) : putM (fmD fd) k.k v = fmD fd ++ [(k.k, v)] := by
  unfold putM
  rw [any_fm, h]; rfl
def causes (fd : FM) (f : Str) : Ex → Why
  | .lane => [none]
  | .mine => [none]
  | .nam x => if hasK fd (.name f x) then [some (.name f x)] else []
  | .box e => causes fd f e
  | .op _ a b => if (causes fd f a).length > 0 then causes fd f a else causes fd f b
  | _ => []
def mark (fd : FM) (k : MK) (l : Int) : Why → FM
  | [] => fd
  | s :: _ => if hasK fd k then fd else fd ++ [(k, l, s)]
def wayOf (fd : FM) (f : Str) : Why := if hasK fd (.dfn f) then [some (.dfn f)] else []
def wayIn (fd : FM) (way : Why) (l : Int) : Why := if way.length = 0 ∧ hasK fd (.row l) = true then [some (.row l)] else way
structure Spot where
  deed : Sm
  way : Why
  loop : Option Int
def loopD : Option Int → D
  | none => .non
  | some l => .int l
def Spot.d (s : Spot) : D := .tup [s.deed.d, whyD s.way, loopD s.loop]
mutual
def plS (fd : FM) (way : Why) (loop : Option Int) : Sm → List Spot
  | .if1 l e b => ⟨.if1 l e b, way, loop⟩ :: plcd fd (wayIn fd way l) loop b
  | .if2 l e b c => ⟨.if2 l e b c, way, loop⟩ :: (plcd fd (wayIn fd way l) loop b ++ plcd fd (wayIn fd way l) loop c)
  | .whl l e b => ⟨.whl l e b, way, loop⟩ :: plcd fd (wayIn fd way l) (some l) b
  | s => [⟨s, way, loop⟩]
def plcd (fd : FM) (way : Why) (loop : Option Int) : List Sm → List Spot
  | [] => []
  | s :: t => plS fd way loop s ++ plcd fd way loop t
end
theorem placed_app (fd : FM) (way : Why) (loop : Option Int) : ∀ a b : List Sm, plcd fd way loop (a ++ b) = plcd fd way loop a ++ plcd fd way loop b
  | [], b => by unfold plcd; rfl
  | s :: t, b => by rw [List.cons_append, plcd, plcd, placed_app fd way loop t b, List.append_assoc]
theorem placed_one (fd : FM) (way : Why) (loop : Option Int) (s : Sm) : plcd fd way loop [s] = plS fd way loop s := by rw [plcd, plcd, List.append_nil]
theorem plS_eq (fd : FM) (way : Why) (loop : Option Int) (s : Sm) : plS fd way loop s = ⟨s, way, loop⟩ :: (s.blocks.map (plcd fd (wayIn fd way s.line) (innerOf loop s))).flatten := by
  cases s <;> (unfold plS Sm.blocks Sm.line innerOf; simp)
theorem inner_whl {loop : Option Int} {s : Sm} (h : s.word = "while") : innerOf loop s = some s.line := by
  cases s <;> first | rfl | (simp only [Sm.word, ofS_inj, String.reduceEq] at h)
theorem inner_not {loop : Option Int} {s : Sm} (h : ¬ s.word = "while") : innerOf loop s = loop := by
  cases s <;> first | rfl | (simp only [Sm.word, not_true_eq_false] at h)
theorem block_deep {s : Sm} {b : List Sm} {n : Nat} (h : s.deep ≤ n) (hb : b ∈ s.blocks) : deeps b < n := by
  cases s <;> unfold Sm.deep at h <;> simp only [Sm.blocks, List.mem_cons, List.not_mem_nil, or_false] at hb <;> first | exact hb.elim | (subst hb; omega) | (rcases hb with rfl | rfl <;> omega)
def placedIn (fd : FM) (o : Df) : List Spot := plcd fd (wayOf fd o.name) none o.body
def markGiven (fd : FM) (f : Str) (way : Why) : Sm → FM
  | .set l x e => let fd1 := mark fd (.name f x) l way; mark fd1 (.name f x) l (causes fd1 f e)
  | .call l x g es => let fd1 := mark fd (.name f x) l way; if hasK fd1 (.back g) then mark fd1 (.name f x) l [some (.back g)] else fd1
  | .join l x w e => let fd1 := mark fd (.name f x) l way; if w = "ahead" then mark fd1 (.name f x) l [none] else fd1
  | _ => fd
def markArgs (f g : Str) (l : Int) : FM → List Str → List Ex → FM
  | fd, p :: ps, e :: es => markArgs f g l (mark fd (.name g p) l (causes fd f e)) ps es
  | fd, _, _ => fd
def markArg (f g : Str) (l : Int) (fd : FM) (pe : Str × Ex) : FM := mark fd (.name g pe.1) l (causes fd f pe.2)
theorem markArgs_fold (f g : Str) (l : Int) : ∀ (ps : List Str) (es : List Ex) (fd : FM), markArgs f g l fd ps es = (ps.zip es).foldl (markArg f g l) fd
  | [], _, fd => by unfold markArgs; rfl
  | _ :: _, [], fd => by unfold markArgs; rfl
  | p :: ps, e :: es, fd => by
    rw [markArgs, markArgs_fold f g l ps es]
    rfl
theorem mark_len (fd : FM) (k : MK) (l : Int) (y : Why) : (mark fd k l y).length ≤ fd.length + 1 := by
  cases y with
  | nil => exact Nat.le_succ _
  | cons s t =>
    show (if hasK fd k = true then fd else fd ++ [(k, l, s)]).length ≤ fd.length + 1
    split
    · exact Nat.le_succ _
    · rw [List.length_append]; exact Nat.le_refl _
theorem foldA_len {f g : Str} {l : Int} : ∀ (xs : List (Str × Ex)) (fd : FM), (xs.foldl (markArg f g l) fd).length ≤ fd.length + xs.length
  | [], fd => Nat.le_refl _
  | x :: xs, fd => by
    rw [List.foldl_cons, List.length_cons]
    have h1 := foldA_len (f := f) (g := g) (l := l) xs (markArg f g l fd x)
    have h2 : (markArg f g l fd x).length ≤ fd.length + 1 := mark_len _ _ _ _
    omega
theorem given_len (fd : FM) (f : Str) (y : Why) (s : Sm) : (markGiven fd f y s).length ≤ fd.length + 2 := by
  cases s with
  | set l x e =>
    unfold markGiven
    dsimp only
    have h1 := mark_len fd (.name f x) l y
    have h2 := mark_len (mark fd (.name f x) l y) (.name f x) l (causes (mark fd (.name f x) l y) f e)
    omega
  | call l x g es =>
    unfold markGiven
    dsimp only
    have h1 := mark_len fd (.name f x) l y
    have h2 := mark_len (mark fd (.name f x) l y) (.name f x) l [some (.back g)]
    split <;> omega
  | join l x w e =>
    unfold markGiven
    dsimp only
    have h1 := mark_len fd (.name f x) l y
    have h2 := mark_len (mark fd (.name f x) l y) (.name f x) l [none]
    split <;> omega
  | _ => exact Nat.le_add_right fd.length 2
/-- the parameters of a def, by name -/
def paramsOf (pg : Pg) (g : Str) : Option (List Str) := (pg.reverse.find? fun o => decide (o.name = g)).map (·.ps)
def markBy (pg : Pg) (fd : FM) (f : Str) (s : Spot) : FM :=
  let fd1 := markGiven fd f s.way s.deed
  match s.deed with
  | .call l _ g es => markArgs f g l (mark fd1 (.dfn g) l s.way) ((paramsOf pg g).getD []) es
  | .if1 l e _ => mark fd1 (.row l) l (causes fd1 f e)
  | .if2 l e _ _ => mark fd1 (.row l) l (causes fd1 f e)
  | .whl l e _ => mark fd1 (.row l) l (causes fd1 f e)
  | .brk l => match s.loop with
    | some p => mark fd1 (.row p) l s.way
    | none => fd1
  | .agn l => match s.loop with
    | some p => mark fd1 (.row p) l s.way
    | none => fd1
  | .ret l e => let fd2 := mark fd1 (.dfn f) l s.way; mark fd2 (.back f) l (causes fd2 f e)
  | _ => fd1
def markDef (pg : Pg) (fd : FM) (o : Df) : FM :=
  let fd1 := (placedIn fd o).foldl (fun fd s => markBy pg fd o.name s) fd
  mark fd1 (.back o.name) o.first (wayOf fd1 o.name)
def markOnce (pg : Pg) (fd : FM) : FM := pg.foldl (markDef pg) fd

/-! ### what is placed, without the ways -/
mutual
def plnS (loop : Option Int) : Sm → List (Sm × Option Int)
  | .if1 l e b => (.if1 l e b, loop) :: pln loop b
  | .if2 l e b c => (.if2 l e b c, loop) :: (pln loop b ++ pln loop c)
  | .whl l e b => (.whl l e b, loop) :: pln (some l) b
  | s => [(s, loop)]
def pln (loop : Option Int) : List Sm → List (Sm × Option Int)
  | [] => []
  | s :: t => plnS loop s ++ pln loop t
end
abbrev Spot.dl (s : Spot) : Sm × Option Int := (s.deed, s.loop)
mutual
theorem plnS_eq (fd : FM) : ∀ (way : Why) (loop : Option Int) (s : Sm), (plS fd way loop s).map Spot.dl = plnS loop s
  | way, loop, .if1 l e b => by rw [plS, plnS, List.map_cons, pln_eq fd _ _ b]
  | way, loop, .if2 l e b c => by rw [plS, plnS, List.map_cons, List.map_append, pln_eq fd _ _ b, pln_eq fd _ _ c]
  | way, loop, .whl l e b => by rw [plS, plnS, List.map_cons, pln_eq fd _ _ b]
  | way, loop, .set .. => by unfold plS plnS; rfl
  | way, loop, .put .. => by unfold plS plnS; rfl
  | way, loop, .tell .. => by unfold plS plnS; rfl
  | way, loop, .ret .. => by unfold plS plnS; rfl
  | way, loop, .stop .. => by unfold plS plnS; rfl
  | way, loop, .brk .. => by unfold plS plnS; rfl
  | way, loop, .agn .. => by unfold plS plnS; rfl
  | way, loop, .meet .. => by unfold plS plnS; rfl
  | way, loop, .join .. => by unfold plS plnS; rfl
  | way, loop, .call .. => by unfold plS plnS; rfl
theorem pln_eq (fd : FM) : ∀ (way : Why) (loop : Option Int) (b : List Sm), (plcd fd way loop b).map Spot.dl = pln loop b
  | way, loop, [] => by rw [plcd, pln]; rfl
  | way, loop, s :: t => by rw [plcd, pln, List.map_append, plnS_eq fd way loop s, pln_eq fd way loop t]
end
def dlKeys (pg : Pg) (f : Str) (x : Sm × Option Int) : List MK := match x.1 with
  | .set _ x _ => [.name f x]
  | .join _ x _ _ => [.name f x]
  | .call _ x g _ => .name f x :: .dfn g :: ((paramsOf pg g).getD []).map (.name g)
  | .if1 l _ _ => [.row l]
  | .if2 l _ _ _ => [.row l]
  | .whl l _ _ => [.row l]
  | .brk _ => match x.2 with
    | some p => [.row p]
    | none => []
  | .agn _ => match x.2 with
    | some p => [.row p]
    | none => []
  | .ret _ _ => [.dfn f, .back f]
  | _ => []
def dfKeys (pg : Pg) (o : Df) : List MK := .back o.name :: ((pln none o.body).map (dlKeys pg o.name)).flatten
/-- all keys that can be found -/
def allKeys (pg : Pg) : List MK := (pg.map (dfKeys pg)).flatten
def inU (U : List MK) (fd : FM) : Prop := (∀ p ∈ fd, p.1 ∈ U) ∧ (fd.map (·.1)).Nodup
theorem inU_len {U : List MK} {fd : FM} (h : inU U fd) : fd.length ≤ U.length := by
  have : (fd.map (·.1)).length ≤ U.length := by
    apply List.Nodup.length_le_of_subset h.2
    intro k hk
    obtain ⟨p, hp, rfl⟩ := List.mem_map.mp hk
    exact h.1 p hp
  rwa [List.length_map] at this
theorem inU_nil {U : List MK} : inU U [] := ⟨fun _ h => (by cases h), List.nodup_nil⟩
theorem mark_in {U : List MK} {fd : FM} {k : MK} {l : Int} {y : Why} (h : inU U fd) (hk : k ∈ U) : inU U (mark fd k l y) := by
  cases y with
  | nil => exact h
  | cons s t =>
    show inU U (if hasK fd k = true then fd else fd ++ [(k, l, s)])
    cases e : hasK fd k with
    | true => rw [if_pos rfl]; exact h
    | false =>
      rw [if_neg (by simp)]
      refine ⟨fun p hp => ?_, ?_⟩
      · rcases List.mem_append.mp hp with hp | hp
        · exact h.1 p hp
        · rw [List.mem_singleton.mp hp]; exact hk
      · rw [List.map_append]
        refine List.nodup_append.mpr ⟨h.2, by simp, ?_⟩
        intro a ha b hb
        simp only [List.map_cons, List.map_nil, List.mem_singleton] at hb
        subst hb
        rintro rfl
        obtain ⟨p, hp, e2⟩ := List.mem_map.mp ha
        have : hasK fd a = true := List.any_eq_true.mpr ⟨p, hp, by simp [e2]⟩
        rw [this] at e
        cases e
theorem mark_pre (fd : FM) (k : MK) (l : Int) (y : Why) : fd <+: mark fd k l y := by
  cases y with
  | nil => exact List.prefix_refl _
  | cons s t =>
    show fd <+: (if hasK fd k = true then fd else fd ++ [(k, l, s)])
    split
    · exact List.prefix_refl _
    · exact List.prefix_append _ _
theorem given_in {U : List MK} {fd : FM} {f : Str} {y : Why} {s : Sm} (h : inU U fd) (hx : ∀ x, s.given = some x → .name f x ∈ U) : inU U (markGiven fd f y s) := by
  cases s with
  | set l x e => exact mark_in (mark_in h (hx x rfl)) (hx x rfl)
  | call l x g es =>
    unfold markGiven
    dsimp only
    split
    · exact mark_in (mark_in h (hx x rfl)) (hx x rfl)
    · exact mark_in h (hx x rfl)
  | join l x w e =>
    unfold markGiven
    dsimp only
    split
    · exact mark_in (mark_in h (hx x rfl)) (hx x rfl)
    · exact mark_in h (hx x rfl)
  | _ => exact h
theorem given_pre (fd : FM) (f : Str) (y : Why) (s : Sm) : fd <+: markGiven fd f y s := by
  cases s with
  | set l x e => exact (mark_pre ..).trans (mark_pre ..)
  | call l x g es =>
    unfold markGiven
    dsimp only
    split
    · exact (mark_pre ..).trans (mark_pre ..)
    · exact mark_pre ..
  | join l x w e =>
    unfold markGiven
    dsimp only
    split
    · exact (mark_pre ..).trans (mark_pre ..)
    · exact mark_pre ..
  | _ => exact List.prefix_refl _
theorem foldA_in {U : List MK} {f g : Str} {l : Int} : ∀ {xs : List (Str × Ex)} {fd : FM}, inU U fd → (∀ x ∈ xs, .name g x.1 ∈ U) → inU U (xs.foldl (markArg f g l) fd)
  | [], fd, h, _ => h
  | x :: xs, fd, h, hx => foldA_in (xs := xs) (mark_in h (hx x (List.mem_cons_self ..))) fun z hz => hx z (List.mem_cons_of_mem _ hz)
theorem foldA_pre {f g : Str} {l : Int} : ∀ (xs : List (Str × Ex)) (fd : FM), fd <+: xs.foldl (markArg f g l) fd
  | [], fd => List.prefix_refl _
  | x :: xs, fd => (mark_pre ..).trans (foldA_pre xs _)
theorem by_in {U : List MK} {pg : Pg} {fd : FM} {f : Str} {s : Spot} (h : inU U fd) (hk : ∀ k ∈ dlKeys pg f s.dl, k ∈ U) : inU U (markBy pg fd f s) := by
  obtain ⟨s, y, loop⟩ := s
  cases s with
  | set l x e => exact given_in (s := .set l x e) h (fun x' hx => by cases hx; exact hk _ (by simp [dlKeys]))
  | join l x w e => exact given_in (s := .join l x w e) h (fun x' hx => by cases hx; exact hk _ (by simp [dlKeys]))
  | call l x g es =>
    have h1 : inU U (markGiven fd f y (.call l x g es)) := given_in h (fun x' hx => by cases hx; exact hk _ (by simp [dlKeys]))
    show inU U (markArgs f g l (mark (markGiven fd f y (.call l x g es)) (.dfn g) l y) ((paramsOf pg g).getD []) es)
    rw [markArgs_fold]
    refine foldA_in (mark_in h1 (hk _ (by simp [dlKeys]))) fun z hz => hk _ ?_
    have := (List.of_mem_zip (show (z.1, z.2) ∈ _ from hz)).1
    simp only [dlKeys, List.mem_cons, List.mem_map]
    exact .inr (.inr ⟨_, this, rfl⟩)
  | if1 l e b => exact mark_in (given_in (s := .if1 l e b) h (fun x' hx => by cases hx)) (hk _ (by simp [dlKeys]))
  | if2 l e b c => exact mark_in (given_in (s := .if2 l e b c) h (fun x' hx => by cases hx)) (hk _ (by simp [dlKeys]))
  | whl l e b => exact mark_in (given_in (s := .whl l e b) h (fun x' hx => by cases hx)) (hk _ (by simp [dlKeys]))
  | brk l => cases loop with
    | none => exact h
    | some p => exact mark_in h (hk _ (by simp [dlKeys]))
  | agn l => cases loop with
    | none => exact h
    | some p => exact mark_in h (hk _ (by simp [dlKeys]))
  | ret l e => exact mark_in (mark_in h (hk _ (by simp [dlKeys]))) (hk _ (by simp [dlKeys]))
  | put l a b => exact h
  | tell l e => exact h
  | stop l => exact h
  | meet l => exact h
theorem by_pre (pg : Pg) (fd : FM) (f : Str) (s : Spot) : fd <+: markBy pg fd f s := by
  obtain ⟨s, y, loop⟩ := s
  cases s with
  | call l x g es =>
    show fd <+: (markArgs f g l (mark (markGiven fd f y (.call l x g es)) (.dfn g) l y) ((paramsOf pg g).getD []) es)
    rw [markArgs_fold]
    exact ((given_pre ..).trans (mark_pre ..)).trans (foldA_pre ..)
  | if1 l e b => exact mark_pre ..
  | if2 l e b c => exact mark_pre ..
  | whl l e b => exact mark_pre ..
  | brk l => cases loop with
    | none => exact List.prefix_refl _
    | some p => exact mark_pre ..
  | agn l => cases loop with
    | none => exact List.prefix_refl _
    | some p => exact mark_pre ..
  | ret l e => exact (mark_pre ..).trans (mark_pre ..)
  | set l x e => exact given_pre fd f y (.set l x e)
  | join l x w e => exact given_pre fd f y (.join l x w e)
  | put l a b => exact given_pre fd f y (.put l a b)
  | tell l e => exact given_pre fd f y (.tell l e)
  | stop l => exact given_pre fd f y (.stop l)
  | meet l => exact given_pre fd f y (.meet l)
theorem foldB_in {U : List MK} {pg : Pg} {f : Str} : ∀ {xs : List Spot} {fd : FM}, inU U fd → (∀ x ∈ xs, ∀ k ∈ dlKeys pg f x.dl, k ∈ U) → inU U (xs.foldl (fun fd s => markBy pg fd f s) fd)
  | [], fd, h, _ => h
  | x :: xs, fd, h, hx => foldB_in (xs := xs) (by_in h (hx x (List.mem_cons_self ..))) fun z hz => hx z (List.mem_cons_of_mem _ hz)
theorem foldB_pre {pg : Pg} {f : Str} : ∀ (xs : List Spot) (fd : FM), fd <+: xs.foldl (fun fd s => markBy pg fd f s) fd
  | [], fd => List.prefix_refl _
  | x :: xs, fd => (by_pre ..).trans (foldB_pre xs _)
theorem df_keys {pg : Pg} {o : Df} (ho : o ∈ pg) : ∀ k ∈ dfKeys pg o, k ∈ allKeys pg := fun k hk => List.mem_flatten.mpr ⟨_, List.mem_map.mpr ⟨o, ho, rfl⟩, hk⟩
theorem spot_keys {pg : Pg} {o : Df} (ho : o ∈ pg) (fd : FM) : ∀ s ∈ placedIn fd o, ∀ k ∈ dlKeys pg o.name s.dl, k ∈ allKeys pg := by
  intro s hs k hk
  refine df_keys ho k ?_
  have : s.dl ∈ pln none o.body := by
    rw [← pln_eq fd (wayOf fd o.name) none o.body]
    exact List.mem_map.mpr ⟨s, hs, rfl⟩
  exact List.mem_cons_of_mem _ (List.mem_flatten.mpr ⟨_, List.mem_map.mpr ⟨_, this, rfl⟩, hk⟩)
theorem def_in {pg : Pg} {o : Df} (ho : o ∈ pg) {fd : FM} (h : inU (allKeys pg) fd) : inU (allKeys pg) (markDef pg fd o) :=
  mark_in (foldB_in h (spot_keys ho fd)) (df_keys ho _ (List.mem_cons_self ..))
theorem def_pre (pg : Pg) (fd : FM) (o : Df) : fd <+: markDef pg fd o := (foldB_pre ..).trans (mark_pre ..)
theorem once_in' {pg : Pg} : ∀ {os : List Df} {fd : FM}, (∀ o ∈ os, o ∈ pg) → inU (allKeys pg) fd → inU (allKeys pg) (os.foldl (markDef pg) fd)
  | [], fd, _, h => h
  | o :: os, fd, hm, h => once_in' (os := os) (fun z hz => hm z (List.mem_cons_of_mem _ hz)) (def_in (hm o (List.mem_cons_self ..)) h)
theorem once_pre' {pg : Pg} : ∀ (os : List Df) (fd : FM), fd <+: os.foldl (markDef pg) fd
  | [], fd => List.prefix_refl _
  | o :: os, fd => (def_pre ..).trans (once_pre' os _)
theorem once_in {pg : Pg} {fd : FM} (h : inU (allKeys pg) fd) : inU (allKeys pg) (markOnce pg fd) := once_in' (fun _ h => h) h
theorem once_pre (pg : Pg) (fd : FM) : fd <+: markOnce pg fd := once_pre' pg fd
def marksAt (pg : Pg) : Nat → FM
  | 0 => []
  | n + 1 => markOnce pg (marksAt pg n)
theorem at_in (pg : Pg) : ∀ n, inU (allKeys pg) (marksAt pg n)
  | 0 => inU_nil
  | n + 1 => once_in (at_in pg n)
/-- the marks of a program -/
def marksOf (pg : Pg) : FM := marksAt pg ((allKeys pg).length + 1)
theorem at_stop {pg : Pg} {n : Nat} (h : (marksAt pg (n + 1)).length ≤ (marksAt pg n).length) : marksAt pg (n + 1) = marksAt pg n :=
  (List.IsPrefix.eq_of_length_le (once_pre pg (marksAt pg n)) h).symm
theorem at_fix {pg : Pg} {n : Nat} (h : marksAt pg (n + 1) = marksAt pg n) : ∀ k, marksAt pg (n + k) = marksAt pg n
  | 0 => rfl
  | k + 1 => by
    show markOnce pg (marksAt pg (n + k)) = _
    rw [at_fix h k]; exact h
theorem at_grow (pg : Pg) : ∀ n, (∃ k, k ≤ n ∧ marksAt pg (k + 1) = marksAt pg k) ∨ n + 1 ≤ (marksAt pg (n + 1)).length
  | 0 => by
    by_cases h : (marksAt pg 1).length ≤ (marksAt pg 0).length
    · exact .inl ⟨0, Nat.le_refl _, at_stop h⟩
    · right; simp only [marksAt, List.length_nil] at h ⊢; omega
  | n + 1 => by
    rcases at_grow pg n with ⟨k, hk, e⟩ | h
    · exact .inl ⟨k, by omega, e⟩
    · by_cases h2 : (marksAt pg (n + 1 + 1)).length ≤ (marksAt pg (n + 1)).length
      · exact .inl ⟨n + 1, Nat.le_refl _, at_stop h2⟩
      · right; omega
theorem marks_fix (pg : Pg) : markOnce pg (marksOf pg) = marksOf pg := by
  rcases at_grow pg (allKeys pg).length with ⟨k, hk, e⟩ | h
  · have h1 := at_fix e ((allKeys pg).length + 1 - k)
    have h2 := at_fix e ((allKeys pg).length + 2 - k)
    rw [show k + ((allKeys pg).length + 1 - k) = (allKeys pg).length + 1 from by omega] at h1
    rw [show k + ((allKeys pg).length + 2 - k) = (allKeys pg).length + 1 + 1 from by omega] at h2
    show marksAt pg ((allKeys pg).length + 1 + 1) = marksAt pg ((allKeys pg).length + 1)
    rw [h1, h2]
  · have := inU_len (at_in pg ((allKeys pg).length + 1))
    omega
theorem marks_at {pg : Pg} {n : Nat} (h : marksAt pg (n + 1) = marksAt pg n) : marksAt pg n = marksOf pg := by
  have f := marks_fix pg
  by_cases hn : n ≤ (allKeys pg).length + 1
  · have := at_fix h ((allKeys pg).length + 1 - n)
    rw [show n + ((allKeys pg).length + 1 - n) = (allKeys pg).length + 1 from by omega] at this
    exact this.symm
  · have := at_fix (pg := pg) (n := (allKeys pg).length + 1) f (n - ((allKeys pg).length + 1))
    rw [show (allKeys pg).length + 1 + (n - ((allKeys pg).length + 1)) = n from by omega] at this
    exact this
/-- what is asked of a program -/
def okSm : Sm → Prop
  | .set _ _ e => e.deep ≤ 10 | .put _ a b => a.deep ≤ 10 ∧ b.deep ≤ 10 | .tell _ e => e.deep ≤ 10 | .ret _ e => e.deep ≤ 10 | .join _ _ _ e => e.deep ≤ 10 | .call _ _ _ es => ∀ e ∈ es, e.deep ≤ 10
  | .if1 _ e _ => e.deep ≤ 10 | .if2 _ e _ _ => e.deep ≤ 10 | .whl _ e _ => e.deep ≤ 10 | _ => True
def okDL (pg : Pg) (x : Sm × Option Int) : Prop := okSm x.1 ∧ match x.1 with
  | .brk _ => x.2.isSome = true
  | .agn _ => x.2.isSome = true
  | .call _ _ g _ => ∃ ps, paramsOf pg g = some ps ∧ ps.length ≤ 1000
  | _ => True
def okDf (o : Df) : Prop := deeps o.body < 10
structure okPg (pg : Pg) : Prop where
  df : ∀ o ∈ pg, okDf o ∧ (pln none o.body).length ≤ 100000 ∧ ∀ x ∈ pln none o.body, okDL pg x
  few : (allKeys pg).length ≤ 400000
  short : pg.length ≤ 1000
theorem placedIn_len (fd : FM) (o : Df) : (placedIn fd o).length = (pln none o.body).length := by
  rw [← pln_eq fd (wayOf fd o.name) none o.body, List.length_map]; rfl
theorem placedIn_ok {pg : Pg} {o : Df} (h : ∀ x ∈ pln none o.body, okDL pg x) (fd : FM) : ∀ s ∈ placedIn fd o, okDL pg s.dl := fun s hs => h _ (by
  rw [← pln_eq fd (wayOf fd o.name) none o.body]
  exact List.mem_map.mpr ⟨s, hs, rfl⟩)
/-- the parameters as they are laid, one def behind another -/
def laidP (os : Pg) (g : Str) : Option (List Str) := paramsOf os g
theorem laidP_app (os : Pg) (o : Df) (g : Str) : paramsOf (os ++ [o]) g = if o.name = g then some o.ps else paramsOf os g := by
  unfold paramsOf
  rw [List.reverse_append, List.reverse_singleton, List.singleton_append, List.find?_cons]
  by_cases e : o.name = g
  · rw [decide_eq_true e, if_pos e]; rfl
  · rw [decide_eq_false e, if_neg e]
theorem valD_put {κ : Type} [DecidableEq κ] {kvs : List (κ × D)} {k j : κ} {v : D} : valD (putM kvs k v) j = if k = j then some v else valD kvs j := by
  unfold putM
  split
  · rename_i h
    induction kvs with
    | nil => cases h
    | cons p r ih =>
      rw [List.map_cons]
      by_cases e : p.1 = k
      · rw [if_pos e]
        by_cases e2 : k = j
        · rw [valD_pos (by exact e.trans e2), if_pos e2]
        · rw [valD_neg (by exact fun z => e2 (e.symm.trans z)), if_neg e2, valD_neg (fun z => e2 (e.symm.trans z))]
          by_cases h2 : (r.any fun kv => decide (kv.1 = k)) = true
          · rw [ih h2, if_neg e2]
          · have : (r.map fun kv => if kv.1 = k then (kv.1, v) else kv) = r := by
              rw [List.map_congr_left (g := id) (fun kv hkv => ?_), List.map_id]
              rw [if_neg (fun z => h2 (List.any_eq_true.mpr ⟨kv, hkv, decide_eq_true z⟩))]; rfl
            rw [this]
      · rw [if_neg e]
        rw [List.any_cons, decide_eq_false e, Bool.false_or] at h
        by_cases e2 : p.1 = j
        · rw [valD_pos e2, valD_pos e2, if_neg (fun z => e (e2.trans z.symm))]
        · rw [valD_neg e2, valD_neg e2, ih h]
  · rename_i h
    by_cases e2 : k = j
    · subst e2
      rw [if_pos rfl]
      induction kvs with
      | nil => exact valD_pos rfl
      | cons p r ih =>
        rw [List.any_cons, Bool.or_eq_true, not_or, decide_eq_true_eq] at h
        rw [List.cons_append, valD_neg h.1, ih h.2]
    · rw [if_neg e2]
      clear h
      induction kvs with
      | nil => exact valD_neg e2
      | cons p r ih =>
        rw [List.cons_append]
        by_cases e : p.1 = j
        · rw [valD_pos e, valD_pos e]
        · rw [valD_neg e, valD_neg e, ih]
theorem putM_len {κ : Type} [DecidableEq κ] (kvs : List (κ × D)) (k : κ) (v : D) : (putM kvs k v).length ≤ kvs.length + 1 := by
  unfold putM
  split
  · rw [List.length_map]; omega
  · rw [List.length_append]; exact Nat.le_refl _
/-! ### waits -/
abbrev WM := List (Int × Option MK)
def kwD (kvs : WM) : List (Key × D) := kvs.map fun p => (.inl p.1, oD p.2)
def putW (kvs : WM) (l : Int) (y : Option MK) : WM := if (kvs.any fun p => decide (p.1 = l)) = true then kvs.map (fun p => if p.1 = l then (p.1, y) else p) else kvs ++ [(l, y)]
theorem kwD_put (kvs : WM) (l : Int) (y : Option MK) : putM (kwD kvs) (.inl l) (oD y) = kwD (putW kvs l y) := by
  have e : ((kwD kvs).any fun kv => decide (kv.1 = Sum.inl l)) = (kvs.any fun p => decide (p.1 = l)) := by
    unfold kwD
    rw [List.any_map]
    congr 1
    funext p
    simp
  unfold putM putW
  rw [e]
  split
  · unfold kwD
    rw [List.map_map, List.map_map]
    apply List.map_congr_left
    intro p _
    by_cases h : p.1 = l
    · simp [h]
    · simp [h]
  · unfold kwD
    rw [List.map_append]; rfl
def waitStep (kvs : WM) (s : Spot) : WM := match s.deed, s.way with
  | .join l _ _ _, y :: _ => putW kvs l y
  | .meet l, y :: _ => putW kvs l y
  | _, _ => kvs
def waitMap (pg : Pg) : WM := pg.foldl (fun kvs o => (placedIn (marksOf pg) o).foldl waitStep kvs) []
theorem putW_len (kvs : WM) (l : Int) (y : Option MK) : kvs.length ≤ (putW kvs l y).length := by
  unfold putW
  split
  · rw [List.length_map]; omega
  · rw [List.length_append]; omega
theorem step_len (kvs : WM) (s : Spot) : kvs.length ≤ (waitStep kvs s).length := by
  unfold waitStep
  split
  · exact putW_len ..
  · exact putW_len ..
  · exact Nat.le_refl _
theorem steps_len : ∀ (ss : List Spot) (kvs : WM), kvs.length ≤ (ss.foldl waitStep kvs).length
  | [], _ => Nat.le_refl _
  | s :: ss, kvs => Nat.le_trans (step_len kvs s) (steps_len ss _)
theorem wait_len (fd : FM) : ∀ (os : List Df) (kvs : WM), kvs.length ≤ (os.foldl (fun kvs o => (placedIn fd o).foldl waitStep kvs) kvs).length
  | [], _ => Nat.le_refl _
  | o :: os, kvs => Nat.le_trans (steps_len _ kvs) (wait_len fd os _)
/-- the answer of waits: the lines from the least up, each with its reason -/
def waitRow (pg : Pg) (l : Int) : D := .tup [.int l, ((waitMap pg).find? fun p => decide (p.1 = l)).elim .non fun p => oD p.2]
theorem kwD_val (kvs : WM) (l : Int) : valD (kwD kvs) (.inl l) = (kvs.find? fun p => decide (p.1 = l)).map fun p => oD p.2 := by
  induction kvs with
  | nil => rfl
  | cons p r ih =>
    unfold kwD
    rw [List.map_cons, List.find?_cons]
    by_cases e : p.1 = l
    · rw [valD_pos (by rw [e]), decide_eq_true e]; rfl
    · rw [valD_neg (by simpa using e), decide_eq_false e]; exact ih
theorem find_key {kvs : WM} {l : Int} (h : l ∈ kvs.map (·.1)) : ∃ p, kvs.find? (fun p => decide (p.1 = l)) = some p := by
  obtain ⟨p, hp, rfl⟩ := List.mem_map.mp h
  cases e : kvs.find? (fun q => decide (q.1 = p.1)) with
  | some q => exact ⟨q, rfl⟩
  | none => exact absurd (List.find?_eq_none.mp e p hp) (by simp)
end Tl

namespace Tl
open PySem PySem.Spec PyProof.Rows L2

/-! ### cells: what stands where, beside what stood before -/
structure Cel (M0 M : MH) (cs : List (Addr × MO)) : Prop where
  nd : (cs.map (·.1)).Nodup
  at_ : ∀ c ∈ cs, M c.1 = some c.2
  old : ∀ a o, M0 a = some o → M a = some o
  new : ∀ c ∈ cs, M0 c.1 = none
section
variable {M0 M : MH} {cs pre post : List (Addr × MO)} {a p : Addr} {o o' : MO}
theorem Cel.nil : Cel M M [] := ⟨List.nodup_nil, fun _ h => (by cases h), fun _ _ h => h, fun _ h => (by cases h)⟩
theorem Cel.fresh (h : Cel M0 M cs) (hp : M p = none) : Cel M0 (mup M p o) ((p, o) :: cs) := by
  have hne : ∀ c ∈ cs, c.1 ≠ p := fun c hc e => by have := h.at_ c hc; rw [e, hp] at this; cases this
  refine ⟨?_, ?_, ?_, ?_⟩
  · rw [List.map_cons, List.nodup_cons]
    refine ⟨fun hm => ?_, h.nd⟩
    obtain ⟨c, hc, e⟩ := List.mem_map.mp hm
    exact hne c hc e
  · intro c hc
    rcases List.mem_cons.mp hc with rfl | hc
    · exact mup_same
    · rw [mup_ne (hne c hc)]; exact h.at_ c hc
  · intro b u e
    have := h.old b u e
    rw [mup_ne (by rintro rfl; rw [hp] at this; cases this)]; exact this
  · intro c hc
    rcases List.mem_cons.mp hc with rfl | hc
    · cases e : M0 p with
      | none => rfl
      | some u => have := h.old p u e; rw [hp] at this; cases this
    · exact h.new c hc
theorem Cel.here (h : Cel M0 M (pre ++ (a, o) :: post)) : M a = some o := h.at_ (a, o) (by simp)
theorem Cel.ne_mid (h : (List.map (fun x : Addr × MO => x.1) (pre ++ (a, o) :: post)).Nodup) : (∀ c ∈ pre, c.1 ≠ a) ∧ ∀ c ∈ post, c.1 ≠ a := by
  rw [List.map_append, List.map_cons] at h
  obtain ⟨h1, h2, h3⟩ := List.nodup_append.mp h
  obtain ⟨h4, h5⟩ := List.nodup_cons.mp h2
  exact ⟨fun c hc e => h3 c.1 (List.mem_map.mpr ⟨c, hc, rfl⟩) a (List.mem_cons_self ..) e, fun c hc e => h4 (List.mem_map.mpr ⟨c, hc, e⟩)⟩
theorem Cel.put (h : Cel M0 M (pre ++ (a, o) :: post)) : Cel M0 (mup M a o') (pre ++ (a, o') :: post) := by
  obtain ⟨n1, n2⟩ := Cel.ne_mid h.nd
  refine ⟨?_, ?_, ?_, ?_⟩
  · have := h.nd
    rw [List.map_append, List.map_cons] at this ⊢
    exact this
  · intro c hc
    rcases List.mem_append.mp hc with hc | hc
    · rw [mup_ne (n1 c hc)]; exact h.at_ c (List.mem_append_left _ hc)
    · rcases List.mem_cons.mp hc with rfl | hc
      · exact mup_same
      · rw [mup_ne (n2 c hc)]; exact h.at_ c (List.mem_append_right _ (List.mem_cons_of_mem _ hc))
  · intro b u e
    have hn := h.new (a, o) (by simp)
    rw [mup_ne (by rintro rfl; rw [hn] at e; cases e)]
    exact h.old b u e
  · intro c hc
    rcases List.mem_append.mp hc with hc | hc
    · exact h.new c (List.mem_append_left _ hc)
    · rcases List.mem_cons.mp hc with rfl | hc
      · exact h.new (a, o) (by simp)
      · exact h.new c (List.mem_append_right _ (List.mem_cons_of_mem _ hc))
theorem Cel.del (h : Cel M0 M (pre ++ (a, o) :: post)) : Cel M0 (mdel M a) (pre ++ post) := by
  obtain ⟨n1, n2⟩ := Cel.ne_mid h.nd
  have md : ∀ b, b ≠ a → mdel M a b = M b := fun b hb => by unfold mdel; rw [if_neg hb]
  refine ⟨?_, ?_, ?_, ?_⟩
  · have := h.nd
    rw [List.map_append, List.map_cons] at this
    rw [List.map_append]
    obtain ⟨h1, h2, h3⟩ := List.nodup_append.mp this
    exact List.nodup_append.mpr ⟨h1, (List.nodup_cons.mp h2).2, fun x hx y hy => h3 x hx y (List.mem_cons_of_mem _ hy)⟩
  · intro c hc
    rcases List.mem_append.mp hc with hc | hc
    · rw [md _ (n1 c hc)]; exact h.at_ c (List.mem_append_left _ hc)
    · rw [md _ (n2 c hc)]; exact h.at_ c (List.mem_append_right _ (List.mem_cons_of_mem _ hc))
  · intro b u e
    have hn := h.new (a, o) (by simp)
    rw [md _ (by rintro rfl; rw [hn] at e; cases e)]
    exact h.old b u e
  · intro c hc
    rcases List.mem_append.mp hc with hc | hc
    · exact h.new c (List.mem_append_left _ hc)
    · exact h.new c (List.mem_append_right _ (List.mem_cons_of_mem _ hc))
theorem Cel.forget (h : Cel M0 M (pre ++ (a, o) :: post)) : Cel M0 M (pre ++ post) := by
  refine ⟨?_, fun c hc => ?_, h.old, fun c hc => ?_⟩
  · have := h.nd
    rw [List.map_append, List.map_cons] at this
    rw [List.map_append]
    obtain ⟨h1, h2, h3⟩ := List.nodup_append.mp this
    exact List.nodup_append.mpr ⟨h1, (List.nodup_cons.mp h2).2, fun x hx y hy => h3 x hx y (List.mem_cons_of_mem _ hy)⟩
  · rcases List.mem_append.mp hc with hc | hc
    · exact h.at_ c (List.mem_append_left _ hc)
    · exact h.at_ c (List.mem_append_right _ (List.mem_cons_of_mem _ hc))
  · rcases List.mem_append.mp hc with hc | hc
    · exact h.new c (List.mem_append_left _ hc)
    · exact h.new c (List.mem_append_right _ (List.mem_cons_of_mem _ hc))
theorem Cel.re {K : PySem.W.Frag} {d : D} (h : Cel M0 M cs) : ReR K d M d M0 := ReR.drop h.old
end
theorem lstOf_of {M : MH} {a : Addr} {ds : List D} (h : M a = some (.lst ds)) : lstOf M (.ref a) = some ds := by
  show (match M a with | some (.lst ds) => some ds | _ => none) = _
  rw [h]
theorem mLst_of {M : MH} {a : Addr} {ds : List D} (h : M a = some (.lst ds)) : mLst M a = some ds := by
  unfold mLst
  rw [h]
theorem lenOf_of {M : MH} {a : Addr} {ds : List D} (h : M a = some (.lst ds)) : lenOf M (.ref a) = some ds.length := by
  show (match M a with | some (.lst ds) => some ds.length | _ => none) = _
  rw [h]
theorem asD_of {M : MH} {a : Addr} {ds : List D} (h : M a = some (.lst ds)) : asD M (.ref a) = some (.lst ds) := by
  show (match M a with | some (MO.lst ds) => some (D.lst ds) | _ => none) = _
  rw [h]
/-! ### freezing what a tuple holds -/
theorem rps_mid {K : PySem.W.Frag} {F : Hp} {x : D} {post : List D} : ∀ {pre : List D} {vs : List V}, Rps K F vs (pre ++ x :: post) → ∃ v1 v v2, vs = v1 ++ v :: v2 ∧ Rps K F v1 pre ∧ Rp K F v x ∧ Rps K F v2 post
  | [], _, .cons h t => ⟨[], _, _, rfl, .nil, h, t⟩
  | _ :: pre, _, .cons h t => by
    obtain ⟨v1, v, v2, rfl, r1, r2, r3⟩ := rps_mid (pre := pre) t
    exact ⟨_ :: v1, v, v2, rfl, .cons h r1, r2, r3⟩
theorem ReR.tup_freeze {K : PySem.W.Frag} {M : MH} {b : Addr} {ds : List D} (pre post : List D) (h : M b = some (.lst ds)) : ReR K (.tup (pre ++ .ref b :: post)) M (.tup (pre ++ .lst ds :: post)) (mdel M b) := fun G F H v R p => by
  obtain ⟨F', s, R', pb⟩ := R.freeze h
  cases p with
  | tup ha r =>
    obtain ⟨v1, v, v2, rfl, r1, r2, r3⟩ := rps_mid r
    cases r2
    exact ⟨F', s, R', .tup (s _ _ ha) ((r1.mono s).append (.cons pb (r3.mono s)))⟩
/-! ### picking out of a written row -/
theorem atI_mem {α : Type} {ds : List α} {k : Int} (h0 : 0 ≤ k) (h : k < ds.length) : ∃ d ∈ ds, atI ds k = some d := by
  obtain ⟨j, rfl⟩ := Int.eq_ofNat_of_zero_le h0
  have hj : j < ds.length := by omega
  exact ⟨ds[j], List.getElem_mem hj, atI_nat (List.getElem?_eq_getElem hj)⟩
theorem pow_bit (n : Nat) (h : n ≤ 400) : CPow 10 (n : Int) := ⟨by omega, by omega, by decide⟩
theorem len_app (a b : Str) : (a ++ b).length = a.length + b.length := Str.length_append a b
theorem len_repS {z : Str} {n : Int} (h : 0 ≤ n) : (repS z n).length ≤ z.length * n.toNat + z.length := by
  unfold repS
  split
  · exact Nat.zero_le _
  · split
    · omega
    · have e := size_rep' z.cps.toList n.toNat
      rw [Array.toArray_toList] at e
      show ((List.replicate n.toNat z.cps).foldl (· ++ ·) #[]).size ≤ _
      rw [e, List.size_toArray, len_rep]
      have : z.length = z.cps.toList.length := by rw [Array.length_toList]; rfl
      rw [← this, Nat.mul_comm]
      omega
theorem alt_step {c : Prop} [Decidable c] {α : Type} {P : α → Prop} {A : Prop} {r0 : α} (h : ∀ r, P r) (hA : (∀ r, P r) → A) : if c then A else P r0 := by
  split
  · exact hA h
  · exact h r0
theorem alt_both {c : Prop} [Decidable c] {α : Type} {P : α → Prop} {A B : Prop} (h : ∀ r, P r) (hA : (∀ r, P r) → A) (hB : (∀ r, P r) → B) : if c then A else B := by
  split
  · exact hA h
  · exact hB h
theorem pick3 {d : D} (h : d ∈ [D.str (Str.ofString "+"), D.str (Str.ofString "*"), D.str (Str.ofString "<")]) : ∃ o : Op7, d = .str o.s := by
  simp only [List.mem_cons, List.not_mem_nil, or_false] at h
  rcases h with rfl | rfl | rfl
  · exact ⟨.add, rfl⟩
  · exact ⟨.mul, rfl⟩
  · exact ⟨.lt, rfl⟩
theorem pick7 {d : D} (h : d ∈ [D.str (Str.ofString "+"), D.str (Str.ofString "-"), D.str (Str.ofString "*"), D.str (Str.ofString "div"), D.str (Str.ofString "rem"), D.str (Str.ofString "<"), D.str (Str.ofString "=")]) : ∃ o : Op7, d = .str o.s := by
  simp only [List.mem_cons, List.not_mem_nil, or_false] at h
  rcases h with rfl | rfl | rfl | rfl | rfl | rfl | rfl
  · exact ⟨.add, rfl⟩
  · exact ⟨.sub, rfl⟩
  · exact ⟨.mul, rfl⟩
  · exact ⟨.div, rfl⟩
  · exact ⟨.rem, rfl⟩
  · exact ⟨.lt, rfl⟩
  · exact ⟨.eq, rfl⟩
/-- ds == [] -/
theorem eqD_nil {M : MH} {ds : List D} {Q : VD} (n : Nat) (ok : okDs n ds) (h : Q (.bl (decide (ds = []))) M) (hn : n + 1 ≤ 64 := by decide) : bEqD (.lst ds) (.lst []) M Q := by
  obtain ⟨ys, e, c, dp⟩ := okDs_py n ds ok
  have e1 : pyM M (.lst ds) = some (.list ys) := by show pyD (.lst ds) = _; unfold pyD; rw [e]; rfl
  have e2 : pyM M (.lst []) = some (.list []) := by show pyD (.lst []) = _; unfold pyD pyDs; rfl
  have sh : SeqAt.shaped (.list ys) = true := Bool.and_eq_true_iff.mpr ⟨by unfold PyData.canLay0; exact c, decide_eq_true (by unfold PyData.depth; omega)⟩
  have sh2 : SeqAt.shaped (.list []) = true := by decide +kernel
  unfold bEqD
  simp only [e1, e2]
  refine ⟨sh, sh2, ?_⟩
  have : PyData.eqv (.list ys) (.list []) = decide (ds = []) := by
    cases ds with
    | nil => unfold pyDs at e; cases e; simp [PyData.eqv, PyData.eqvAll]
    | cons x t =>
      unfold pyDs at e
      cases q : pyD x with
      | none => simp only [q] at e; cases e
      | some a =>
        cases q2 : pyDs t with
        | none => simp only [q, q2] at e; cases e
        | some b => simp only [q, q2] at e; cases e; simp [PyData.eqv, PyData.eqvAll]
  rw [this]; exact h
/-! ### xs == [], xs != [], whatever stands in xs -/
def bEqE (neg : Bool) : R2t := fun x y M Q => match lstOf M x, lstOf M y with
  | some a, some b => (a.length ≠ b.length ∧ Q (.bl neg) M) ∨ (a = [] ∧ b = [] ∧ Q (.bl (!neg)) M)
  | _, _ => False
theorem isL_of {X : Cx} {pins : List (Addr × Obj)} {s : Shared} {σ : L2.St} {H : Hp} {a : Addr} {xs : List V} (I : Inv X pins σ H s) (h : SqL X.K H a xs) : ∃ its : Array Value, s.heap.IsList a its ∧ its.size = xs.length := by
  obtain ⟨its, r, pl, _⟩ := I.list h
  exact ⟨its.toArray, pl.isList, by rw [List.size_toArray]; exact r.length.symm⟩
theorem e_both {X : Cx} {x y : V} {H : Hp} {Q : VK} {neg : Bool} (h : lr2 X.K (bEqE neg) x y H Q) : ∃ a b xs ys, x = .ref a ∧ y = .ref b ∧ SqL X.K H a xs ∧ SqL X.K H b ys ∧ ((xs.length ≠ ys.length ∧ Q (.bl neg) H) ∨ (xs = [] ∧ ys = [] ∧ Q (.bl (!neg)) H)) := by
  obtain ⟨G, F, M, dx, dy, Qt, R, px, py, h, k⟩ := h
  unfold bEqE at h
  cases e1 : lstOf M dx with
  | none => simp only [e1] at h
  | some a =>
    cases e2 : lstOf M dy with
    | none => simp only [e1, e2] at h
    | some b =>
      simp only [e1, e2] at h
      obtain ⟨p, xs, rfl, hx, rx⟩ := lst_of R px e1
      obtain ⟨q, ys, rfl, hy, ry⟩ := lst_of R py e2
      refine ⟨p, q, xs, ys, rfl, rfl, hx, hy, ?_⟩
      rcases h with ⟨h1, h2⟩ | ⟨h1, h2, h3⟩
      · exact .inl ⟨by rw [rx.length, ry.length]; exact h1, k _ F H M _ (Same.refl _) R (.bl _) h2⟩
      · subst h1 h2
        cases rx
        cases ry
        exact .inr ⟨rfl, rfl, k _ F H M _ (Same.refl _) R (.bl _) h3⟩
section
variable {X : Cx}
theorem oq_eqE (hu : X.A.units + 64 < cLine) : OpQ X (compareOp .Eq) (bEqE false) := by
  intro pins s σ H x y v u Q I rx ry h
  obtain ⟨a, b, xs, ys, rfl, rfl, hx, hy, h⟩ := e_both h
  rcases h with ⟨h1, h2⟩ | ⟨rfl, rfl, h3⟩
  · obtain ⟨i1, l1, z1⟩ := isL_of I hx
    obtain ⟨i2, l2, z2⟩ := isL_of I hy
    cases rx
    cases ry
    exact SeqAt.eq_list_lengthsAt l1 l2 (by rw [z1, z2]; simpa using h1) (by omega) ⟨.bl false, H, I, rfl, h2⟩
  · exact op_eqD hu pins s σ H _ _ v u Q I rx ry ⟨.list [], .list [], .lst hx .nil, .lst hy .nil, by decide +kernel, by decide +kernel, h3⟩
theorem oq_neE (hu : X.A.units + 64 < cLine) : OpQ X (compareOp .NotEq) (bEqE true) := by
  intro pins s σ H x y v u Q I rx ry h
  obtain ⟨a, b, xs, ys, rfl, rfl, hx, hy, h⟩ := e_both h
  rcases h with ⟨h1, h2⟩ | ⟨rfl, rfl, h3⟩
  · obtain ⟨i1, l1, z1⟩ := isL_of I hx
    obtain ⟨i2, l2, z2⟩ := isL_of I hy
    cases rx
    cases ry
    exact SeqAt.RcNeAt.lists_lengths l1 l2 (by rw [z1, z2]; simpa using h1) (by omega) X.prog X.w _ _ ⟨.bl true, H, I, rfl, h2⟩
  · exact op_neD hu pins s σ H _ _ v u Q I rx ry ⟨.list [], .list [], .lst hx .nil, .lst hy .nil, by decide +kernel, by decide +kernel, h3⟩
end
theorem eqE {M : MH} {x : D} {a : List D} {neg : Bool} {Q : VD} (h : lstOf M x = some a) (q : Q (.bl (if a = [] then !neg else neg)) M) : bEqE neg x (.lst []) M Q := by
  unfold bEqE
  simp only [h, lstOf_l]
  cases a with
  | nil => exact .inr ⟨by trivial, by trivial, q⟩
  | cons y t => exact .inl ⟨by simp, q⟩
/-! ### texts that are texts -/
theorem strOk_iff {x : Str} : PyData.strOk x = true ↔ ∀ c ∈ x.cps.toList, c < 1114112 := by
  unfold PyData.strOk
  rw [← Array.all_toList, List.all_eq_true]
  exact ⟨fun h c hc => of_decide_eq_true (h c hc), fun h c hc => decide_eq_true (h c hc)⟩
theorem strOk_app {a b : Str} (ha : PyData.strOk a = true) (hb : PyData.strOk b = true) : PyData.strOk (a ++ b) = true := by
  rw [strOk_iff] at *
  intro c hc
  have : c ∈ (a.cps ++ b.cps).toList := hc
  rw [Array.toList_append, List.mem_append] at this
  rcases this with h | h
  · exact ha c h
  · exact hb c h
theorem strOk_cut {z : Str} {lo hi : Option Int} (h : PyData.strOk z = true) : PyData.strOk (cutS z lo hi) = true := by
  rw [strOk_iff] at *
  intro c hc
  have : c ∈ ((z.cps.toList.drop (HT.sIx z.length 0 lo)).take (HT.sIx z.length z.length hi - HT.sIx z.length 0 lo)).toArray.toList := hc
  rw [List.toList_toArray] at this
  exact h c (List.mem_of_mem_drop (List.mem_of_mem_take this))
theorem strOk_rep {z : Str} {n : Int} (h : PyData.strOk z = true) : PyData.strOk (repS z n) = true := by
  unfold repS
  split
  · exact strOk_iff.mpr fun c hc => (by cases hc)
  · split
    · exact h
    · rw [strOk_iff] at *
      have e := size_rep' z.cps.toList n.toNat
      rw [Array.toArray_toList] at e
      rw [e]
      intro c hc
      rw [List.toList_toArray, List.mem_flatten] at hc
      obtain ⟨l, hl, hc⟩ := hc
      rw [List.mem_replicate] at hl
      exact h c (hl.2 ▸ hc)
/-! ### what the builders of the laws lay: deeds without lines -/
inductive Od where
  | set (x : Str) (e : Ex) | ifo (e : Ex) | whl (e : Ex) | fin | els | brk | agn | meet | stop | tell (e : Ex) | ret (e : Ex) | put (a b : Ex) | join (x w : Str) (e : Ex) | call (x f : Str) (es : List Ex)
def Od.word : Od → Str
  | .set .. => "set" | .ifo .. => "if" | .whl .. => "while" | .fin => "end" | .els => "else" | .brk => "break" | .agn => "again" | .meet => "meet" | .stop => "stop" | .tell .. => "tell" | .ret .. => "return" | .put .. => "put" | .join .. => "join" | .call .. => "call"
def Od.rest : Od → List D
  | .set x e => [.str x, e.d] | .ifo e => [e.d] | .whl e => [e.d] | .tell e => [e.d] | .ret e => [e.d] | .put a b => [a.d, b.d] | .join x w e => [.str x, .str w, e.d] | .call x f es => [.str x, .str f, .lst (es.map Ex.d)] | _ => []
def Od.d (o : Od) : D := .tup (.str o.word :: o.rest)
/-- the statement that a plain deed becomes at a line -/
def Od.at_ (o : Od) (l : Int) : Option Sm := match o with
  | .set x e => some (.set l x e) | .brk => some (.brk l) | .agn => some (.agn l) | .meet => some (.meet l) | .stop => some (.stop l) | .tell e => some (.tell l e) | .ret e => some (.ret l e) | .put a b => some (.put l a b) | .join x w e => some (.join l x w e) | .call x f es => some (.call l x f es)
  | _ => none
theorem od_at {o : Od} {l : Int} {s : Sm} (h : o.at_ l = some s) : s.d = .tup (.str o.word :: .int l :: o.rest) := by
  cases o <;> cases h <;> rfl
end Tl

namespace Tl
open PySem PySem.Spec PyProof.Rows L2

/-! ### what a builder's frames hold (pure) -/
/-- what is asked of a statement: of its expressions pe, of a join pj, of a call pc, of a return pr -/
structure Ask where
  pn : Str → Prop
  pe : Ex → Prop
  pj : Str → Prop
  pc : Str → List Ex → Prop
  pr : Prop
mutual
def okSt (a : Ask) : Bool → Sm → Prop
  | _, .set _ x e => a.pn x ∧ a.pe e
  | _, .put _ x y => a.pe x ∧ a.pe y
  | _, .tell _ e => a.pe e
  | _, .ret _ e => a.pe e ∧ a.pr
  | _, .stop _ => True
  | lp, .brk _ => lp = true
  | lp, .agn _ => lp = true
  | _, .meet _ => True
  | _, .join _ x z e => a.pn x ∧ a.pe e ∧ a.pj z
  | _, .call _ x f es => a.pn x ∧ (∀ e ∈ es, a.pe e) ∧ a.pc f es
  | lp, .if1 _ e b => a.pe e ∧ okSts a lp b
  | lp, .if2 _ e b c => a.pe e ∧ okSts a lp b ∧ okSts a lp c
  | _, .whl _ e b => a.pe e ∧ okSts a true b
def okSts (a : Ask) : Bool → List Sm → Prop
  | _, [] => True
  | lp, s :: t => okSt a lp s ∧ okSts a lp t
end
theorem okSts_app {a : Ask} {lp : Bool} : ∀ {b c : List Sm}, okSts a lp b → okSts a lp c → okSts a lp (b ++ c)
  | [], _, _, h => h
  | s :: t, _, h, h2 => by
    unfold okSts at h
    rw [List.cons_append, okSts]
    exact ⟨h.1, okSts_app h.2 h2⟩
theorem okSts_one {a : Ask} {lp : Bool} {s : Sm} (h : okSt a lp s) : okSts a lp [s] := by
  unfold okSts okSts; exact ⟨h, trivial⟩
theorem deeps_app : ∀ {b c : List Sm}, deeps (b ++ c) = max (deeps b) (deeps c)
  | [], c => by rw [List.nil_append, show deeps [] = 0 from by unfold deeps; rfl]; omega
  | s :: t, c => by rw [List.cons_append, deeps, deeps, deeps_app]; omega
theorem deeps_one {s : Sm} : deeps [s] = s.deep := by rw [deeps, show deeps [] = 0 from by unfold deeps; rfl]; omega
structure Fr where
  at_ : Addr
  wh : Bool
  l : Int
  e : Ex
  body : Addr
  bs : List Sm
  els : Option (Addr × List Sm)
def Fr.word (f : Fr) : Str := if f.wh = true then "while" else "if"
def Fr.here (f : Fr) : Addr := match f.els with
  | none => f.body
  | some x => x.1
/-- where the next deed goes -/
def hereOf (base : Addr) : List Fr → Addr
  | [] => base
  | f :: _ => f.here
def elsD : Option (Addr × List Sm) → D
  | none => .non
  | some x => .ref x.1
def Fr.row (f : Fr) (outer : Addr) : MO := .lst [.str f.word, .int f.l, f.e.d, .ref outer, .ref f.body, elsD f.els]
def Fr.cells (f : Fr) (outer : Addr) : List (Addr × MO) :=
  (f.at_, f.row outer) :: (f.body, .lst (stD f.bs)) :: match f.els with
  | none => []
  | some x => [(x.1, .lst (stD x.2))]
def cellsOf (base : Addr) (b0 : List Sm) : List Fr → List (Addr × MO)
  | [] => [(base, .lst (stD b0))]
  | f :: r => f.cells (hereOf base r) ++ cellsOf base b0 r
def Fr.close (f : Fr) : Sm := if f.wh = true then .whl f.l f.e f.bs else match f.els with
  | none => .if1 f.l f.e f.bs
  | some x => .if2 f.l f.e f.bs x.2
def lpOf (stk : List Fr) : Bool := stk.any fun f => f.wh
def stkOk (a : Ask) (b0 : List Sm) : List Fr → Prop
  | [] => okSts a false b0 ∧ deeps b0 ≤ 6
  | f :: r => a.pe f.e ∧ okSts a (lpOf (f :: r)) f.bs ∧ deeps f.bs + (r.length + 1) ≤ 6 ∧ (∀ x, f.els = some x → okSts a (lpOf (f :: r)) x.2 ∧ deeps x.2 + (r.length + 1) ≤ 6) ∧ stkOk a b0 r
/-- a statement put where the next one goes -/
def addTo (s : Sm) (b0 : List Sm) : List Fr → List Sm × List Fr
  | [] => (b0 ++ [s], [])
  | f :: r => (b0, (match f.els with
    | none => { f with bs := f.bs ++ [s] }
    | some x => { f with els := some (x.1, x.2 ++ [s]) }) :: r)
theorem addTo_ok {a : Ask} {s : Sm} {b0 : List Sm} {stk : List Fr} (h : stkOk a b0 stk) (hs : okSt a (lpOf stk) s) (hd : s.deep + stk.length ≤ 6) : stkOk a (addTo s b0 stk).1 (addTo s b0 stk).2 := by
  cases stk with
  | nil =>
    obtain ⟨h1, h2⟩ := h
    refine ⟨okSts_app h1 (okSts_one hs), ?_⟩
    show deeps (b0 ++ [s]) ≤ 6
    rw [deeps_app, deeps_one]
    simp only [List.length_nil] at hd
    omega
  | cons f r =>
    obtain ⟨fa, wh, l, e, body, bs, els⟩ := f
    obtain ⟨he, h1, h2, h3, h4⟩ := h
    rw [List.length_cons] at hd
    dsimp only at he h1 h2 h3 h4
    cases els with
    | none =>
      refine ⟨he, okSts_app h1 (okSts_one hs), ?_, fun x hx2 => (by cases hx2), h4⟩
      show deeps (bs ++ [s]) + (r.length + 1) ≤ 6
      rw [deeps_app, deeps_one]; omega
    | some y =>
      obtain ⟨h5, h6⟩ := h3 y rfl
      refine ⟨he, h1, h2, fun x hx2 => ?_, h4⟩
      cases hx2
      refine ⟨okSts_app h5 (okSts_one hs), ?_⟩
      show deeps (y.2 ++ [s]) + (r.length + 1) ≤ 6
      rw [deeps_app, deeps_one]; omega
theorem close_ok {a : Ask} {f : Fr} {r : List Fr} {b0 : List Sm} (h : stkOk a b0 (f :: r)) : okSt a (lpOf r) f.close ∧ f.close.deep + r.length ≤ 6 := by
  obtain ⟨he, h1, h2, h3, h4⟩ := h
  unfold Fr.close
  cases hw : f.wh with
  | true =>
    have e : lpOf (f :: r) = true := by unfold lpOf; rw [List.any_cons, hw]; rfl
    rw [e] at h1
    refine ⟨?_, ?_⟩
    · unfold okSt; exact ⟨he, h1⟩
    · rw [if_pos rfl, Sm.deep]; omega
  | false =>
    have e : lpOf (f :: r) = lpOf r := by unfold lpOf; rw [List.any_cons, hw]; rfl
    rw [e] at h1 h3
    rw [if_neg (by simp)]
    cases hx : f.els with
    | none =>
      refine ⟨?_, ?_⟩
      · unfold okSt; exact ⟨he, h1⟩
      · dsimp only; rw [Sm.deep]; omega
    | some x =>
      obtain ⟨h5, h6⟩ := h3 x hx
      refine ⟨?_, ?_⟩
      · unfold okSt; exact ⟨he, h1, h5⟩
      · dsimp only; rw [Sm.deep]; omega
theorem cells_fr {base : Addr} {b0 : List Sm} : ∀ {stk : List Fr} {f : Fr}, f ∈ stk → ∃ outer, (f.at_, f.row outer) ∈ cellsOf base b0 stk
  | g :: r, f, h => by
    rcases List.mem_cons.mp h with rfl | h
    · exact ⟨hereOf base r, by simp [cellsOf, Fr.cells]⟩
    · obtain ⟨o, ho⟩ := cells_fr (base := base) (b0 := b0) h
      exact ⟨o, by rw [cellsOf]; exact List.mem_append_right _ ho⟩
def stkLen (n : Nat) (b0 : List Sm) (stk : List Fr) : Prop := b0.length ≤ n ∧ ∀ f ∈ stk, f.bs.length ≤ n ∧ ∀ x, f.els = some x → x.2.length ≤ n
theorem stkLen_mono {n m : Nat} {b0 : List Sm} {stk : List Fr} (h : stkLen n b0 stk) (hm : n ≤ m) : stkLen m b0 stk := ⟨Nat.le_trans h.1 hm, fun f hf => ⟨Nat.le_trans (h.2 f hf).1 hm, fun x hx => Nat.le_trans ((h.2 f hf).2 x hx) hm⟩⟩
theorem addTo_stkLen {n : Nat} {s : Sm} {b0 : List Sm} {stk : List Fr} (h : stkLen n b0 stk) : stkLen (n + 1) (addTo s b0 stk).1 (addTo s b0 stk).2 := by
  cases stk with
  | nil => exact ⟨by show (b0 ++ [s]).length ≤ n + 1; rw [List.length_append]; have := h.1; simp only [List.length_singleton]; omega, fun f hf => (by cases hf)⟩
  | cons f r =>
    have hm := stkLen_mono h (Nat.le_succ n)
    obtain ⟨fa, wh, l, e, body, bs, els⟩ := f
    have h1 := h.2 _ (List.mem_cons_self ..)
    have hr : ∀ g ∈ r, g.bs.length ≤ n + 1 ∧ ∀ x, g.els = some x → x.2.length ≤ n + 1 := fun g hg => hm.2 g (List.mem_cons_of_mem _ hg)
    cases els with
    | none =>
      refine ⟨hm.1, fun g hg => ?_⟩
      rcases List.mem_cons.mp hg with rfl | hg
      · refine ⟨?_, fun x hx => (by cases hx)⟩
        show (bs ++ [s]).length ≤ n + 1
        rw [List.length_append]
        have := h1.1
        dsimp only at this
        simp only [List.length_singleton]; omega
      · exact hr g hg
    | some y =>
      refine ⟨hm.1, fun g hg => ?_⟩
      rcases List.mem_cons.mp hg with rfl | hg
      · refine ⟨(hm.2 _ (List.mem_cons_self ..)).1, fun x hx => ?_⟩
        cases hx
        show (y.2 ++ [s]).length ≤ n + 1
        rw [List.length_append]
        have := h1.2 y rfl
        simp only [List.length_singleton]; omega
      · exact hr g hg
/-- the cell where the next deed goes -/
theorem cells_here {base : Addr} {b0 : List Sm} {stk : List Fr} : ∃ pre post cur, (∀ n, stkLen n b0 stk → cur.length ≤ n) ∧ cellsOf base b0 stk = pre ++ (hereOf base stk, .lst (stD cur)) :: post ∧
    ∀ s, cellsOf base (addTo s b0 stk).1 (addTo s b0 stk).2 = pre ++ (hereOf base stk, .lst (stD (cur ++ [s]))) :: post := by
  cases stk with
  | nil => exact ⟨[], [], b0, fun n h => h.1, rfl, fun s => rfl⟩
  | cons f r =>
    obtain ⟨fa, wh, l, e, body, bs, els⟩ := f
    cases els with
    | none => exact ⟨[(fa, Fr.row ⟨fa, wh, l, e, body, bs, none⟩ (hereOf base r))], cellsOf base b0 r, bs, fun n h => (h.2 _ (List.mem_cons_self ..)).1, rfl, fun s => rfl⟩
    | some x => exact ⟨[(fa, Fr.row ⟨fa, wh, l, e, body, bs, some x⟩ (hereOf base r)), (body, .lst (stD bs))], cellsOf base b0 r, x.2, fun n h => (h.2 _ (List.mem_cons_self ..)).2 x rfl, rfl, fun s => rfl⟩
theorem addTo_len {s : Sm} {b0 : List Sm} {stk : List Fr} : (addTo s b0 stk).2.length = stk.length := by
  cases stk <;> rfl
theorem addTo_here {base : Addr} {s : Sm} {b0 : List Sm} {stk : List Fr} : hereOf base (addTo s b0 stk).2 = hereOf base stk := by
  cases stk with
  | nil => rfl
  | cons f r =>
    obtain ⟨fa, wh, l, e, body, bs, els⟩ := f
    cases els <;> rfl
theorem addTo_at {s : Sm} {b0 : List Sm} {stk : List Fr} : (addTo s b0 stk).2.map (fun f => f.at_) = stk.map (fun f => f.at_) := by
  cases stk with
  | nil => rfl
  | cons f r =>
    obtain ⟨fa, wh, l, e, body, bs, els⟩ := f
    cases els <;> rfl
theorem cells_base {base : Addr} {b0 : List Sm} : ∀ stk : List Fr, ∃ pre, cellsOf base b0 stk = pre ++ [(base, .lst (stD b0))]
  | [] => ⟨[], rfl⟩
  | f :: r => by
    obtain ⟨pre, e⟩ := cells_base (base := base) (b0 := b0) r
    exact ⟨f.cells (hereOf base r) ++ pre, by rw [cellsOf, e, List.append_assoc]⟩
theorem stkOk_base {a : Ask} {b0 : List Sm} : ∀ {stk : List Fr}, stkOk a b0 stk → okSts a false b0 ∧ deeps b0 ≤ 6
  | [], h => h
  | _ :: _, h => stkOk_base h.2.2.2.2
theorem Cel.perm {M0 M : MH} {cs ds : List (Addr × MO)} (h : Cel M0 M cs) (p : cs.Perm ds) : Cel M0 M ds :=
  ⟨(p.map _).nodup_iff.mp h.nd, fun c hc => h.at_ c (p.mem_iff.mpr hc), h.old, fun c hc => h.new c (p.mem_iff.mpr hc)⟩
end Tl

namespace Tl
open PySem PySem.Spec PyProof.Rows L2

/-! ### mirrors of the builder of the laws k12 .. k17, k31 .. k37 -/
theorem atI_getD {α : Type} {ds : List α} {k : Int} (d : α) (h0 : 0 ≤ k) (h : k < ds.length) : atI ds k = some (ds.getD k.toNat d) := by
  obtain ⟨j, rfl⟩ := Int.eq_ofNat_of_zero_le h0
  have hj : j < ds.length := by omega
  rw [atI_nat (List.getElem?_eq_getElem hj)]
  simp [List.getD, hj]
theorem atI_mapD {α β : Type} {f : α → β} {xs : List α} {k : Int} (d : α) (h0 : 0 ≤ k) (h : k < xs.length) : atI (xs.map f) k = some (f (xs.getD k.toNat d)) := by
  obtain ⟨j, rfl⟩ := Int.eq_ofNat_of_zero_le h0
  have hj : j < xs.length := by omega
  rw [atI_nat (v := f xs[j]) (by rw [List.getElem?_map, List.getElem?_eq_getElem hj]; rfl)]
  simp [List.getD, hj]
theorem getD_mem {α : Type} {xs : List α} {n : Nat} (d : α) (h : n < xs.length) : xs.getD n d ∈ xs := by
  rw [List.getD_eq_getElem?_getD, List.getElem?_eq_getElem h]
  exact List.getElem_mem h
theorem range_fold {α : Type} (f : α → Nat → α) (s : α) (n : Nat) : (List.range (n + 1)).foldl f s = f ((List.range n).foldl f s) n := by
  rw [List.range_succ, List.foldl_append]; rfl
abbrev bigB : Int := 1000000000000000000000000000057
def spreadF (c : Int) (k : Nat) : Int := (c % 1000000000000000000000000000057 * 271828182845904523536028747135 + (k : Int) * k * 314159265358979323846264338327 + 577215664901532860606512090082) % 1000000000000000000000000000057
theorem spreadF_nn (c : Int) (k : Nat) : 0 ≤ spreadF c k := Int.emod_nonneg _ (by decide)
def cellF (ns : List Int) (k : Nat) : Int := ns.getD k 0
def letters : Str := "abcdefghijklmnopqrstuvwxyz"
def signF (r : Int) : Nat := letters.cps.toList.getD (r % 26).toNat 0
def baseStep (s : Str × Int) (_ : Nat) : Str × Int := (s.1 ++ ⟨#[signF s.2]⟩, s.2 / 26)
def baseF (rest : Int) (n : Nat) : Str × Int := (List.range n).foldl baseStep ("", rest)
def keptL : List Str := ["def", "set", "put", "tell", "if", "else", "while", "end", "break", "again", "call", "return", "stop", "join", "meet", "lane", "lanes", "mine", "box", "div", "rem", "sum", "most", "least", "ahead"]
def nameF (n : Int) (z : Str) (r : Int) (k : Nat) : Str :=
  let w0 := if r / 26 % 4 = 1 then cutS z none (some (8 - (k : Int))) else cutS z none (some (n / 8 % (1 + n % 8))) ++ ⟨#[signF (r + 5 * (k : Int))]⟩ ++ cutS z (some (n / 8 % (1 + n % 8) + 1)) (some (1 + n % 8))
  if w0 ∈ keptL ∨ w0 = "main" then repS "q" (w0.length : Int) else w0
def namesF (n : Int) : List Str := (List.range 6).map (nameF n (baseF (n / 64) 8).1 (baseF (n / 64) 8).2)
def nmD (xs : List Str) : D := .lst (xs.map .str)
def okS (x : Str) : Prop := x.length ≤ 100 ∧ PyData.strOk x = true
def okNm (xs : List Str) : Prop := xs.length = 6 ∧ ∀ x ∈ xs, okS x
theorem sign_get (r : Int) : atI letters.cps.toList (r % 26) = some (signF r) := by
  have hL : letters.cps.toList.length = 26 := by decide +kernel
  have b := modB (a := r) (b := 26) (by decide)
  exact atI_getD 0 b.1 (by rw [hL]; exact b.2)
theorem sign_ok (r : Int) : PyData.strOk ⟨#[signF r]⟩ = true := by
  have hL : letters.cps.toList.length = 26 := by decide +kernel
  have hLs : PyData.strOk letters = true := by decide +kernel
  have b := modB (a := r) (b := 26) (by decide)
  refine strOk_iff.mpr fun c' hc' => ?_
  have : c' ∈ [signF r] := hc'
  rw [List.mem_singleton.mp this]
  exact strOk_iff.mp hLs _ (getD_mem 0 (by rw [hL]; omega))
theorem base_ok (r : Int) : ∀ n, (baseF r n).1.length = n ∧ PyData.strOk (baseF r n).1 = true
  | 0 => ⟨rfl, strOk_iff.mpr fun c hc => (by cases hc)⟩
  | n + 1 => by
    have e : baseF r (n + 1) = baseStep (baseF r n) n := range_fold ..
    obtain ⟨h1, h2⟩ := base_ok r n
    rw [e]
    exact ⟨by show (_ ++ _ : Str).length = _; rw [len_app, h1]; rfl, strOk_app h2 (sign_ok _)⟩
theorem name_ok (n : Int) {z : Str} (r : Int) (k : Nat) (hz : z.length = 8) (hs : PyData.strOk z = true) : okS (nameF n z r k) := by
  have hqs : PyData.strOk (Str.ofString "q") = true := by decide +kernel
  have lq : (Str.ofString "q").length = 1 := by decide +kernel
  have hq : ∀ u : Str, u.length ≤ 40 → okS (repS (Str.ofString "q") (u.length : Int)) := fun u hu => ⟨by
    have := len_repS (z := Str.ofString "q") (n := (u.length : Int)) (by omega)
    rw [lq] at this
    omega, strOk_rep hqs⟩
  have c1 := cutS_length z none (some (n / 8 % (1 + n % 8)))
  have c2 := cutS_length z (some (n / 8 % (1 + n % 8) + 1)) (some (1 + n % 8))
  have c3 := cutS_length z none (some (8 - (k : Int)))
  have wl := len_app (cutS z none (some (n / 8 % (1 + n % 8))) ++ ⟨#[signF (r + 5 * (k : Int))]⟩) (cutS z (some (n / 8 % (1 + n % 8) + 1)) (some (1 + n % 8)))
  have wl2 := len_app (cutS z none (some (n / 8 % (1 + n % 8)))) ⟨#[signF (r + 5 * (k : Int))]⟩
  have l1 : (⟨#[signF (r + 5 * (k : Int))]⟩ : Str).length = 1 := rfl
  have ok2 : ∀ w : Str, w.length ≤ 40 → PyData.strOk w = true → okS (if w ∈ keptL ∨ w = "main" then repS "q" (w.length : Int) else w) := fun w hw hs => by
    split
    · exact hq _ hw
    · exact ⟨by omega, hs⟩
  unfold nameF
  dsimp only
  split
  · exact ok2 _ (by omega) (strOk_cut hs)
  · exact ok2 _ (by omega) (strOk_app (strOk_app (strOk_cut hs) (sign_ok _)) (strOk_cut hs))
theorem names_ok (n : Int) : okNm (namesF n) := by
  refine ⟨by unfold namesF; simp, fun x hx => ?_⟩
  obtain ⟨k, _, rfl⟩ := List.mem_map.mp hx
  exact name_ok n _ k (base_ok _ 8).1 (base_ok _ 8).2
/-! expressions -/
def noOwn : Ex → Prop
  | .lane => False
  | .mine => False
  | .box e => noOwn e
  | .op _ a b => noOwn a ∧ noOwn b
  | _ => True
def exNm : Ex → Prop
  | .nam x => okS x
  | .box e => exNm e
  | .op _ a b => exNm a ∧ exNm b
  | _ => True
def okE (own : Int) (n : Nat) (e : Ex) : Prop := e.deep ≤ n ∧ (own = 0 → noOwn e) ∧ exNm e
theorem okE_mono {own : Int} {n m : Nat} {e : Ex} (h : okE own n e) (hm : n ≤ m) : okE own m e := ⟨Nat.le_trans h.1 hm, h.2⟩
def op3 (k : Int) : Op7 := [Op7.add, .mul, .lt].getD k.toNat .add
def op7 (k : Int) : Op7 := [Op7.add, .sub, .mul, .div, .rem, .lt, .eq].getD k.toNat .add
theorem op3_get {k : Int} (h0 : 0 ≤ k) (h : k < 3) : atI [D.str (Str.ofString "+"), D.str (Str.ofString "*"), D.str (Str.ofString "<")] k = some (.str (op3 k).s) := atI_mapD (f := fun o : Op7 => D.str o.s) (xs := [Op7.add, .mul, .lt]) .add h0 h
theorem op7_get {k : Int} (h0 : 0 ≤ k) (h : k < 7) : atI [D.str (Str.ofString "+"), D.str (Str.ofString "-"), D.str (Str.ofString "*"), D.str (Str.ofString "div"), D.str (Str.ofString "rem"), D.str (Str.ofString "<"), D.str (Str.ofString "=")] k = some (.str (op7 k).s) := atI_mapD (f := fun o : Op7 => D.str o.s) (xs := [Op7.add, .sub, .mul, .div, .rem, .lt, .eq]) .add h0 h
def leafF (own : Int) (xs : List Str) (i : Int) : Ex × Int :=
  if 24 - own ≤ i % 24 then ((if i / 24 % 2 = 0 then .lane else .mine), i / 24 / 2)
  else if i % 24 < 11 then (.nam (xs.getD (i / 24 % 6).toNat ""), i / 24 / 6)
  else if i % 24 = 11 then (.lanes, i / 24)
  else (.num (i / 24 % 1999999999 - 999999999), i / 24 / 199)
theorem leaf_ok (own : Int) {xs : List Str} (hx : okNm xs) (i : Int) : okE own 1 (leafF own xs i).1 := by
  have bi := modB (a := i) (b := 24) (by decide)
  unfold leafF
  split
  · dsimp only
    split <;> exact ⟨Nat.le_refl _, fun z => by omega, trivial⟩
  · split
    · have b6 := modB (a := i / 24) (b := 6) (by decide)
      exact ⟨Nat.le_refl _, fun _ => trivial, hx.2 _ (getD_mem _ (by rw [hx.1]; omega))⟩
    · split
      · exact ⟨Nat.le_refl _, fun _ => trivial, trivial⟩
      · exact ⟨Nat.le_refl _, fun _ => trivial, trivial⟩
def besideF (own : Int) (xs : List Str) (i : Int) : Ex × Int :=
  let a := leafF own xs (i / 5)
  if i % 5 = 1 then (.box a.1, a.2)
  else if i % 5 = 2 then (.op (op3 ((leafF own xs a.2).2 % 3)) a.1 (leafF own xs a.2).1, (leafF own xs a.2).2 / 3)
  else a
theorem beside_ok (own : Int) {xs : List Str} (hx : okNm xs) (i : Int) : okE own 2 (besideF own xs i).1 := by
  have h1 := leaf_ok own hx (i / 5)
  have h2 := leaf_ok own hx (leafF own xs (i / 5)).2
  unfold besideF
  dsimp only
  split
  · exact ⟨by have := h1.1; unfold Ex.deep; omega, fun z => h1.2.1 z, h1.2.2⟩
  · split
    · refine ⟨?_, fun z => ⟨h1.2.1 z, h2.2.1 z⟩, h1.2.2, h2.2.2⟩
      have := h1.1
      have := h2.1
      unfold Ex.deep
      omega
    · exact okE_mono h1 (by decide)
def deepF (k : Int) : Nat := [0, 0, 0, 1, 1, 2, 6].getD k.toNat 0
def refill (i : Int) (r : Int) (k : Nat) : Int := if r < 100000000000 then spreadF (i + (k : Int)) (k + 5) else r
def exprStep (own : Int) (xs : List Str) (i : Int) (s : Ex × Int) (k : Nat) : Ex × Int :=
  let r := refill i s.2 k
  if r % 4 = 0 then (.box s.1, r / 4)
  else
    let b := if deepF (i % 7) = 6 ∧ k = 0 then leafF own xs (r / 4) else besideF own xs (r / 4)
    (if r % 4 = 1 then .op (op7 (b.2 % 7)) s.1 b.1 else .op (op7 (b.2 % 7)) b.1 s.1, b.2 / 7)
def exprS (own : Int) (xs : List Str) (i : Int) (n : Nat) : Ex × Int := (List.range n).foldl (exprStep own xs i) (leafF own xs (i / 7))
def exprF (own : Int) (xs : List Str) (i : Int) : Ex := (exprS own xs i (deepF (i % 7))).1
theorem deepF_le (k : Int) : deepF k ≤ 6 := by
  unfold deepF
  by_cases h : k.toNat < [0, 0, 0, 1, 1, 2, 6].length
  · have := getD_mem 0 h
    simp only [List.mem_cons, List.not_mem_nil, or_false] at this
    omega
  · rw [List.getD_eq_getElem?_getD, List.getElem?_eq_none (by omega)]; decide
theorem exprS_ok (own : Int) {xs : List Str} (hx : okNm xs) (i : Int) : ∀ n, okE own (n + 2) (exprS own xs i n).1
  | 0 => okE_mono (leaf_ok _ hx _) (by decide)
  | n + 1 => by
    unfold exprS
    rw [range_fold]
    have h := exprS_ok own hx i n
    unfold exprS at h
    generalize (List.range n).foldl (exprStep own xs i) (leafF own xs (i / 7)) = s at h
    have hb : ∀ r, okE own 2 (if deepF (i % 7) = 6 ∧ n = 0 then leafF own xs r else besideF own xs r).1 := fun r => by
      split
      · exact okE_mono (leaf_ok _ hx _) (by decide)
      · exact beside_ok _ hx _
    unfold exprStep
    dsimp only
    have h1 := h.1
    split
    · exact ⟨by unfold Ex.deep; omega, fun z => h.2.1 z, h.2.2⟩
    · have hb1 := hb (refill i s.2 n / 4)
      generalize (if deepF (i % 7) = 6 ∧ n = 0 then leafF own xs (refill i s.2 n / 4) else besideF own xs (refill i s.2 n / 4)) = b at hb1
      have h2 := hb1.1
      dsimp only
      split
      · exact ⟨by unfold Ex.deep; omega, fun z => ⟨h.2.1 z, hb1.2.1 z⟩, h.2.2, hb1.2.2⟩
      · exact ⟨by unfold Ex.deep; omega, fun z => ⟨hb1.2.1 z, h.2.1 z⟩, hb1.2.2, h.2.2⟩
theorem expr_ok (own : Int) {xs : List Str} (hx : okNm xs) (i : Int) : okE own 10 (exprF own xs i) := okE_mono (exprS_ok own hx i _) (by have := deepF_le (i % 7); omega)
/-! deeds -/
abbrev Rm := List (Str × List Str)
def rmD (rs : Rm) : List D := rs.map fun r => .tup [.str r.1, .lst (r.2.map .str)]
def notMain (r : Str × List Str) : Bool := decide (r.1 ≠ ("main" : Str))
def okRm (rs : Rm) : Prop := rs.length ≤ 4 ∧ ∀ r ∈ rs, okS r.1 ∧ r.2.length ≤ 6 ∧ ∀ x ∈ r.2, okS x
def okO (own : Int) (ws : List Str) (rs : Rm) : Od → Prop
  | .set x e => okS x ∧ okE own 10 e | .ifo e => okE own 10 e | .whl e => okE own 10 e | .tell e => okE own 10 e | .ret e => okE own 10 e | .put a b => okE own 10 a ∧ okE own 10 b | .join x z e => okS x ∧ okE own 10 e ∧ z ∈ ws
  | .call x f es => okS x ∧ (∀ e ∈ es, okE own 10 e) ∧ ∃ ps, (f, ps) ∈ rs ∧ f ≠ "main" ∧ es.length = ps.length
  | _ => True
def argStep (own : Int) (xs : List Str) (s : List Ex × Int) (_ : Nat) : List Ex × Int := (s.1 ++ [exprF own xs (s.2 % 1000 * 7 + s.2 / 1000 % 5)], s.2 / 10000)
def argsF (own : Int) (xs : List Str) (r : Int) (n : Nat) : List Ex × Int := (List.range n).foldl (argStep own xs) ([], r)
theorem args_ok (own : Int) {xs : List Str} (hx : okNm xs) (r : Int) : ∀ n, (argsF own xs r n).1.length = n ∧ ∀ e ∈ (argsF own xs r n).1, okE own 10 e
  | 0 => ⟨rfl, fun e he => (by cases he)⟩
  | n + 1 => by
    have e : argsF own xs r (n + 1) = argStep own xs (argsF own xs r n) n := range_fold ..
    obtain ⟨h1, h2⟩ := args_ok own hx r n
    rw [e]
    refine ⟨by show (_ ++ _ : List Ex).length = _; rw [List.length_append, h1]; rfl, fun e he => ?_⟩
    rcases List.mem_append.mp he with h | h
    · exact h2 e h
    · rw [List.mem_singleton.mp h]; exact expr_ok _ hx _
def callF (own : Int) (xs : List Str) (rs : Rm) (x : Str) (i : Int) : Od :=
  let os := rs.filter notMain
  if os = [] then .tell (exprF own xs i)
  else
    let o := os.getD (i % (os.length : Int)).toNat ("", [])
    .call x o.1 (argsF own xs (i / 3) o.2.length).1
theorem others_mem {rs : Rm} {r : Str × List Str} (h : r ∈ rs.filter notMain) : r ∈ rs ∧ r.1 ≠ "main" := by
  rw [List.mem_filter] at h
  exact ⟨h.1, of_decide_eq_true h.2⟩
theorem pick_others {os : Rm} {i : Int} (h : os ≠ []) : os.getD (i % (os.length : Int)).toNat ("", []) ∈ os := by
  have hlen : 0 < os.length := List.length_pos_iff.mpr h
  have bm := modB (a := i) (b := (os.length : Int)) (by omega)
  exact getD_mem _ (by omega)
theorem call_ok (own : Int) {xs : List Str} (hx : okNm xs) (rs : Rm) (ws : List Str) {x : Str} (hx2 : okS x) (i : Int) : okO own ws rs (callF own xs rs x i) := by
  unfold callF
  dsimp only
  split
  · exact expr_ok _ hx _
  · rename_i h
    have hm := pick_others (i := i) h
    have h2 := others_mem hm
    obtain ⟨h3, h4⟩ := args_ok own hx (i / 3) ((rs.filter notMain).getD (i % ((rs.filter notMain).length : Int)).toNat ("", [])).2.length
    exact ⟨hx2, h4, _, h2.1, h2.2, h3⟩
def opF (own : Int) (xs : List Str) (rs : Rm) (ws : List Str) (i : Int) : Od :=
  let x := xs.getD (i / 24 % 6).toNat ""
  let r := i / 144
  if i % 24 < 5 then .set x (exprF own xs r)
  else if i % 24 < 9 then (if i % 24 < 7 then .ifo (exprF own xs r) else .whl (exprF own xs r))
  else if i % 24 < 13 then (if i % 24 < 12 then .fin else .els)
  else if i % 24 < 17 then (if i % 24 = 13 then .brk else if i % 24 = 14 then .agn else if i % 24 = 15 then .meet else .stop)
  else if i % 24 < 19 then (if i % 24 = 17 then .tell (exprF own xs r) else .ret (exprF own xs r))
  else if i % 24 = 19 then .put (exprF own xs (r % 1000000000000)) (exprF own xs (r / 1000000000000))
  else if i % 24 = 20 then .join x (ws.getD (r % (ws.length : Int)).toNat "") (exprF own xs (r / 4))
  else callF own xs rs x r
theorem op_ok (own : Int) {xs : List Str} (hx : okNm xs) (rs : Rm) {ws : List Str} (hw : 0 < ws.length) (i : Int) : okO own ws rs (opF own xs rs ws i) := by
  have he := expr_ok own hx
  have hxn : okS (xs.getD (i / 24 % 6).toNat "") := by
    have b6 := modB (a := i / 24) (b := 6) (by decide)
    exact hx.2 _ (getD_mem _ (by rw [hx.1]; omega))
  unfold opF
  dsimp only
  split
  · exact ⟨hxn, he _⟩
  · split
    · split <;> exact he _
    · split
      · split <;> trivial
      · split
        · split
          · trivial
          · split
            · trivial
            · split <;> trivial
        · split
          · split <;> exact he _
          · split
            · exact ⟨he _, he _⟩
            · split
              · refine ⟨hxn, he _, getD_mem _ ?_⟩
                have bm := modB (a := i / 144) (b := (ws.length : Int)) (by omega)
                omega
              · exact call_ok _ hx _ _ hxn _
end Tl

namespace Tl
open PySem PySem.Spec PyProof.Rows L2

/-! ### mirrors: lines laid in one another -/
structure Fp where
  wh : Bool
  l : Int
  e : Ex
  bs : List Sm
  els : Option (List Sm)
def Fr.p (f : Fr) : Fp := ⟨f.wh, f.l, f.e, f.bs, f.els.map (·.2)⟩
def Fp.close (f : Fp) : Sm := if f.wh = true then .whl f.l f.e f.bs else match f.els with
  | none => .if1 f.l f.e f.bs
  | some x => .if2 f.l f.e f.bs x
theorem close_p (f : Fr) : f.p.close = f.close := by
  obtain ⟨fa, wh, l, e, body, bs, els⟩ := f
  cases wh <;> cases els <;> rfl
def addP (s : Sm) (b0 : List Sm) : List Fp → List Sm × List Fp
  | [] => (b0 ++ [s], [])
  | f :: r => (b0, (match f.els with
    | none => { f with bs := f.bs ++ [s] }
    | some x => { f with els := some (x ++ [s]) }) :: r)
theorem addTo_p (s : Sm) (b0 : List Sm) (stk : List Fr) : ((addTo s b0 stk).1, (addTo s b0 stk).2.map Fr.p) = addP s b0 (stk.map Fr.p) := by
  cases stk with
  | nil => rfl
  | cons f r =>
    obtain ⟨fa, wh, l, e, body, bs, els⟩ := f
    cases els <;> rfl
theorem addTo_p1 (s : Sm) (b0 : List Sm) (stk : List Fr) : (addP s b0 (stk.map Fr.p)).1 = (addTo s b0 stk).1 := by rw [← addTo_p]
theorem addTo_p2 (s : Sm) (b0 : List Sm) (stk : List Fr) : (addP s b0 (stk.map Fr.p)).2 = (addTo s b0 stk).2.map Fr.p := by rw [← addTo_p]
def standF (o : Od) (stk : List Fp) (main : Bool) : Bool := match o with
  | .brk => stk.any (·.wh)
  | .agn => stk.any (·.wh)
  | .els => match stk with
    | [] => false
    | f :: _ => !f.wh && f.els.isNone
  | .fin => !stk.isEmpty
  | .ifo _ => decide (stk.length < 5)
  | .whl _ => decide (stk.length < 5)
  | .ret _ => !main
  | _ => true
structure LS where
  b0 : List Sm
  stk : List Fp
  line : Int
def laidGo (s : LS) : Od → LS
  | .fin => match s.stk with
    | [] => s
    | f :: r => ⟨(addP f.close s.b0 r).1, (addP f.close s.b0 r).2, s.line + 1⟩
  | .els => match s.stk with
    | [] => s
    | f :: r => ⟨s.b0, { f with els := some [] } :: r, s.line + 1⟩
  | .ifo e => ⟨s.b0, ⟨false, s.line + 1, e, [], none⟩ :: s.stk, s.line + 1⟩
  | .whl e => ⟨s.b0, ⟨true, s.line + 1, e, [], none⟩ :: s.stk, s.line + 1⟩
  | o => match o.at_ (s.line + 1) with
    | some st => ⟨(addP st s.b0 s.stk).1, (addP st s.b0 s.stk).2, s.line + 1⟩
    | none => s
def laidStep (main : Bool) (s : LS) (o : Od) : LS := if standF o s.stk main = true then laidGo s o else s
def laidS (main : Bool) (os : List Od) (l : Int) : LS := os.foldl (laidStep main) ⟨[], [], l⟩
def laidF (main : Bool) (os : List Od) (l : Int) : List Sm × Int := ((laidS main (os ++ List.replicate 5 .fin) l).b0, (laidS main (os ++ List.replicate 5 .fin) l).line + 1)
/-! what is asked holds -/
def lpP (stk : List Fp) : Bool := stk.any fun f => f.wh
def stkP (a : Ask) (b0 : List Sm) : List Fp → Prop
  | [] => okSts a false b0 ∧ deeps b0 ≤ 6
  | f :: r => a.pe f.e ∧ okSts a (lpP (f :: r)) f.bs ∧ deeps f.bs + (r.length + 1) ≤ 6 ∧ (∀ x, f.els = some x → okSts a (lpP (f :: r)) x ∧ deeps x + (r.length + 1) ≤ 6) ∧ stkP a b0 r
theorem addP_ok {a : Ask} {s : Sm} {b0 : List Sm} {stk : List Fp} (h : stkP a b0 stk) (hs : okSt a (lpP stk) s) (hd : s.deep + stk.length ≤ 6) : stkP a (addP s b0 stk).1 (addP s b0 stk).2 := by
  cases stk with
  | nil =>
    obtain ⟨h1, h2⟩ := h
    refine ⟨okSts_app h1 (okSts_one hs), ?_⟩
    show deeps (b0 ++ [s]) ≤ 6
    rw [deeps_app, deeps_one]
    simp only [List.length_nil] at hd
    omega
  | cons f r =>
    obtain ⟨wh, l, e, bs, els⟩ := f
    obtain ⟨he, h1, h2, h3, h4⟩ := h
    rw [List.length_cons] at hd
    dsimp only at he h1 h2 h3 h4
    cases els with
    | none =>
      refine ⟨he, okSts_app h1 (okSts_one hs), ?_, fun x hx2 => (by cases hx2), h4⟩
      show deeps (bs ++ [s]) + (r.length + 1) ≤ 6
      rw [deeps_app, deeps_one]; omega
    | some y =>
      obtain ⟨h5, h6⟩ := h3 y rfl
      refine ⟨he, h1, h2, fun x hx2 => ?_, h4⟩
      cases hx2
      refine ⟨okSts_app h5 (okSts_one hs), ?_⟩
      show deeps (y ++ [s]) + (r.length + 1) ≤ 6
      rw [deeps_app, deeps_one]; omega
theorem closeP_ok {a : Ask} {f : Fp} {r : List Fp} {b0 : List Sm} (h : stkP a b0 (f :: r)) : okSt a (lpP r) f.close ∧ f.close.deep + r.length ≤ 6 := by
  obtain ⟨he, h1, h2, h3, h4⟩ := h
  unfold Fp.close
  cases hw : f.wh with
  | true =>
    have e : lpP (f :: r) = true := by unfold lpP; rw [List.any_cons, hw]; rfl
    rw [e] at h1
    refine ⟨?_, ?_⟩
    · unfold okSt; exact ⟨he, h1⟩
    · rw [if_pos rfl, Sm.deep]; omega
  | false =>
    have e : lpP (f :: r) = lpP r := by unfold lpP; rw [List.any_cons, hw]; rfl
    rw [e] at h1 h3
    rw [if_neg (by simp)]
    cases hx : f.els with
    | none =>
      refine ⟨?_, ?_⟩
      · unfold okSt; exact ⟨he, h1⟩
      · dsimp only; rw [Sm.deep]; omega
    | some x =>
      obtain ⟨h5, h6⟩ := h3 x hx
      refine ⟨?_, ?_⟩
      · unfold okSt; exact ⟨he, h1, h5⟩
      · dsimp only; rw [Sm.deep]; omega
theorem stkP_base {a : Ask} {b0 : List Sm} : ∀ {stk : List Fp}, stkP a b0 stk → okSts a false b0 ∧ deeps b0 ≤ 6
  | [], h => h
  | _ :: _, h => stkP_base h.2.2.2.2
def askO (own : Int) (ws : List Str) (rs : Rm) (main : Bool) : Ask := ⟨okS, okE own 10, fun z => z ∈ ws, fun f es => ∃ ps, (f, ps) ∈ rs ∧ f ≠ "main" ∧ es.length = ps.length, main = false⟩
theorem addP_len (s : Sm) (b0 : List Sm) (stk : List Fp) : (addP s b0 stk).2.length = stk.length := by
  cases stk <;> rfl
theorem laidStep_ok {own : Int} {ws : List Str} {rs : Rm} {main : Bool} {s : LS} {o : Od} (h : stkP (askO own ws rs main) s.b0 s.stk ∧ s.stk.length ≤ 5) (ho : okO own ws rs o) : stkP (askO own ws rs main) (laidStep main s o).b0 (laidStep main s o).stk ∧ (laidStep main s o).stk.length ≤ 5 := by
  obtain ⟨h, h5⟩ := h
  unfold laidStep
  split
  · rename_i hst
    have plain : ∀ st : Sm, okSt (askO own ws rs main) (lpP s.stk) st → st.deep = 1 → stkP (askO own ws rs main) (addP st s.b0 s.stk).1 (addP st s.b0 s.stk).2 ∧ (addP st s.b0 s.stk).2.length ≤ 5 := fun st h1 h2 => ⟨addP_ok h h1 (by omega), by rw [addP_len]; exact h5⟩
    cases o with
    | fin =>
      unfold laidGo
      dsimp only
      split
      · exact ⟨h, h5⟩
      · rename_i f r e
        rw [e] at h h5
        have h1 := closeP_ok h
        refine ⟨addP_ok h.2.2.2.2 h1.1 h1.2, ?_⟩
        show (addP _ _ _).2.length ≤ 5
        rw [addP_len]
        simp only [List.length_cons] at h5
        omega
    | els =>
      unfold laidGo
      dsimp only
      split
      · exact ⟨h, h5⟩
      · rename_i f r e
        rw [e] at h h5
        refine ⟨⟨h.1, h.2.1, h.2.2.1, fun x hx => ?_, h.2.2.2.2⟩, h5⟩
        cases hx
        refine ⟨trivial, ?_⟩
        have := h.2.2.1
        show deeps [] + _ ≤ 6
        rw [show deeps [] = 0 from by unfold deeps; rfl]; omega
    | ifo e =>
      refine ⟨⟨ho, trivial, ?_, fun x hx => (by cases hx), h⟩, ?_⟩
      · have := of_decide_eq_true hst
        show deeps [] + _ ≤ 6
        rw [show deeps [] = 0 from by unfold deeps; rfl]; omega
      · have := of_decide_eq_true hst
        show s.stk.length + 1 ≤ 5; omega
    | whl e =>
      refine ⟨⟨ho, trivial, ?_, fun x hx => (by cases hx), h⟩, ?_⟩
      · have := of_decide_eq_true hst
        show deeps [] + _ ≤ 6
        rw [show deeps [] = 0 from by unfold deeps; rfl]; omega
      · have := of_decide_eq_true hst
        show s.stk.length + 1 ≤ 5; omega
    | brk => exact plain _ (show okSt _ _ _ from hst) rfl
    | agn => exact plain _ (show okSt _ _ _ from hst) rfl
    | meet => exact plain _ trivial rfl
    | stop => exact plain _ trivial rfl
    | set x e => exact plain _ (show okSt _ _ _ from ho) rfl
    | tell e => exact plain _ (show okSt _ _ _ from ho) rfl
    | ret e =>
      refine plain _ ⟨ho, ?_⟩ rfl
      have : (!main) = true := hst
      show main = false
      cases main with
      | true => cases this
      | false => rfl
    | put x y => exact plain _ (show okSt _ _ _ from ho) rfl
    | join x z e => exact plain _ (show okSt _ _ _ from ho) rfl
    | call x f es => exact plain _ (show okSt _ _ _ from ho) rfl
  · exact ⟨h, h5⟩
theorem laidS_ok {own : Int} {ws : List Str} {rs : Rm} {main : Bool} : ∀ {os : List Od} {s : LS}, (∀ o ∈ os, okO own ws rs o) → stkP (askO own ws rs main) s.b0 s.stk ∧ s.stk.length ≤ 5 → stkP (askO own ws rs main) (os.foldl (laidStep main) s).b0 (os.foldl (laidStep main) s).stk ∧ (os.foldl (laidStep main) s).stk.length ≤ 5
  | [], _, _, h => h
  | o :: os, s, ho, h => laidS_ok (os := os) (fun x hx => ho x (List.mem_cons_of_mem _ hx)) (laidStep_ok h (ho o (List.mem_cons_self ..)))
theorem laid_ok {own : Int} {ws : List Str} {rs : Rm} {main : Bool} {os : List Od} {l : Int} (ho : ∀ o ∈ os, okO own ws rs o) : okSts (askO own ws rs main) false (laidF main os l).1 ∧ deeps (laidF main os l).1 ≤ 6 := by
  refine stkP_base (laidS_ok (os := os ++ List.replicate 5 .fin) (s := ⟨[], [], l⟩) (fun o h => ?_) ⟨⟨trivial, by show deeps [] ≤ 6; rw [show deeps [] = 0 from by unfold deeps; rfl]; omega⟩, Nat.zero_le _⟩).1
  rcases List.mem_append.mp h with h | h
  · exact ho o h
  · rw [(List.mem_replicate.mp h).2]; trivial
/-! rooms, variables, programs -/
theorem cut_both {xs : List D} (lo hi : Nat) : cutD xs (some (lo : Int)) (some (hi : Int)) = (xs.take hi).drop lo := by
  unfold cutD
  rw [HT.sIx_nat, HT.sIx_nat]
  by_cases h : lo ≤ xs.length
  · rw [Nat.min_eq_left h]
    rw [List.drop_take]
    by_cases h2 : hi ≤ xs.length
    · rw [Nat.min_eq_left h2]
    · rw [Nat.min_eq_right (show xs.length ≤ hi by omega), List.take_of_length_le (by rw [List.length_drop]; omega), List.take_of_length_le (by rw [List.length_drop]; omega)]
  · have a : xs.drop xs.length = [] := List.drop_of_length_le (Nat.le_refl _)
    have b : (xs.take hi).drop lo = [] := List.drop_of_length_le (by rw [List.length_take]; omega)
    rw [Nat.min_eq_right (show xs.length ≤ lo by omega), a, b, List.take_nil]
theorem cut_take {xs : List D} (n : Nat) : cutD xs none (some (n : Int)) = xs.take n := by
  have := cut_both (xs := xs) 0 n
  unfold cutD at this ⊢
  rw [HT.sIx_none]
  rw [HT.sIx_nat xs.length 0 0, Nat.zero_min, List.drop_zero] at this
  exact this
theorem ix_nat {n k : Nat} (h : k < n) : ixN n (k : Int) = some k := by
  unfold ixN
  rw [if_pos (by omega), if_pos (by omega)]
  simp
def roomF (h : Int) (xs vs : List Str) (k : Nat) : Str × List Str :=
  (xs.getD k "", (List.range ([0, 0, 1, 1, 2, 3, 6].getD (h / 64 / ([1, 42, 1764, 74088].getD k 1) % 7).toNat 0)).map fun j => vs.getD ((h / 64 / ([1, 42, 1764, 74088].getD k 1) / 7 + (j : Nat)) % 6).toNat "")
def roomsF (h : Int) (xs vs : List Str) : Rm := ((List.range (1 + h % 4).toNat).map (roomF h xs vs)).set (h / 4 % (1 + h % 4)).toNat ("main", [])
def varsF (h : Int) (xs : List Str) : List Str := if h / 1000000000 % 4 = 1 then xs.take 5 ++ [("main" : Str)] else xs
theorem vars_ok {xs : List Str} (h : Int) (hx : okNm xs) : okNm (varsF h xs) := by
  unfold varsF
  split
  · refine ⟨by rw [List.length_append, List.length_take, hx.1]; rfl, fun x hm => ?_⟩
    rcases List.mem_append.mp hm with hm | hm
    · exact hx.2 x (List.mem_of_mem_take hm)
    · rw [List.mem_singleton.mp hm]; exact ⟨by decide +kernel, by decide +kernel⟩
  · exact hx
theorem many_ok (h : Int) : 0 < (1 + h % 4).toNat ∧ (1 + h % 4).toNat ≤ 4 := by
  have := modB (a := h) (b := 4) (by decide)
  omega
theorem rooms_len (h : Int) (xs vs : List Str) : (roomsF h xs vs).length = (1 + h % 4).toNat := by unfold roomsF; simp
theorem count_le (k : Int) : [0, 0, 1, 1, 2, 3, 6].getD k.toNat 0 ≤ 6 := by
  by_cases h : k.toNat < [0, 0, 1, 1, 2, 3, 6].length
  · have := getD_mem 0 h
    simp only [List.mem_cons, List.not_mem_nil, or_false] at this
    omega
  · rw [List.getD_eq_getElem?_getD, List.getElem?_eq_none (by omega)]; decide
theorem rooms_ok {xs vs : List Str} (h : Int) (hx : okNm xs) (hv : okNm vs) : okRm (roomsF h xs vs) := by
  have hm := many_ok h
  refine ⟨by rw [rooms_len]; exact hm.2, fun r hr => ?_⟩
  rcases List.mem_or_eq_of_mem_set hr with hr | rfl
  · obtain ⟨k, hk, rfl⟩ := List.mem_map.mp hr
    rw [List.mem_range] at hk
    refine ⟨hx.2 _ (getD_mem _ (by rw [hx.1]; omega)), ?_, fun x hxm => ?_⟩
    · unfold roomF
      rw [List.length_map, List.length_range]
      exact count_le _
    · obtain ⟨j, hj, rfl⟩ := List.mem_map.mp hxm
      have b6 := modB (a := h / 64 / ([1, 42, 1764, 74088].getD k 1) / 7 + (j : Int)) (b := 6) (by decide)
      exact hv.2 _ (getD_mem _ (by rw [hv.1]; omega))
  · exact ⟨⟨by decide +kernel, by decide +kernel⟩, Nat.zero_le _, fun x hx => (by cases hx)⟩
def opsStep (opf : Int → Od) (m : Nat) (cs : List Int) (oss : List (List Od)) (k : Nat) : List (List Od) :=
  oss.modify (spreadF (cs.getD k 0) (k + 2) % (m : Int)).toNat (· ++ [opf (spreadF (cs.getD k 0) (k + 2) / (m : Int))])
def opsF (opf : Int → Od) (m : Nat) (cs : List Int) (n : Nat) : List (List Od) := (List.range n).foldl (opsStep opf m cs) (List.replicate m [])
theorem opsF_len (opf : Int → Od) (m : Nat) (cs : List Int) : ∀ n, (opsF opf m cs n).length = m
  | 0 => by simp [opsF]
  | n + 1 => by
    unfold opsF
    rw [range_fold]
    unfold opsStep
    rw [List.length_modify]
    exact opsF_len opf m cs n
theorem opsF_ok {P : Od → Prop} {opf : Int → Od} (hp : ∀ i, P (opf i)) (m : Nat) (cs : List Int) : ∀ n, ∀ os ∈ opsF opf m cs n, (∀ o ∈ os, P o) ∧ os.length ≤ n
  | 0 => fun os h => by
    have := (List.mem_replicate.mp h).2
    subst this
    exact ⟨fun o h => (by cases h), Nat.le_refl _⟩
  | n + 1 => fun os h => by
    unfold opsF at h
    rw [range_fold] at h
    have ih := opsF_ok hp m cs n
    unfold opsF at ih
    unfold opsStep at h
    obtain ⟨j, hj, e⟩ := List.mem_iff_getElem.mp h
    rw [List.length_modify] at hj
    rw [List.getElem_modify] at e
    obtain ⟨h1, h2⟩ := ih _ (List.getElem_mem hj)
    split at e
    · subst e
      refine ⟨fun o ho => ?_, by rw [List.length_append]; simp only [List.length_singleton]; omega⟩
      rcases List.mem_append.mp ho with ho | ho
      · exact h1 o ho
      · rw [List.mem_singleton.mp ho]; exact hp _
    · subst e
      exact ⟨h1, by omega⟩
def isMain (x : Str) : Bool := decide (x = ("main" : Str))
def progStep (oss : List (List Od)) (rs : Rm) (s : Pg × Int) (k : Nat) : Pg × Int :=
  let r := rs.getD k ("", [])
  let b := laidF (isMain r.1) (oss.getD k []) (s.2 + 1)
  (s.1 ++ [⟨r.1, r.2, b.1, s.2 + 1, b.2⟩], b.2)
def progS (oss : List (List Od)) (rs : Rm) (n : Nat) : Pg × Int := (List.range n).foldl (progStep oss rs) ([], 0)
/-- the program of a script: its cells, its names, how its deeds are drawn, how many lines at most -/
def progF (opf : List Str → Rm → Int → Od) (xs : List Str) (ns : List Int) (most : Nat) : Pg :=
  let h := spreadF (cellF ns 0) 0
  let vs := varsF h xs
  let rs := roomsF h xs vs
  let cs := (ns.take most).drop 2
  (progS (opsF (opf vs rs) rs.length cs cs.length) rs rs.length).1
end Tl

namespace Tl
open PySem PySem.Spec PyProof.Rows L2

/-! ### changing lists that stand in a frozen list -/
theorem ReS.at_ {K : PySem.W.Frag} {τ : Sg} {M M' : MH} {i : Nat} {d d' : D} (h : nth τ i = some d) (r : ReR K d M d' M') : ReS K τ M (τ.set i (some d')) M' := fun G F H σ R sg => by
  obtain ⟨v, h1, h2⟩ := sg.2 i _ (nth_get h)
  obtain ⟨F', s, R', p⟩ := r G F H v R h2
  refine ⟨F', s, R', ?_⟩
  have g := sg.mono s
  have e : σ = σ.set i (some v) := by
    apply List.ext_getElem?
    intro j
    by_cases hij : i = j
    · subst hij
      rw [h1, List.getElem?_set_self (List.getElem?_eq_some_iff.mp h1).1]
    · rw [List.getElem?_set_ne hij]
  rw [e]
  exact g.set p
theorem ReR.lst_freeze {K : PySem.W.Frag} {M : MH} {b : Addr} {ds : List D} (pre post : List D) (h : M b = some (.lst ds)) : ReR K (.lst (pre ++ .ref b :: post)) M (.lst (pre ++ .lst ds :: post)) (mdel M b) := fun G F H v R p => by
  obtain ⟨F', s, R', pb⟩ := R.freeze h
  cases p with
  | lst ha r =>
    obtain ⟨v1, v, v2, rfl, r1, r2, r3⟩ := rps_mid r
    cases r2
    exact ⟨F', s, R', .lst (s _ _ ha) ((r1.mono s).append (.cons pb (r3.mono s)))⟩
section
variable {α : Type} {f : α → D} {M0 M : MH}
def celsL (f : α → D) (cs : List (Addr × List α)) : List (Addr × MO) := cs.map fun c => (c.1, .lst (c.2.map f))
def refsL (cs : List (Addr × List α)) : List D := cs.map fun c => .ref c.1
def lstsL (f : α → D) (xss : List (List α)) : List D := xss.map fun xs => .lst (xs.map f)
theorem ReR.all {K : PySem.W.Frag} : ∀ (cs : List (Addr × List α)) (pre : List D) {M : MH}, Cel M0 M (celsL f cs) → ReR K (.lst (pre ++ refsL cs)) M (.lst (pre ++ lstsL f (cs.map (·.2)))) M0
  | [], pre, M, h => h.re
  | c :: cs, pre, M, h => by
    have h1 : Cel M0 M ([] ++ (c.1, .lst (c.2.map f)) :: celsL f cs) := h
    have a := ReR.lst_freeze (K := K) pre (refsL cs) h1.here
    have b := ReR.all (K := K) cs (pre ++ [.lst (c.2.map f)]) h1.del
    rw [List.append_assoc, List.append_assoc] at b
    exact a.trans b
end
theorem Cel.lift {M0 M : MH} {cs : List (Addr × MO)} {p : Addr} {o : MO} (h : Cel M0 M cs) (hp : M p = none) : Cel (mup M0 p o) (mup M p o) cs := by
  have hne : ∀ c ∈ cs, c.1 ≠ p := fun c hc e => by have := h.at_ c hc; rw [e, hp] at this; cases this
  refine ⟨h.nd, fun c hc => by rw [mup_ne (hne c hc)]; exact h.at_ c hc, fun a u e => ?_, fun c hc => by rw [mup_ne (hne c hc)]; exact h.new c hc⟩
  by_cases q : a = p
  · subst q; rw [mup_same] at e ⊢; exact e
  · rw [mup_ne q] at e ⊢; exact h.old a u e
theorem Cel.free {M0 M : MH} {cs : List (Addr × MO)} {p : Addr} (h : Cel M0 M cs) (hp : M p = none) : M0 p = none := by
  cases e : M0 p with
  | none => rfl
  | some u => rw [h.old p u e] at hp; cases hp
theorem split_at {α : Type} : ∀ {cs : List α} {j : Nat}, j < cs.length → ∃ pre c post, cs = pre ++ c :: post ∧ pre.length = j
  | c :: cs, 0, _ => ⟨[], c, cs, rfl, rfl⟩
  | c :: cs, j + 1, h => by
    obtain ⟨pre, d, post, e, h2⟩ := split_at (cs := cs) (j := j) (by simpa using h)
    exact ⟨c :: pre, d, post, by rw [e]; rfl, by rw [List.length_cons, h2]⟩
theorem modify_mid {α : Type} {c : α} {post : List α} {f : α → α} : ∀ {pre : List α} {j : Nat}, pre.length = j → (pre ++ c :: post).modify j f = pre ++ f c :: post
  | [], _, rfl => rfl
  | x :: pre, _, rfl => by
    show (x :: (pre ++ c :: post)).modify (pre.length + 1) f = _
    rw [List.modify_succ_cons, modify_mid (pre := pre) rfl]
    rfl
theorem getD_midD {α : Type} {c d : α} {post : List α} : ∀ {pre : List α} {j : Nat}, pre.length = j → (pre ++ c :: post).getD j d = c
  | [], _, rfl => rfl
  | x :: pre, _, rfl => getD_midD (pre := pre) rfl
theorem enumD_map {α : Type} {f : α → D} {xs : List α} {k : Nat} {x : D} (h : (enumD (xs.map f))[k]? = some x) : ∃ a, xs[k]? = some a ∧ x = .tup [.int k, f a] := by
  obtain ⟨y, hy, rfl⟩ := enumD_get h
  rw [List.getElem?_map] at hy
  obtain ⟨a, ha, rfl⟩ := Option.map_eq_some_iff.mp hy
  exact ⟨a, ha, rfl⟩
theorem enumD_len (xs : List D) : (enumD xs).length = xs.length := by unfold enumD; simp
/-! ### x is True -/
def bIsB : R2t := fun x y M Q => match x, y with
  | .bl a, .bl b => Q (.bl (a == b)) M
  | _, _ => False
theorem oq_isB {X : Cx} : OpQ X (compareOp .Is) bIsB := by
  intro pins s σ H x y v u Q I rx ry h
  obtain ⟨G, F, M, dx, dy, Qt, R, px, py, h, k⟩ := h
  cases dx with
  | bl a =>
    cases dy with
    | bl b =>
      cases px
      cases py
      cases rx
      cases ry
      exact is_bool ⟨.bl (a == b), H, I, rfl, k _ F H M _ (Same.refl _) R (.bl _) h⟩
    | _ => exact h.elim
  | _ => exact h.elim
theorem uIsB {a b : Bool} {M : MH} {Q : VD} : bIsB (.bl a) (.bl b) M Q = Q (.bl (a == b)) M := propext Iff.rfl
theorem dTy_T {M : MH} {a : Addr} {kvs : List (List Key × D)} (h : M a = some (.dT kvs)) : dTy M (.ref a) = some "dict" := by
  show (match M a with | some (.lst _) => some "list" | some (.dK _) => some "dict" | some (.dT _) => some "dict" | _ => none) = _
  rw [h]
end Tl

namespace Tl
open PySem PySem.Spec PyProof.Rows L2

/-! ### lines, in their order -/
mutual
def lnS : Sm → List Int
  | .if1 l _ b => l :: ln b
  | .if2 l _ b c => l :: (ln b ++ ln c)
  | .whl l _ b => l :: ln b
  | s => [s.line]
def ln : List Sm → List Int
  | [] => []
  | s :: t => lnS s ++ ln t
end
mutual
theorem plnS_ln : ∀ (loop : Option Int) (s : Sm), (plnS loop s).map (fun x => x.1.line) = lnS s
  | loop, .if1 l e b => by rw [plnS, lnS, List.map_cons, pln_ln _ b]; rfl
  | loop, .if2 l e b c => by rw [plnS, lnS, List.map_cons, List.map_append, pln_ln _ b, pln_ln _ c]; rfl
  | loop, .whl l e b => by rw [plnS, lnS, List.map_cons, pln_ln _ b]; rfl
  | loop, .set .. => by unfold plnS lnS; rfl
  | loop, .put .. => by unfold plnS lnS; rfl
  | loop, .tell .. => by unfold plnS lnS; rfl
  | loop, .ret .. => by unfold plnS lnS; rfl
  | loop, .stop .. => by unfold plnS lnS; rfl
  | loop, .brk .. => by unfold plnS lnS; rfl
  | loop, .agn .. => by unfold plnS lnS; rfl
  | loop, .meet .. => by unfold plnS lnS; rfl
  | loop, .join .. => by unfold plnS lnS; rfl
  | loop, .call .. => by unfold plnS lnS; rfl
theorem pln_ln : ∀ (loop : Option Int) (b : List Sm), (pln loop b).map (fun x => x.1.line) = ln b
  | loop, [] => by rw [pln, ln]; rfl
  | loop, s :: t => by rw [pln, ln, List.map_append, plnS_ln _ s, pln_ln _ t]
end
theorem ln_app : ∀ {a b : List Sm}, ln (a ++ b) = ln a ++ ln b
  | [], b => by rw [show ln [] = [] from by unfold ln; rfl]; rfl
  | s :: t, b => by rw [List.cons_append, ln, ln, ln_app, List.append_assoc]
theorem ln_one {s : Sm} : ln [s] = lnS s := by rw [ln, show ln [] = [] from by unfold ln; rfl, List.append_nil]
def Fp.seq (f : Fp) : List Int := f.l :: (ln f.bs ++ match f.els with
  | none => []
  | some x => ln x)
def LS.seq (b0 : List Sm) : List Fp → List Int
  | [] => ln b0
  | f :: r => LS.seq b0 r ++ f.seq
theorem close_seq (f : Fp) (h : f.wh = true → f.els = none) : lnS f.close = f.seq := by
  obtain ⟨wh, l, e, bs, els⟩ := f
  unfold Fp.close Fp.seq
  cases els with
  | none => cases wh <;> (dsimp only; rw [List.append_nil]; first | rw [if_pos rfl, lnS] | rw [if_neg (by simp), lnS])
  | some x =>
    cases wh with
    | true => cases h rfl
    | false => dsimp only; rw [if_neg (by simp), lnS]
theorem addP_seq (s : Sm) (b0 : List Sm) (stk : List Fp) : LS.seq (addP s b0 stk).1 (addP s b0 stk).2 = LS.seq b0 stk ++ lnS s := by
  cases stk with
  | nil =>
    show ln (b0 ++ [s]) = ln b0 ++ lnS s
    rw [ln_app, ln_one]
  | cons f r =>
    obtain ⟨wh, l, e, bs, els⟩ := f
    cases els with
    | none =>
      show LS.seq b0 r ++ (l :: (ln (bs ++ [s]) ++ [])) = LS.seq b0 r ++ (l :: (ln bs ++ [])) ++ lnS s
      rw [ln_app, ln_one]; simp
    | some x =>
      show LS.seq b0 r ++ (l :: (ln bs ++ ln (x ++ [s]))) = LS.seq b0 r ++ (l :: (ln bs ++ ln x)) ++ lnS s
      rw [ln_app, ln_one]; simp
structure LI (l : Int) (k : Nat) (s : LS) : Prop where
  wf : ∀ f ∈ s.stk, f.wh = true → f.els = none
  inc : (LS.seq s.b0 s.stk).Pairwise (· < ·)
  rng : ∀ x ∈ LS.seq s.b0 s.stk, l < x ∧ x ≤ s.line
  len : (LS.seq s.b0 s.stk).length ≤ k
  low : l ≤ s.line
theorem addP_wf {s : Sm} {b0 : List Sm} {stk : List Fp} (h : ∀ f ∈ stk, f.wh = true → f.els = none) : ∀ f ∈ (addP s b0 stk).2, f.wh = true → f.els = none := by
  cases stk with
  | nil => exact h
  | cons g r =>
    obtain ⟨wh, l, e, bs, els⟩ := g
    intro f hf
    have hr : ∀ f ∈ r, f.wh = true → f.els = none := fun f hf => h f (List.mem_cons_of_mem _ hf)
    have h0 := h _ (List.mem_cons_self ..)
    cases els with
    | none =>
      rcases List.mem_cons.mp hf with rfl | hf
      · exact h0
      · exact hr f hf
    | some x =>
      rcases List.mem_cons.mp hf with rfl | hf
      · intro hw; cases h0 hw
      · exact hr f hf
theorem LI.add {l : Int} {k : Nat} {s : LS} {b : List Sm} {st : List Fp} (h : LI l k s) (wf : ∀ f ∈ st, f.wh = true → f.els = none) (e : LS.seq b st = LS.seq s.b0 s.stk ++ [s.line + 1]) : LI l (k + 1) ⟨b, st, s.line + 1⟩ := by
  refine ⟨wf, ?_, ?_, ?_, ?_⟩
  · show (LS.seq b st).Pairwise _
    rw [e, List.pairwise_append]
    refine ⟨h.inc, List.pairwise_singleton _ _, fun x hx y hy => ?_⟩
    rw [List.mem_singleton.mp hy]
    have := (h.rng x hx).2
    omega
  · intro x hx
    have hx : x ∈ LS.seq b st := hx
    rw [e] at hx
    show l < x ∧ x ≤ s.line + 1
    rcases List.mem_append.mp hx with hx | hx
    · have := h.rng x hx; omega
    · rw [List.mem_singleton.mp hx]; have := h.low; omega
  · show (LS.seq b st).length ≤ _
    rw [e, List.length_append]
    have := h.len
    simp only [List.length_singleton]; omega
  · show l ≤ s.line + 1
    have := h.low; omega
theorem LI.same {l : Int} {k : Nat} {s : LS} {b : List Sm} {st : List Fp} (h : LI l k s) (wf : ∀ f ∈ st, f.wh = true → f.els = none) (e : LS.seq b st = LS.seq s.b0 s.stk) : LI l k ⟨b, st, s.line + 1⟩ := by
  refine ⟨wf, ?_, ?_, ?_, ?_⟩
  · show (LS.seq b st).Pairwise _
    rw [e]; exact h.inc
  · intro x hx
    have hx : x ∈ LS.seq b st := hx
    rw [e] at hx
    show l < x ∧ x ≤ s.line + 1
    have := h.rng x hx; omega
  · show (LS.seq b st).length ≤ _
    rw [e]; exact h.len
  · show l ≤ s.line + 1
    have := h.low; omega
theorem LI.mono {l : Int} {k m : Nat} {s : LS} (h : LI l k s) (hk : k ≤ m) : LI l m s := ⟨h.wf, h.inc, h.rng, Nat.le_trans h.len hk, h.low⟩
def notFin : Od → Nat
  | .fin => 0
  | _ => 1
theorem laidStep_li {l : Int} {k : Nat} {main : Bool} {s : LS} {o : Od} (h : LI l k s) : LI l (k + notFin o) (laidStep main s o) := by
  unfold laidStep
  split
  · rename_i hst
    have plain : ∀ st : Sm, lnS st = [s.line + 1] → LI l (k + 1) ⟨(addP st s.b0 s.stk).1, (addP st s.b0 s.stk).2, s.line + 1⟩ := fun st e => h.add (addP_wf h.wf) (by rw [addP_seq, e])
    cases o with
    | fin =>
      unfold laidGo
      dsimp only
      split
      · exact h
      · rename_i f r e
        have hwf := h.wf
        rw [e] at hwf
        refine h.same (addP_wf fun f hf => hwf f (List.mem_cons_of_mem _ hf)) ?_
        rw [addP_seq, close_seq _ (hwf f (List.mem_cons_self ..)), e]; rfl
    | els =>
      unfold laidGo
      dsimp only
      split
      · exact h.mono (Nat.le_succ k)
      · rename_i f r e
        have hwf := h.wf
        rw [e] at hwf
        have h2 : (!f.wh && f.els.isNone) = true := by have := hst; rw [e] at this; exact this
        rw [Bool.and_eq_true] at h2
        refine (h.same (fun g hg => ?_) ?_).mono (Nat.le_succ k)
        · rcases List.mem_cons.mp hg with rfl | hg
          · intro hw
            rw [show f.wh = true from hw] at h2
            cases h2.1
          · exact hwf g (List.mem_cons_of_mem _ hg)
        · rw [e]
          obtain ⟨wh, l, e, bs, els⟩ := f
          cases els with
          | some x => cases h2.2
          | none =>
            show LS.seq s.b0 r ++ (l :: (ln bs ++ ln [])) = LS.seq s.b0 r ++ (l :: (ln bs ++ []))
            rw [show ln [] = [] from by unfold ln; rfl]
    | ifo e =>
      refine h.add (fun g hg => ?_) ?_
      · rcases List.mem_cons.mp hg with rfl | hg
        · intro _; rfl
        · exact h.wf g hg
      · show LS.seq s.b0 s.stk ++ ((s.line + 1) :: (ln [] ++ [])) = _
        rw [show ln [] = [] from by unfold ln; rfl]; rfl
    | whl e =>
      refine h.add (fun g hg => ?_) ?_
      · rcases List.mem_cons.mp hg with rfl | hg
        · intro _; rfl
        · exact h.wf g hg
      · show LS.seq s.b0 s.stk ++ ((s.line + 1) :: (ln [] ++ [])) = _
        rw [show ln [] = [] from by unfold ln; rfl]; rfl
    | _ => exact plain _ (by unfold lnS; rfl)
  · exact h.mono (Nat.le_add_right ..)
theorem laidS_li {l : Int} {main : Bool} : ∀ {os : List Od} {k : Nat} {s : LS}, LI l k s → LI l (k + (os.map notFin).sum) (os.foldl (laidStep main) s)
  | [], _, _, h => h
  | o :: os, k, s, h => by
    have := laidS_li (main := main) (os := os) (laidStep_li (main := main) (o := o) h)
    rw [List.map_cons, List.sum_cons, ← Nat.add_assoc]
    exact this
theorem notFin_len : ∀ os : List Od, (os.map notFin).sum ≤ os.length
  | [] => Nat.le_refl _
  | o :: os => by
    have h1 := notFin_len os
    have h2 : notFin o ≤ 1 := by unfold notFin; split <;> omega
    rw [List.map_cons, List.sum_cons, List.length_cons]; omega
theorem seq_base (b0 : List Sm) : ∀ stk : List Fp, ∃ t, LS.seq b0 stk = ln b0 ++ t
  | [] => ⟨[], (List.append_nil _).symm⟩
  | f :: r => by
    obtain ⟨t, e⟩ := seq_base b0 r
    exact ⟨t ++ f.seq, by rw [LS.seq, e, List.append_assoc]⟩
theorem laid_ln (main : Bool) (os : List Od) (l : Int) : (ln (laidF main os l).1).Pairwise (· < ·) ∧ (∀ x ∈ ln (laidF main os l).1, l < x ∧ x < (laidF main os l).2) ∧ (ln (laidF main os l).1).length ≤ os.length ∧ l < (laidF main os l).2 := by
  have h0 : LI l 0 ⟨[], [], l⟩ := ⟨fun f hf => (by cases hf), by unfold LS.seq ln; exact List.Pairwise.nil, fun x hx => (by unfold LS.seq ln at hx; cases hx), by unfold LS.seq ln; exact Nat.le_refl _, Int.le_refl _⟩
  have h := laidS_li (main := main) (os := os ++ List.replicate 5 .fin) h0
  obtain ⟨t, e⟩ := seq_base (laidS main (os ++ List.replicate 5 .fin) l).b0 (laidS main (os ++ List.replicate 5 .fin) l).stk
  have hs : ((os ++ List.replicate 5 Od.fin).map notFin).sum ≤ os.length := by
    rw [List.map_append, List.sum_append_nat]
    have := notFin_len os
    show _ + 0 ≤ _
    omega
  obtain ⟨h1, h2, h3, h4, h5⟩ := h
  change (LS.seq (laidS main (os ++ List.replicate 5 .fin) l).b0 (laidS main (os ++ List.replicate 5 .fin) l).stk).Pairwise _ at h2
  change ∀ x ∈ LS.seq (laidS main (os ++ List.replicate 5 .fin) l).b0 (laidS main (os ++ List.replicate 5 .fin) l).stk, _ at h3
  change (LS.seq (laidS main (os ++ List.replicate 5 .fin) l).b0 (laidS main (os ++ List.replicate 5 .fin) l).stk).length ≤ _ at h4
  change l ≤ (laidS main (os ++ List.replicate 5 .fin) l).line at h5
  rw [e] at h2 h3 h4
  rw [List.pairwise_append] at h2
  rw [List.length_append] at h4
  unfold laidF
  dsimp only
  refine ⟨h2.1, fun x hx => ?_, by omega, by omega⟩
  have := h3 x (List.mem_append_left _ hx)
  change l < x ∧ x ≤ (laidS main (os ++ List.replicate 5 .fin) l).line at this
  omega
/-! ### what is asked of each statement -/
def askDL (a : Ask) (x : Sm × Option Int) : Prop := match x.1 with
  | .set _ x e => a.pn x ∧ a.pe e
  | .put _ y z => a.pe y ∧ a.pe z
  | .tell _ e => a.pe e
  | .ret _ e => a.pe e ∧ a.pr
  | .brk _ => x.2.isSome = true
  | .agn _ => x.2.isSome = true
  | .join _ x z e => a.pn x ∧ a.pe e ∧ a.pj z
  | .call _ x f es => a.pn x ∧ (∀ e ∈ es, a.pe e) ∧ a.pc f es
  | .if1 _ e _ => a.pe e
  | .if2 _ e _ _ => a.pe e
  | .whl _ e _ => a.pe e
  | _ => True
mutual
theorem askS {a : Ask} : ∀ {lp : Bool} {loop : Option Int} {s : Sm}, okSt a lp s → (lp = true → loop.isSome = true) → ∀ x ∈ plnS loop s, askDL a x
  | lp, loop, .if1 l e b, h, hl, x, hx => by
    unfold okSt at h; rw [plnS] at hx
    rcases List.mem_cons.mp hx with rfl | hx
    · exact h.1
    · exact askSs h.2 hl x hx
  | lp, loop, .if2 l e b c, h, hl, x, hx => by
    unfold okSt at h; rw [plnS] at hx
    rcases List.mem_cons.mp hx with rfl | hx
    · exact h.1
    · rcases List.mem_append.mp hx with hx | hx
      · exact askSs h.2.1 hl x hx
      · exact askSs h.2.2 hl x hx
  | lp, loop, .whl l e b, h, hl, x, hx => by
    unfold okSt at h; rw [plnS] at hx
    rcases List.mem_cons.mp hx with rfl | hx
    · exact h.1
    · exact askSs h.2 (fun _ => rfl) x hx
  | lp, loop, .set .., h, hl, x, hx => by unfold okSt at h; unfold plnS at hx; rw [List.mem_singleton.mp hx]; exact h
  | lp, loop, .put .., h, hl, x, hx => by unfold okSt at h; unfold plnS at hx; rw [List.mem_singleton.mp hx]; exact h
  | lp, loop, .tell .., h, hl, x, hx => by unfold okSt at h; unfold plnS at hx; rw [List.mem_singleton.mp hx]; exact h
  | lp, loop, .ret .., h, hl, x, hx => by unfold okSt at h; unfold plnS at hx; rw [List.mem_singleton.mp hx]; exact h
  | lp, loop, .stop .., h, hl, x, hx => by unfold plnS at hx; rw [List.mem_singleton.mp hx]; trivial
  | lp, loop, .brk .., h, hl, x, hx => by unfold okSt at h; unfold plnS at hx; rw [List.mem_singleton.mp hx]; exact hl h
  | lp, loop, .agn .., h, hl, x, hx => by unfold okSt at h; unfold plnS at hx; rw [List.mem_singleton.mp hx]; exact hl h
  | lp, loop, .meet .., h, hl, x, hx => by unfold plnS at hx; rw [List.mem_singleton.mp hx]; trivial
  | lp, loop, .join .., h, hl, x, hx => by unfold okSt at h; unfold plnS at hx; rw [List.mem_singleton.mp hx]; exact h
  | lp, loop, .call .., h, hl, x, hx => by unfold okSt at h; unfold plnS at hx; rw [List.mem_singleton.mp hx]; exact h
theorem askSs {a : Ask} : ∀ {lp : Bool} {loop : Option Int} {b : List Sm}, okSts a lp b → (lp = true → loop.isSome = true) → ∀ x ∈ pln loop b, askDL a x
  | lp, loop, [], h, hl, x, hx => by unfold pln at hx; cases hx
  | lp, loop, s :: t, h, hl, x, hx => by
    unfold okSts at h; rw [pln] at hx
    rcases List.mem_append.mp hx with hx | hx
    · exact askS h.1 hl x hx
    · exact askSs h.2 hl x hx
end
/-! ### the program whole -/
def dfLn (o : Df) : List Int := o.first :: ln o.body
def pgLn (pg : Pg) : List Int := (pg.map dfLn).flatten
/-- a def as the builder lays it -/
def laidDf (oss : List (List Od)) (rs : Rm) (o : Df) : Prop := ∃ os ∈ oss, (o.name, o.ps) ∈ rs ∧ o.body = (laidF (isMain o.name) os o.first).1 ∧ o.last = (laidF (isMain o.name) os o.first).2
structure PI (oss : List (List Od)) (rs : Rm) (n : Nat) (s : Pg × Int) : Prop where
  names : s.1.map (fun o => (o.name, o.ps)) = rs.take n
  defs : ∀ o ∈ s.1, laidDf oss rs o
  inc : (pgLn s.1).Pairwise (· < ·)
  rng : ∀ x ∈ pgLn s.1, 0 < x ∧ x ≤ s.2
  low : 0 ≤ s.2
  len : ((s.1.map fun o => (ln o.body).length)).sum ≤ ((oss.take n).map List.length).sum
theorem prog_pi (oss : List (List Od)) (rs : Rm) (hl : oss.length = rs.length) : ∀ n, n ≤ rs.length → PI oss rs n (progS oss rs n)
  | 0, _ => ⟨rfl, fun o ho => (by cases ho), List.Pairwise.nil, fun x hx => (by cases hx), Int.le_refl _, Nat.le_refl _⟩
  | n + 1, hn => by
    have ih := prog_pi oss rs hl n (by omega)
    rw [show progS oss rs (n + 1) = progStep oss rs (progS oss rs n) n from range_fold ..]
    generalize progS oss rs n = s at ih
    obtain ⟨pg, line⟩ := s
    obtain ⟨h1, h2, h3, h4, h5, h6⟩ := ih
    dsimp only at h1 h2 h3 h4 h5 h6
    unfold progStep
    dsimp only
    have hr : rs[n]? = some (rs.getD n ("", [])) := by rw [List.getD_eq_getElem?_getD, List.getElem?_eq_getElem (by omega)]; rfl
    have ho : oss[n]? = some (oss.getD n []) := by rw [List.getD_eq_getElem?_getD, List.getElem?_eq_getElem (by omega)]; rfl
    have hrm : rs.getD n ("", []) ∈ rs := getD_mem _ (by omega)
    have hom : oss.getD n [] ∈ oss := getD_mem _ (by omega)
    generalize rs.getD n ("", []) = r at hr hrm ⊢
    generalize oss.getD n [] = os at ho hom ⊢
    obtain ⟨k1, k2, k3, k4⟩ := laid_ln (isMain r.1) os (line + 1)
    refine ⟨?_, ?_, ?_, ?_, ?_, ?_⟩
    · dsimp only
      rw [List.map_append, h1, List.take_add_one, hr]; rfl
    · intro o hmem
      rcases List.mem_append.mp hmem with hmem | hmem
      · exact h2 o hmem
      · rw [List.mem_singleton.mp hmem]
        exact ⟨os, hom, hrm, rfl, rfl⟩
    · show (pgLn (pg ++ [_])).Pairwise _
      unfold pgLn
      rw [List.map_append, List.flatten_append, List.pairwise_append]
      refine ⟨h3, ?_, fun x hx y hy => ?_⟩
      · show ([(line + 1) :: ln _].flatten).Pairwise _
        rw [List.flatten_singleton, List.pairwise_cons]
        exact ⟨fun x hx => (k2 x hx).1, k1⟩
      · have hy : y ∈ [(line + 1) :: ln (laidF (isMain r.1) os (line + 1)).1].flatten := hy
        rw [List.flatten_singleton] at hy
        have := (h4 x hx).2
        rcases List.mem_cons.mp hy with rfl | hy
        · omega
        · have := (k2 y hy).1; omega
    · intro x hx
      have hx : x ∈ pgLn (pg ++ [_]) := hx
      unfold pgLn at hx
      rw [List.map_append, List.flatten_append] at hx
      show 0 < x ∧ x ≤ (laidF (isMain r.1) os (line + 1)).2
      rcases List.mem_append.mp hx with hx | hx
      · have := h4 x hx; omega
      · have hx : x ∈ [(line + 1) :: ln (laidF (isMain r.1) os (line + 1)).1].flatten := hx
        rw [List.flatten_singleton] at hx
        rcases List.mem_cons.mp hx with rfl | hx
        · omega
        · have := k2 x hx; omega
    · show 0 ≤ (laidF (isMain r.1) os (line + 1)).2
      omega
    · dsimp only
      rw [List.map_append, List.sum_append_nat, List.take_add_one, ho, List.map_append, List.sum_append_nat]
      show _ + ((ln (laidF (isMain r.1) os (line + 1)).1).length + 0) ≤ _ + (os.length + 0)
      omega
theorem sum_modify {os : List Od} : ∀ {xs : List (List Od)} {j : Nat} (o : Od), ((xs.modify j (· ++ [o])).map List.length).sum ≤ (xs.map List.length).sum + 1
  | [], j, o => by rw [List.modify_nil]; exact Nat.zero_le _
  | x :: xs, 0, o => by
    rw [List.modify_zero_cons, List.map_cons, List.map_cons, List.sum_cons, List.sum_cons, List.length_append]
    simp only [List.length_singleton]; omega
  | x :: xs, j + 1, o => by
    rw [List.modify_succ_cons, List.map_cons, List.map_cons, List.sum_cons, List.sum_cons]
    have := sum_modify (os := os) (xs := xs) (j := j) o
    omega
theorem ops_sum (opf : Int → Od) (m : Nat) (cs : List Int) : ∀ n, ((opsF opf m cs n).map List.length).sum ≤ n
  | 0 => by
    unfold opsF
    show ((List.replicate m []).map List.length).sum ≤ 0
    rw [List.map_replicate, List.sum_replicate_nat]
    simp
  | n + 1 => by
    have := ops_sum opf m cs n
    rw [show opsF opf m cs (n + 1) = opsStep opf m cs (opsF opf m cs n) n from range_fold ..]
    unfold opsStep
    have h2 := sum_modify (os := []) (xs := opsF opf m cs n) (j := (spreadF (cs.getD n 0) (n + 2) % (m : Int)).toNat) (opf (spreadF (cs.getD n 0) (n + 2) / (m : Int)))
    omega
/-- what the builder's programs keep -/
structure Built (own : Int) (ws : List Str) (rs : Rm) (pg : Pg) : Prop where
  names : pg.map (fun o => (o.name, o.ps)) = rs
  rooms : okRm rs
  defs : ∀ o ∈ pg, okSts (askO own ws rs (isMain o.name)) false o.body ∧ deeps o.body ≤ 6 ∧ (o.name, o.ps) ∈ rs
  inc : (pgLn pg).Pairwise (· < ·)
  pos : ∀ x ∈ pgLn pg, 0 < x
  len : ((pg.map fun o => (ln o.body).length)).sum ≤ 62
theorem prog_built {opf : List Str → Rm → Int → Od} {own : Int} {ws : List Str} (hop : ∀ vs rs i, okNm vs → okRm rs → okO own ws rs (opf vs rs i)) {xs : List Str} (hx : okNm xs) (ns : List Int) {most : Nat} (hm : most ≤ 64) :
    ∃ rs, Built own ws rs (progF opf xs ns most) := by
  unfold progF
  dsimp only
  have hvs := vars_ok (spreadF (cellF ns 0) 0) hx
  generalize spreadF (cellF ns 0) 0 = hd at hvs ⊢
  generalize varsF hd xs = vs at hvs ⊢
  have hrs := rooms_ok hd hx hvs
  generalize roomsF hd xs vs = rs at hrs ⊢
  have hcl : ((ns.take most).drop 2).length ≤ 62 := by rw [List.length_drop, List.length_take]; omega
  generalize (ns.take most).drop 2 = cs at hcl ⊢
  have hok := opsF_ok (P := okO own ws rs) (opf := opf vs rs) (fun i => hop vs rs i hvs hrs) rs.length cs cs.length
  have hsum := ops_sum (opf vs rs) rs.length cs cs.length
  have hlen := opsF_len (opf vs rs) rs.length cs cs.length
  generalize opsF (opf vs rs) rs.length cs cs.length = oss at hok hsum hlen ⊢
  obtain ⟨h1, h2, h3, h4, h5, h6⟩ := prog_pi oss rs hlen rs.length (Nat.le_refl _)
  refine ⟨rs, by rw [h1, List.take_length], hrs, fun o ho => ?_, h3, fun x hx => (h4 x hx).1, ?_⟩
  · obtain ⟨os, k1, k2, k3, k4⟩ := h2 o ho
    have := laid_ok (main := isMain o.name) (l := o.first) (hok os k1).1
    rw [← k3] at this
    exact ⟨this.1, this.2, k2⟩
  · refine Nat.le_trans h6 ?_
    rw [List.take_of_length_le (by omega)]
    omega
theorem params_of {rs : Rm} {pg : Pg} (hn : pg.map (fun o => (o.name, o.ps)) = rs) {f : Str} {ps : List Str} (h : (f, ps) ∈ rs) : ∃ qs, paramsOf pg f = some qs ∧ (f, qs) ∈ rs := by
  rw [← hn] at h
  obtain ⟨o, ho, e⟩ := List.mem_map.mp h
  cases e
  unfold paramsOf
  cases q : pg.reverse.find? fun x => decide (x.name = o.name) with
  | none => exact absurd (List.find?_eq_none.mp q o (List.mem_reverse.mpr ho)) (by simp)
  | some x =>
    have h1 : x.name = o.name := by
      have := List.find?_some q
      simpa using this
    have h2 := List.mem_reverse.mp (List.mem_of_find?_eq_some q)
    refine ⟨x.ps, rfl, ?_⟩
    rw [← hn]
    exact List.mem_map.mpr ⟨x, h2, by rw [h1]⟩
theorem flat_len {α β : Type} {f : α → List β} {k : Nat} : ∀ {xs : List α}, (∀ x ∈ xs, (f x).length ≤ k) → (xs.map f).flatten.length ≤ k * xs.length
  | [], _ => Nat.zero_le _
  | x :: xs, h => by
    rw [List.map_cons, List.flatten_cons, List.length_append, List.length_cons]
    have h1 := h x (List.mem_cons_self ..)
    have h2 := flat_len (xs := xs) fun y hy => h y (List.mem_cons_of_mem _ hy)
    rw [Nat.mul_add]; omega
theorem pln_len (b : List Sm) (loop : Option Int) : (pln loop b).length = (ln b).length := by rw [← pln_ln loop b, List.length_map]
theorem mem_le_sum {α : Type} {f : α → Nat} : ∀ {xs : List α} {x : α}, x ∈ xs → f x ≤ (xs.map f).sum
  | y :: xs, x, h => by
    rw [List.map_cons, List.sum_cons]
    rcases List.mem_cons.mp h with rfl | h
    · omega
    · have := mem_le_sum (f := f) h; omega
theorem built_ok {own : Int} {ws : List Str} {rs : Rm} {pg : Pg} (h : Built own ws rs pg) : okPg pg := by
  have hbl : ∀ o ∈ pg, (pln none o.body).length ≤ 62 := fun o ho => by
    rw [pln_len]
    exact Nat.le_trans (mem_le_sum (f := fun o : Df => (ln o.body).length) ho) h.len
  have hpl : pg.length ≤ 4 := by
    have := congrArg List.length h.names
    rw [List.length_map] at this
    rw [this]; exact h.rooms.1
  have hask : ∀ o ∈ pg, ∀ x ∈ pln none o.body, askDL (askO own ws rs (isMain o.name)) x := fun o ho x hx => askSs (h.defs o ho).1 (fun z => by cases z) x hx
  have hpar : ∀ (o : Df), o ∈ pg → ∀ l x f es lp, (Sm.call l x f es, lp) ∈ pln none o.body → ∃ ps, paramsOf pg f = some ps ∧ ps.length ≤ 6 := fun o ho l x f es lp hx => by
    obtain ⟨_, _, ps, hps, _, _⟩ := hask o ho _ hx
    obtain ⟨qs, e, hq⟩ := params_of h.names hps
    exact ⟨qs, e, (h.rooms.2 _ hq).2.1⟩
  refine ⟨fun o ho => ⟨?_, by have := hbl o ho; omega, fun x hx => ?_⟩, ?_, by omega⟩
  · have := (h.defs o ho).2.1
    unfold okDf; omega
  · have ha := hask o ho x hx
    have hp := hpar o ho
    obtain ⟨s, lp⟩ := x
    refine ⟨?_, ?_⟩
    · cases s with
      | put l a b => exact ⟨ha.1.1, ha.2.1⟩
      | set l x e => exact ha.2.1
      | tell l e => exact ha.1
      | ret l e => exact ha.1.1
      | join l x z e => exact ha.2.1.1
      | call l x f es => exact fun e he => (ha.2.1 e he).1
      | if1 l e b => exact ha.1
      | if2 l e b c => exact ha.1
      | whl l e b => exact ha.1
      | _ => trivial
    · cases s with
      | brk l => exact ha
      | agn l => exact ha
      | call l x f es =>
        obtain ⟨ps, e, hl⟩ := hp l x f es lp hx
        exact ⟨ps, e, by omega⟩
      | _ => trivial
  · have hdk : ∀ o ∈ pg, (dfKeys pg o).length ≤ 600 := fun o ho => by
      unfold dfKeys
      rw [List.length_cons]
      have := flat_len (f := dlKeys pg o.name) (k := 8) (xs := pln none o.body) fun x hx => by
        obtain ⟨s, lp⟩ := x
        cases s with
        | call l x f es =>
          obtain ⟨ps, e, hl⟩ := hpar o ho l x f es lp hx
          unfold dlKeys
          dsimp only
          rw [e]
          simp only [List.length_cons, Option.getD_some, List.length_map]
          omega
        | brk l => cases lp <;> (unfold dlKeys; dsimp only; simp)
        | agn l => cases lp <;> (unfold dlKeys; dsimp only; simp)
        | _ => unfold dlKeys; dsimp only; simp
      have h2 := hbl o ho
      omega
    have := flat_len (f := dfKeys pg) (k := 600) (xs := pg) hdk
    unfold allKeys
    omega
/-! ### no own word -/
theorem causes_nil {f : Str} : ∀ {e : Ex}, noOwn e → causes [] f e = []
  | .num _, _ => by unfold causes; rfl
  | .nam _, _ => by unfold causes; rw [if_neg (by simp [hasK])]
  | .lane, h => h.elim
  | .lanes, _ => by unfold causes; rfl
  | .mine, h => h.elim
  | .box e, h => by unfold causes; exact causes_nil h
  | .op _ a b, h => by unfold causes; rw [causes_nil h.1, causes_nil h.2]; rfl
theorem wayOf_nil {f : Str} : wayOf [] f = [] := by unfold wayOf; rw [if_neg (by simp [hasK])]
theorem wayIn_nil {l : Int} : wayIn [] [] l = [] := by unfold wayIn; rw [if_neg (by simp [hasK])]
mutual
theorem plS_nil : ∀ (loop : Option Int) (s : Sm), ∀ x ∈ plS [] [] loop s, x.way = []
  | loop, .if1 l e b, x, hx => by
    rw [plS, wayIn_nil] at hx
    rcases List.mem_cons.mp hx with rfl | hx
    · rfl
    · exact plcd_nil _ b x hx
  | loop, .if2 l e b c, x, hx => by
    rw [plS, wayIn_nil] at hx
    rcases List.mem_cons.mp hx with rfl | hx
    · rfl
    · rcases List.mem_append.mp hx with hx | hx
      · exact plcd_nil _ b x hx
      · exact plcd_nil _ c x hx
  | loop, .whl l e b, x, hx => by
    rw [plS, wayIn_nil] at hx
    rcases List.mem_cons.mp hx with rfl | hx
    · rfl
    · exact plcd_nil _ b x hx
  | loop, .set .., x, hx => by unfold plS at hx; rw [List.mem_singleton.mp hx]
  | loop, .put .., x, hx => by unfold plS at hx; rw [List.mem_singleton.mp hx]
  | loop, .tell .., x, hx => by unfold plS at hx; rw [List.mem_singleton.mp hx]
  | loop, .ret .., x, hx => by unfold plS at hx; rw [List.mem_singleton.mp hx]
  | loop, .stop .., x, hx => by unfold plS at hx; rw [List.mem_singleton.mp hx]
  | loop, .brk .., x, hx => by unfold plS at hx; rw [List.mem_singleton.mp hx]
  | loop, .agn .., x, hx => by unfold plS at hx; rw [List.mem_singleton.mp hx]
  | loop, .meet .., x, hx => by unfold plS at hx; rw [List.mem_singleton.mp hx]
  | loop, .join .., x, hx => by unfold plS at hx; rw [List.mem_singleton.mp hx]
  | loop, .call .., x, hx => by unfold plS at hx; rw [List.mem_singleton.mp hx]
theorem plcd_nil : ∀ (loop : Option Int) (b : List Sm), ∀ x ∈ plcd [] [] loop b, x.way = []
  | loop, [], x, hx => by unfold plcd at hx; cases hx
  | loop, s :: t, x, hx => by
    rw [plcd] at hx
    rcases List.mem_append.mp hx with hx | hx
    · exact plS_nil _ s x hx
    · exact plcd_nil _ t x hx
end
theorem markArgs_nil {f g : Str} {l : Int} : ∀ {ps : List Str} {es : List Ex}, (∀ e ∈ es, noOwn e) → markArgs f g l [] ps es = []
  | [], _, _ => by unfold markArgs; rfl
  | _ :: _, [], _ => by unfold markArgs; rfl
  | p :: ps, e :: es, h => by
    unfold markArgs
    rw [causes_nil (h e (List.mem_cons_self ..))]
    exact markArgs_nil fun x hx => h x (List.mem_cons_of_mem _ hx)
theorem by_nil {ws : List Str} {rs : Rm} {main : Bool} {pg : Pg} {f : Str} {s : Spot} (hw : ("ahead" : Str) ∉ ws) (hy : s.way = []) (ha : askDL (askO 0 ws rs main) s.dl) : markBy pg [] f s = [] := by
  obtain ⟨s, y, loop⟩ := s
  dsimp only at hy
  subst hy
  cases s with
  | set l x e => unfold markBy markGiven; dsimp only [mark]; rw [causes_nil (ha.2.2.1 rfl)]
  | put l a b => rfl
  | tell l e => rfl
  | ret l e => unfold markBy markGiven; dsimp only [mark]; rw [causes_nil (ha.1.2.1 rfl)]
  | stop l => rfl
  | brk l => cases loop <;> rfl
  | agn l => cases loop <;> rfl
  | meet l => rfl
  | join l x z e =>
    unfold markBy markGiven
    dsimp only [mark]
    rw [if_neg]
    rintro rfl
    exact hw ha.2.2
  | call l x g es =>
    unfold markBy markGiven
    dsimp only [mark]
    rw [if_neg (by simp [hasK])]
    exact markArgs_nil fun e he => (ha.2.1 e he).2.1 rfl
  | if1 l e b => unfold markBy markGiven; dsimp only; rw [causes_nil (ha.2.1 rfl)]; rfl
  | if2 l e b c => unfold markBy markGiven; dsimp only; rw [causes_nil (ha.2.1 rfl)]; rfl
  | whl l e b => unfold markBy markGiven; dsimp only; rw [causes_nil (ha.2.1 rfl)]; rfl
theorem placedIn_ask {a : Ask} {o : Df} (h : ∀ x ∈ pln none o.body, askDL a x) (fd : FM) : ∀ s ∈ placedIn fd o, askDL a s.dl := fun s hs => h _ (by
  rw [← pln_eq fd (wayOf fd o.name) none o.body]
  exact List.mem_map.mpr ⟨s, hs, rfl⟩)
theorem placedIn_nil (o : Df) : ∀ x ∈ placedIn [] o, x.way = [] := by
  unfold placedIn
  rw [wayOf_nil]
  exact plcd_nil none o.body
theorem foldB_nil {pg : Pg} {f : Str} : ∀ {xs : List Spot}, (∀ x ∈ xs, markBy pg [] f x = []) → xs.foldl (fun fd s => markBy pg fd f s) [] = []
  | [], _ => rfl
  | x :: xs, h => by
    rw [List.foldl_cons, h x (List.mem_cons_self ..)]
    exact foldB_nil fun y hy => h y (List.mem_cons_of_mem _ hy)
theorem once_nil {ws : List Str} {rs : Rm} {pg : Pg} (hw : ("ahead" : Str) ∉ ws) (h : Built 0 ws rs pg) : markOnce pg [] = [] := by
  have hd : ∀ o ∈ pg, markDef pg [] o = [] := fun o ho => by
    unfold markDef
    dsimp only
    rw [foldB_nil fun x hx => by_nil hw (placedIn_nil o x hx) (placedIn_ask (fun x hx => askSs (h.defs o ho).1 (fun z => by cases z) x hx) [] x hx), wayOf_nil]
    rfl
  have : ∀ os : Pg, (∀ o ∈ os, markDef pg [] o = []) → os.foldl (markDef pg) [] = [] := fun os => by
    induction os with
    | nil => intro _; rfl
    | cons o os ih =>
      intro h
      rw [List.foldl_cons, h o (List.mem_cons_self ..)]
      exact ih fun y hy => h y (List.mem_cons_of_mem _ hy)
  exact this pg hd
theorem marks_nil {ws : List Str} {rs : Rm} {pg : Pg} (hw : ("ahead" : Str) ∉ ws) (h : Built 0 ws rs pg) : marksOf pg = [] :=
  (marks_at (n := 0) (once_nil hw h)).symm
theorem wait_nil {pg : Pg} (h : marksOf pg = []) : waitMap pg = [] := by
  unfold waitMap
  rw [h]
  have hs : ∀ xs : List Spot, (∀ x ∈ xs, x.way = []) → xs.foldl waitStep [] = [] := fun xs => by
    induction xs with
    | nil => intro _; rfl
    | cons x xs ih =>
      intro h
      have : waitStep [] x = [] := by
        unfold waitStep
        rw [h x (List.mem_cons_self ..)]
        split <;> first | rfl | (rename_i e1 e2; cases e2)
      rw [List.foldl_cons, this]
      exact ih fun y hy => h y (List.mem_cons_of_mem _ hy)
  have : ∀ os : Pg, os.foldl (fun kvs o => (placedIn [] o).foldl waitStep kvs) [] = [] := fun os => by
    induction os with
    | nil => rfl
    | cons o os ih => rw [List.foldl_cons, hs _ (placedIn_nil o)]; exact ih
  exact this pg
end Tl

namespace Tl
open PySem PySem.Spec PyProof.Rows L2

/-! ### the laws' own going over a body -/
structure Rd where
  deed : Sm
  rounds : List Int
  loop : Option Int
def Rd.d (s : Rd) : D := .tup [s.deed.d, .lst (s.rounds.map .int), loopD s.loop]
mutual
def rsS (rounds : List Int) (loop : Option Int) : Sm → List Rd
  | .if1 l e b => ⟨.if1 l e b, rounds, loop⟩ :: rsB (rounds ++ [l]) loop b
  | .if2 l e b c => ⟨.if2 l e b c, rounds, loop⟩ :: (rsB (rounds ++ [l]) loop b ++ rsB (rounds ++ [l]) loop c)
  | .whl l e b => ⟨.whl l e b, rounds, loop⟩ :: rsB (rounds ++ [l]) (some l) b
  | s => [⟨s, rounds, loop⟩]
def rsB (rounds : List Int) (loop : Option Int) : List Sm → List Rd
  | [] => []
  | s :: t => rsS rounds loop s ++ rsB rounds loop t
end
theorem rsB_app {rounds : List Int} {loop : Option Int} : ∀ {a b : List Sm}, rsB rounds loop (a ++ b) = rsB rounds loop a ++ rsB rounds loop b
  | [], b => by rw [show rsB rounds loop [] = [] from by unfold rsB; rfl]; rfl
  | s :: t, b => by rw [List.cons_append, rsB, rsB, rsB_app, List.append_assoc]
theorem rsB_one {rounds : List Int} {loop : Option Int} {s : Sm} : rsB rounds loop [s] = rsS rounds loop s := by rw [rsB, show rsB rounds loop [] = [] from by unfold rsB; rfl, List.append_nil]
/-- without the rounds -/
abbrev Rd.dl (s : Rd) : Sm × Option Int := (s.deed, s.loop)
mutual
theorem rsS_pln : ∀ (rounds : List Int) (loop : Option Int) (s : Sm), (rsS rounds loop s).map Rd.dl = plnS loop s
  | r, loop, .if1 l e b => by rw [rsS, plnS, List.map_cons, rsB_pln _ _ b]
  | r, loop, .if2 l e b c => by rw [rsS, plnS, List.map_cons, List.map_append, rsB_pln _ _ b, rsB_pln _ _ c]
  | r, loop, .whl l e b => by rw [rsS, plnS, List.map_cons, rsB_pln _ _ b]
  | r, loop, .set .. => by unfold rsS plnS; rfl
  | r, loop, .put .. => by unfold rsS plnS; rfl
  | r, loop, .tell .. => by unfold rsS plnS; rfl
  | r, loop, .ret .. => by unfold rsS plnS; rfl
  | r, loop, .stop .. => by unfold rsS plnS; rfl
  | r, loop, .brk .. => by unfold rsS plnS; rfl
  | r, loop, .agn .. => by unfold rsS plnS; rfl
  | r, loop, .meet .. => by unfold rsS plnS; rfl
  | r, loop, .join .. => by unfold rsS plnS; rfl
  | r, loop, .call .. => by unfold rsS plnS; rfl
theorem rsB_pln : ∀ (rounds : List Int) (loop : Option Int) (b : List Sm), (rsB rounds loop b).map Rd.dl = pln loop b
  | r, loop, [] => by unfold rsB pln; rfl
  | r, loop, s :: t => by rw [rsB, pln, List.map_append, rsS_pln _ _ s, rsB_pln _ _ t]
end
theorem rsB_len (rounds : List Int) (loop : Option Int) (b : List Sm) : (rsB rounds loop b).length = (ln b).length := by rw [← pln_len b loop, ← rsB_pln rounds loop b, List.length_map]
/-- the way of a spot, read off its rounds -/
def wayR (fd : FM) (way : Why) (rounds : List Int) : Why := rounds.foldl (wayIn fd) way
def Rd.spot (fd : FM) (way : Why) (s : Rd) : Spot := ⟨s.deed, wayR fd way s.rounds, s.loop⟩
mutual
theorem rsS_pl (fd : FM) (way : Why) : ∀ (rounds : List Int) (loop : Option Int) (s : Sm), (rsS rounds loop s).map (Rd.spot fd way) = plS fd (wayR fd way rounds) loop s
  | r, loop, .if1 l e b => by rw [rsS, plS, List.map_cons, rsB_pl fd way _ _ b]; unfold wayR; rw [List.foldl_append]; rfl
  | r, loop, .if2 l e b c => by rw [rsS, plS, List.map_cons, List.map_append, rsB_pl fd way _ _ b, rsB_pl fd way _ _ c]; unfold wayR; rw [List.foldl_append]; rfl
  | r, loop, .whl l e b => by rw [rsS, plS, List.map_cons, rsB_pl fd way _ _ b]; unfold wayR; rw [List.foldl_append]; rfl
  | r, loop, .set .. => by unfold rsS plS; rfl
  | r, loop, .put .. => by unfold rsS plS; rfl
  | r, loop, .tell .. => by unfold rsS plS; rfl
  | r, loop, .ret .. => by unfold rsS plS; rfl
  | r, loop, .stop .. => by unfold rsS plS; rfl
  | r, loop, .brk .. => by unfold rsS plS; rfl
  | r, loop, .agn .. => by unfold rsS plS; rfl
  | r, loop, .meet .. => by unfold rsS plS; rfl
  | r, loop, .join .. => by unfold rsS plS; rfl
  | r, loop, .call .. => by unfold rsS plS; rfl
theorem rsB_pl (fd : FM) (way : Why) : ∀ (rounds : List Int) (loop : Option Int) (b : List Sm), (rsB rounds loop b).map (Rd.spot fd way) = plcd fd (wayR fd way rounds) loop b
  | r, loop, [] => by unfold rsB plcd; rfl
  | r, loop, s :: t => by rw [rsB, plcd, List.map_append, rsS_pl fd way _ _ s, rsB_pl fd way _ _ t]
end
theorem placedIn_rs (fd : FM) (o : Df) : placedIn fd o = (rsB [] none o.body).map (Rd.spot fd (wayOf fd o.name)) := (rsB_pl fd (wayOf fd o.name) [] none o.body).symm
def joinWords : List Str := ["sum", "most", "least", "ahead"]
def ownF (h : Int) : Int := [0, 1, 3, 12].getD (h % 4).toNat 0
def drawnF (ns : List Int) : Pg := progF (fun vs rs => opF (ownF (spreadF (cellF ns 0) 77)) vs rs joinWords) (namesF (spreadF (cellF ns 1) 1)) ns 56
theorem drawn_built (ns : List Int) : ∃ own rs, Built own joinWords rs (drawnF ns) := by
  obtain ⟨rs, h⟩ := prog_built (opf := fun vs rs => opF (ownF (spreadF (cellF ns 0) 77)) vs rs joinWords) (fun vs rs i hv _ => op_ok _ hv rs (by decide) i) (names_ok (spreadF (cellF ns 1) 1)) ns (most := 56) (by decide)
  exact ⟨_, rs, h⟩
theorem own_get {k : Int} (h0 : 0 ≤ k) (h : k < 4) : atI [D.int 0, D.int 1, D.int 3, D.int 12] k = some (.int ([0, 1, 3, 12].getD k.toNat 0)) := atI_mapD (f := D.int) (xs := [0, 1, 3, 12]) 0 h0 h
end Tl

namespace Tl
open PySem PySem.Spec PyProof.Rows L2

/-! ### ways by keys -/
def waysF (fd : FM) (f : Str) (rounds : List Int) : List MK := (MK.dfn f :: rounds.map MK.row).filter (hasK fd)
theorem wayR_ways (fd : FM) (f : Str) : ∀ rounds, wayR fd (wayOf fd f) rounds = ((waysF fd f rounds).head?.toList.map some) := by
  have key : ∀ (rounds : List Int) (way : Why), way ≠ [] → rounds.foldl (wayIn fd) way = way := fun rounds => by
    induction rounds with
    | nil => intro way _; rfl
    | cons l r ih =>
      intro way hw
      have : wayIn fd way l = way := by
        unfold wayIn
        rw [if_neg]
        rintro ⟨h, _⟩
        exact hw (List.length_eq_zero_iff.mp h)
      rw [List.foldl_cons, this]
      exact ih way hw
  have key2 : ∀ rounds : List Int, rounds.foldl (wayIn fd) [] = (((rounds.map MK.row).filter (hasK fd)).head?.toList.map some) := fun rounds => by
    induction rounds with
    | nil => rfl
    | cons l r ih =>
      rw [List.foldl_cons, List.map_cons, List.filter_cons]
      cases e : hasK fd (.row l) with
      | true =>
        have : wayIn fd [] l = [some (.row l)] := by unfold wayIn; rw [if_pos ⟨rfl, e⟩]
        rw [this, key _ _ (by simp), if_pos rfl]; rfl
      | false =>
        have : wayIn fd [] l = [] := by unfold wayIn; rw [if_neg (by rw [e]; simp)]
        rw [this, if_neg Bool.false_ne_true]; exact ih
  intro rounds
  unfold wayR wayOf waysF
  rw [List.filter_cons]
  cases e : hasK fd (.dfn f) with
  | true => rw [if_pos rfl, if_pos rfl, key _ _ (by simp)]; rfl
  | false => rw [if_neg Bool.false_ne_true, if_neg Bool.false_ne_true]; exact key2 rounds
end Tl

namespace Tl
open PySem PySem.Spec PyProof.Rows L2

/-! ### programs as data -/
mutual
theorem okD_mono : ∀ {n m : Nat} {d : D}, okD n d → n ≤ m → okD m d
  | n, m, .non, h, _ => by unfold okD; trivial
  | n, m, .int _, h, _ => by unfold okD; trivial
  | n, m, .bl _, h, _ => by unfold okD; trivial
  | n, m, .str _, h, _ => by unfold okD at h ⊢; exact h
  | n + 1, m + 1, .tup l, h, e => by unfold okD at h ⊢; exact okDs_mono h (by omega)
  | n + 1, m + 1, .lst l, h, e => by unfold okD at h ⊢; exact okDs_mono h (by omega)
  | n + 1, m + 1, .scr l, h, e => by unfold okD at h ⊢; exact okDs_mono h (by omega)
  | n + 1, m + 1, .tab l, h, e => by unfold okD at h ⊢; exact okDs_mono h (by omega)
  | n + 1, 0, .tup l, h, e => by omega
  | n + 1, 0, .lst l, h, e => by omega
  | n + 1, 0, .scr l, h, e => by omega
  | n + 1, 0, .tab l, h, e => by omega
  | 0, _, .tup l, h, _ => by unfold okD at h; exact h.elim
  | 0, _, .tab l, h, _ => by unfold okD at h; exact h.elim
  | 0, _, .lst l, h, _ => by unfold okD at h; exact h.elim
  | 0, _, .scr l, h, _ => by unfold okD at h; exact h.elim
  | _, _, .ref _, h, _ => by unfold okD at h; exact h.elim
  | _, _, .ty _, h, _ => by unfold okD at h; exact h.elim
theorem okDs_mono : ∀ {n m : Nat} {l : List D}, okDs n l → n ≤ m → okDs m l
  | n, m, [], h, _ => by unfold okDs; trivial
  | n, m, x :: t, h, e => by unfold okDs at h ⊢; exact ⟨okD_mono h.1 e, okDs_mono h.2 e⟩
end
theorem okD_str {n : Nat} {s : Str} (h : PyData.strOk s = true) : okD n (.str s) := by unfold okD; exact h
theorem okD_int {n : Nat} {i : Int} : okD n (.int i) := by unfold okD; trivial
theorem okD_non {n : Nat} : okD n .non := by unfold okD; trivial
theorem okDs_nil {n : Nat} : okDs n [] := by unfold okDs; trivial
theorem okDs_cons {n : Nat} {x : D} {t : List D} (h : okD n x) (ht : okDs n t) : okDs n (x :: t) := by unfold okDs; exact ⟨h, ht⟩
theorem okD_tup {n : Nat} {l : List D} (h : okDs n l) : okD (n + 1) (.tup l) := by unfold okD; exact h
theorem okD_lst {n : Nat} {l : List D} (h : okDs n l) : okD (n + 1) (.lst l) := by unfold okD; exact h
theorem op_strOk (w : Op7) : PyData.strOk w.s = true := by cases w <;> decide +kernel
theorem ex_okD : ∀ {e : Ex}, exNm e → okD e.deep e.d
  | .num i, _ => okD_tup (okDs_cons (okD_str (by decide +kernel)) (okDs_cons okD_int okDs_nil))
  | .nam x, h => okD_tup (okDs_cons (okD_str (by decide +kernel)) (okDs_cons (okD_str h.2) okDs_nil))
  | .lane, _ => okD_tup (okDs_cons (okD_str (by decide +kernel)) okDs_nil)
  | .lanes, _ => okD_tup (okDs_cons (okD_str (by decide +kernel)) okDs_nil)
  | .mine, _ => okD_tup (okDs_cons (okD_str (by decide +kernel)) okDs_nil)
  | .box e, h => by
    unfold Ex.deep Ex.d
    exact okD_tup (okDs_cons (okD_str (by decide +kernel)) (okDs_cons (ex_okD h) okDs_nil))
  | .op w a b, h => by
    unfold Ex.deep Ex.d
    exact okD_tup (okDs_cons (okD_str (op_strOk w)) (okDs_cons (okD_mono (ex_okD h.1) (by omega)) (okDs_cons (okD_mono (ex_okD h.2) (by omega)) okDs_nil)))
theorem okE_okD {own : Int} {e : Ex} (h : okE own 10 e) {n : Nat} (hn : 10 ≤ n) : okD n e.d := okD_mono (ex_okD h.2.2) (Nat.le_trans h.1 hn)
section
variable {own : Int} {ws : List Str} {rs : Rm} {main : Bool}
mutual
theorem sm_okD (hw : ∀ z ∈ ws, PyData.strOk z = true) (hr : okRm rs) : ∀ {lp : Bool} {s : Sm}, okSt (askO own ws rs main) lp s → okD (2 * s.deep + 12) s.d
  | lp, .if1 l e b, h => by
    unfold okSt at h; unfold Sm.deep Sm.d
    refine okD_mono (n := 2 * deeps b + 14) (okD_tup (okDs_cons (okD_str (by decide +kernel)) (okDs_cons okD_int (okDs_cons (okE_okD h.1 (by omega)) (okDs_cons (okD_lst (sms_okD hw hr h.2)) (okDs_cons okD_non okDs_nil)))))) (by omega)
  | lp, .if2 l e b c, h => by
    unfold okSt at h; unfold Sm.deep Sm.d
    refine okD_mono (n := 2 * max (deeps b) (deeps c) + 14) (okD_tup (okDs_cons (okD_str (by decide +kernel)) (okDs_cons okD_int (okDs_cons (okE_okD h.1 (by omega)) (okDs_cons (okD_mono (okD_lst (sms_okD hw hr h.2.1)) (by omega)) (okDs_cons (okD_mono (okD_lst (sms_okD hw hr h.2.2)) (by omega)) okDs_nil)))))) (by omega)
  | lp, .whl l e b, h => by
    unfold okSt at h; unfold Sm.deep Sm.d
    refine okD_mono (n := 2 * deeps b + 14) (okD_tup (okDs_cons (okD_str (by decide +kernel)) (okDs_cons okD_int (okDs_cons (okE_okD h.1 (by omega)) (okDs_cons (okD_lst (sms_okD hw hr h.2)) okDs_nil))))) (by omega)
  | lp, .set l x e, h => by unfold okSt at h; unfold Sm.d; exact okD_tup (okDs_cons (okD_str (by decide +kernel)) (okDs_cons okD_int (okDs_cons (okD_str h.1.2) (okDs_cons (okE_okD h.2 (by omega)) okDs_nil))))
  | lp, .put l a b, h => by unfold okSt at h; unfold Sm.d; exact okD_tup (okDs_cons (okD_str (by decide +kernel)) (okDs_cons okD_int (okDs_cons (okE_okD h.1 (by omega)) (okDs_cons (okE_okD h.2 (by omega)) okDs_nil))))
  | lp, .tell l e, h => by unfold okSt at h; unfold Sm.d; exact okD_tup (okDs_cons (okD_str (by decide +kernel)) (okDs_cons okD_int (okDs_cons (okE_okD h (by omega)) okDs_nil)))
  | lp, .ret l e, h => by unfold okSt at h; unfold Sm.d; exact okD_tup (okDs_cons (okD_str (by decide +kernel)) (okDs_cons okD_int (okDs_cons (okE_okD h.1 (by omega)) okDs_nil)))
  | lp, .stop l, h => by unfold Sm.d; exact okD_tup (okDs_cons (okD_str (by decide +kernel)) (okDs_cons okD_int okDs_nil))
  | lp, .brk l, h => by unfold Sm.d; exact okD_tup (okDs_cons (okD_str (by decide +kernel)) (okDs_cons okD_int okDs_nil))
  | lp, .agn l, h => by unfold Sm.d; exact okD_tup (okDs_cons (okD_str (by decide +kernel)) (okDs_cons okD_int okDs_nil))
  | lp, .meet l, h => by unfold Sm.d; exact okD_tup (okDs_cons (okD_str (by decide +kernel)) (okDs_cons okD_int okDs_nil))
  | lp, .join l x z e, h => by unfold okSt at h; unfold Sm.d; exact okD_tup (okDs_cons (okD_str (by decide +kernel)) (okDs_cons okD_int (okDs_cons (okD_str h.1.2) (okDs_cons (okD_str (hw z h.2.2)) (okDs_cons (okE_okD h.2.1 (by omega)) okDs_nil)))))
  | lp, .call l x f es, h => by
    unfold okSt at h; unfold Sm.d
    obtain ⟨h1, h2, ps, h3, h4, h5⟩ := h
    refine okD_tup (okDs_cons (okD_str (by decide +kernel)) (okDs_cons okD_int (okDs_cons (okD_str h1.2) (okDs_cons (okD_str (hr.2 _ h3).1.2) (okDs_cons (okD_lst (okDs_of fun d hd => ?_)) okDs_nil)))))
    obtain ⟨e, he, rfl⟩ := List.mem_map.mp hd
    exact okE_okD (h2 e he) (by omega)
theorem sms_okD (hw : ∀ z ∈ ws, PyData.strOk z = true) (hr : okRm rs) : ∀ {lp : Bool} {b : List Sm}, okSts (askO own ws rs main) lp b → okDs (2 * deeps b + 12) (stD b)
  | lp, [], h => by unfold stD; exact okDs_nil
  | lp, s :: t, h => by
    unfold okSts at h; unfold stD deeps
    exact okDs_cons (okD_mono (sm_okD hw hr h.1) (by omega)) (okDs_mono (sms_okD hw hr h.2) (by omega))
end
end
theorem pg_okD {own : Int} {ws : List Str} {rs : Rm} {pg : Pg} (hw : ∀ z ∈ ws, PyData.strOk z = true) (h : Built own ws rs pg) : okD 30 (.lst (pgD pg)) := by
  refine okD_lst (okDs_of fun d hd => ?_)
  obtain ⟨o, ho, rfl⟩ := List.mem_map.mp hd
  obtain ⟨h1, h2, h3⟩ := h.defs o ho
  obtain ⟨r1, r2, r3⟩ := h.rooms.2 _ h3
  refine okD_tup (okDs_cons (okD_str r1.2) (okDs_cons (okD_lst (okDs_of fun y hy => ?_)) (okDs_cons (okD_lst (okDs_mono (sms_okD hw h.rooms h1) (by omega))) (okDs_cons okD_int (okDs_cons okD_int okDs_nil)))))
  obtain ⟨x, hx, rfl⟩ := List.mem_map.mp hy
  exact okD_str (r3 x hx).2
/-! ### which meetings wait -/
def wStep (s : Spot) : Option (Int × Option MK) := match s.deed, s.way with
  | .join l _ _ _, y :: _ => some (l, y)
  | .meet l, y :: _ => some (l, y)
  | _, _ => none
def wList (fd : FM) (pg : Pg) : WM := (pg.map fun o => (placedIn fd o).filterMap wStep).flatten
def putP (kvs : WM) (p : Int × Option MK) : WM := putW kvs p.1 p.2
theorem step_w (kvs : WM) (s : Spot) : waitStep kvs s = ((wStep s).toList).foldl putP kvs := by
  obtain ⟨s, y, loop⟩ := s
  unfold waitStep wStep
  cases s <;> cases y <;> rfl
theorem steps_w : ∀ (ss : List Spot) (kvs : WM), ss.foldl waitStep kvs = (ss.filterMap wStep).foldl putP kvs
  | [], _ => rfl
  | s :: ss, kvs => by
    rw [List.foldl_cons, steps_w ss, step_w]
    rw [show s :: ss = [s] ++ ss from rfl, List.filterMap_append, List.foldl_append]
    cases e : wStep s <;> simp [e]
theorem map_w (fd : FM) : ∀ (os : Pg) (kvs : WM), os.foldl (fun kvs o => (placedIn fd o).foldl waitStep kvs) kvs = (wList fd os).foldl putP kvs
  | [], _ => rfl
  | o :: os, kvs => by
    rw [List.foldl_cons, map_w fd os, steps_w]
    unfold wList
    rw [List.map_cons, List.flatten_cons, List.foldl_append]
theorem put_new : ∀ (ps kvs : WM), (kvs ++ ps).Pairwise (fun a b => a.1 ≠ b.1) → ps.foldl putP kvs = kvs ++ ps
  | [], kvs, _ => (List.append_nil _).symm
  | p :: ps, kvs, h => by
    have e : putP kvs p = kvs ++ [p] := by
      unfold putP putW
      rw [if_neg]
      intro hc
      obtain ⟨q, hq, e⟩ := List.any_eq_true.mp hc
      exact (List.pairwise_append.mp h).2.2 q hq p (List.mem_cons_self ..) (of_decide_eq_true e)
    rw [List.foldl_cons, e, put_new ps (kvs ++ [p]) (by rw [List.append_assoc]; exact h), List.append_assoc]
    rfl
theorem wStep_line {s : Spot} {p : Int × Option MK} (h : wStep s = some p) : p.1 = s.deed.line := by
  obtain ⟨s, y, loop⟩ := s
  unfold wStep at h
  cases s <;> cases y <;> first | (cases h; rfl) | cases h
theorem filter_sub {ss : List Spot} : ((ss.filterMap wStep).map (·.1)).Sublist (ss.map (fun s => s.deed.line)) := by
  induction ss with
  | nil => exact List.Sublist.refl _
  | cons s ss ih =>
    cases e : wStep s with
    | none => rw [List.filterMap_cons_none e, List.map_cons]; exact ih.cons _
    | some p =>
      rw [List.filterMap_cons_some e, List.map_cons, List.map_cons, wStep_line e]
      exact ih.cons₂ _
theorem placedIn_lines (fd : FM) (o : Df) : (placedIn fd o).map (fun s => s.deed.line) = ln o.body := by
  unfold placedIn
  rw [← pln_ln none, ← pln_eq fd (wayOf fd o.name) none o.body, List.map_map]
  rfl
theorem wList_sub (fd : FM) : ∀ pg : Pg, ((wList fd pg).map (·.1)).Sublist (pgLn pg)
  | [] => List.Sublist.refl _
  | o :: os => by
    unfold wList pgLn
    rw [List.map_cons, List.map_cons, List.flatten_cons, List.flatten_cons, List.map_append]
    refine List.Sublist.append ?_ (wList_sub fd os)
    have := filter_sub (ss := placedIn fd o)
    rw [placedIn_lines] at this
    exact this.cons _
theorem wait_list {pg : Pg} (h : (pgLn pg).Pairwise (· < ·)) : waitMap pg = wList (marksOf pg) pg ∧ ((waitMap pg).map (·.1)).Pairwise (· < ·) := by
  have h1 := List.Pairwise.sublist (wList_sub (marksOf pg) pg) h
  have h2 : (wList (marksOf pg) pg).Pairwise (fun a b => a.1 ≠ b.1) := (List.pairwise_map.mp h1).imp fun {a b} hab e => by omega
  have e : waitMap pg = wList (marksOf pg) pg := by
    unfold waitMap
    rw [map_w]
    exact put_new _ [] h2
  rw [e]
  exact ⟨rfl, h1⟩
def wD (p : Int × Option MK) : D := .tup [.int p.1, oD p.2]
theorem find_self {kvs : WM} (h : (kvs.map (·.1)).Pairwise (· < ·)) : ∀ p ∈ kvs, kvs.find? (fun q => decide (q.1 = p.1)) = some p := by
  induction kvs with
  | nil => intro p hp; cases hp
  | cons q t ih =>
    intro p hp
    rw [List.map_cons, List.pairwise_cons] at h
    rw [List.find?_cons]
    rcases List.mem_cons.mp hp with rfl | hp
    · rw [decide_eq_true rfl]
    · have := h.1 p.1 (List.mem_map.mpr ⟨p, hp, rfl⟩)
      rw [decide_eq_false (by omega)]
      exact ih h.2 p hp
theorem sorted_eq : ∀ {xs ys : List Int}, xs.Perm ys → xs.Pairwise (· ≤ ·) → ys.Pairwise (· < ·) → xs = ys := fun {xs ys} p hx hy =>
  p.eq_of_pairwise (fun a b _ _ h1 h2 => Int.le_antisymm h1 h2) hx (hy.imp fun h => Int.le_of_lt h)
theorem waits_rows {pg : Pg} (h : (pgLn pg).Pairwise (· < ·)) {ys : List Int} (hp : ys.Perm ((waitMap pg).map (·.1))) (hs : ys.Pairwise (· ≤ ·)) : ys.map (waitRow pg) = (waitMap pg).map wD := by
  have hw := (wait_list h).2
  rw [sorted_eq hp hs hw, List.map_map]
  apply List.map_congr_left
  intro p hpm
  show waitRow pg p.1 = wD p
  unfold waitRow
  rw [find_self hw p hpm]
  rfl
theorem wait_few {own : Int} {ws : List Str} {rs : Rm} {pg : Pg} (h : Built own ws rs pg) : (waitMap pg).length < 64 := by
  have h1 : ∀ pg : Pg, (wList (marksOf pg) pg).length ≤ (pgLn pg).length := fun pg => by
    have := (wList_sub (marksOf pg) pg).length_le
    rwa [List.length_map] at this
  have h2 : ∀ (fd : FM) (os : Pg), (wList fd os).length ≤ (os.map fun o => (ln o.body).length).sum := fun fd os => by
    induction os with
    | nil => exact Nat.le_refl _
    | cons o os ih =>
      have := (filter_sub (ss := placedIn fd o)).length_le
      rw [placedIn_lines, List.length_map] at this
      unfold wList at ih ⊢
      rw [List.map_cons, List.flatten_cons, List.length_append, List.map_cons, List.sum_cons]
      omega
  rw [(wait_list h.inc).1]
  have := h2 (marksOf pg) pg
  have := h.len
  omega
/-! by the laws' own ways -/
def dueR (fd : FM) (f : Str) (r : Rd) : Option (Int × MK) := if r.deed.word = "meet" ∨ r.deed.word = "join" then (waysF fd f r.rounds).head?.map fun k => (r.deed.line, k) else none
def dueF (fd : FM) (pg : Pg) : List (Int × MK) := (pg.map fun o => (rsB [] none o.body).filterMap (dueR fd o.name)).flatten
theorem wStep_due (fd : FM) (f : Str) (r : Rd) : wStep (r.spot fd (wayOf fd f)) = (dueR fd f r).map fun p => (p.1, some p.2) := by
  unfold dueR Rd.spot
  rw [wayR_ways]
  obtain ⟨s, rounds, loop⟩ := r
  dsimp only
  generalize waysF fd f rounds = y
  cases y with
  | nil => cases s <;> simp [wStep, Sm.word, ofS_inj]
  | cons k t => cases s <;> simp [wStep, Sm.word, ofS_inj, Sm.line]
theorem wList_due (fd : FM) (pg : Pg) : wList fd pg = (dueF fd pg).map fun p => (p.1, some p.2) := by
  unfold wList dueF
  rw [List.map_flatten, List.map_map]
  congr 1
  apply List.map_congr_left
  intro o _
  show (placedIn fd o).filterMap wStep = ((rsB [] none o.body).filterMap (dueR fd o.name)).map _
  rw [placedIn_rs, List.filterMap_map, List.map_filterMap]
  exact congrArg (fun g => List.filterMap g (rsB [] none o.body)) (funext fun r => wStep_due fd o.name r)
def dueD (p : Int × MK) : D := .tup [.int p.1, p.2.d]
mutual
theorem rsS_rounds : ∀ {rounds : List Int} {loop : Option Int} {s : Sm}, ∀ r ∈ rsS rounds loop s, r.rounds.length + 1 ≤ rounds.length + s.deep
  | rounds, loop, .if1 l e b, r, h => by
    rw [rsS] at h; unfold Sm.deep
    rcases List.mem_cons.mp h with rfl | h
    · dsimp only; omega
    · have := rsB_rounds r h; rw [List.length_append] at this; simp only [List.length_singleton] at this; omega
  | rounds, loop, .if2 l e b c, r, h => by
    rw [rsS] at h; unfold Sm.deep
    rcases List.mem_cons.mp h with rfl | h
    · dsimp only; omega
    · rcases List.mem_append.mp h with h | h
      · have := rsB_rounds r h; rw [List.length_append] at this; simp only [List.length_singleton] at this; omega
      · have := rsB_rounds r h; rw [List.length_append] at this; simp only [List.length_singleton] at this; omega
  | rounds, loop, .whl l e b, r, h => by
    rw [rsS] at h; unfold Sm.deep
    rcases List.mem_cons.mp h with rfl | h
    · dsimp only; omega
    · have := rsB_rounds r h; rw [List.length_append] at this; simp only [List.length_singleton] at this; omega
  | rounds, loop, .set .., r, h => by unfold rsS at h; rw [List.mem_singleton.mp h]; unfold Sm.deep; exact Nat.le_refl _
  | rounds, loop, .put .., r, h => by unfold rsS at h; rw [List.mem_singleton.mp h]; unfold Sm.deep; exact Nat.le_refl _
  | rounds, loop, .tell .., r, h => by unfold rsS at h; rw [List.mem_singleton.mp h]; unfold Sm.deep; exact Nat.le_refl _
  | rounds, loop, .ret .., r, h => by unfold rsS at h; rw [List.mem_singleton.mp h]; unfold Sm.deep; exact Nat.le_refl _
  | rounds, loop, .stop .., r, h => by unfold rsS at h; rw [List.mem_singleton.mp h]; unfold Sm.deep; exact Nat.le_refl _
  | rounds, loop, .brk .., r, h => by unfold rsS at h; rw [List.mem_singleton.mp h]; unfold Sm.deep; exact Nat.le_refl _
  | rounds, loop, .agn .., r, h => by unfold rsS at h; rw [List.mem_singleton.mp h]; unfold Sm.deep; exact Nat.le_refl _
  | rounds, loop, .meet .., r, h => by unfold rsS at h; rw [List.mem_singleton.mp h]; unfold Sm.deep; exact Nat.le_refl _
  | rounds, loop, .join .., r, h => by unfold rsS at h; rw [List.mem_singleton.mp h]; unfold Sm.deep; exact Nat.le_refl _
  | rounds, loop, .call .., r, h => by unfold rsS at h; rw [List.mem_singleton.mp h]; unfold Sm.deep; exact Nat.le_refl _
theorem rsB_rounds : ∀ {rounds : List Int} {loop : Option Int} {b : List Sm}, ∀ r ∈ rsB rounds loop b, r.rounds.length + 1 ≤ rounds.length + deeps b
  | rounds, loop, [], r, h => by unfold rsB at h; cases h
  | rounds, loop, s :: t, r, h => by
    rw [rsB] at h; unfold deeps
    rcases List.mem_append.mp h with h | h
    · have := rsS_rounds r h; omega
    · have := rsB_rounds r h; omega
end
theorem due_app (fd : FM) (a b : Pg) : dueF fd (a ++ b) = dueF fd a ++ dueF fd b := by unfold dueF; rw [List.map_append, List.flatten_append]
theorem due_few {own : Int} {ws : List Str} {rs : Rm} {pg : Pg} (h : Built own ws rs pg) : (dueF (marksOf pg) pg).length < 64 := by
  have := wait_few h
  rw [(wait_list h.inc).1, wList_due, List.length_map] at this
  exact this
theorem wait_due {pg : Pg} (h : (pgLn pg).Pairwise (· < ·)) : (waitMap pg).map wD = (dueF (marksOf pg) pg).map dueD := by
  rw [(wait_list h).1, wList_due, List.map_map]; rfl
theorem due_okD {own : Int} {ws : List Str} {rs : Rm} {pg : Pg} (h : Built own ws rs pg) (fd : FM) : ∀ p ∈ dueF fd pg, okD 2 (dueD p) := by
  intro p hp
  unfold dueF at hp
  obtain ⟨l, hl, hpl⟩ := List.mem_flatten.mp hp
  obtain ⟨o, ho, rfl⟩ := List.mem_map.mp hl
  obtain ⟨r, hr, e⟩ := List.mem_filterMap.mp hpl
  unfold dueR at e
  split at e
  · obtain ⟨k, hk, rfl⟩ := Option.map_eq_some_iff.mp e
    have hkm : k ∈ waysF fd o.name r.rounds := List.mem_of_head? hk
    unfold waysF at hkm
    have hkm := (List.mem_filter.mp hkm).1
    refine okD_tup (okDs_cons okD_int (okDs_cons ?_ okDs_nil))
    rcases List.mem_cons.mp hkm with rfl | hkm
    · exact okD_tup (okDs_cons (okD_str (by decide +kernel)) (okDs_cons (okD_str ((h.rooms.2 _ (h.defs o ho).2.2).1).2) okDs_nil))
    · obtain ⟨l, _, rfl⟩ := List.mem_map.mp hkm
      exact okD_tup (okDs_cons (okD_str (by decide +kernel)) (okDs_cons okD_int okDs_nil))
  · cases e
theorem zip_self {α : Type} (f : α → D) : ∀ xs : List α, zipD (xs.map f) (xs.map f) = xs.map fun x => .tup [f x, f x]
  | [] => rfl
  | x :: xs => by
    have := zip_self f xs
    unfold zipD at this ⊢
    rw [List.map_cons, List.zipWith_cons_cons, this]; rfl
end Tl

namespace Tl
open PySem PySem.Spec PyProof.Rows L2
/-! ### what the laws call own -/
def isOwn (fd : FM) (f : Str) : Ex → Bool
  | .lane => true
  | .mine => true
  | .nam x => hasK fd (.name f x)
  | .box e => isOwn fd f e
  | .op _ a b => isOwn fd f a || isOwn fd f b
  | _ => false
theorem isOwn_causes (fd : FM) (f : Str) : ∀ e : Ex, isOwn fd f e = decide (0 < (causes fd f e).length)
  | .num _ => rfl
  | .lane => rfl
  | .lanes => rfl
  | .mine => rfl
  | .nam x => by unfold isOwn causes; cases hasK fd (.name f x) <;> rfl
  | .box e => by unfold isOwn causes; exact isOwn_causes fd f e
  | .op _ a b => by
    unfold isOwn causes
    rw [isOwn_causes fd f a, isOwn_causes fd f b]
    split
    · rename_i h; simp [h]
    · rename_i h; simp only [gt_iff_lt] at h; simp [h]
def onOwn (fd : FM) (f : Str) (rounds : List Int) : Bool := hasK fd (.dfn f) || rounds.any fun l => hasK fd (.row l)
theorem onOwn_way (fd : FM) (f : Str) (rounds : List Int) : onOwn fd f rounds = decide (0 < (wayR fd (wayOf fd f) rounds).length) := by
  rw [wayR_ways]
  unfold onOwn waysF
  rw [List.filter_cons]
  cases e : hasK fd (.dfn f) with
  | true => rw [if_pos rfl]; rfl
  | false =>
    rw [if_neg Bool.false_ne_true, Bool.false_or]
    induction rounds with
    | nil => rfl
    | cons l r ih =>
      rw [List.any_cons, List.map_cons, List.filter_cons]
      cases e2 : hasK fd (.row l) with
      | true => rw [if_pos rfl]; rfl
      | false => rw [if_neg Bool.false_ne_true, Bool.false_or]; exact ih
/-! what each statement, by the marks told, makes own -/
def callKeys (pg : Pg) (fd : FM) (f x g : Str) (es : List Ex) (own : Bool) : List MK :=
  (if own = true then [.dfn g] else []) ++ (if (own || hasK fd (.back g)) = true then [.name f x] else []) ++ ((((paramsOf pg g).getD []).zip es).filter fun pe => isOwn fd f pe.2).map fun pe => .name g pe.1
def dueKeys (pg : Pg) (fd : FM) (f : Str) (r : Rd) : List MK :=
  match r.deed with
  | .set _ x e => if (onOwn fd f r.rounds || isOwn fd f e) = true then [.name f x] else []
  | .join _ x w _ => if (onOwn fd f r.rounds || decide (w = ("ahead" : Str))) = true then [.name f x] else []
  | .call _ x g es => callKeys pg fd f x g es (onOwn fd f r.rounds)
  | .if1 l e _ => if isOwn fd f e = true then [.row l] else []
  | .if2 l e _ _ => if isOwn fd f e = true then [.row l] else []
  | .whl l e _ => if isOwn fd f e = true then [.row l] else []
  | .brk _ => match r.loop with
    | some p => if onOwn fd f r.rounds = true then [.row p] else []
    | none => []
  | .agn _ => match r.loop with
    | some p => if onOwn fd f r.rounds = true then [.row p] else []
    | none => []
  | .ret _ e => (if onOwn fd f r.rounds = true then [.dfn f] else []) ++ (if isOwn fd f e = true then [.back f] else [])
  | _ => []
/-! a fixpoint is closed -/
theorem mark_fix {fd : FM} {k : MK} {l : Int} {y : Why} (h : mark fd k l y = fd) (hy : 0 < y.length) : hasK fd k = true := by
  cases y with
  | nil => cases hy
  | cons s t =>
    have h : (if hasK fd k = true then fd else fd ++ [(k, l, s)]) = fd := h
    split at h
    · assumption
    · have := congrArg List.length h
      rw [List.length_append] at this
      simp at this
theorem pre_fix {a b c : FM} (h1 : a <+: b) (h2 : b <+: c) (h : c = a) : b = a := by
  subst h
  exact (List.IsPrefix.eq_of_length_le h1 h2.length_le).symm
theorem fold_fix {α : Type} {f : FM → α → FM} (hf : ∀ fd x, fd <+: f fd x) : ∀ {xs : List α} {fd : FM}, xs.foldl f fd = fd → ∀ x ∈ xs, f fd x = fd
  | [], _, _, x, hx => by cases hx
  | y :: xs, fd, h, x, hx => by
    have hpre : ∀ (xs : List α) (fd : FM), fd <+: xs.foldl f fd := fun xs => by
      induction xs with
      | nil => intro fd; exact List.prefix_refl _
      | cons z zs ih => intro fd; exact (hf fd z).trans (ih _)
    rw [List.foldl_cons] at h
    have e : f fd y = fd := pre_fix (hf fd y) (hpre xs _) h
    rcases List.mem_cons.mp hx with rfl | hx
    · exact e
    · rw [e] at h; exact fold_fix hf h x hx
theorem once_def {pg : Pg} {fd : FM} (h : markOnce pg fd = fd) : ∀ o ∈ pg, markDef pg fd o = fd := fold_fix (def_pre pg) h
theorem def_by {pg : Pg} {fd : FM} {o : Df} (h : markDef pg fd o = fd) : (∀ s ∈ placedIn fd o, markBy pg fd o.name s = fd) ∧ mark fd (.back o.name) o.first (wayOf fd o.name) = fd := by
  unfold markDef at h
  dsimp only at h
  have e : (placedIn fd o).foldl (fun fd s => markBy pg fd o.name s) fd = fd := pre_fix (foldB_pre _ _) (mark_pre ..) h
  rw [e] at h
  exact ⟨fold_fix (fun fd x => by_pre pg fd o.name x) e, h⟩
theorem dueKeys_in {pg : Pg} {fd : FM} {f : Str} {r : Rd} (h : markBy pg fd f (r.spot fd (wayOf fd f)) = fd) : ∀ k ∈ dueKeys pg fd f r, hasK fd k = true := by
  have how := onOwn_way fd f r.rounds
  have hio := isOwn_causes fd f
  obtain ⟨s, rounds, loop⟩ := r
  unfold Rd.spot at h
  dsimp only at how h
  generalize wayR fd (wayOf fd f) rounds = y at how h
  have y0 : onOwn fd f rounds = true → 0 < y.length := fun z => by rw [how] at z; exact of_decide_eq_true z
  have c0 : ∀ e, isOwn fd f e = true → 0 < (causes fd f e).length := fun e z => by rw [hio] at z; exact of_decide_eq_true z
  have one : ∀ {l k lw}, mark fd k l lw = fd → 0 < lw.length → ∀ {b : Bool}, ∀ k' ∈ (if b = true then [k] else []), hasK fd k' = true := fun {l k lw} h1 h2 {b} k' hk => by
    split at hk
    · rw [List.mem_singleton.mp hk]; exact mark_fix h1 h2
    · cases hk
  intro k hk
  unfold dueKeys at hk
  cases s with
  | set l x e =>
    dsimp only at hk
    split at hk
    · rename_i hc
      rw [List.mem_singleton.mp hk]
      unfold markBy markGiven at h
      dsimp only at h
      have e1 : mark fd (.name f x) l y = fd := pre_fix (mark_pre ..) (mark_pre ..) h
      rw [e1] at h
      rcases Bool.or_eq_true_iff.mp hc with hc | hc
      · exact mark_fix e1 (y0 hc)
      · exact mark_fix h (c0 e hc)
    · cases hk
  | join l x z e =>
    dsimp only at hk
    split at hk
    · rename_i hc
      rw [List.mem_singleton.mp hk]
      unfold markBy markGiven at h
      dsimp only at h
      split at h
      · have e1 : mark fd (.name f x) l y = fd := pre_fix (mark_pre ..) (mark_pre ..) h
        rw [e1] at h
        exact mark_fix h (by simp)
      · rename_i hz
        rcases Bool.or_eq_true_iff.mp hc with hc | hc
        · exact mark_fix h (y0 hc)
        · exact absurd (of_decide_eq_true hc) hz
    · cases hk
  | call l x g es =>
    have hk : k ∈ callKeys pg fd f x g es (onOwn fd f rounds) := hk
    have h : markArgs f g l (mark (markGiven fd f y (.call l x g es)) (.dfn g) l y) ((paramsOf pg g).getD []) es = fd := h
    rw [markArgs_fold] at h
    have e1 : markGiven fd f y (.call l x g es) = fd := pre_fix (given_pre ..) ((mark_pre ..).trans (foldA_pre ..)) h
    rw [e1] at h
    have e2 : mark fd (.dfn g) l y = fd := pre_fix (mark_pre ..) (foldA_pre ..) h
    rw [e2] at h
    unfold callKeys at hk
    rcases List.mem_append.mp hk with hk | hk
    · rcases List.mem_append.mp hk with hk | hk
      · split at hk
        · rename_i hc; rw [List.mem_singleton.mp hk]; exact mark_fix e2 (y0 hc)
        · cases hk
      · split at hk
        · rename_i hc
          rw [List.mem_singleton.mp hk]
          unfold markGiven at e1
          dsimp only at e1
          have e3 : mark fd (.name f x) l y = fd := by
            split at e1
            · exact pre_fix (mark_pre ..) (mark_pre ..) e1
            · exact e1
          rw [e3] at e1
          rcases Bool.or_eq_true_iff.mp hc with hc | hc
          · exact mark_fix e3 (y0 hc)
          · rw [if_pos hc] at e1
            exact mark_fix e1 (by simp)
        · cases hk
    · obtain ⟨pe, hpe, rfl⟩ := List.mem_map.mp hk
      obtain ⟨hp1, hp2⟩ := List.mem_filter.mp hpe
      have := fold_fix (f := markArg f g l) (fun fd x => mark_pre ..) h pe hp1
      exact mark_fix this (c0 _ hp2)
  | if1 l e b =>
    dsimp only at hk
    split at hk
    · rename_i hc; rw [List.mem_singleton.mp hk]; exact mark_fix (l := l) h (c0 e hc)
    · cases hk
  | if2 l e b c =>
    dsimp only at hk
    split at hk
    · rename_i hc; rw [List.mem_singleton.mp hk]; exact mark_fix (l := l) h (c0 e hc)
    · cases hk
  | whl l e b =>
    dsimp only at hk
    split at hk
    · rename_i hc; rw [List.mem_singleton.mp hk]; exact mark_fix (l := l) h (c0 e hc)
    · cases hk
  | brk l =>
    cases loop with
    | none => cases hk
    | some p =>
      dsimp only at hk
      split at hk
      · rename_i hc; rw [List.mem_singleton.mp hk]; exact mark_fix (l := l) h (y0 hc)
      · cases hk
  | agn l =>
    cases loop with
    | none => cases hk
    | some p =>
      dsimp only at hk
      split at hk
      · rename_i hc; rw [List.mem_singleton.mp hk]; exact mark_fix (l := l) h (y0 hc)
      · cases hk
  | ret l e =>
    have h : mark (mark fd (.dfn f) l y) (.back f) l (causes (mark fd (.dfn f) l y) f e) = fd := h
    have e1 : mark fd (.dfn f) l y = fd := pre_fix (mark_pre ..) (mark_pre ..) h
    rw [e1] at h
    rcases List.mem_append.mp hk with hk | hk
    · split at hk
      · rename_i hc; rw [List.mem_singleton.mp hk]; exact mark_fix e1 (y0 hc)
      · cases hk
    · split at hk
      · rename_i hc; rw [List.mem_singleton.mp hk]; exact mark_fix h (c0 e hc)
      · cases hk
  | _ => cases hk
theorem marks_closed {pg : Pg} {fd : FM} (h : markOnce pg fd = fd) {o : Df} (ho : o ∈ pg) : (∀ r ∈ rsB [] none o.body, ∀ k ∈ dueKeys pg fd o.name r, hasK fd k = true) ∧ (hasK fd (.dfn o.name) = true → hasK fd (.back o.name) = true) := by
  obtain ⟨h1, h2⟩ := def_by (once_def h o ho)
  refine ⟨fun r hr => dueKeys_in (h1 _ ?_), fun hd => mark_fix h2 ?_⟩
  · rw [placedIn_rs]
    exact List.mem_map.mpr ⟨r, hr, rfl⟩
  · unfold wayOf; rw [if_pos hd]; exact Nat.succ_pos _
end Tl

namespace Tl
open PySem PySem.Spec PyProof.Rows L2

/-! ### list(d), d a dict by tuples or by plain keys -/
theorem Rel.freezeT {K : PySem.W.Frag} {G F H : Hp} {M : MH} (R : Rel K G F H M) {b : Addr} {vs : List V} (h : H b = some (.tup vs)) : ∃ F', Same F F' ∧ Rel K G F' H M ∧ F' b = some (.tup vs) := by
  cases e : F b with
  | some o =>
    have := R.sub b o e
    rw [h] at this
    cases this
    exact ⟨F, Same.refl _, R, e⟩
  | none =>
    have s : Same F (upd F b (.tup vs)) := same_upd e
    refine ⟨upd F b (.tup vs), s, ⟨fun c x q => ?_, fun a m q => ?_, fun a x q => ?_, R.hidt⟩, upd_same⟩
    · by_cases hc : c = b
      · subst hc; rw [upd_same] at q; rw [h]; exact q
      · rw [upd_ne hc] at q; exact R.sub _ _ q
    · obtain ⟨f, u, hu, r⟩ := R.chg a m q
      have hab : a ≠ b := fun z => by
        rw [z, h] at hu
        cases hu
        cases m <;> exact (r : False)
      exact ⟨by rw [upd_ne hab]; exact f, u, hu, r.mono s⟩
    · obtain ⟨g1, g2, g3⟩ := R.hid a x q
      have hab : a ≠ b := fun z => by
        rw [z, h] at g1
        cases g1
        rw [z] at q
        exact R.hidt b vs q
      exact ⟨g1, by rw [upd_ne hab]; exact g2, g3⟩
theorem rp_kV {K : PySem.W.Frag} {F : Hp} (k : Key) : Rp K F (kV k) (kD k) := by cases k <;> constructor
theorem rps_kV {K : PySem.W.Frag} {F : Hp} : ∀ ks : List Key, Rps K F (ks.map kV) (ks.map kD)
  | [] => .nil
  | k :: ks => .cons (rp_kV k) (rps_kV ks)
def keyD (k : List Key) : D := .tup (k.map kD)
theorem keys_freeze {K : PySem.W.Frag} {G H : Hp} {M : MH} : ∀ {kvs : List (List Key × V)} {bs : List Addr} {F : Hp}, IsKeys H kvs bs → Rel K G F H M → ∃ F', Same F F' ∧ Rel K G F' H M ∧ Rps K F' (bs.map V.ref) (kvs.map fun kv => keyD kv.1)
  | [], [], F, _, R => ⟨F, Same.refl _, R, .nil⟩
  | kv :: kvs, b :: bs, F, .cons h t, R => by
    obtain ⟨F1, s1, R1, e1⟩ := R.freezeT h
    obtain ⟨F2, s2, R2, r2⟩ := keys_freeze (kvs := kvs) (bs := bs) t R1
    exact ⟨F2, s1.trans s2, R2, .cons (.tup (s2 _ _ e1) (rps_kV kv.1)) r2⟩
def cListT : RLt := fun ds M Q => match ds with
  | [.ref a] => match M a with
    | some (.dT kvs) => Q (.lst (kvs.map fun kv => keyD kv.1)) M
    | some (.dK kvs) => Q (.lst (kvs.map fun kv => kD kv.1)) M
    | _ => False
  | _ => False
theorem rps_kD {K : PySem.W.Frag} {F : Hp} : ∀ (ks : List (Key × V)), Rps K F (ks.map fun kv => kV kv.1) (ks.map fun kv => kD kv.1)
  | [] => .nil
  | k :: ks => .cons (rp_kV k.1) (rps_kD ks)
theorem cq_listT {X : Cx} (hc : X.calm = true) : CallQ X (.type "list") cListT := by
  intro pins s σ H xs us Q I r h
  obtain ⟨G, F, M, ds, Qt, R, rp, h, k⟩ := h
  match ds, rp, h with
  | [.ref a], .cons (.ref _) .nil, h =>
    have h : (match M a with
      | some (.dT kvs) => Qt (.lst (kvs.map fun kv => keyD kv.1)) M
      | some (.dK kvs) => Qt (.lst (kvs.map fun kv => kD kv.1)) M
      | _ => False) := h
    cases e : M a with
    | none => rw [e] at h; exact h.elim
    | some mo =>
      obtain ⟨_, u, hu, rr⟩ := R.chg a mo e
      rw [e] at h
      cases mo with
      | dT kvs =>
        cases u with
        | dT vs =>
          have hk : (vs.map fun kv => keyD kv.1) = kvs.map fun kv => keyD kv.1 := by
            have := kp_keys (show KP X.K F vs kvs from rr)
            have := congrArg (List.map keyD) this
            rw [List.map_map, List.map_map] at this
            exact this
          refine call_list_dT hc pins s σ H _ us Q I r ⟨a, vs, rfl, .inl hu, fun p bs np ik => ?_⟩
          obtain ⟨F1, s1, R1, r1⟩ := keys_freeze ik R
          rw [hk] at r1
          obtain ⟨s2, R2⟩ := R1.newF (o := .lst (bs.map V.ref)) np
          exact k _ _ _ M _ (s1.trans s2) R2 (.lst upd_same (r1.mono s2)) h
        | _ => exact (rr : False).elim
      | dK kvs =>
        cases u with
        | dK vs =>
          have hk : (vs.map fun kv => kD kv.1) = kvs.map fun kv => kD kv.1 := by
            have := kp_keys (show KP X.K F vs kvs from rr)
            have := congrArg (List.map kD) this
            rw [List.map_map, List.map_map] at this
            exact this
          refine call_listD hc pins s σ H _ us Q I r ⟨a, vs, rfl, .inl hu, fun p np => ?_⟩
          obtain ⟨s2, R2⟩ := R.newF (o := .lst (vs.map fun kv => kV kv.1)) np
          refine k _ _ _ M _ s2 R2 (.lst upd_same ?_) h
          rw [← hk]
          exact rps_kD vs
        | _ => exact (rr : False).elim
      | _ => exact h.elim
theorem listT_T {M : MH} {a : Addr} {kvs : List (List Key × D)} {Q : VD} (h : M a = some (.dT kvs)) (q : Q (.lst (kvs.map fun kv => keyD kv.1)) M) : cListT [.ref a] M Q := by
  show (match M a with
      | some (.dT kvs) => Q (.lst (kvs.map fun kv => keyD kv.1)) M
      | some (.dK kvs) => Q (.lst (kvs.map fun kv => kD kv.1)) M
      | _ => False)
  rw [h]; exact q
theorem mk_keyD (k : MK) : keyD k.k = k.d := by cases k <;> rfl
theorem fm_keys (fd : FM) : ((fmD fd).map fun kv => keyD kv.1) = (fd.map (·.1)).map MK.d := by
  unfold fmD
  rw [List.map_map, List.map_map]
  apply List.map_congr_left
  intro p _
  exact mk_keyD p.1
/-! ### {"x": e} -/
def tDisp1 (k : Str) (t : TEt) : TEt := fun τ M Q => t τ M fun v M1 => ∀ p, M1 p = none → Q (.ref p) (mup M1 p (.dK [(.inr k, v)]))
theorem q_disp1 {X : Cx} {E : XK} {Et : XT} {e : Expr} {t : TEt} {k : Str} {j : Nat} {p1 pos : Pos} (he : QE X E0 Et0 e t) : QE X E Et (.Dict [some (.Constant (.str k) j p1)] [e] pos) (tDisp1 k t) := by
  have h1 : PPs X pos [some (.Constant (.str k) j p1)] [e] [(tC (.str k), liftE X.K E0 Et0 t)] := pps_cons pe_str he pps_nil
  refine PEimp (pe_disp h1 rfl rfl (by simp) (by simp)) ?_
  rintro σ H Q ⟨G, F, M, τ, Qt, a, h, k'⟩ p np
  have hG : G p = none := a.rel.freeG np
  have R1 := a.rel.newG (u := .dK []) np
  refine ⟨upd G p (.dK []), F, M, τ, _, ⟨R1, a.sg, .never⟩, h, fun v F1 H1 M1 d s1 r1 p1 q1 => ?_⟩
  obtain ⟨g1, g2, g3⟩ := r1.hid p _ upd_same
  refine ⟨g1, [(.inr k, v)], rfl, by simp, ?_⟩
  have R2 : Rel X.K (upd G p (.dK [(.inr k, v)])) F1 (upd H1 p (.dK [(.inr k, v)])) M1 := r1.putG
  exact k' _ F1 _ _ _ s1 (R2.showM (u := .dK [(.inr k, v)]) (o := .dK [(.inr k, d)]) hG (show Paired (fun (p : Key × V) (q : Key × D) => p.1 = q.1 ∧ Rp X.K F1 p.2 q.2) [(.inr k, v)] [(.inr k, d)] from .cons ⟨rfl, p1⟩ .nil)) (.ref p) (q1 p g3)
end Tl

namespace Tl
open PySem PySem.Spec PyProof.Rows L2

/-! ### other names -/
def rnE (ρ : Str → Str) : Ex → Ex
  | .nam x => .nam (ρ x)
  | .box e => .box (rnE ρ e)
  | .op w a b => .op w (rnE ρ a) (rnE ρ b)
  | .num i => .num i | .lane => .lane | .lanes => .lanes | .mine => .mine
mutual
def rnS (ρ : Str → Str) : Sm → Sm
  | .set l x e => .set l (ρ x) (rnE ρ e)
  | .put l a b => .put l (rnE ρ a) (rnE ρ b)
  | .tell l e => .tell l (rnE ρ e)
  | .ret l e => .ret l (rnE ρ e)
  | .stop l => .stop l | .brk l => .brk l | .agn l => .agn l | .meet l => .meet l
  | .join l x w e => .join l (ρ x) w (rnE ρ e)
  | .call l x f es => .call l (ρ x) (ρ f) (es.map (rnE ρ))
  | .if1 l e b => .if1 l (rnE ρ e) (rnB ρ b)
  | .if2 l e b c => .if2 l (rnE ρ e) (rnB ρ b) (rnB ρ c)
  | .whl l e b => .whl l (rnE ρ e) (rnB ρ b)
def rnB (ρ : Str → Str) : List Sm → List Sm
  | [] => []
  | s :: t => rnS ρ s :: rnB ρ t
end
theorem rnB_map (ρ : Str → Str) : ∀ b, rnB ρ b = b.map (rnS ρ)
  | [] => by unfold rnB; rfl
  | s :: t => by unfold rnB; rw [rnB_map ρ t]; rfl
theorem rnB_app (ρ : Str → Str) (a b : List Sm) : rnB ρ (a ++ b) = rnB ρ a ++ rnB ρ b := by rw [rnB_map, rnB_map, rnB_map, List.map_append]
def rnDf (ρ : Str → Str) (o : Df) : Df := ⟨ρ o.name, o.ps.map ρ, rnB ρ o.body, o.first, o.last⟩
def rnP (ρ : Str → Str) (pg : Pg) : Pg := pg.map (rnDf ρ)
def rnK (ρ : Str → Str) : MK → MK
  | .name f x => .name (ρ f) (ρ x) | .row l => .row l | .dfn f => .dfn (ρ f) | .back f => .back (ρ f)
abbrev rnO (ρ : Str → Str) (o : Option MK) : Option MK := o.map (rnK ρ)
def rnW (ρ : Str → Str) (y : Why) : Why := y.map (rnO ρ)
def rnF (ρ : Str → Str) (fd : FM) : FM := fd.map fun p => (rnK ρ p.1, p.2.1, rnO ρ p.2.2)
def rnSp (ρ : Str → Str) (s : Spot) : Spot := ⟨rnS ρ s.deed, rnW ρ s.way, s.loop⟩
section
variable {ρ : Str → Str} (inj : ∀ a b, ρ a = ρ b → a = b)
include inj
theorem rnK_inj {a b : MK} (h : rnK ρ a = rnK ρ b) : a = b := by
  cases a <;> cases b <;> simp only [rnK, MK.name.injEq, MK.row.injEq, MK.dfn.injEq, MK.back.injEq, reduceCtorEq] at h <;> first | exact h.elim | (rw [h]) | (rw [inj _ _ h]) | (rw [inj _ _ h.1, inj _ _ h.2])
theorem hasK_rn (fd : FM) (k : MK) : hasK (rnF ρ fd) (rnK ρ k) = hasK fd k := by
  unfold hasK rnF
  rw [List.any_map]
  congr 1
  funext p
  show decide (rnK ρ p.1 = rnK ρ k) = decide (p.1 = k)
  exact decide_eq_decide.mpr ⟨fun h => rnK_inj inj h, fun h => by rw [h]⟩
theorem hasK_name (fd : FM) (f x : Str) : hasK (rnF ρ fd) (.name (ρ f) (ρ x)) = hasK fd (.name f x) := hasK_rn inj fd (.name f x)
theorem hasK_row (fd : FM) (l : Int) : hasK (rnF ρ fd) (.row l) = hasK fd (.row l) := hasK_rn inj fd (.row l)
theorem hasK_dfn (fd : FM) (f : Str) : hasK (rnF ρ fd) (.dfn (ρ f)) = hasK fd (.dfn f) := hasK_rn inj fd (.dfn f)
theorem hasK_back (fd : FM) (f : Str) : hasK (rnF ρ fd) (.back (ρ f)) = hasK fd (.back f) := hasK_rn inj fd (.back f)
theorem causes_rn (fd : FM) (f : Str) : ∀ e, causes (rnF ρ fd) (ρ f) (rnE ρ e) = rnW ρ (causes fd f e)
  | .num _ => rfl
  | .lane => rfl
  | .lanes => rfl
  | .mine => rfl
  | .nam x => by
    unfold rnE causes
    rw [hasK_name inj]
    split <;> rfl
  | .box e => by unfold rnE causes; exact causes_rn fd f e
  | .op w a b => by
    unfold rnE causes
    rw [causes_rn fd f a, causes_rn fd f b]
    have : (rnW ρ (causes fd f a)).length = (causes fd f a).length := List.length_map ..
    rw [this]
    split <;> rfl
theorem mark_rn (fd : FM) (k : MK) (l : Int) (y : Why) : mark (rnF ρ fd) (rnK ρ k) l (rnW ρ y) = rnF ρ (mark fd k l y) := by
  cases y with
  | nil => rfl
  | cons s t =>
    show (if hasK (rnF ρ fd) (rnK ρ k) = true then rnF ρ fd else rnF ρ fd ++ [(rnK ρ k, l, rnO ρ s)]) = rnF ρ (if hasK fd k = true then fd else fd ++ [(k, l, s)])
    rw [hasK_rn inj]
    split
    · rfl
    · unfold rnF; rw [List.map_append]; rfl
theorem wayOf_rn (fd : FM) (f : Str) : wayOf (rnF ρ fd) (ρ f) = rnW ρ (wayOf fd f) := by
  unfold wayOf
  rw [hasK_dfn inj]
  split <;> rfl
theorem wayIn_rn (fd : FM) (y : Why) (l : Int) : wayIn (rnF ρ fd) (rnW ρ y) l = rnW ρ (wayIn fd y l) := by
  unfold wayIn
  rw [hasK_row inj, show (rnW ρ y).length = y.length from List.length_map ..]
  split <;> rfl
mutual
theorem plS_rn (fd : FM) : ∀ (y : Why) (loop : Option Int) (s : Sm), plS (rnF ρ fd) (rnW ρ y) loop (rnS ρ s) = (plS fd y loop s).map (rnSp ρ)
  | y, loop, .if1 l e b => by rw [rnS, plS, plS, wayIn_rn inj, plcd_rn fd _ _ b, List.map_cons]; unfold rnSp; rw [rnS]
  | y, loop, .if2 l e b c => by rw [rnS, plS, plS, wayIn_rn inj, plcd_rn fd _ _ b, plcd_rn fd _ _ c, List.map_cons, List.map_append]; unfold rnSp; rw [rnS]
  | y, loop, .whl l e b => by rw [rnS, plS, plS, wayIn_rn inj, plcd_rn fd _ _ b, List.map_cons]; unfold rnSp; rw [rnS]
  | y, loop, .set .. => by unfold rnS plS rnSp; rfl
  | y, loop, .put .. => by unfold rnS plS rnSp; rfl
  | y, loop, .tell .. => by unfold rnS plS rnSp; rfl
  | y, loop, .ret .. => by unfold rnS plS rnSp; rfl
  | y, loop, .stop .. => by unfold rnS plS rnSp; rfl
  | y, loop, .brk .. => by unfold rnS plS rnSp; rfl
  | y, loop, .agn .. => by unfold rnS plS rnSp; rfl
  | y, loop, .meet .. => by unfold rnS plS rnSp; rfl
  | y, loop, .join .. => by unfold rnS plS rnSp; rfl
  | y, loop, .call .. => by unfold rnS plS rnSp; rfl
theorem plcd_rn (fd : FM) : ∀ (y : Why) (loop : Option Int) (b : List Sm), plcd (rnF ρ fd) (rnW ρ y) loop (rnB ρ b) = (plcd fd y loop b).map (rnSp ρ)
  | y, loop, [] => by rw [rnB, plcd, plcd]; rfl
  | y, loop, s :: t => by rw [rnB, plcd, plcd, plS_rn fd _ _ s, plcd_rn fd _ _ t, List.map_append]
end
theorem given_rn (fd : FM) (f : Str) (y : Why) (s : Sm) : markGiven (rnF ρ fd) (ρ f) (rnW ρ y) (rnS ρ s) = rnF ρ (markGiven fd f y s) := by
  cases s with
  | set l x e =>
    unfold rnS markGiven
    dsimp only
    have e1 := mark_rn inj fd (.name f x) l y
    rw [show mark (rnF ρ fd) (.name (ρ f) (ρ x)) l (rnW ρ y) = _ from e1, causes_rn inj]
    exact mark_rn inj _ (.name f x) l _
  | call l x g es =>
    unfold rnS markGiven
    dsimp only
    have e1 := mark_rn inj fd (.name f x) l y
    rw [show mark (rnF ρ fd) (.name (ρ f) (ρ x)) l (rnW ρ y) = _ from e1, hasK_back inj]
    split
    · exact mark_rn inj _ (.name f x) l [some (.back g)]
    · rfl
  | join l x w e =>
    unfold rnS markGiven
    dsimp only
    have e1 := mark_rn inj fd (.name f x) l y
    rw [show mark (rnF ρ fd) (.name (ρ f) (ρ x)) l (rnW ρ y) = _ from e1]
    split
    · exact mark_rn inj _ (.name f x) l [none]
    · rfl
  | _ => unfold rnS markGiven; rfl
theorem params_rn (pg : Pg) (g : Str) : paramsOf (rnP ρ pg) (ρ g) = (paramsOf pg g).map (List.map ρ) := by
  unfold paramsOf rnP
  rw [← List.map_reverse, List.find?_map]
  have : ((fun o : Df => decide (o.name = ρ g)) ∘ rnDf ρ) = fun o : Df => decide (o.name = g) := by
    funext o
    show decide (ρ o.name = ρ g) = decide (o.name = g)
    exact decide_eq_decide.mpr ⟨fun h => inj _ _ h, fun h => by rw [h]⟩
  rw [this]
  cases pg.reverse.find? fun o => decide (o.name = g) <;> rfl
theorem args_rn (f g : Str) (l : Int) : ∀ (fd : FM) (ps : List Str) (es : List Ex), markArgs (ρ f) (ρ g) l (rnF ρ fd) (ps.map ρ) (es.map (rnE ρ)) = rnF ρ (markArgs f g l fd ps es)
  | fd, [], es => by unfold markArgs; rfl
  | fd, p :: ps, [] => by unfold markArgs; rfl
  | fd, p :: ps, e :: es => by
    rw [List.map_cons, List.map_cons, markArgs, markArgs, causes_rn inj]
    rw [show mark (rnF ρ fd) (.name (ρ g) (ρ p)) l (rnW ρ (causes fd f e)) = _ from mark_rn inj fd (.name g p) l _]
    exact args_rn f g l _ ps es
theorem by_rn (pg : Pg) (fd : FM) (f : Str) (s : Spot) : markBy (rnP ρ pg) (rnF ρ fd) (ρ f) (rnSp ρ s) = rnF ρ (markBy pg fd f s) := by
  obtain ⟨s, y, loop⟩ := s
  have hg := given_rn inj fd f y s
  have row : ∀ (fd1 : FM) (p l : Int) (e : Ex), mark (rnF ρ fd1) (.row p) l (causes (rnF ρ fd1) (ρ f) (rnE ρ e)) = rnF ρ (mark fd1 (.row p) l (causes fd1 f e)) := fun fd1 p l e => by
    rw [causes_rn inj]; exact mark_rn inj fd1 (.row p) l _
  cases s with
  | call l x g es =>
    show markArgs (ρ f) (ρ g) l (mark (markGiven (rnF ρ fd) (ρ f) (rnW ρ y) (rnS ρ (.call l x g es))) (.dfn (ρ g)) l (rnW ρ y)) ((paramsOf (rnP ρ pg) (ρ g)).getD []) (es.map (rnE ρ)) = _
    rw [hg, params_rn inj, show mark (rnF ρ (markGiven fd f y (.call l x g es))) (.dfn (ρ g)) l (rnW ρ y) = _ from mark_rn inj _ (.dfn g) l y]
    have : ((paramsOf pg g).map (List.map ρ)).getD [] = ((paramsOf pg g).getD []).map ρ := by cases paramsOf pg g <;> rfl
    rw [this]
    exact args_rn inj f g l _ _ es
  | if1 l e b =>
    show mark (markGiven (rnF ρ fd) (ρ f) (rnW ρ y) (rnS ρ (.if1 l e b))) (.row l) l (causes (markGiven (rnF ρ fd) (ρ f) (rnW ρ y) (rnS ρ (.if1 l e b))) (ρ f) (rnE ρ e)) = _
    rw [hg]; exact row _ _ _ _
  | if2 l e b c =>
    show mark (markGiven (rnF ρ fd) (ρ f) (rnW ρ y) (rnS ρ (.if2 l e b c))) (.row l) l (causes (markGiven (rnF ρ fd) (ρ f) (rnW ρ y) (rnS ρ (.if2 l e b c))) (ρ f) (rnE ρ e)) = _
    rw [hg]; exact row _ _ _ _
  | whl l e b =>
    show mark (markGiven (rnF ρ fd) (ρ f) (rnW ρ y) (rnS ρ (.whl l e b))) (.row l) l (causes (markGiven (rnF ρ fd) (ρ f) (rnW ρ y) (rnS ρ (.whl l e b))) (ρ f) (rnE ρ e)) = _
    rw [hg]; exact row _ _ _ _
  | brk l => cases loop with
    | none => rfl
    | some p => exact mark_rn inj fd (.row p) l y
  | agn l => cases loop with
    | none => rfl
    | some p => exact mark_rn inj fd (.row p) l y
  | ret l e =>
    show mark (mark (rnF ρ fd) (.dfn (ρ f)) l (rnW ρ y)) (.back (ρ f)) l (causes (mark (rnF ρ fd) (.dfn (ρ f)) l (rnW ρ y)) (ρ f) (rnE ρ e)) = _
    rw [show mark (rnF ρ fd) (.dfn (ρ f)) l (rnW ρ y) = _ from mark_rn inj fd (.dfn f) l y, causes_rn inj]
    exact mark_rn inj _ (.back f) l _
  | set l x e => exact hg
  | join l x w e => exact hg
  | put l a b => rfl
  | tell l e => rfl
  | stop l => rfl
  | meet l => rfl
theorem placedIn_rn (fd : FM) (o : Df) : placedIn (rnF ρ fd) (rnDf ρ o) = (placedIn fd o).map (rnSp ρ) := by
  unfold placedIn rnDf
  dsimp only
  rw [wayOf_rn inj]
  exact plcd_rn inj fd _ _ _
theorem foldB_rn (pg : Pg) (f : Str) : ∀ (ss : List Spot) (fd : FM), (ss.map (rnSp ρ)).foldl (fun fd s => markBy (rnP ρ pg) fd (ρ f) s) (rnF ρ fd) = rnF ρ (ss.foldl (fun fd s => markBy pg fd f s) fd)
  | [], fd => rfl
  | s :: ss, fd => by
    rw [List.map_cons, List.foldl_cons, List.foldl_cons, by_rn inj]
    exact foldB_rn pg f ss _
theorem def_rn (pg : Pg) (fd : FM) (o : Df) : markDef (rnP ρ pg) (rnF ρ fd) (rnDf ρ o) = rnF ρ (markDef pg fd o) := by
  unfold markDef
  dsimp only
  rw [placedIn_rn inj, show (rnDf ρ o).name = ρ o.name from rfl, foldB_rn inj, wayOf_rn inj]
  exact mark_rn inj _ (.back o.name) _ _
theorem once_rn (pg : Pg) (fd : FM) : markOnce (rnP ρ pg) (rnF ρ fd) = rnF ρ (markOnce pg fd) := by
  unfold markOnce
  have : ∀ (os : Pg) (fd : FM), (os.map (rnDf ρ)).foldl (markDef (rnP ρ pg)) (rnF ρ fd) = rnF ρ (os.foldl (markDef pg) fd) := fun os => by
    induction os with
    | nil => intro fd; rfl
    | cons o os ih =>
      intro fd
      rw [List.map_cons, List.foldl_cons, List.foldl_cons, def_rn inj]
      exact ih _
  exact this pg fd
theorem at_rn (pg : Pg) : ∀ n, marksAt (rnP ρ pg) n = rnF ρ (marksAt pg n)
  | 0 => rfl
  | n + 1 => by
    show markOnce (rnP ρ pg) (marksAt (rnP ρ pg) n) = rnF ρ (markOnce pg (marksAt pg n))
    rw [at_rn pg n, once_rn inj]
theorem marks_rn (pg : Pg) : marksOf (rnP ρ pg) = rnF ρ (marksOf pg) := by
  have h : marksAt (rnP ρ pg) ((allKeys pg).length + 1 + 1) = marksAt (rnP ρ pg) ((allKeys pg).length + 1) := by
    rw [at_rn inj, at_rn inj]
    exact congrArg (rnF ρ) (marks_fix pg)
  rw [← marks_at h, at_rn inj]
  rfl
theorem wStep_rn (s : Spot) : wStep (rnSp ρ s) = (wStep s).map fun p => (p.1, rnO ρ p.2) := by
  obtain ⟨s, y, loop⟩ := s
  cases s <;> cases y <;> (unfold rnSp rnS wStep rnW; rfl)
theorem wList_rn (fd : FM) (pg : Pg) : (wList (rnF ρ fd) (rnP ρ pg)).map (·.1) = (wList fd pg).map (·.1) := by
  unfold wList rnP
  rw [List.map_flatten, List.map_flatten, List.map_map, List.map_map, List.map_map]
  congr 1
  apply List.map_congr_left
  intro o _
  show ((placedIn (rnF ρ fd) (rnDf ρ o)).filterMap wStep).map _ = _
  rw [placedIn_rn inj, List.filterMap_map, show wStep ∘ rnSp ρ = fun s => (wStep s).map fun p => (p.1, rnO ρ p.2) from funext fun s => wStep_rn inj s]
  rw [List.map_filterMap]
  show _ = ((placedIn fd o).filterMap wStep).map _
  rw [List.map_filterMap]
  congr 1
  funext s
  cases wStep s <;> rfl
end
end Tl

namespace Tl
open PySem PySem.Spec PyProof.Rows L2

/-! ### the builder with other names -/
theorem getD_map {α β : Type} (f : α → β) {xs : List α} {n : Nat} (d : α) (d' : β) (h : n < xs.length) : (xs.map f).getD n d' = f (xs.getD n d) := by
  rw [List.getD_eq_getElem?_getD, List.getD_eq_getElem?_getD, List.getElem?_map, List.getElem?_eq_getElem h]; rfl
def rnOd (ρ : Str → Str) : Od → Od
  | .set x e => .set (ρ x) (rnE ρ e) | .ifo e => .ifo (rnE ρ e) | .whl e => .whl (rnE ρ e) | .tell e => .tell (rnE ρ e) | .ret e => .ret (rnE ρ e) | .put a b => .put (rnE ρ a) (rnE ρ b)
  | .join x w e => .join (ρ x) w (rnE ρ e) | .call x f es => .call (ρ x) (ρ f) (es.map (rnE ρ)) | .fin => .fin | .els => .els | .brk => .brk | .agn => .agn | .meet => .meet | .stop => .stop
def rnX (ρ : Str → Str) (s : Ex × Int) : Ex × Int := (rnE ρ s.1, s.2)
section
variable {ρ : Str → Str} {xs : List Str} (hx : xs.length = 6)
include hx
theorem leaf_rn (own i : Int) : leafF own (xs.map ρ) i = rnX ρ (leafF own xs i) := by
  have b6 := modB (a := i / 24) (b := 6) (by decide)
  unfold leafF rnX
  split
  · dsimp only; split <;> rfl
  · split
    · rw [getD_map ρ "" "" (by omega)]; rfl
    · split <;> rfl
theorem beside_rn (own i : Int) : besideF own (xs.map ρ) i = rnX ρ (besideF own xs i) := by
  unfold besideF
  dsimp only
  rw [leaf_rn hx own (i / 5)]
  rw [show (rnX ρ (leafF own xs (i / 5))).2 = (leafF own xs (i / 5)).2 from rfl, leaf_rn hx own]
  split
  · rfl
  · split <;> rfl
theorem exprStep_rn (own i : Int) (s : Ex × Int) (k : Nat) : exprStep own (xs.map ρ) i (rnX ρ s) k = rnX ρ (exprStep own xs i s k) := by
  unfold exprStep
  dsimp only
  rw [show (rnX ρ s).2 = s.2 from rfl, leaf_rn hx, beside_rn hx]
  split
  · rfl
  · have e : (if deepF (i % 7) = 6 ∧ k = 0 then rnX ρ (leafF own xs (refill i s.2 k / 4)) else rnX ρ (besideF own xs (refill i s.2 k / 4))) = rnX ρ (if deepF (i % 7) = 6 ∧ k = 0 then leafF own xs (refill i s.2 k / 4) else besideF own xs (refill i s.2 k / 4)) := by split <;> rfl
    rw [e]
    generalize (if deepF (i % 7) = 6 ∧ k = 0 then leafF own xs (refill i s.2 k / 4) else besideF own xs (refill i s.2 k / 4)) = b
    unfold rnX
    dsimp only
    split <;> rfl
theorem exprS_rn (own i : Int) : ∀ n, exprS own (xs.map ρ) i n = rnX ρ (exprS own xs i n)
  | 0 => leaf_rn hx own _
  | n + 1 => by
    rw [show exprS own (xs.map ρ) i (n + 1) = exprStep own (xs.map ρ) i (exprS own (xs.map ρ) i n) n from range_fold .., show exprS own xs i (n + 1) = exprStep own xs i (exprS own xs i n) n from range_fold .., exprS_rn own i n, exprStep_rn hx]
theorem expr_rn (own i : Int) : exprF own (xs.map ρ) i = rnE ρ (exprF own xs i) := by
  unfold exprF
  rw [exprS_rn hx]; rfl
theorem args_rnF (own r : Int) : ∀ n, argsF own (xs.map ρ) r n = ((argsF own xs r n).1.map (rnE ρ), (argsF own xs r n).2)
  | 0 => rfl
  | n + 1 => by
    rw [show argsF own (xs.map ρ) r (n + 1) = argStep own (xs.map ρ) (argsF own (xs.map ρ) r n) n from range_fold .., show argsF own xs r (n + 1) = argStep own xs (argsF own xs r n) n from range_fold .., args_rnF own r n]
    unfold argStep
    dsimp only
    rw [expr_rn hx, List.map_append]; rfl
end
def rnR (ρ : Str → Str) (r : Str × List Str) : Str × List Str := (ρ r.1, r.2.map ρ)
section
variable {ρ : Str → Str} (inj : ∀ a b, ρ a = ρ b → a = b) (hm : ρ "main" = "main")
include inj hm
theorem main_rn (x : Str) : (ρ x = "main") ↔ (x = "main") := ⟨fun h => inj _ _ (h.trans hm.symm), fun h => by rw [h, hm]⟩
theorem notMain_rn (r : Str × List Str) : notMain (rnR ρ r) = notMain r := by
  unfold notMain rnR
  exact decide_eq_decide.mpr (not_congr (main_rn inj hm r.1))
theorem call_rn {xs : List Str} (hx : xs.length = 6) (own : Int) (rs : Rm) (x : Str) (i : Int) : callF own (xs.map ρ) (rs.map (rnR ρ)) (ρ x) i = rnOd ρ (callF own xs rs x i) := by
  have hf : (rs.map (rnR ρ)).filter notMain = (rs.filter notMain).map (rnR ρ) := by
    rw [List.filter_map]
    congr 1
    congr 1
    funext r
    exact notMain_rn inj hm r
  unfold callF
  dsimp only
  rw [hf]
  generalize rs.filter notMain = os
  cases os with
  | nil => rw [List.map_nil, if_pos rfl, if_pos rfl, expr_rn hx]; rfl
  | cons o t =>
    rw [if_neg (by simp), if_neg (by simp), List.length_map]
    have bm := modB (a := i) (b := ((o :: t).length : Int)) (by rw [List.length_cons]; omega)
    rw [getD_map (rnR ρ) ("", []) ("", []) (by omega)]
    generalize (o :: t).getD (i % ((o :: t).length : Int)).toNat ("", []) = p
    unfold rnR rnOd
    dsimp only
    rw [List.length_map, args_rnF hx]
theorem op_rn {xs : List Str} (hx : xs.length = 6) (own : Int) (rs : Rm) (ws : List Str) (i : Int) : opF own (xs.map ρ) (rs.map (rnR ρ)) ws i = rnOd ρ (opF own xs rs ws i) := by
  have b6 := modB (a := i / 24) (b := 6) (by decide)
  unfold opF
  dsimp only
  rw [getD_map ρ "" "" (by omega), call_rn inj hm hx]
  simp only [expr_rn hx]
  split
  · rfl
  · split
    · split <;> rfl
    · split
      · split <;> rfl
      · split
        · split
          · rfl
          · split
            · rfl
            · split <;> rfl
        · split
          · split <;> rfl
          · split
            · rfl
            · split <;> rfl
end
/-! lines laid -/
def rnFp (ρ : Str → Str) (f : Fp) : Fp := ⟨f.wh, f.l, rnE ρ f.e, rnB ρ f.bs, f.els.map (rnB ρ)⟩
def rnLS (ρ : Str → Str) (s : LS) : LS := ⟨rnB ρ s.b0, s.stk.map (rnFp ρ), s.line⟩
section
variable {ρ : Str → Str}
theorem close_rn (f : Fp) : (rnFp ρ f).close = rnS ρ f.close := by
  obtain ⟨wh, l, e, bs, els⟩ := f
  cases wh <;> cases els <;> (unfold rnFp Fp.close; simp [rnS])
theorem addP_rn (s : Sm) (b0 : List Sm) (stk : List Fp) : addP (rnS ρ s) (rnB ρ b0) (stk.map (rnFp ρ)) = (rnB ρ (addP s b0 stk).1, (addP s b0 stk).2.map (rnFp ρ)) := by
  have one : ∀ b : List Sm, rnB ρ b ++ [rnS ρ s] = rnB ρ (b ++ [s]) := fun b => by rw [rnB_app, show rnB ρ [s] = [rnS ρ s] from by rw [rnB, show rnB ρ [] = [] from by unfold rnB; rfl]]
  cases stk with
  | nil => show (rnB ρ b0 ++ [rnS ρ s], _) = _; rw [one]; rfl
  | cons f r =>
    obtain ⟨wh, l, e, bs, els⟩ := f
    cases els with
    | none => show (rnB ρ b0, (⟨wh, l, rnE ρ e, rnB ρ bs ++ [rnS ρ s], none⟩ : Fp) :: r.map (rnFp ρ)) = _; rw [one]; rfl
    | some x => show (rnB ρ b0, (⟨wh, l, rnE ρ e, rnB ρ bs, some (rnB ρ x ++ [rnS ρ s])⟩ : Fp) :: r.map (rnFp ρ)) = _; rw [one]; rfl
theorem stand_rn (o : Od) (stk : List Fp) (main : Bool) : standF (rnOd ρ o) (stk.map (rnFp ρ)) main = standF o stk main := by
  have any : ∀ stk : List Fp, ((stk.map (rnFp ρ)).any fun f => f.wh) = stk.any fun f => f.wh := fun stk => by rw [List.any_map]; rfl
  cases o with
  | brk => exact any stk
  | agn => exact any stk
  | els => cases stk with
    | nil => rfl
    | cons f r =>
      obtain ⟨wh, l, e, bs, els⟩ := f
      cases els <;> rfl
  | fin => cases stk <;> rfl
  | ifo e => unfold standF rnOd; dsimp only; rw [List.length_map]
  | whl e => unfold standF rnOd; dsimp only; rw [List.length_map]
  | _ => rfl
theorem go_rn (s : LS) (o : Od) : laidGo (rnLS ρ s) (rnOd ρ o) = rnLS ρ (laidGo s o) := by
  obtain ⟨b0, stk, line⟩ := s
  have add : ∀ st : Sm, (⟨(addP (rnS ρ st) (rnB ρ b0) (stk.map (rnFp ρ))).1, (addP (rnS ρ st) (rnB ρ b0) (stk.map (rnFp ρ))).2, line + 1⟩ : LS) = rnLS ρ ⟨(addP st b0 stk).1, (addP st b0 stk).2, line + 1⟩ := fun st => by
    rw [addP_rn]; rfl
  cases o with
  | fin => cases stk with
    | nil => rfl
    | cons f r =>
      show (⟨(addP (rnFp ρ f).close (rnB ρ b0) (r.map (rnFp ρ))).1, (addP (rnFp ρ f).close (rnB ρ b0) (r.map (rnFp ρ))).2, line + 1⟩ : LS) = _
      rw [close_rn, addP_rn]; rfl
  | els => cases stk with
    | nil => rfl
    | cons f r =>
      show (⟨rnB ρ b0, { rnFp ρ f with els := some [] } :: r.map (rnFp ρ), line + 1⟩ : LS) = ⟨rnB ρ b0, rnFp ρ { f with els := some [] } :: r.map (rnFp ρ), line + 1⟩
      unfold rnFp
      dsimp only [Option.map_some]
      rw [show rnB ρ [] = [] from by unfold rnB; rfl]
  | ifo e => show (⟨rnB ρ b0, ⟨false, line + 1, rnE ρ e, [], none⟩ :: stk.map (rnFp ρ), line + 1⟩ : LS) = ⟨rnB ρ b0, ⟨false, line + 1, rnE ρ e, rnB ρ [], none⟩ :: stk.map (rnFp ρ), line + 1⟩; rw [show rnB ρ [] = [] from by unfold rnB; rfl]
  | whl e => show (⟨rnB ρ b0, ⟨true, line + 1, rnE ρ e, [], none⟩ :: stk.map (rnFp ρ), line + 1⟩ : LS) = ⟨rnB ρ b0, ⟨true, line + 1, rnE ρ e, rnB ρ [], none⟩ :: stk.map (rnFp ρ), line + 1⟩; rw [show rnB ρ [] = [] from by unfold rnB; rfl]
  | set x e => have := add (.set (line + 1) x e); unfold rnS at this; exact this
  | brk => have := add (.brk (line + 1)); unfold rnS at this; exact this
  | agn => have := add (.agn (line + 1)); unfold rnS at this; exact this
  | meet => have := add (.meet (line + 1)); unfold rnS at this; exact this
  | stop => have := add (.stop (line + 1)); unfold rnS at this; exact this
  | tell e => have := add (.tell (line + 1) e); unfold rnS at this; exact this
  | ret e => have := add (.ret (line + 1) e); unfold rnS at this; exact this
  | put a b => have := add (.put (line + 1) a b); unfold rnS at this; exact this
  | join x w e => have := add (.join (line + 1) x w e); unfold rnS at this; exact this
  | call x f es => have := add (.call (line + 1) x f es); unfold rnS at this; exact this
theorem step_rn (main : Bool) (s : LS) (o : Od) : laidStep main (rnLS ρ s) (rnOd ρ o) = rnLS ρ (laidStep main s o) := by
  unfold laidStep
  rw [show (rnLS ρ s).stk = s.stk.map (rnFp ρ) from rfl, stand_rn, go_rn]
  split <;> rfl
theorem laidS_rn (main : Bool) : ∀ (os : List Od) (s : LS), (os.map (rnOd ρ)).foldl (laidStep main) (rnLS ρ s) = rnLS ρ (os.foldl (laidStep main) s)
  | [], s => rfl
  | o :: os, s => by rw [List.map_cons, List.foldl_cons, List.foldl_cons, step_rn]; exact laidS_rn main os _
theorem laid_rn (main : Bool) (os : List Od) (l : Int) : laidF main (os.map (rnOd ρ)) l = (rnB ρ (laidF main os l).1, (laidF main os l).2) := by
  have h0 : (⟨[], [], l⟩ : LS) = rnLS ρ ⟨[], [], l⟩ := by unfold rnLS; rw [show rnB ρ [] = [] from by unfold rnB; rfl]; rfl
  have h1 : os.map (rnOd ρ) ++ List.replicate 5 .fin = (os ++ List.replicate 5 Od.fin).map (rnOd ρ) := by rw [List.map_append]; rfl
  have h2 : laidS main (os.map (rnOd ρ) ++ List.replicate 5 .fin) l = rnLS ρ (laidS main (os ++ List.replicate 5 .fin) l) := by
    unfold laidS
    rw [h0, h1, laidS_rn]
    congr 2
  unfold laidF
  rw [h2]; rfl
theorem ops_rn {opf opf' : Int → Od} (h : ∀ i, opf' i = rnOd ρ (opf i)) (m : Nat) (cs : List Int) : ∀ n, opsF opf' m cs n = (opsF opf m cs n).map (List.map (rnOd ρ))
  | 0 => by unfold opsF; simp
  | n + 1 => by
    rw [show opsF opf' m cs (n + 1) = opsStep opf' m cs (opsF opf' m cs n) n from range_fold .., show opsF opf m cs (n + 1) = opsStep opf m cs (opsF opf m cs n) n from range_fold .., ops_rn h m cs n]
    unfold opsStep
    rw [h]
    generalize (spreadF (cs.getD n 0) (n + 2) % (m : Int)).toNat = j
    generalize opf (spreadF (cs.getD n 0) (n + 2) / (m : Int)) = o
    apply List.ext_getElem?
    intro k
    rw [List.getElem?_modify, List.getElem?_map, List.getElem?_map, List.getElem?_modify]
    cases (opsF opf m cs n)[k]? with
    | none => rfl
    | some y =>
      show some (if j = k then y.map (rnOd ρ) ++ [rnOd ρ o] else y.map (rnOd ρ)) = some ((if j = k then y ++ [o] else y).map (rnOd ρ))
      split
      · rw [List.map_append]; rfl
      · rfl
theorem progS_rn (inj : ∀ a b, ρ a = ρ b → a = b) (hm : ρ "main" = "main") (oss : List (List Od)) (rs : Rm) (hl : oss.length = rs.length) : ∀ n, n ≤ rs.length → progS (oss.map (List.map (rnOd ρ))) (rs.map (rnR ρ)) n = (rnP ρ (progS oss rs n).1, (progS oss rs n).2)
  | 0, _ => rfl
  | n + 1, hn => by
    rw [show progS (oss.map (List.map (rnOd ρ))) (rs.map (rnR ρ)) (n + 1) = progStep (oss.map (List.map (rnOd ρ))) (rs.map (rnR ρ)) (progS (oss.map (List.map (rnOd ρ))) (rs.map (rnR ρ)) n) n from range_fold .., show progS oss rs (n + 1) = progStep oss rs (progS oss rs n) n from range_fold .., progS_rn inj hm oss rs hl n (by omega)]
    generalize progS oss rs n = s
    obtain ⟨pg, line⟩ := s
    unfold progStep
    dsimp only
    rw [getD_map (rnR ρ) ("", []) ("", []) (by omega), getD_map (List.map (rnOd ρ)) [] [] (by omega)]
    generalize rs.getD n ("", []) = r
    generalize oss.getD n [] = os
    have e : isMain (rnR ρ r).1 = isMain r.1 := decide_eq_decide.mpr (main_rn inj hm r.1)
    rw [e, laid_rn]
    unfold rnP
    rw [List.map_append]; rfl
theorem rooms_rn (hm : ρ "main" = "main") (h : Int) {xs vs : List Str} (hx : xs.length = 6) (hv : vs.length = 6) : roomsF h (xs.map ρ) (vs.map ρ) = (roomsF h xs vs).map (rnR ρ) := by
  have hmn := many_ok h
  unfold roomsF
  rw [List.map_set, List.map_map]
  have e0 : (("main" : Str), ([] : List Str)) = rnR ρ ("main", []) := by unfold rnR; rw [hm]; rfl
  rw [← e0]
  congr 1
  apply List.map_congr_left
  intro k hk
  rw [List.mem_range] at hk
  show roomF h (xs.map ρ) (vs.map ρ) k = rnR ρ (roomF h xs vs k)
  unfold roomF rnR
  dsimp only
  rw [getD_map ρ "" "" (by omega), List.map_map]
  congr 1
  apply List.map_congr_left
  intro j _
  have b6 := modB (a := h / 64 / ([1, 42, 1764, 74088].getD k 1) / 7 + (j : Int)) (b := 6) (by decide)
  exact getD_map ρ "" "" (by omega)
theorem vars_rn (hm : ρ "main" = "main") (h : Int) (xs : List Str) : varsF h (xs.map ρ) = (varsF h xs).map ρ := by
  unfold varsF
  split
  · rw [List.map_append, List.map_take]
    show _ = _ ++ [ρ "main"]
    rw [hm]
  · rfl
theorem prog_rn (inj : ∀ a b, ρ a = ρ b → a = b) (hm : ρ "main" = "main") {xs : List Str} (hx : okNm xs) (own : Int) (ws : List Str) (ns : List Int) (most : Nat) :
    progF (fun vs rs => opF own vs rs ws) (xs.map ρ) ns most = rnP ρ (progF (fun vs rs => opF own vs rs ws) xs ns most) := by
  unfold progF
  dsimp only
  have hvs := vars_ok (spreadF (cellF ns 0) 0) hx
  rw [vars_rn hm]
  generalize spreadF (cellF ns 0) 0 = hd at hvs ⊢
  generalize varsF hd xs = vs at hvs ⊢
  rw [rooms_rn hm hd hx.1 hvs.1]
  generalize roomsF hd xs vs = rs
  generalize (ns.take most).drop 2 = cs
  rw [List.length_map, ops_rn (opf := opF own vs rs ws) (fun i => op_rn inj hm hvs.1 own rs ws i)]
  rw [progS_rn inj hm _ rs (opsF_len ..) rs.length (Nat.le_refl _)]
end
end Tl

namespace Tl
open PySem PySem.Spec PyProof.Rows L2

/-! ### the names that are drawn are unlike -/
theorem cutG {α : Type} {xs : List α} (lo hi : Nat) : (xs.drop (HT.sIx xs.length 0 (some (lo : Int)))).take (HT.sIx xs.length xs.length (some (hi : Int)) - HT.sIx xs.length 0 (some (lo : Int))) = (xs.take hi).drop lo := by
  rw [HT.sIx_nat, HT.sIx_nat]
  by_cases h : lo ≤ xs.length
  · rw [Nat.min_eq_left h, List.drop_take]
    by_cases h2 : hi ≤ xs.length
    · rw [Nat.min_eq_left h2]
    · rw [Nat.min_eq_right (show xs.length ≤ hi by omega), List.take_of_length_le (by rw [List.length_drop]; omega), List.take_of_length_le (by rw [List.length_drop]; omega)]
  · have a : xs.drop xs.length = [] := List.drop_of_length_le (Nat.le_refl _)
    have b : (xs.take hi).drop lo = [] := List.drop_of_length_le (by rw [List.length_take]; omega)
    rw [Nat.min_eq_right (show xs.length ≤ lo by omega), a, b, List.take_nil]
def cds (x : Str) : List Nat := x.cps.toList
theorem cds_inj {x y : Str} (h : cds x = cds y) : x = y := by
  obtain ⟨x⟩ := x
  obtain ⟨y⟩ := y
  unfold cds at h
  congr 1
  exact Array.toList_inj.mp h
theorem cds_len (x : Str) : (cds x).length = x.length := by unfold cds; rw [Array.length_toList]; rfl
theorem cds_app (x y : Str) : cds (x ++ y) = cds x ++ cds y := by
  show (x.cps ++ y.cps).toList = _
  rw [Array.toList_append]; rfl
theorem cds_one (c : Nat) : cds ⟨#[c]⟩ = [c] := rfl
theorem cds_cut (z : Str) (lo hi : Nat) : cds (cutS z (some (lo : Int)) (some (hi : Int))) = ((cds z).take hi).drop lo := by
  have h := cutG (xs := cds z) lo hi
  rw [cds_len] at h
  unfold cutS
  show (List.toArray _).toList = _
  exact h
theorem cds_cut0 (z : Str) (hi : Nat) : cds (cutS z none (some (hi : Int))) = (cds z).take hi := by
  have h := cutG (xs := cds z) 0 hi
  rw [cds_len, HT.sIx_nat z.length 0 0, Nat.zero_min, List.drop_zero] at h
  unfold cutS
  show (List.toArray _).toList = _
  rw [HT.sIx_none]
  exact h
theorem cds_rep (n : Nat) : cds (repS "q" (n : Int)) = List.replicate n 113 := by
  unfold repS
  split
  · rw [show n = 0 from by omega]; rfl
  · split
    · rename_i h
      simp only [Bool.or_eq_true, beq_iff_eq] at h
      have lq : (Str.ofString "q").length = 1 := by decide +kernel
      rw [lq] at h
      rw [show n = 1 from by omega]
      decide +kernel
    · have e := size_rep' [113] n
      show (List.foldl (· ++ ·) #[] (List.replicate (n : Int).toNat (Str.ofString "q").cps)).toList = _
      have hq : (Str.ofString "q").cps = [113].toArray := by decide +kernel
      rw [hq, Int.toNat_natCast, e]
      show (List.replicate n [113]).flatten = _
      simp
def badL : List (List Nat) := (keptL ++ [("main" : Str)]).map cds
theorem bad_iff (w : Str) : (w ∈ keptL ∨ w = "main") ↔ cds w ∈ badL := by
  unfold badL
  rw [List.mem_map]
  constructor
  · rintro (h | h)
    · exact ⟨w, List.mem_append_left _ h, rfl⟩
    · exact ⟨w, List.mem_append_right _ (by rw [h]; exact List.mem_singleton_self _), rfl⟩
  · rintro ⟨x, hx, e⟩
    rw [cds_inj e] at hx
    rcases List.mem_append.mp hx with h | h
    · exact .inl h
    · exact .inr (List.mem_singleton.mp h)
theorem bad_far : ∀ u ∈ badL, ∀ v ∈ badL, ∀ p < 8, u.take p = v.take p → u.drop (p + 1) = v.drop (p + 1) → u.length = v.length → u = v := by decide +kernel
theorem bad_q : ∀ u ∈ badL, ∀ p < 8, p < u.length → ¬ (u.take p = List.replicate p 113 ∧ u.drop (p + 1) = List.replicate (u.length - (p + 1)) 113) := by decide +kernel
theorem bad_main : cds "main" ∈ badL := by decide +kernel
theorem bad_rep : ∀ u ∈ badL, u ≠ List.replicate u.length 113 := by decide +kernel
theorem letters_nodup : (cds letters).Nodup := by decide +kernel
theorem sign_ne {r : Int} {i j : Nat} (hij : i < j) (hj : j < 6) : signF (r + 5 * (i : Int)) ≠ signF (r + 5 * (j : Int)) := by
  have hL : (cds letters).length = 26 := by decide +kernel
  have b1 := modB (a := r + 5 * (i : Int)) (b := 26) (by decide)
  have b2 := modB (a := r + 5 * (j : Int)) (b := 26) (by decide)
  intro h
  unfold signF at h
  change (cds letters).getD _ 0 = (cds letters).getD _ 0 at h
  rw [List.getD_eq_getElem?_getD, List.getD_eq_getElem?_getD, List.getElem?_eq_getElem (show ((r + 5 * (i : Int)) % 26).toNat < (cds letters).length by omega), List.getElem?_eq_getElem (show ((r + 5 * (j : Int)) % 26).toNat < (cds letters).length by omega)] at h
  have h : (cds letters)[((r + 5 * (i : Int)) % 26).toNat] = (cds letters)[((r + 5 * (j : Int)) % 26).toNat] := h
  have := (List.getElem_inj letters_nodup).mp h
  omega
def rawF (n : Int) (z : Str) (r : Int) (k : Nat) : Str := if r / 26 % 4 = 1 then cutS z none (some (8 - (k : Int))) else cutS z none (some (n / 8 % (1 + n % 8))) ++ ⟨#[signF (r + 5 * (k : Int))]⟩ ++ cutS z (some (n / 8 % (1 + n % 8) + 1)) (some (1 + n % 8))
theorem name_raw (n : Int) (z : Str) (r : Int) (k : Nat) : nameF n z r k = if rawF n z r k ∈ keptL ∨ rawF n z r k = "main" then repS "q" ((rawF n z r k).length : Int) else rawF n z r k := rfl
theorem name_len (n : Int) (z : Str) (r : Int) (k : Nat) : (cds (nameF n z r k)).length = (cds (rawF n z r k)).length := by
  rw [name_raw]
  split
  · rw [cds_rep, List.length_replicate, cds_len]
  · rfl
theorem name_main (n : Int) (z : Str) (r : Int) (k : Nat) : nameF n z r k ≠ "main" := by
  rw [name_raw]
  split
  · intro h
    have := congrArg cds h
    rw [cds_rep] at this
    have hl := congrArg List.length this
    rw [List.length_replicate] at hl
    rw [hl] at this
    exact bad_rep _ bad_main this.symm
  · rename_i h
    exact fun e => h (.inr e)
theorem name_ne (n : Int) {z : Str} (hz : z.length = 8) (r : Int) {i j : Nat} (hij : i < j) (hj : j < 6) : nameF n z r i ≠ nameF n z r j := by
  have hz2 : (cds z).length = 8 := by rw [cds_len, hz]
  by_cases hm : r / 26 % 4 = 1
  · intro h
    have h : (cds (nameF n z r i)).length = (cds (nameF n z r j)).length := by rw [h]
    rw [name_len, name_len] at h
    unfold rawF at h
    rw [if_pos hm, if_pos hm, show (8 : Int) - (i : Int) = ((8 - i : Nat) : Int) from by omega, show (8 : Int) - (j : Int) = ((8 - j : Nat) : Int) from by omega, cds_cut0, cds_cut0, List.length_take, List.length_take] at h
    omega
  · have b8 := modB (a := n) (b := 8) (by decide)
    have bl := modB (a := n / 8) (b := 1 + n % 8) (by omega)
    obtain ⟨p, hp⟩ := Int.eq_ofNat_of_zero_le bl.1
    obtain ⟨l, hl⟩ := Int.eq_ofNat_of_zero_le (show 0 ≤ 1 + n % 8 by omega)
    have hraw : ∀ k, cds (rawF n z r k) = (cds z).take p ++ signF (r + 5 * (k : Int)) :: ((cds z).take l).drop (p + 1) := fun k => by
      unfold rawF
      rw [if_neg hm, cds_app, cds_app, cds_one, hp, hl, cds_cut0, show (p : Int) + 1 = ((p + 1 : Nat) : Int) from by omega, cds_cut, List.append_assoc]; rfl
    have hpl : p < l := by omega
    have hl8 : l ≤ 8 := by omega
    have hs := sign_ne (r := r) hij hj
    generalize hA : (cds z).take p = a at hraw
    generalize hB : ((cds z).take l).drop (p + 1) = b at hraw
    have ha : a.length = p := by rw [← hA, List.length_take]; omega
    have tk : ∀ c : Nat, (a ++ c :: b).take p = a := fun c => by rw [← ha]; exact List.take_left ..
    have dr : ∀ c : Nat, (a ++ c :: b).drop (p + 1) = b := fun c => by
      rw [← ha, show a ++ c :: b = (a ++ [c]) ++ b from by simp]
      rw [show a.length + 1 = (a ++ [c]).length from by simp]
      exact List.drop_left ..
    have one : ∀ k k' : Nat, cds (rawF n z r k) ∈ badL → ¬ cds (rawF n z r k') ∈ badL → cds (repS "q" ((rawF n z r k).length : Int)) ≠ cds (rawF n z r k') := fun k k' hb hnb h => by
      rw [cds_rep, ← cds_len, hraw, hraw] at h
      rw [hraw] at hb
      have hlen : (a ++ signF (r + 5 * (k : Int)) :: b).length = p + 1 + b.length := by rw [List.length_append, List.length_cons]; omega
      refine bad_q _ hb p (by omega) (by omega) ⟨?_, ?_⟩
      · have := congrArg (List.take p) h
        rw [tk, List.take_replicate, hlen, show min p (p + 1 + b.length) = p from by omega] at this
        rw [tk]; exact this.symm
      · have := congrArg (List.drop (p + 1)) h
        rw [dr, List.drop_replicate, hlen] at this
        rw [dr, hlen]; exact this.symm
    rw [name_raw, name_raw]
    have bi := bad_iff (rawF n z r i)
    have bj := bad_iff (rawF n z r j)
    by_cases h1 : cds (rawF n z r i) ∈ badL
    · rw [if_pos (bi.mpr h1)]
      by_cases h2 : cds (rawF n z r j) ∈ badL
      · have h3 := h1
        rw [hraw] at h1 h2
        have := bad_far _ h1 _ h2 p (by omega) (by rw [tk, tk]) (by rw [dr, dr]) (by rw [List.length_append, List.length_append, List.length_cons, List.length_cons])
        exact fun _ => hs (List.cons.inj (List.append_cancel_left this)).1
      · rw [if_neg (fun z => h2 (bj.mp z))]
        exact fun h => one i j h1 h2 (congrArg cds h)
    · rw [if_neg (fun z => h1 (bi.mp z))]
      by_cases h2 : cds (rawF n z r j) ∈ badL
      · rw [if_pos (bj.mpr h2)]
        exact fun h => one j i h2 h1 (congrArg cds h.symm)
      · rw [if_neg (fun z => h2 (bj.mp z))]
        intro h
        have := congrArg cds h
        rw [hraw, hraw] at this
        exact hs (List.cons.inj (List.append_cancel_left this)).1
theorem names_nodup (n : Int) : (namesF n).Nodup ∧ ("main" : Str) ∉ namesF n := by
  constructor
  · unfold namesF
    refine List.Pairwise.map _ (fun i j h => h) ?_
    have hz := (base_ok (n / 64) 8).1
    rw [List.pairwise_iff_getElem]
    intro i j hi hj hij
    rw [List.length_range] at hi hj
    rw [List.getElem_range, List.getElem_range]
    exact name_ne n hz _ hij hj
  · intro h
    unfold namesF at h
    obtain ⟨k, _, e⟩ := List.mem_map.mp h
    exact name_main _ _ _ _ e
/-! ### names exchanged -/
def bigZ : Str := ⟨(List.replicate 200 35).toArray⟩
def exch (xs ys : List Str) (x : Str) : Str := if x = "main" then x else match (xs.zip ys).find? fun p => decide (p.1 = x) with
  | some p => p.2
  | none => bigZ ++ x
theorem exch_main (xs ys : List Str) : exch xs ys "main" = "main" := by unfold exch; rw [if_pos rfl]
theorem zip_find {xs ys : List Str} (h : xs.length = ys.length) (nd : xs.Nodup) : ∀ (i : Nat) (hi : i < xs.length), ((xs.zip ys).find? fun p => decide (p.1 = xs[i])) = some (xs[i], ys[i]) := by
  induction xs generalizing ys with
  | nil => intro i hi; cases hi
  | cons x xs ih =>
    cases ys with
    | nil => cases h
    | cons y ys =>
      intro i hi
      rw [List.nodup_cons] at nd
      cases i with
      | zero => simp
      | succ i =>
        have hi2 : i < xs.length := by simpa using hi
        have hne : x ≠ xs[i] := fun e => nd.1 (e ▸ List.getElem_mem hi2)
        rw [List.zip_cons_cons, List.find?_cons]
        simp only [List.getElem_cons_succ]
        rw [decide_eq_false hne]
        exact ih (by simpa using h) nd.2 i hi2
theorem exch_map {xs ys : List Str} (h : xs.length = ys.length) (nd : xs.Nodup) (hm : ("main" : Str) ∉ xs) : xs.map (exch xs ys) = ys := by
  apply List.ext_getElem
  · rw [List.length_map, h]
  · intro i h1 h2
    rw [List.length_map] at h1
    rw [List.getElem_map]
    unfold exch
    rw [if_neg (fun e : xs[i] = _ => hm (by rw [← e]; exact List.getElem_mem h1)), zip_find h nd i h1]
theorem exch_inj {xs ys : List Str} (h : xs.length = ys.length) (ndx : xs.Nodup) (ndy : ys.Nodup) (hmx : ("main" : Str) ∉ xs) (hmy : ("main" : Str) ∉ ys) (hs : ∀ y ∈ ys, y.length ≤ 100) : ∀ a b, exch xs ys a = exch xs ys b → a = b := by
  have big : ∀ x : Str, (bigZ ++ x).length ≥ 200 := fun x => by
    rw [len_app]
    have : bigZ.length = 200 := by decide +kernel
    omega
  have lm : (Str.ofString "main").length = 4 := by decide +kernel
  have form : ∀ x : Str, (x = "main" ∧ exch xs ys x = "main") ∨ (x ≠ "main" ∧ ∃ (i : Nat) (hi : i < xs.length) (hi2 : i < ys.length), x = xs[i] ∧ exch xs ys x = ys[i]) ∨ exch xs ys x = bigZ ++ x := fun x => by
    by_cases hx : x = "main"
    · left; exact ⟨hx, by rw [hx, exch_main]⟩
    · right
      by_cases hxm : x ∈ xs
      · left
        obtain ⟨i, hi, rfl⟩ := List.mem_iff_getElem.mp hxm
        exact ⟨hx, i, hi, by omega, rfl, by unfold exch; rw [if_neg hx, zip_find h ndx i hi]⟩
      · right
        unfold exch
        rw [if_neg hx]
        cases e : (xs.zip ys).find? fun p => decide (p.1 = x) with
        | none => rfl
        | some p =>
          have h1 := List.mem_of_find?_eq_some e
          have h2 := List.find?_some e
          simp only [decide_eq_true_eq] at h2
          exact absurd (h2 ▸ (List.of_mem_zip (show (p.1, p.2) ∈ _ from h1)).1) hxm
  intro a b e
  rcases form a with ⟨a1, a2⟩ | ⟨a0, i, hi, hi2, a1, a2⟩ | a2 <;> rcases form b with ⟨b1, b2⟩ | ⟨b0, j, hj, hj2, b1, b2⟩ | b2 <;> rw [a2, b2] at e
  · rw [a1, b1]
  · exact absurd (e ▸ List.getElem_mem hj2) hmy
  · have := big b; rw [← e, lm] at this; omega
  · exact absurd (e ▸ List.getElem_mem hi2) hmy
  · have := (List.getElem_inj ndy).mp e
    subst this
    rw [a1, b1]
  · have := big b; rw [← e] at this; have := hs _ (List.getElem_mem hi2); omega
  · have := big a; rw [e, lm] at this; omega
  · have := big a; rw [e] at this; have := hs _ (List.getElem_mem hj2); omega
  · have := congrArg cds e
    rw [cds_app, cds_app] at this
    exact cds_inj (List.append_cancel_left this)
end Tl

namespace Tl
open PySem PySem.Spec PyProof.Rows L2
theorem uDisp1 {k : Str} {t : TEt} {τ : Sg} {M : MH} {Q : VD} : tDisp1 k t τ M Q = t τ M fun v M1 => ∀ p, M1 p = none → Q (.ref p) (mup M1 p (.dK [(.inr k, v)])) := propext Iff.rfl
/-! ### the names in a program's marks are those that were drawn -/
theorem exch_self {xs : List Str} {x : Str} (h : exch xs xs x = x) : x = "main" ∨ x ∈ xs := by
  by_cases hm : x = "main"
  · exact .inl hm
  · right
    unfold exch at h
    rw [if_neg hm] at h
    cases e : (xs.zip xs).find? fun p => decide (p.1 = x) with
    | some p =>
      have h1 := List.mem_of_find?_eq_some e
      have h2 := List.find?_some e
      simp only [decide_eq_true_eq] at h2
      exact h2 ▸ (List.of_mem_zip (show (p.1, p.2) ∈ _ from h1)).1
    | none =>
      rw [e] at h
      have := congrArg Str.length h
      rw [len_app] at this
      have hz : bigZ.length = 200 := by decide +kernel
      omega
theorem fm_names {xs : List Str} (hx : okNm xs) (nd : xs.Nodup) (hm : ("main" : Str) ∉ xs) (own : Int) (ws : List Str) (ns : List Int) (most : Nat) :
    ∀ p ∈ marksOf (progF (fun vs rs => opF own vs rs ws) xs ns most), rnK (exch xs xs) p.1 = p.1 := by
  have inj := exch_inj (xs := xs) (ys := xs) rfl nd nd hm hm (fun y hy => (hx.2 y hy).1)
  have e := prog_rn inj (exch_main xs xs) hx own ws ns most
  rw [exch_map rfl nd hm] at e
  generalize progF (fun vs rs => opF own vs rs ws) xs ns most = pg at e ⊢
  have e2 := congrArg marksOf e
  rw [marks_rn inj] at e2
  intro p hp
  obtain ⟨i, hi, rfl⟩ := List.mem_iff_getElem.mp hp
  have e3 := congrArg (fun l : FM => l[i]?) e2
  unfold rnF at e3
  rw [List.getElem?_map, List.getElem?_eq_getElem hi, Option.map_some, Option.some.injEq] at e3
  exact (congrArg Prod.fst e3).symm
def keyIn (S : Str → Prop) : MK → Prop
  | .name f x => S f ∧ S x
  | .row _ => True
  | .dfn f => S f
  | .back f => S f
theorem key_in {xs : List Str} {k : MK} (h : rnK (exch xs xs) k = k) : keyIn (fun x => x = "main" ∨ x ∈ xs) k := by
  cases k with
  | name f x => simp only [rnK, MK.name.injEq] at h; exact ⟨exch_self h.1, exch_self h.2⟩
  | row l => trivial
  | dfn f => simp only [rnK, MK.dfn.injEq] at h; exact exch_self h
  | back f => simp only [rnK, MK.back.injEq] at h; exact exch_self h
/-- a dict that exchanges names -/
def hasX (M : MH) (a : Addr) (xs ys : List Str) : Prop := ∃ kvs, M a = some (.dK kvs) ∧ ∀ x : Str, (x = "main" ∨ x ∈ xs) → valD kvs (.inr x) = some (.str (exch xs ys x))
theorem hasX_of {M : MH} {a : Addr} {xs ys : List Str} {kvs : List (Key × D)} (hM : M a = some (.dK kvs)) (h : xs.length = ys.length) (nd : xs.Nodup) (hm : ("main" : Str) ∉ xs)
    (h1 : valD kvs (.inr "main") = some (.str "main")) (h2 : ∀ p ∈ xs.zip ys, valD kvs (.inr p.1) = some (.str p.2)) : hasX M a xs ys := by
  refine ⟨kvs, hM, fun x hx => ?_⟩
  rcases hx with rfl | hx
  · rw [h1, exch_main]
  · obtain ⟨i, hi, rfl⟩ := List.mem_iff_getElem.mp hx
    have e : exch xs ys xs[i] = ys[i] := by
      unfold exch
      rw [if_neg (fun e : xs[i] = _ => hm (by rw [← e]; exact List.getElem_mem hi)), zip_find h nd i hi]
    rw [e]
    exact h2 (xs[i], ys[i]) (by
      rw [List.mem_iff_getElem]
      exact ⟨i, by rw [List.length_zip]; omega, by rw [List.getElem_zip]⟩)
theorem zip_two {α β : Type} (f : α → D) (g : β → D) : ∀ (xs : List α) (ys : List β), zipD (xs.map f) (ys.map g) = (xs.zip ys).map fun p => .tup [f p.1, g p.2]
  | [], _ => rfl
  | _ :: _, [] => rfl
  | x :: xs, y :: ys => by
    have := zip_two f g xs ys
    unfold zipD at this ⊢
    rw [List.map_cons, List.map_cons, List.zipWith_cons_cons, this]; rfl
theorem wait_rn {ρ : Str → Str} (inj : ∀ a b, ρ a = ρ b → a = b) {pg : Pg} (h : (pgLn pg).Pairwise (· < ·)) (h2 : (pgLn (rnP ρ pg)).Pairwise (· < ·)) : (waitMap (rnP ρ pg)).map (·.1) = (waitMap pg).map (·.1) := by
  rw [(wait_list h).1, (wait_list h2).1, marks_rn inj, wList_rn inj]
end Tl

namespace Tl
open PySem PySem.Spec PyProof.Rows L2
/-! ### forms of places -/
inductive Fo where
  | fixed (n : Int) | lane (n : Int) | any
def Fo.d : Fo → D
  | .fixed n => .tup [.str "fixed", .int n]
  | .lane n => .tup [.str "lane", .int n]
  | .any => .tup [.str "any", .int 0]
def formF : Ex → Fo
  | .num n => .fixed n
  | .lane => .lane 0
  | .op .add .lane (.num n) => .lane n
  | .op .add (.num n) .lane => .lane n
  | _ => .any
def mayF : Fo → Fo → Bool
  | .fixed a, .fixed b => decide (a = b)
  | .lane a, .lane b => !decide (a = b)
  | _, _ => true
theorem pickE {l l' : List D} {j : Int} {d : D} {f : D → Prop} (h : atI l' j = some d) (e : l = l') (hf : f d) : oSome (atI l j) f := by
  rw [e, h]; exact hf
theorem pick_ex (es : List Ex) (m : Nat) {j : Int} (h0 : 0 ≤ j) (hj : j < es.length) (ha : ∀ e ∈ es, e.deep ≤ m ∧ exNm e) : ∃ e : Ex, atI (es.map Ex.d) j = some e.d ∧ e.deep ≤ m ∧ exNm e := ⟨_, atI_mapD .lane h0 hj, ha _ (getD_mem _ (by omega))⟩
/-- what the law's own numbers are -/
def boxesF : Fo → List Int
  | .fixed n => (List.range 8).map fun _ => n
  | .lane n => (List.range 8).map fun (j : Nat) => n + (j : Int)
  | .any => (List.range 8).map fun (j : Nat) => 0 + (j : Int)
end Tl

namespace Tl
open PySem PySem.Spec PyProof.Rows L2
/-! ### readings unfolded, by proofs that are told (no check by unfolding is left to the kernel) -/
theorem z_tDnK {w0 : Sg} {M : MH} {Q : VD} : tDnK w0 M Q = ∀ p, M p = none → Q (.ref p) (mup M p (.dK [])) := propext Iff.rfl
theorem z_tDnT {w0 : Sg} {M : MH} {Q : VD} : tDnT w0 M Q = ∀ p, M p = none → Q (.ref p) (mup M p (.dT [])) := propext Iff.rfl
theorem z_tDg {to ti : TEt} {τ : Sg} {M : MH} {Q : VD} : tDg to ti τ M Q = to τ M fun x M1 => ti τ M1 fun k M2 => oDic M2 x k fun r => oSome r fun d => Q d M2 := propext Iff.rfl
theorem z_tDi {neg : Bool} {ti to : TEt} {τ : Sg} {M : MH} {Q : VD} : tDi neg ti to τ M Q = ti τ M fun k M1 => to τ M1 fun x M2 => oDic M2 x k fun r => Q (.bl (if neg = true then !r.isSome else r.isSome)) M2 := propext Iff.rfl
theorem z_tDg2 {to ti tz : TEt} {τ : Sg} {M : MH} {Q : VD} : tDg2 to ti tz τ M Q = to τ M fun x M1 => (∃ a o, x = .ref a ∧ M1 a = some o ∧ isDic o) ∧ ti τ M1 fun k M2 => tz τ M2 fun z M3 => oDic M3 x k fun r => Q (r.getD z) M3 := propext Iff.rfl
theorem z_tRe {K : PySem.W.Frag} {t : TEt} {τ : Sg} {M : MH} {Q : VD} : tRe K t τ M Q = t τ M fun d M1 => ∃ d' M2, ReR K d M1 d' M2 ∧ Q d' M2 := propext Iff.rfl
theorem z_sRe {K : PySem.W.Frag} {u : TSt} {D0 : En} {τ : Sg} {M : MH} : sRe K u D0 τ M = ∃ τ' M', ReS K τ M τ' M' ∧ u D0 τ' M' := propext Iff.rfl
theorem z_tFd {P : Addr → Prop} {fl : List Str} {i : Nat} {te : TEt} {τ : Sg} {M : MH} {Q : VD} : tFd P fl i te τ M Q = te τ M fun x M1 => oObj M1 x fun _ C _ fl' ds => P C ∧ fl' = fl ∧ oSome (nthD ds i) fun d => Q d M1 := propext Iff.rfl
theorem z_sFd {P : Addr → Prop} {fl : List Str} {i : Nat} {te tv : TEt} {D0 : En} {τ : Sg} {M : MH} : sFd P fl i te tv D0 τ M = tv τ M fun y M1 => te τ M1 fun x M2 => oObj M2 x fun a C dx fl' ds => P C ∧ fl' = fl ∧ i ≤ ds.length ∧ D0.nx τ (mup M2 a (.obj C dx fl (putD ds i y))) := propext Iff.rfl
theorem z_sFa {P : Addr → Prop} {fl : List Str} {i : Nat} {te tv : TEt} {r : R2t} {D0 : En} {τ : Sg} {M : MH} : sFa P fl i te tv r D0 τ M = te τ M fun x M1 => oObj M1 x fun _ C _ fl' ds => P C ∧ fl' = fl ∧ oSome (nthD ds i) fun d =>
  tv τ M1 fun y M2 => r d y M2 fun z M3 => oObj M3 x fun a C' dx fl' ds => C' = C ∧ fl' = fl ∧ i ≤ ds.length ∧ D0.nx τ (mup M3 a (.obj C dx fl (putD ds i z))) := propext Iff.rfl
theorem z_tMe {C : Addr} {fl : List Str} {sp : SpT} {te : TEt} {ta : TAt} {τ : Sg} {M : MH} {Q : VD} : tMe C fl sp te ta τ M Q = te τ M fun x M1 => oObj M1 x fun _ C' _ fl' _ => C' = C ∧ fl' = fl ∧ ta τ M1 fun ys M2 => sp (x :: ys) M2 Q Et0 := propext Iff.rfl
theorem z_tMk {C : Addr} {fl : List Str} {sp : SpT} {ta : TAt} {τ : Sg} {M : MH} {Q : VD} : tMk C fl sp ta τ M Q = ta τ M fun ys M1 => ∀ x dx, M1 x = none → sp (.ref x :: ys) (mup M1 x (.obj C dx fl [])) (fun v M2 => v = .non ∧ Q (.ref x) M2) Et0 := propext Iff.rfl
theorem z_sNx {D0 : En} {τ : Sg} {M : MH} : sNx D0 τ M = D0.nx τ M := propext Iff.rfl
theorem z_sSq {t u : TSt} {D0 : En} {τ : Sg} {M : MH} : sSq t u D0 τ M = t { D0 with nx := u D0 } τ M := propext Iff.rfl
theorem z_sBk {D0 : En} {τ : Sg} {M : MH} : sBk D0 τ M = D0.bk τ M := propext Iff.rfl
theorem z_sCt {D0 : En} {τ : Sg} {M : MH} : sCt D0 τ M = D0.ct τ M := propext Iff.rfl
theorem z_sDr {t : TEt} {D0 : En} {τ : Sg} {M : MH} : sDr t D0 τ M = t τ M fun _ M1 => D0.nx τ M1 := propext Iff.rfl
theorem z_sRt {t : TEt} {D0 : En} {τ : Sg} {M : MH} : sRt t D0 τ M = t τ M D0.rt := propext Iff.rfl
theorem z_sRtN {D0 : En} {w1 : Sg} {M : MH} : sRtN D0 w1 M = D0.rt .non M := propext Iff.rfl
theorem z_sIf {c : TTt} {t u : TSt} {D0 : En} {τ : Sg} {M : MH} : sIf c t u D0 τ M = c τ M fun b M1 => if b = true then t D0 τ M1 else u D0 τ M1 := propext Iff.rfl
theorem z_sAs {te : TEt} {g : TGt} {D0 : En} {τ : Sg} {M : MH} : sAs te g D0 τ M = te τ M fun x M1 => g x τ M1 D0.nx := propext Iff.rfl
theorem z_gN {i : Nat} {d : D} {τ : Sg} {M : MH} {Q : Sg → MH → Prop} : gN i d τ M Q = Q (τ.set i (some d)) M := propext Iff.rfl
theorem z_gSb {to ti : TEt} {t : TSett} {v : D} {τ : Sg} {M : MH} {Q : Sg → MH → Prop} : gSb to ti t v τ M Q = to τ M fun o M1 => ti τ M1 fun i M2 => t o i v M2 fun M3 => Q τ M3 := propext Iff.rfl
theorem z_tK {d : D} {w0 : Sg} {M : MH} {Q : VD} : tK d w0 M Q = Q d M := propext Iff.rfl
theorem z_tO {r : R2t} {ta tb : TEt} {τ : Sg} {M : MH} {Q : VD} : tO r ta tb τ M Q = ta τ M fun x M1 => tb τ M1 fun y M2 => r x y M2 Q := propext Iff.rfl
theorem z_tU {r : R1t} {ta : TEt} {τ : Sg} {M : MH} {Q : VD} : tU r ta τ M Q = ta τ M fun x M1 => r x M1 Q := propext Iff.rfl
theorem z_tCa {r : RLt} {ta : TAt} {τ : Sg} {M : MH} {Q : VD} : tCa r ta τ M Q = ta τ M fun xs M1 => r xs M1 Q := propext Iff.rfl
theorem z_tN {w0 : Sg} {M : MH} {Q : List D → MH → Prop} : tN w0 M Q = Q [] M := propext Iff.rfl
theorem z_tCs {ta : TEt} {tr : TAt} {τ : Sg} {M : MH} {Q : List D → MH → Prop} : tCs ta tr τ M Q = ta τ M fun x M1 => tr τ M1 fun xs M2 => Q (x :: xs) M2 := propext Iff.rfl
theorem z_tAn {t u : TTt} {τ : Sg} {M : MH} {Q : Bool → MH → Prop} : tAn t u τ M Q = t τ M fun c M1 => if c = true then u τ M1 Q else Q false M1 := propext Iff.rfl
theorem z_tNo {t : TTt} {τ : Sg} {M : MH} {Q : Bool → MH → Prop} : tNo t τ M Q = t τ M fun c M1 => Q (!c) M1 := propext Iff.rfl
theorem z_tIfE {t : TTt} {ta tb : TEt} {τ : Sg} {M : MH} {Q : VD} : tIfE t ta tb τ M Q = t τ M fun c M1 => if c = true then ta τ M1 Q else tb τ M1 Q := propext Iff.rfl
theorem z_tCl {sp : SpT} {Et : XT} {t : TAt} {τ : Sg} {M : MH} {Q : VD} : tCl sp Et t τ M Q = t τ M fun ds M1 => sp ds M1 Q Et := propext Iff.rfl
theorem z_tTu {t : TAt} {τ : Sg} {M : MH} {Q : VD} : tTu t τ M Q = t τ M fun ds M1 => ds.length ≤ sizeLine ∧ Q (.tup ds) M1 := propext Iff.rfl
theorem z_tLi {t : TAt} {τ : Sg} {M : MH} {Q : VD} : tLi t τ M Q = t τ M fun ds M1 => ds.length ≤ sizeLine ∧ Q (.lst ds) M1 := propext Iff.rfl
theorem z_tLm {t : TAt} {τ : Sg} {M : MH} {Q : VD} : tLm t τ M Q = t τ M fun ds M1 => ds.length ≤ sizeLine ∧ ∀ p, M1 p = none → Q (.ref p) (mup M1 p (.lst ds)) := propext Iff.rfl
theorem z_tSc {r : D → Option Int → Option Int → MH → VD → Prop} {te : TEt} {tl th : TOt} {τ : Sg} {M : MH} {Q : VD} : tSc r te tl th τ M Q = te τ M fun x M1 => tl τ M1 fun l M2 => th τ M2 fun u M3 => r x l u M3 Q := propext Iff.rfl
theorem z_oNo {w0 : Sg} {M : MH} {Q : Option Int → MH → Prop} : oNo w0 M Q = Q none M := propext Iff.rfl
theorem z_tMt {r : RMt} {to : TEt} {t : TAt} {τ : Sg} {M : MH} {Q : VD} : tMt r to t τ M Q = to τ M fun x M1 => (lstOf M1 x).isSome = true ∧ t τ M1 fun xs M2 => r x xs M2 Q := propext Iff.rfl
theorem z_tMt0 {r : RMt} {to : TEt} {τ : Sg} {M : MH} {Q : VD} : tMt0 r to τ M Q = to τ M fun x M1 => (lstOf M1 x).isSome = true ∧ r x [] M1 Q := propext Iff.rfl
theorem z_tYe {w0 : Sg} {M : MH} {Q : Bool → MH → Prop} : tYe w0 M Q = Q true M := propext Iff.rfl
theorem z_tLt {ds : List D} {w0 : Sg} {M : MH} {Q : List D → MH → Prop} : tLt ds w0 M Q = Q ds M := propext Iff.rfl
end Tl

namespace Tl
open PySem PySem.Spec PyProof.Rows L2

/-! ### == of plain data is sameness -/
mutual
def plD : D → Prop
  | .non => True
  | .int _ => True
  | .str _ => True
  | .tup l => plDs l
  | .lst l => plDs l
  | _ => False
def plDs : List D → Prop
  | [] => True
  | x :: t => plD x ∧ plDs t
end
theorem beq_iff {α : Type} [BEq α] [LawfulBEq α] {a b : α} : (a == b) = true ↔ a = b := by simp
mutual
theorem pl_eqv : ∀ (x y : D) (d e : PyData), plD x → plD y → pyD x = some d → pyD y = some e → (PyData.eqv d e = true ↔ x = y)
  | .non, y, d, e, hx, hy, h1, h2 => by
    unfold pyD at h1; cases h1
    cases y with
    | non => unfold pyD at h2; cases h2; unfold PyData.eqv; simp
    | int j => unfold pyD at h2; cases h2; unfold PyData.eqv; simp
    | str j => unfold pyD at h2; cases h2; unfold PyData.eqv; simp
    | tup l => unfold pyD at h2; obtain ⟨ys, _, rfl⟩ := Option.map_eq_some_iff.mp h2; unfold PyData.eqv; simp
    | lst l => unfold pyD at h2; obtain ⟨ys, _, rfl⟩ := Option.map_eq_some_iff.mp h2; unfold PyData.eqv; simp
    | _ => unfold plD at hy; exact hy.elim
  | .int i, y, d, e, hx, hy, h1, h2 => by
    unfold pyD at h1; cases h1
    cases y with
    | non => unfold pyD at h2; cases h2; unfold PyData.eqv; simp
    | int j => unfold pyD at h2; cases h2; unfold PyData.eqv; simp
    | str j => unfold pyD at h2; cases h2; unfold PyData.eqv; simp
    | tup l => unfold pyD at h2; obtain ⟨ys, _, rfl⟩ := Option.map_eq_some_iff.mp h2; unfold PyData.eqv; simp
    | lst l => unfold pyD at h2; obtain ⟨ys, _, rfl⟩ := Option.map_eq_some_iff.mp h2; unfold PyData.eqv; simp
    | _ => unfold plD at hy; exact hy.elim
  | .str i, y, d, e, hx, hy, h1, h2 => by
    unfold pyD at h1; cases h1
    cases y with
    | non => unfold pyD at h2; cases h2; unfold PyData.eqv; simp
    | int j => unfold pyD at h2; cases h2; unfold PyData.eqv; simp
    | str j => unfold pyD at h2; cases h2; unfold PyData.eqv; simp
    | tup l => unfold pyD at h2; obtain ⟨ys, _, rfl⟩ := Option.map_eq_some_iff.mp h2; unfold PyData.eqv; simp
    | lst l => unfold pyD at h2; obtain ⟨ys, _, rfl⟩ := Option.map_eq_some_iff.mp h2; unfold PyData.eqv; simp
    | _ => unfold plD at hy; exact hy.elim
  | .tup l, y, d, e, hx, hy, h1, h2 => by
    unfold pyD at h1
    obtain ⟨xs, e1, rfl⟩ := Option.map_eq_some_iff.mp h1
    cases y with
    | non => unfold pyD at h2; cases h2; unfold PyData.eqv; simp
    | int j => unfold pyD at h2; cases h2; unfold PyData.eqv; simp
    | str j => unfold pyD at h2; cases h2; unfold PyData.eqv; simp
    | tup m =>
      unfold pyD at h2
      obtain ⟨ys, e2, rfl⟩ := Option.map_eq_some_iff.mp h2
      unfold plD at hx hy
      have := pl_eqvs l m xs ys hx hy e1 e2
      unfold PyData.eqv
      rw [this, D.tup.injEq]
    | lst m => unfold pyD at h2; obtain ⟨ys, _, rfl⟩ := Option.map_eq_some_iff.mp h2; unfold PyData.eqv; simp
    | _ => unfold plD at hy; exact hy.elim
  | .lst l, y, d, e, hx, hy, h1, h2 => by
    unfold pyD at h1
    obtain ⟨xs, e1, rfl⟩ := Option.map_eq_some_iff.mp h1
    cases y with
    | non => unfold pyD at h2; cases h2; unfold PyData.eqv; simp
    | int j => unfold pyD at h2; cases h2; unfold PyData.eqv; simp
    | str j => unfold pyD at h2; cases h2; unfold PyData.eqv; simp
    | lst m =>
      unfold pyD at h2
      obtain ⟨ys, e2, rfl⟩ := Option.map_eq_some_iff.mp h2
      unfold plD at hx hy
      have := pl_eqvs l m xs ys hx hy e1 e2
      unfold PyData.eqv
      rw [this, D.lst.injEq]
    | tup m => unfold pyD at h2; obtain ⟨ys, _, rfl⟩ := Option.map_eq_some_iff.mp h2; unfold PyData.eqv; simp
    | _ => unfold plD at hy; exact hy.elim
  | .bl _, _, _, _, hx, _, _, _ => by unfold plD at hx; exact hx.elim
  | .tab _, _, _, _, hx, _, _, _ => by unfold plD at hx; exact hx.elim
  | .scr _, _, _, _, hx, _, _, _ => by unfold plD at hx; exact hx.elim
  | .ref _, _, _, _, hx, _, _, _ => by unfold plD at hx; exact hx.elim
  | .ty _, _, _, _, hx, _, _, _ => by unfold plD at hx; exact hx.elim
theorem pl_eqvs : ∀ (x y : List D) (d e : List PyData), plDs x → plDs y → pyDs x = some d → pyDs y = some e → (PyData.eqvAll d e = true ↔ x = y)
  | [], [], d, e, _, _, h1, h2 => by unfold pyDs at h1 h2; cases h1; cases h2; unfold PyData.eqvAll; simp
  | [], y :: t, d, e, _, _, h1, h2 => by
    unfold pyDs at h1 h2; cases h1
    cases q : pyD y with
    | none => simp only [q] at h2; cases h2
    | some a => cases q2 : pyDs t with
      | none => simp only [q, q2] at h2; cases h2
      | some b => simp only [q, q2] at h2; cases h2; unfold PyData.eqvAll; simp
  | x :: t, [], d, e, _, _, h1, h2 => by
    unfold pyDs at h1 h2; cases h2
    cases q : pyD x with
    | none => simp only [q] at h1; cases h1
    | some a => cases q2 : pyDs t with
      | none => simp only [q, q2] at h1; cases h1
      | some b => simp only [q, q2] at h1; cases h1; unfold PyData.eqvAll; simp
  | x :: t, y :: u, d, e, hx, hy, h1, h2 => by
    unfold pyDs at h1 h2
    unfold plDs at hx hy
    cases q : pyD x with
    | none => simp only [q] at h1; cases h1
    | some a => cases q2 : pyDs t with
      | none => simp only [q, q2] at h1; cases h1
      | some b => cases q3 : pyD y with
        | none => simp only [q3] at h2; cases h2
        | some a2 => cases q4 : pyDs u with
          | none => simp only [q3, q4] at h2; cases h2
          | some b2 =>
            simp only [q, q2] at h1
            simp only [q3, q4] at h2
            cases h1; cases h2
            unfold PyData.eqvAll
            rw [Bool.and_eq_true, pl_eqv x y a a2 hx.1 hy.1 q q3, pl_eqvs t u b b2 hx.2 hy.2 q2 q4, List.cons.injEq]
end
theorem eqD_pl {M : MH} {x y z w : D} {Q : VD} (n : Nat) (hx : asD M x = some z) (hy : asD M y = some w) (ok : okD n z) (ok2 : okD n w) (p : plD z) (p2 : plD w) (h : ∀ b : Bool, (b = true ↔ z = w) → Q (.bl b) M) (hn : n ≤ 64 := by decide) : bEqD x y M Q := by
  obtain ⟨d, e, c, dp⟩ := okD_py n z ok
  obtain ⟨d2, e2, c2, dp2⟩ := okD_py n w ok2
  unfold bEqD
  simp only [pyM_asD hx, pyM_asD hy, e, e2]
  have sh : SeqAt.shaped d = true := Bool.and_eq_true_iff.mpr ⟨c, decide_eq_true (by omega)⟩
  have sh2 : SeqAt.shaped d2 = true := Bool.and_eq_true_iff.mpr ⟨c2, decide_eq_true (by omega)⟩
  exact ⟨sh, sh2, h _ (pl_eqv z w d d2 p p2 e e2)⟩
theorem neD_pl {M : MH} {x y z w : D} {Q : VD} (n : Nat) (hx : asD M x = some z) (hy : asD M y = some w) (ok : okD n z) (ok2 : okD n w) (p : plD z) (p2 : plD w) (h : ∀ b : Bool, (b = true ↔ z = w) → Q (.bl (!b)) M) (hn : n ≤ 64 := by decide) : bNeD x y M Q := by
  obtain ⟨d, e, c, dp⟩ := okD_py n z ok
  obtain ⟨d2, e2, c2, dp2⟩ := okD_py n w ok2
  unfold bNeD
  simp only [pyM_asD hx, pyM_asD hy, e, e2]
  have sh : SeqAt.shaped d = true := Bool.and_eq_true_iff.mpr ⟨c, decide_eq_true (by omega)⟩
  have sh2 : SeqAt.shaped d2 = true := Bool.and_eq_true_iff.mpr ⟨c2, decide_eq_true (by omega)⟩
  exact ⟨sh, sh2, h _ (pl_eqv z w d d2 p p2 e e2)⟩
theorem ex_pl : ∀ e : Ex, plD e.d
  | .num i => by unfold Ex.d plD plDs plDs plDs plD; exact ⟨trivial, trivial, trivial⟩
  | .nam x => by unfold Ex.d plD plDs plDs plDs plD; exact ⟨trivial, trivial, trivial⟩
  | .lane => by unfold Ex.d plD plDs plDs plD; exact ⟨trivial, trivial⟩
  | .lanes => by unfold Ex.d plD plDs plDs plD; exact ⟨trivial, trivial⟩
  | .mine => by unfold Ex.d plD plDs plDs plD; exact ⟨trivial, trivial⟩
  | .box e => by unfold Ex.d plD plDs plDs plDs; exact ⟨by unfold plD; trivial, ex_pl e, trivial⟩
  | .op w a b => by unfold Ex.d plD plDs plDs plDs plDs; exact ⟨by unfold plD; trivial, ex_pl a, ex_pl b, trivial⟩
theorem op_inj {a b : Op7} (h : a.s = b.s) : a = b := by cases a <;> cases b <;> first | rfl | (simp only [Op7.s, ofS_inj, String.reduceEq] at h)
theorem ex_inj : ∀ {a b : Ex}, a.d = b.d → a = b
  | .num i, b, h => by cases b <;> simp_all [Ex.d, ofS_inj, op_num]
  | .nam i, b, h => by cases b <;> simp_all [Ex.d, ofS_inj, op_name]
  | .lane, b, h => by cases b <;> simp_all [Ex.d, ofS_inj]
  | .lanes, b, h => by cases b <;> simp_all [Ex.d, ofS_inj]
  | .mine, b, h => by cases b <;> simp_all [Ex.d, ofS_inj]
  | .box e, b, h => by
    cases b with
    | box f =>
      unfold Ex.d at h
      simp only [D.tup.injEq, List.cons.injEq] at h
      rw [ex_inj h.2.1]
    | _ => simp_all [Ex.d, ofS_inj]
  | .op w x y, b, h => by
    cases b with
    | op v z u =>
      unfold Ex.d at h
      simp only [D.tup.injEq, List.cons.injEq, D.str.injEq] at h
      rw [op_inj h.1, ex_inj h.2.1, ex_inj h.2.2.1]
    | _ => simp_all [Ex.d, ofS_inj]
def notLN (a b : Ex) : Prop := ∀ n, a = .lane → b = .num n → False
theorem boxes_apart {f g : Fo} (h : mayF f g = false) {k j : Nat} {x y : Int} (hx : (boxesF f)[k]? = some x) (hy : (boxesF g)[j]? = some y) (hkj : j ≠ k) : x ≠ y := by
  have rg : ∀ {w : Nat → Int} {i : Nat} {z : Int}, ((List.range 8).map w)[i]? = some z → z = w i := fun {w i z} e => by
    rw [List.getElem?_map] at e
    obtain ⟨q, hq, rfl⟩ := Option.map_eq_some_iff.mp e
    obtain ⟨h1, h2⟩ := List.getElem?_eq_some_iff.mp hq
    rw [List.getElem_range] at h2
    rw [h2]
  cases f with
  | fixed a => cases g with
    | fixed b =>
      have e1 := rg (w := fun _ => a) hx
      have e2 := rg (w := fun _ => b) hy
      rw [e1, e2]
      exact of_decide_eq_false h
    | _ => cases h
  | lane a => cases g with
    | lane b =>
      have e1 := rg (w := fun j : Nat => a + (j : Int)) hx
      have e2 := rg (w := fun j : Nat => b + (j : Int)) hy
      have e3 : a = b := by
        cases hd : decide (a = b) with
        | true => exact of_decide_eq_true hd
        | false => rw [mayF, hd] at h; cases h
      rw [e1, e2, e3]
      omega
    | _ => cases h
  | any => cases g <;> cases h
end Tl

namespace Tl
open PySem PySem.Spec PyProof.Rows L2

/-! ### rows: a mirror of how a program is made into rows -/
inductive Sn where
  | lane | lanes | mine
deriving DecidableEq
def Sn.s : Sn → Str
  | .lane => "lane" | .lanes => "lanes" | .mine => "mine"
inductive Rw where
  | tick (l : Int) | num (l at_ n : Int) | copy (l at_ from_ : Int) | sign (l at_ : Int) (w : Sn) | op (l at_ : Int) (w : Op7) (one other : Int) | get (l at_ pl : Int) | put (l pl from_ : Int) | tell (l from_ : Int)
  | split (l from_ row : Int) | jump (l row : Int) | call (l at_ first many row : Int) | back (l : Int) | join (l at_ : Int) (w : Str) (from_ : Int) | meet (l : Int) | stop (l : Int)
def Rw.d : Rw → D
  | .tick l => .tup [.str "tick", .int l]
  | .num l a n => .tup [.str "num", .int l, .int a, .int n]
  | .copy l a f => .tup [.str "copy", .int l, .int a, .int f]
  | .sign l a w => .tup [.str "sign", .int l, .int a, .str w.s]
  | .op l a w o p => .tup [.str "op", .int l, .int a, .str w.s, .int o, .int p]
  | .get l a p => .tup [.str "get", .int l, .int a, .int p]
  | .put l p f => .tup [.str "put", .int l, .int p, .int f]
  | .tell l f => .tup [.str "tell", .int l, .int f]
  | .split l f r => .tup [.str "split", .int l, .int f, .int r]
  | .jump l r => .tup [.str "jump", .int l, .int r]
  | .call l a f m r => .tup [.str "call", .int l, .int a, .int f, .int m, .int r]
  | .back l => .tup [.str "back", .int l]
  | .join l a w f => .tup [.str "join", .int l, .int a, .str w, .int f]
  | .meet l => .tup [.str "meet", .int l]
  | .stop l => .tup [.str "stop", .int l]
def Rw.lead (t : Int) : Rw → Rw
  | .split l f _ => .split l f t
  | .jump l _ => .jump l t
  | .call l a f m _ => .call l a f m t
  | r => r
def leadAt (rows : List Rw) (k : Nat) (t : Int) : List Rw := rows.modify k (Rw.lead t)
/-! expressions and statements of a body, in their order -/
def Sm.exprs : Sm → List Ex
  | .put _ a b => [a, b] | .tell _ e => [e] | .ret _ e => [e] | .if1 _ e _ => [e] | .if2 _ e _ _ => [e] | .whl _ e _ => [e] | .set _ _ e => [e] | .call _ _ _ es => es | .join _ _ _ e => [e] | _ => []
mutual
def allSt : Sm → List Sm
  | .if1 l e b => .if1 l e b :: allBd b
  | .if2 l e b c => .if2 l e b c :: (allBd b ++ allBd c)
  | .whl l e b => .whl l e b :: allBd b
  | s => [s]
def allBd : List Sm → List Sm
  | [] => []
  | s :: t => allSt s ++ allBd t
end
/-! slots of names -/
def noteN (ss : List Str) (x : Str) : List Str := if x ∈ ss then ss else ss ++ [x]
def noteE : List Str → Ex → List Str
  | ss, .nam x => noteN ss x
  | ss, .box e => noteE ss e
  | ss, .op _ a b => noteE (noteE ss a) b
  | ss, _ => ss
def noteS (ss : List Str) (s : Sm) : List Str := s.exprs.foldl noteE (match s.given with
  | some x => noteN ss x
  | none => ss)
def slotsF (o : Df) : List Str := (allBd o.body).foldl noteS (o.ps.foldl noteN [])
def slotOf (ss : List Str) (x : Str) : Int := (ss.idxOf x + 1 : Nat)
def slotFrom : Nat → List Str → List (Key × D)
  | _, [] => []
  | i, x :: t => (.inr x, .int ((i + 1 : Nat) : Int)) :: slotFrom (i + 1) t
def slotD (ss : List Str) : List (Key × D) := slotFrom 0 ss
/-! rows of an expression -/
def exRows (ss : List Str) (l : Int) : Ex → Int → List Rw
  | .num n, a => [.num l a n]
  | .nam x, a => [.copy l a (slotOf ss x)]
  | .lane, a => [.sign l a .lane]
  | .lanes, a => [.sign l a .lanes]
  | .mine, a => [.sign l a .mine]
  | .box e, a => exRows ss l e a ++ [.get l a a]
  | .op w x y, a => exRows ss l x a ++ exRows ss l y (a + 1) ++ [.op l a w a (a + 1)]
def exsRows (ss : List Str) (l : Int) : List Ex → Int → List Rw
  | [], _ => []
  | e :: es, a => exRows ss l e a ++ exsRows ss l es (a + 1)
/-! the maker -/
structure Mk where
  rows : List Rw
  calls : List (Nat × Str)
  leaves : List Nat
  loops : List (Nat × List Nat)
def Mk.add (m : Mk) (rs : List Rw) : Mk := { m with rows := m.rows ++ rs }
def Mk.lead (m : Mk) (k : Nat) : Mk := { m with rows := leadAt m.rows k m.rows.length }
def Mk.leads (m : Mk) (ks : List Nat) : Mk := ks.foldl Mk.lead m
def lastRow (ss : List Str) (fr : Int) : Sm → Rw
  | .set l x _ => .copy l (slotOf ss x) fr
  | .put l _ _ => .put l fr (fr + 1)
  | .tell l _ => .tell l fr
  | .join l x w _ => .join l (slotOf ss x) w fr
  | .meet l => .meet l
  | s => .stop s.line
mutual
def mkS (ss : List Str) (fr : Int) (m0 : Mk) : Sm → Mk
  | .if1 l e b =>
    let m1 := m0.add (exRows ss l e fr ++ [.split l fr 0])
    (mkB ss fr m1 b).lead (m1.rows.length - 1)
  | .if2 l e b c =>
    let m1 := m0.add (exRows ss l e fr ++ [.split l fr 0])
    let m2 := (mkB ss fr m1 b).add [.jump l 0]
    (mkB ss fr (m2.lead (m1.rows.length - 1)) c).lead (m2.rows.length - 1)
  | .whl l e b =>
    let begin_ := m0.rows.length - 1
    let m1 := m0.add (exRows ss l e fr ++ [.split l fr 0])
    let m2 := (mkB ss fr { m1 with loops := (begin_, [m1.rows.length - 1]) :: m1.loops } b).add [.jump l begin_]
    match m2.loops with
    | [] => m2
    | (_, lv) :: r => ({ m2 with loops := r }).leads lv
  | .brk l => match m0.loops with
    | [] => m0
    | (b, lv) :: r => { m0 with rows := m0.rows ++ [.jump l b], loops := (b, lv ++ [m0.rows.length]) :: r }
  | .agn l => match m0.loops with
    | [] => m0
    | (b, _) :: _ => m0.add [.jump l b]
  | .ret l e =>
    let m1 := m0.add (exRows ss l e fr ++ [.copy l 0 fr, .jump l 0])
    { m1 with leaves := m1.leaves ++ [m1.rows.length - 1] }
  | .call l x f es =>
    let m1 := m0.add (exsRows ss l es fr ++ [.call l (slotOf ss x) fr es.length 0])
    { m1 with calls := m1.calls ++ [(m1.rows.length - 1, f)] }
  | s => m0.add (exsRows ss s.line s.exprs fr ++ [lastRow ss fr s])
def mkB (ss : List Str) (fr : Int) (m : Mk) : List Sm → Mk
  | [] => m
  | s :: t => mkB ss fr (mkS ss fr (m.add [.tick s.line]) s) t
end
def mkDef (m : Mk) (o : Df) : Mk :=
  let ss := slotsF o
  let m1 := mkB ss (ss.length + 1) { m with leaves := [] } o.body
  (m1.leads m1.leaves).add [.back o.last]
def mainFirst (pg : Pg) : Pg := (pg.filter fun o => isMain o.name) ++ pg.filter fun o => !isMain o.name
def mkAll (os : Pg) : Mk × List (Str × Nat) := os.foldl (fun s o => (mkDef s.1 o, s.2 ++ [(o.name, s.1.rows.length)])) (⟨[], [], [], []⟩, [])
def beginOf (bs : List (Str × Nat)) (f : Str) : Int := ((bs.reverse.find? fun p => decide (p.1 = f)).map fun p => (p.2 : Int)).getD 0
/-- the rows of a program -/
def rowsF (pg : Pg) : List Rw :=
  let s := mkAll (mainFirst pg)
  s.1.calls.foldl (fun rows c => leadAt rows c.1 (beginOf s.2 c.2)) s.1.rows
theorem allBd_app : ∀ {a b : List Sm}, allBd (a ++ b) = allBd a ++ allBd b
  | [], b => by rw [show allBd [] = [] from by unfold allBd; rfl]; rfl
  | s :: t, b => by rw [List.cons_append, allBd, allBd, allBd_app, List.append_assoc]
theorem allBd_one {s : Sm} : allBd [s] = allSt s := by rw [allBd, show allBd [] = [] from by unfold allBd; rfl, List.append_nil]
theorem allSt_eq (s : Sm) : allSt s = s :: (s.blocks.map allBd).flatten := by
  cases s <;> (unfold allSt Sm.blocks; simp)
end Tl

namespace Tl
open PySem PySem.Spec PyProof.Rows L2

/-! ### setdefault of a dict by numbers and texts -/
def isDK : MO → Prop
  | .dK _ => True
  | _ => False
def oSdk (o : Option MO) (k : D) (z : D) (f : D → Option MO → Prop) : Prop := match o with
  | some (.dK kvs) => match k1 k with
    | some c => kvs.length < sizeLine ∧ match valD kvs c with
      | some d => f d none
      | none => f z (some (.dK (putM kvs c z)))
    | none => False
  | _ => False
def sSdk (x k z : D) (M : MH) (Q : VD) : Prop := match x with
  | .ref a => oSdk (M a) k z fun d u => Q d (match u with
    | some o => mup M a o
    | none => M)
  | _ => False
def tSdk (to ti tz : TEt) : TEt := fun τ M Q => to τ M fun x M1 => (∃ a o, x = .ref a ∧ M1 a = some o ∧ isDK o) ∧ ti τ M1 fun k M2 => tz τ M2 fun z M3 => sSdk x k z M3 Q
section
variable {X : Cx} {E : XK} {Et : XT} {o i z : Expr} {apos cpos : Pos} {to ti tz : TEt}
theorem q_setdefault2 (ho : QE X E Et o to) (hi : QE X E Et i ti) (hz : QE X E Et z tz) (m : M2 X o "setdefault" apos i z cpos := by exact ⟨rfl, rfl, rfl, rfl⟩) : QE X E Et (.Call (.Attribute o "setdefault" apos) [i, z] [] cpos) (tSdk to ti tz) := PEimp (pe_dsetd ho hi hz m) (by
  rintro σ H Q ⟨G, F, M, τ, Qt, a, h, k⟩
  refine ⟨G, F, M, τ, _, a, h, fun x F1 H1 M1 d s1 r1 p1 q1 => ?_⟩
  obtain ⟨⟨b, mo, rfl, hb, hd⟩, q1⟩ := q1
  cases p1
  have isd : IsD H1 b := by
    obtain ⟨_, u, hu, r⟩ := r1.chg b _ hb
    cases mo with
    | dK kvs =>
      cases u with
      | dK vs => exact .inl ⟨vs, .inl hu⟩
      | _ => exact (r : False).elim
    | _ => exact hd.elim
  refine ⟨b, rfl, isd, G, F1, M1, τ, _, a.step s1 r1, q1, fun y F2 H2 M2 e s2 r2 p2 q2 => ?_⟩
  refine ⟨G, F2, M2, τ, _, a.step (s1.trans s2) r2, q2, fun w F3 H3 M3 zd s3 r3 p3 q3 => ?_⟩
  have q3 : oSdk (M3 b) e zd fun d u => Qt d (match u with
    | some o => mup M3 b o
    | none => M3) := q3
  cases q : M3 b with
  | none => rw [q] at q3; exact q3.elim
  | some mo3 =>
    rw [q] at q3
    obtain ⟨_, u, hu, r⟩ := r3.chg b mo3 q
    cases mo3 with
    | dK kvs =>
      unfold oSdk at q3
      dsimp only at q3
      cases q4 : k1 e with
      | none => simp only [q4] at q3
      | some c =>
        simp only [q4] at q3
        cases u with
        | dK vs =>
          have r : KP X.K F3 vs kvs := r
          have ec := k1_of (p2.mono s3) q4
          subst ec
          refine ⟨vs, c, hu, rfl, by rw [kp_len r]; exact q3.1, fun v hv => ?_, fun hn => ?_⟩
          · have q5 := q3.2
            have kv := kp_val r (k := c)
            cases q6 : valD kvs c with
            | none => rw [(kv.1 q6)] at hv; cases hv
            | some d =>
              rw [q6] at q5
              obtain ⟨v', e', pv⟩ := kv.2 d q6
              rw [hv] at e'
              cases e'
              exact k v F3 H3 M3 d ((s1.trans s2).trans s3) r3 pv q5
          · have q5 := q3.2
            have kv := kp_val r (k := c)
            cases q6 : valD kvs c with
            | some d =>
              obtain ⟨v', e', pv⟩ := kv.2 d q6
              rw [hn] at e'
              cases e'
            | none =>
              rw [q6] at q5
              exact k w F3 _ _ zd ((s1.trans s2).trans s3) (r3.put q (show RpO X.K F3 (.dK (putK vs c w)) (.dK (putM kvs c zd)) from kp_put p3 r)) p3 q5
        | _ => exact (r : False).elim
    | _ => exact q3.elim)
end
theorem uSdk {a : Addr} {k z : D} {M : MH} {Q : VD} : sSdk (.ref a) k z M Q = oSdk (M a) k z fun d u => Q d (match u with
    | some o => mup M a o
    | none => M) := propext Iff.rfl
theorem utSdk {to ti tz : TEt} {τ : Sg} {M : MH} {Q : VD} : tSdk to ti tz τ M Q = to τ M fun x M1 => (∃ a o, x = .ref a ∧ M1 a = some o ∧ isDK o) ∧ ti τ M1 fun k M2 => tz τ M2 fun z M3 => sSdk x k z M3 Q := propext Iff.rfl
theorem oSdk_s {kvs : List (Key × D)} {s : Str} {z : D} {f : D → Option MO → Prop} : oSdk (some (.dK kvs)) (.str s) z f = (kvs.length < 16777216 ∧ match valD kvs (.inr s) with
      | some d => f d none
      | none => f z (some (.dK (putM kvs (.inr s) z)))) := by rw [← sizeLine_eq]; rfl
/-! ### slots -/
theorem slotFrom_len : ∀ {ss : List Str} {i : Nat}, (slotFrom i ss).length = ss.length
  | [], _ => rfl
  | _ :: t, i => by rw [slotFrom, List.length_cons, List.length_cons, slotFrom_len]
theorem slotD_len {ss : List Str} : (slotD ss).length = ss.length := slotFrom_len
theorem slotFrom_val : ∀ {ss : List Str} {i : Nat} {x : Str}, valD (slotFrom i ss) (.inr x) = if x ∈ ss then some (.int ((i + ss.idxOf x + 1 : Nat) : Int)) else none
  | [], _, _ => by rw [if_neg (by simp)]; rfl
  | y :: t, i, x => by
    unfold slotFrom
    unfold valD
    rw [List.find?_cons]
    by_cases e : y = x
    · subst e
      simp
    · have h : ¬ ((Sum.inr y : Key) = .inr x) := fun h => e (Sum.inr.inj h)
      have ih := slotFrom_val (ss := t) (i := i + 1) (x := x)
      unfold valD at ih
      simp only [h, decide_false]
      rw [ih]
      have ex : (y == x) = false := by simpa using e
      by_cases hx : x ∈ t
      · rw [if_pos hx, if_pos (List.mem_cons_of_mem _ hx), List.idxOf_cons, ex]
        simp only [cond_false]
        congr 3
        omega
      · rw [if_neg hx, if_neg (by simp only [List.mem_cons, not_or]; exact ⟨fun h => e h.symm, hx⟩)]
theorem slot_there {ss : List Str} {x : Str} (h : x ∈ ss) : valD (slotD ss) (.inr x) = some (.int (slotOf ss x)) := by
  unfold slotD slotOf
  rw [slotFrom_val, if_pos h, Nat.zero_add]
theorem slot_new {ss : List Str} {x : Str} (h : x ∉ ss) : valD (slotD ss) (.inr x) = none := by
  unfold slotD
  rw [slotFrom_val, if_neg h]
theorem slotFrom_app : ∀ {ss : List Str} {i : Nat} {x : Str}, slotFrom i (ss ++ [x]) = slotFrom i ss ++ [(.inr x, .int ((i + ss.length + 1 : Nat) : Int))]
  | [], _, _ => rfl
  | y :: t, i, x => by
    rw [List.cons_append, slotFrom, slotFrom, slotFrom_app, List.cons_append, List.length_cons]
    congr 5
    omega
theorem slot_put {ss : List Str} {x : Str} (h : x ∉ ss) : putM (slotD ss) (.inr x) (.int ((ss.length : Int) + 1)) = slotD (ss ++ [x]) := by
  have hn : ¬ ((slotD ss).any fun q => decide (q.1 = .inr x)) = true := by
    intro ha
    have := slot_new h
    unfold valD at this
    rw [List.any_eq_true] at ha
    obtain ⟨q, hq, e⟩ := ha
    rw [Option.map_eq_none_iff, List.find?_eq_none] at this
    exact this q hq e
  unfold putM
  rw [if_neg hn]
  unfold slotD
  rw [slotFrom_app]
  congr 4
  omega
theorem noteN_len {ss : List Str} {x : Str} : ss.length ≤ (noteN ss x).length := by
  unfold noteN; split
  · omega
  · simp
theorem noteE_len : ∀ {e : Ex} {ss : List Str}, ss.length ≤ (noteE ss e).length
  | .num _, _ => Nat.le_refl _ | .lane, _ => Nat.le_refl _ | .lanes, _ => Nat.le_refl _ | .mine, _ => Nat.le_refl _
  | .nam _, _ => noteN_len
  | .box e, _ => noteE_len (e := e)
  | .op _ a b, _ => Nat.le_trans (noteE_len (e := a)) (noteE_len (e := b))
theorem notes_len {α : Type} {f : List Str → α → List Str} (h : ∀ ss x, ss.length ≤ (f ss x).length) : ∀ {l : List α} {ss : List Str}, ss.length ≤ (l.foldl f ss).length
  | [], _ => Nat.le_refl _
  | x :: t, ss => Nat.le_trans (h ss x) (notes_len h (l := t))
theorem mup_idem {M : MH} {a : Addr} {o : MO} (h : M a = some o) : mup M a o = M := by
  funext b
  unfold mup
  split
  · rename_i e; subst e; exact h.symm
  · rfl
/-- setdefault gives a name its slot -/
theorem sd_name {a : Addr} {M : MH} {ss : List Str} {x : Str} {n : Int} {Q : VD} (hM : M a = some (.dK (slotD ss))) (hl : (noteN ss x).length < 16777216) (hn : n = (ss.length : Int) + 1) (h : ∀ d, Q d (mup M a (.dK (slotD (noteN ss x))))) : sSdk (.ref a) (.str x) (.int n) M Q := by
  subst hn
  rw [uSdk, hM, oSdk_s]
  by_cases hx : x ∈ ss
  · have e : noteN ss x = ss := if_pos hx
    rw [e] at h hl
    rw [slot_there hx]
    refine ⟨by rw [slotD_len]; exact hl, ?_⟩
    have := h (.int (slotOf ss x))
    rw [mup_idem hM] at this
    exact this
  · have e : noteN ss x = ss ++ [x] := if_neg hx
    rw [e] at h hl
    rw [slot_new hx]
    refine ⟨by rw [slotD_len]; rw [List.length_append] at hl; omega, ?_⟩
    dsimp only
    rw [slot_put hx]
    exact h _
def Ex.inS (ss : List Str) : Ex → Prop
  | .nam x => x ∈ ss
  | .box e => e.inS ss
  | .op _ a b => a.inS ss ∧ b.inS ss
  | _ => True
theorem inS_mono {ss ts : List Str} (h : ∀ x ∈ ss, x ∈ ts) : ∀ {e : Ex}, e.inS ss → e.inS ts
  | .nam x, i => h x i
  | .box e, i => inS_mono h (e := e) i
  | .op _ a b, i => ⟨inS_mono h (e := a) i.1, inS_mono h (e := b) i.2⟩
  | .num _, _ => True.intro | .lane, _ => True.intro | .lanes, _ => True.intro | .mine, _ => True.intro
theorem noteN_sub {ss : List Str} {x : Str} : ∀ y ∈ ss, y ∈ noteN ss x := by
  intro y hy; unfold noteN; split
  · exact hy
  · exact List.mem_append_left _ hy
theorem noteN_in {ss : List Str} {x : Str} : x ∈ noteN ss x := by
  unfold noteN; split
  · assumption
  · simp
theorem noteE_sub : ∀ {e : Ex} {ss : List Str}, ∀ y ∈ ss, y ∈ noteE ss e
  | .num _, _, _, h => h | .lane, _, _, h => h | .lanes, _, _, h => h | .mine, _, _, h => h
  | .nam _, _, y, h => noteN_sub y h
  | .box e, _, y, h => noteE_sub (e := e) y h
  | .op _ a b, _, y, h => noteE_sub (e := b) y (noteE_sub (e := a) y h)
theorem noteE_in : ∀ {e : Ex} {ss : List Str}, e.inS (noteE ss e)
  | .num _, _ => True.intro | .lane, _ => True.intro | .lanes, _ => True.intro | .mine, _ => True.intro
  | .nam _, _ => noteN_in
  | .box e, _ => noteE_in (e := e)
  | .op _ a b, ss => ⟨inS_mono (noteE_sub (e := b)) (noteE_in (e := a)), noteE_in (e := b)⟩
theorem notes_sub {α : Type} {f : List Str → α → List Str} (h : ∀ ss x, ∀ y ∈ ss, y ∈ f ss x) : ∀ {l : List α} {ss : List Str}, ∀ y ∈ ss, y ∈ l.foldl f ss
  | [], _, _, i => i
  | x :: t, ss, y, i => notes_sub h (l := t) y (h ss x y i)
theorem notesE_in {ts : List Ex} : ∀ {ss : List Str}, ∀ e ∈ ts, e.inS (ts.foldl noteE ss) := by
  induction ts with
  | nil => intro ss e h; cases h
  | cons x t ih =>
    intro ss e h
    rcases List.mem_cons.mp h with rfl | h
    · exact inS_mono (notes_sub (f := noteE) (fun ss e => noteE_sub (e := e)) (l := t) (ss := noteE ss e)) noteE_in
    · exact ih e h
theorem noteS_sub (ss : List Str) (s : Sm) : ∀ y ∈ ss, y ∈ noteS ss s := by
  intro y hy
  unfold noteS
  refine notes_sub (f := noteE) (fun ss e => noteE_sub (e := e)) y ?_
  split
  · exact noteN_sub y hy
  · exact hy
theorem noteS_in {ss : List Str} {s : Sm} : (∀ e ∈ s.exprs, e.inS (noteS ss s)) ∧ ∀ x, s.given = some x → x ∈ noteS ss s := by
  unfold noteS
  refine ⟨fun e he => notesE_in e he, fun x hx => ?_⟩
  rw [hx]
  exact notes_sub (f := noteE) (fun ss e => noteE_sub (e := e)) x noteN_in
/-- every name that a statement of a def names has its slot -/
theorem slots_in {o : Df} : ∀ s ∈ allBd o.body, (∀ e ∈ s.exprs, e.inS (slotsF o)) ∧ ∀ x, s.given = some x → x ∈ slotsF o := by
  unfold slotsF
  generalize o.ps.foldl noteN [] = ss
  generalize allBd o.body = b
  induction b generalizing ss with
  | nil => intro s h; cases h
  | cons t r ih =>
    intro s h
    rcases List.mem_cons.mp h with rfl | h
    · have sub := notes_sub (f := noteS) noteS_sub (l := r) (ss := noteS ss s)
      exact ⟨fun e he => inS_mono sub (noteS_in.1 e he), fun x hx => sub x (noteS_in.2 x hx)⟩
    · exact ih _ s h
theorem is_m {M : MH} {r : Addr} {ds : List D} (h : M r = some (.lst ds)) : (lstOf M (.ref r)).isSome = true := by
  unfold lstOf; dsimp only; rw [h]; rfl
theorem ap_m {M : MH} {r : Addr} {ds : List D} {F : List D → Prop} (h : M r = some (.lst ds)) (q : F ds) : oSome (mLst M r) F := by
  unfold oSome mLst; rw [h]; exact q
end Tl

namespace Tl
open PySem PySem.Spec PyProof.Rows L2

/-! ### texts: split, join, startswith, str(int), int(text) -/
abbrev RSt := Str → D → MH → VD → Prop
def mSplit : RSt := fun a y M Q => match y with
  | .str b => (b.length == 0) = false ∧ a.length + 2 ≤ sizeLine ∧ Q (.lst ((Txt.split a b).map .str)) M
  | _ => False
def mStarts : RSt := fun a y M Q => match y with
  | .str b => Q (.bl (Txt.startswith a b)) M
  | _ => False
def mJoin : RSt := fun a y M Q => ∃ ys : List Str, lstOf M y = some (ys.map D.str) ∧ (ys.map (·.length)).sum + ys.length * a.length ≤ 16777216 ∧ Q (.str (Txt.join a ys)) M
theorem rps_strs {K : PySem.W.Frag} {F : Hp} : ∀ ys : List Str, Rps K F (ys.map V.str) (ys.map D.str)
  | [] => .nil
  | y :: ys => .cons (.str y) (rps_strs ys)
theorem strs_of_rps2 {K : PySem.W.Frag} {F : Hp} : ∀ {ys : List Str} {vs : List V}, Rps K F vs (ys.map D.str) → vs = ys.map V.str
  | [], _, h => by cases h; rfl
  | y :: ys, _, h => by
    cases h with
    | cons h t =>
      cases h
      rw [strs_of_rps2 t]
      rfl
/-- a method of a text, one argument -/
def tSm (r : RSt) (to te : TEt) : TEt := fun τ M Q => to τ M fun x M1 => match x with
  | .str a => te τ M1 fun y M2 => r a y M2 Q
  | _ => False
theorem lv_sm {X : Cx} {E : XK} {Et : XT} {r : RSt} {to te : TEt} {rr : V → List V → Hp → VK → Prop} (hi : ∀ (a : Str) (y : V) (H : Hp) (Q : VK) (G F : Hp) (M : MH) (dy : D) (Qt : VD), Rel X.K G F H M → Rp X.K F y dy → r a dy M Qt →
    (∀ v F' H' M' d, Same F F' → Rel X.K G F' H' M' → Rp X.K F' v d → Qt d M' → Q v H') → rr (.str a) [y] H Q) : ∀ σ H Q, liftE X.K E Et (tSm r to te) σ H Q → tM1 rr (liftE X.K E Et to) (liftE X.K E Et te) σ H Q := by
  rintro σ H Q ⟨G, F, M, τ, Qt, a, h, k⟩
  refine ⟨G, F, M, τ, _, a, h, fun v F1 H1 M1 d s1 r1 p1 q1 => ?_⟩
  cases d with
  | str z =>
    cases p1
    refine ⟨⟨z, rfl⟩, G, F1, M1, τ, _, a.step s1 r1, q1, fun y F2 H2 M2 dy s2 r2 p2 q2 => ?_⟩
    exact hi z y H2 Q G F2 M2 dy Qt r2 p2 q2 fun v F' H' M' d s => k v F' H' M' d ((s1.trans s2).trans s)
  | _ => exact q1.elim
section
variable {X : Cx} {E : XK} {Et : XT} {o e : Expr} {to te : TEt} {apos pos : Pos}
theorem q_split (ho : QE X E Et o to) (he : QE X E Et e te) (hs : starEach [e] X.env = [(false, eval e X.env)] := by rfl) (hbase : attributeBase o "split" X.env (eval o X.env) = eval o X.env := by rfl) (hline : (apos.endLine == pos.line) = true := by rfl) :
    QE X E Et (.Call (.Attribute o "split" apos) [e] [] pos) (tSm mSplit to te) :=
  PEimp (pe_split ho he hs hbase hline) (lv_sm fun a y H Q G F M dy Qt R p h k => by
    cases dy with
    | str b =>
      cases p
      refine ⟨a, b, rfl, rfl, h.1, h.2.1, fun q nq => ?_⟩
      obtain ⟨s2, R2⟩ := R.newF (o := .lst ((Txt.split a b).map V.str)) nq
      exact k _ _ _ M _ s2 R2 (.lst upd_same (rps_strs _)) h.2.2
    | _ => exact h.elim)
theorem q_join (ho : QE X E Et o to) (he : QE X E Et e te) (hs : starEach [e] X.env = [(false, eval e X.env)] := by rfl) (hbase : attributeBase o "join" X.env (eval o X.env) = eval o X.env := by rfl) (hline : (apos.endLine == pos.line) = true := by rfl) :
    QE X E Et (.Call (.Attribute o "join" apos) [e] [] pos) (tSm mJoin to te) :=
  PEimp (pe_join ho he hs hbase hline) (lv_sm fun a y H Q G F M dy Qt R p h k => by
    obtain ⟨ys, e1, hz, h⟩ := h
    obtain ⟨b, vs, rfl, hs, r⟩ := lst_of R p e1
    have hvs := strs_of_rps2 r
    subst hvs
    exact ⟨a, b, ys, rfl, rfl, .inl hs, hz, k _ F H M _ (Same.refl _) R (.str _) h⟩)
theorem q_startswith (ho : QE X E Et o to) (he : QE X E Et e te) (hs : starEach [e] X.env = [(false, eval e X.env)] := by rfl) (hbase : attributeBase o "startswith" X.env (eval o X.env) = eval o X.env := by rfl) (hline : (apos.endLine == pos.line) = true := by rfl) :
    QE X E Et (.Call (.Attribute o "startswith" apos) [e] [] pos) (tSm mStarts to te) :=
  PEimp (pe_m1 PySem.F.slot_str_startswith PySem.F.type_str_startswith mt_startswith ho he hs hbase hline) (lv_sm fun a y H Q G F M dy Qt R p h k => by
    cases dy with
    | str b =>
      cases p
      exact ⟨a, b, rfl, rfl, k _ F H M _ (Same.refl _) R (.bl _) h⟩
    | _ => exact h.elim)
def cStr : RLt := fun ds M Q => match ds with
  | [.int i] => i.natAbs.log2 < 1920 ∧ Q (.str (toString i : String)) M
  | _ => False
def cIntS : RLt := fun ds M Q => match ds with
  | [.str a] => ∃ n, PySem.intText? a = some n ∧ a.length ≤ 640 ∧ Q (.int n) M
  | _ => False
theorem cq_str : CallQ X (.type "str") cStr := CallRimp call_str_int (by
  rintro xs H Q ⟨G, F, M, ds, Qt, R, r, h, k⟩
  match ds, r, h with
  | [.int i], .cons (.int _) .nil, h => exact ⟨i, rfl, h.1, k _ F H M _ (Same.refl _) R (.str _) h.2⟩)
theorem cq_intS : CallQ X (.type "int") cIntS := CallRimp call_int_str (by
  rintro xs H Q ⟨G, F, M, ds, Qt, R, r, h, k⟩
  match ds, r, h with
  | [.str a], .cons (.str _) .nil, h =>
    obtain ⟨n, h1, h2, h3⟩ := h
    exact ⟨a, n, rfl, h1, h2, k _ F H M _ (Same.refl _) R (.int _) h3⟩)
/-- * where one factor is short -/
theorem oq_mulS : OpQ X (binaryOp .Mult) (bInt CMul fun i j => .int (i * j)) := OpRimp op_mul (lr2_int (fun _ _ _ => .int _) bInt_inv)
theorem ms_r {i j : Int} (h : -(2 ^ 64) < j ∧ j < 2 ^ 64) : CMul i j := .inr h
theorem ms_l {i j : Int} (h : -(2 ^ 64) < i ∧ i < 2 ^ 64) : CMul i j := .inl h
/-- a sign in a text -/
def bInS : R2t := fun x y M Q => match x, y with
  | .str a, .str z => ∃ c, a = ⟨#[c]⟩ ∧ Q (.bl (decide (c ∈ z.cps.toList))) M
  | _, _ => False
theorem oq_inS : OpQ X (compareOp .In) bInS := OpRimp op_in_sign (by
  rintro x y H Q ⟨G, F, M, dx, dy, Qt, R, px, py, h, k⟩
  match dx, px, dy, py, h with
  | .str a, .str _, .str z, .str _, h =>
    obtain ⟨c, rfl, h⟩ := h
    exact ⟨c, z, rfl, rfl, k _ F H M _ (Same.refl _) R (.bl _) h⟩)
end
/-! ### zip of two tuples -/
def iZiT (ta : TAt) : TIt := fun τ M Q => ta τ M fun ds M1 => match ds with
  | [d, d2] => match tupOf d, tupOf d2 with
    | some xs, some ys => Q ⟨zipD xs ys, fun _ => True⟩ M1
    | _, _ => False
  | _ => False
theorem itOk_zipT {K : PySem.W.Frag} {F0 : Hp} {a b : Addr} {d d2 : D} {ds ds2 : List D} (p : Rp K F0 (.ref a) d) (p2 : Rp K F0 (.ref b) d2) (h1 : tupOf d = some ds) (h2 : tupOf d2 = some ds2) : ItOk K F0 (RZ.ItzT K a b) ⟨zipD ds ds2, fun _ => True⟩ where
  go := fun i G F H M x s R _ hx => by
    obtain ⟨a', vs, e, hs, r⟩ := tup_of R (p.mono s) h1
    cases e
    obtain ⟨b', ws, e, hs2, r2⟩ := tup_of R (p2.mono s) h2
    cases e
    obtain ⟨y, z, hy, hz, _⟩ := zipD_get hx
    obtain ⟨v, hv, _⟩ := r.getD hy
    obtain ⟨w, hw, _⟩ := r2.getD hz
    exact ⟨vs, ws, v, w, hs, hs2, hv, hw⟩
  yld := fun i G F H M x v H' s R _ hx y => by
    obtain ⟨a', vs, e, hs, r⟩ := tup_of R (p.mono s) h1
    cases e
    obtain ⟨b', ws, e, hs2, r2⟩ := tup_of R (p2.mono s) h2
    cases e
    obtain ⟨y1, z1, hy, hz, rfl⟩ := zipD_get hx
    obtain ⟨v', hv, rv⟩ := r.getD hy
    obtain ⟨w', hw, rw'⟩ := r2.getD hz
    obtain ⟨T, c1, c2, rfl, nT, rfl, f1, f2⟩ := y
    have e1 := SqT_get hs hv f1
    subst e1
    have e2 := SqT_get hs2 hw f2
    subst e2
    obtain ⟨s2, r2⟩ := R.newF (o := .tup [c1, c2]) nT
    exact ⟨_, s2, r2, .tup upd_same (.cons (rv.mono s2) (.cons (rw'.mono s2) .nil))⟩
  stop := fun i G F H M s R _ hl => by
    obtain ⟨a', vs, e, hs, r⟩ := tup_of R (p.mono s) h1
    cases e
    obtain ⟨b', ws, e, hs2, r2⟩ := tup_of R (p2.mono s) h2
    cases e
    have hl : (zipD ds ds2).length ≤ i := hl
    unfold zipD at hl
    rw [List.length_zipWith] at hl
    exact ⟨vs, ws, hs, hs2, by rw [r.length, r2.length]; omega⟩
theorem qi_zipT {X : Cx} {E : XK} {Et : XT} {e e2 : Expr} {ta : TAt} {p pos tpos : Pos} {elts : List Expr} {kk : Nat} (hm : X.mg "zip" = none) (ha : QA X E Et [e, e2] ta) (hg : Gl X "zip" := by rfl)
    (hs : starEach [e, e2] X.env = (false, eval e X.env) :: starEach [e2] X.env := by rfl) (hpl : (backTo pos (starEach [e2] X.env)).any (·.1) = false := by rfl) : QI X E Et (.Tuple elts kk tpos) (.Call (.Name "zip" p) [e, e2] [] pos) (iZiT ta) := by
  refine ⟨fun pins s σ H R I h => (RZ.pi_zipA hg hm ha hs hpl).run pins s σ H R I ?_⟩
  obtain ⟨G, F, M, τ, Qt, a, h, k⟩ := h
  refine ⟨G, F, M, τ, _, a, h, fun vs F1 H1 M1 ds s1 r1 p1 q1 => ?_⟩
  match ds, p1, q1 with
  | [d, d2], .cons h1 (.cons h2 .nil), q1 =>
    have q1 : (match tupOf d, tupOf d2 with | some xs, some ys => Qt ⟨zipD xs ys, fun _ => True⟩ M1 | _, _ => False) := q1
    cases q : tupOf d with
    | none => rw [q] at q1; exact q1.elim
    | some xs =>
      cases qq : tupOf d2 with
      | none => rw [q, qq] at q1; exact q1.elim
      | some ys =>
        rw [q, qq] at q1
        obtain ⟨b, vs, rfl, hs, r⟩ := tup_of r1 h1 q
        obtain ⟨c, ws, rfl, hs2, r2⟩ := tup_of r1 h2 qq
        exact ⟨b, c, vs, ws, rfl, .inr ⟨hs, hs2, k _ _ F1 H1 M1 s1 r1 (itOk_zipT h1 h2 q qq) q1⟩⟩
/-! readings -/
theorem uZiT {ta : TAt} {τ : Sg} {M : MH} {Q : Its → MH → Prop} : iZiT ta τ M Q = ta τ M fun ds M1 => oL2 ds fun d d2 => oSome (tupOf d) fun xs => oSome (tupOf d2) fun ys => Q ⟨zipD xs ys, fun _ => True⟩ M1 := by
  unfold iZiT
  congr 1
  funext ds M1
  match ds with
  | [] => rfl
  | [_] => rfl
  | [d, d2] =>
    show (match tupOf d, tupOf d2 with | some xs, some ys => Q ⟨zipD xs ys, fun _ => True⟩ M1 | _, _ => False) = oSome (tupOf d) fun xs => oSome (tupOf d2) fun ys => Q ⟨zipD xs ys, fun _ => True⟩ M1
    cases tupOf d with
    | none => rfl
    | some xs => cases tupOf d2 <;> rfl
  | _ :: _ :: _ :: _ => rfl
section
variable {τ : Sg} {M : MH} {Q : VD} {a b : Str} {i : Int} {y : D} {r : RSt} {to te : TEt}
theorem utSm : tSm r to te τ M Q = to τ M fun x M1 => oStr x fun a => te τ M1 fun y M2 => r a y M2 Q := propext Iff.rfl
theorem umSplit : mSplit a (.str b) M Q = ((b.length == 0) = false ∧ a.length + 2 ≤ 16777216 ∧ Q (.lst ((Txt.split a b).map .str)) M) := by rw [← sizeLine_eq]; rfl
theorem umStarts : mStarts a (.str b) M Q = Q (.bl (Txt.startswith a b)) M := propext Iff.rfl
theorem umJoin : mJoin a y M Q = ∃ ys : List Str, lstOf M y = some (ys.map D.str) ∧ (ys.map (·.length)).sum + ys.length * a.length ≤ 16777216 ∧ Q (.str (Txt.join a ys)) M := propext Iff.rfl
theorem ucStr : cStr [.int i] M Q = (i.natAbs.log2 < 1920 ∧ Q (.str (toString i : String)) M) := propext Iff.rfl
theorem ucIntS : cIntS [.str a] M Q = ∃ n, PySem.intText? a = some n ∧ a.length ≤ 640 ∧ Q (.int n) M := propext Iff.rfl
theorem ubInS : bInS (.str a) (.str b) M Q = ∃ c, a = ⟨#[c]⟩ ∧ Q (.bl (decide (c ∈ b.cps.toList))) M := propext Iff.rfl
end
end Tl

namespace Tl
open PySem PySem.Spec PyProof.Rows L2

/-! ### a, b = a list -/
def gLs (n : Nat) (t : TGst) : TGt := fun d τ M Q => match lstOf M d with
  | some ds => ds.length = n ∧ t ds τ M Q
  | none => False
theorem qg_lst {X : Cx} {E : XK} {Et : XT} {pos : Pos} {es : List Expr} {k : Nat} {t : TGst} {n : Nat} (hc : X.calm = true) (h : QGs X E Et es t)
    (hn : (assignEach es X.env).length = n := by rfl) (hst : (assignEach es X.env).findIdx? (·.1) = none := by rfl) : QG X E Et (.Tuple es k pos) (gLs n t) := by
  refine ⟨fun pins s σ H v u Q I r hw => ?_⟩
  obtain ⟨G, F, M, τ, d, Qt, a, p, hw, kk⟩ := hw
  unfold gLs at hw
  cases e : lstOf M d with
  | none => rw [e] at hw; exact hw.elim
  | some ds =>
    rw [e] at hw
    obtain ⟨b, vs, rfl, hs, rs⟩ := lst_of a.rel p e
    exact (pg_lst hc h hn hst).run pins s σ H _ u Q I r ⟨b, vs, rfl, hs, by rw [rs.length]; exact hw.1, G, F, M, τ, _, Qt, a, rs, hw.2, kk⟩
theorem ugLs {n : Nat} {t : TGst} {d : D} {τ : Sg} {M : MH} {Q : Sg → MH → Prop} : gLs n t d τ M Q = oSome (lstOf M d) fun ds => ds.length = n ∧ t ds τ M Q := by
  unfold gLs oSome
  cases lstOf M d <;> rfl
/-! ### enumerate(a list, start=k) -/
def EnTurn (k : Int) (a e it : Addr) : Nat → Heap → Prop := fun i h => (∃ old, IsEnum h e it (k + (i : Nat)) old) ∧ h.IsListIter it a i ∧ e ≠ it ∧ a ≠ it ∧ a ≠ e
def IteS (K : PySem.W.Frag) (k : Int) (a : Addr) : It where
  go := fun i H => ∃ (xs : List V) (x : V), SqL K H a xs ∧ xs[i]? = some x
  yld := fun i H v H' => ∃ T x, v = .ref T ∧ H T = none ∧ H' = upd H T (.tup [.int (k + (i : Nat)), x]) ∧ ∀ xs, SqL K H a xs → xs[i]? = some x
  stop := fun i H => ∃ xs : List V, SqL K H a xs ∧ xs.length ≤ i
/-- where the items end, whatever the count -/
theorem draws_end {prog : Program} {w : World} {A : Around} (hh : A.handled = none) (it l : Addr) {items : Array Value} {i : Nat} (hx : items[i]? = none) :
    Draws prog w A it [it, l] i (fun _ _ => False) (fun j h => j = i ∧ h.IsListIter it l i ∧ h.IsList l items) where
  live := fun _ _ ⟨_, ⟨o, ho, _⟩, _⟩ => ⟨o, ho⟩
  frame := fun _ _ _ ⟨e, h1, h2⟩ hk => ⟨e, h1.at fun o q => hk it (by simp) o q, h2.at fun o q => hk l (by simp) o q⟩
  item := fun j s Q E hj ⟨e, _⟩ _ => absurd hj (by omega)
  done := fun s Q E ⟨_, h1, h2⟩ hE => wpAny_nextOf_list_end hh h1 h2 hx hE
theorem turn_enumS {P : Program} {w : World} {K : PySem.W.Frag} {elts : List Expr} {kk : Nat} {tpos : Pos} (k : Int) (a e it : Addr) :
    Turn P w K (.Tuple elts kk tpos) (IteS K k a) [e, it] e (EnTurn k a e it) where
  mem := by simp
  obj := fun i h ⟨⟨old, he⟩, ⟨o, ho, hc, hd⟩, _⟩ b hb => by
    rcases List.mem_cons.mp hb with rfl | hb
    · exact ⟨_, he, fun v q => nomatch q⟩
    · rw [List.mem_singleton.mp hb]; exact ⟨o, ho, fun v q => by rw [hd] at q; cases q⟩
  keep := fun i h h' ⟨⟨old, he⟩, hi, hne⟩ kp => ⟨⟨old, kp e (by simp) _ he⟩, hi.at fun o q => kp it (by simp) o q, hne⟩
  item := by
    intro X hP hw hK hc i pins s σ H E I hf st hg
    subst hP hw hK
    obtain ⟨⟨old, he⟩, hit, hne, hai, hae⟩ := st
    obtain ⟨xs, x, hq, hx⟩ := hg
    obtain ⟨its, rv, pl, hz⟩ := I.list hq
    obtain ⟨u, hu, ru⟩ := rv.get hx
    have hel : e < s.heap.objs.size := Heap.lt_size he
    have hil : it < s.heap.objs.size := by obtain ⟨_, q, _⟩ := hit; exact Heap.lt_size q
    have hsz : i < its.toArray.size := by
      have := (List.getElem?_eq_some_iff.mp hu).1
      simpa using this
    have hh : X.A.in1.handled = none := I.ok.hd hc
    refine wpAny_pyNext_enum_itemC (Draws.list hh it a hai its.toArray) he ⟨hit, pl.isList⟩ hsz hne (by simp only [List.mem_cons, List.not_mem_nil, or_false, not_or]; exact ⟨hne, Ne.symm hae⟩) fun y h' tk hy ho hit' hT hsz' hk => ?_
    have eu : y = u := by
      have h1 : its[i]? = some y := by simpa using hy
      exact Option.some.inj (h1.symm.trans hu)
    subst eu
    refine ⟨_, rfl, wpAny_letOwnedTupleGo_enum (s := { s with heap := h', toks := tk + 1 }) ho fun h'' he' sb => ?_⟩
    have hT2 : h''.get? s.heap.objs.size = some { cls := .type "tuple", data := .seq #[.int (k + (i : Nat)) tk, y] } := (sb.2 _ (Nat.ne_of_gt hel)).trans hT
    have new : ObjOk X.prog X.w (upd H s.heap.objs.size (.tup [.int (k + (i : Nat)), x])) h'' s.heap.objs.size (.tup [.int (k + (i : Nat)), x]) :=
      ⟨by show 2 ≤ sizeLine; decide, [.int (k + (i : Nat)) tk, y], .cons ⟨_, rfl⟩ (.cons ru .nil), ⟨_, hT2, rfl, _, rfl⟩⟩
    have I1 : Inv X pins σ (upd H s.heap.objs.size (.tup [.int (k + (i : Nat)), x])) { s with heap := h'', toks := tk + 1 } :=
      I.turnedNew (ch := [e, it]) (fun b ob hb q => (sb.2 b (fun z => hb (by simp [z]))).trans (hk b ob (fun z => hb (by simp [z])) (fun z => hb (by simp [z])) q)) hf (Nat.le_refl _) new
    refine ⟨.ref s.heap.objs.size, _, I1, rfl, ⟨_, x, rfl, I.hok.fresh (Nat.le_refl _), rfl, fun ys hy => by rw [I.list_inj hy hq]; exact hx⟩, ⟨⟨y, ?_⟩, hit'.1.at fun o q => (sb.2 it (Ne.symm hne)).trans q, hne, hai, hae⟩, fun b hb => ?_⟩
    · have e1 : k + ((i + 1 : Nat) : Int) = k + (i : Int) + 1 := by omega
      rw [e1]
      exact he'
    · have hb' : b < s.heap.objs.size := by
        rcases List.mem_cons.mp hb with rfl | hb
        · exact hel
        · rw [List.mem_singleton.mp hb]; exact hil
      rw [upd_ne (Nat.ne_of_lt hb')]
      exact (hf b hb).1
  done := by
    intro X hP hw hK hc i pins s σ H E I hf st hg
    subst hP hw hK
    obtain ⟨⟨old, he⟩, hit, hne, hai, hae⟩ := st
    obtain ⟨xs, hq, hx⟩ := hg
    obtain ⟨its, rv, pl, hz⟩ := I.list hq
    obtain ⟨f0, f1, f2, f3, f4, f5⟩ := hf it (by simp)
    have hl := rv.length
    have hh : X.A.in1.handled = none := I.ok.hd hc
    exact wpAny_pyNext_enum_endD (draws_end hh it a (items := its.toArray) (i := i) (by simp; omega)) he ⟨rfl, hit, pl.isList⟩ fun h' eb => ⟨rfl, I.turned (t' := s.toks) (fun b o hb q => eb b o hb q) f0 f1 f3 f4 f5⟩
  self := fun A i s Q E st h => by
    obtain ⟨⟨_, he⟩, _⟩ := st
    exact wpAny_pyIter_enum he h
def iEnumS (K : PySem.W.Frag) (k : Int) (ta : TA) : TI := fun σ H R => ta σ H fun vs H1 => ∃ a xs, vs = [.ref a] ∧ SqL K H1 a xs ∧ R (IteS K k a) H1
theorem pi_enumS {X : Cx} {e : Expr} {k : Int} {j : Nat} {ta : TA} {p p2 p3 pos tpos : Pos} {elts : List Expr} {kk : Nat} (hg : Gl X "enumerate") (hm : X.mg "enumerate" = none) (ha : PA X [e] ta) (hk : -(2 ^ 63) ≤ k ∧ k < 2 ^ 63)
    (hs : starEach [e] X.env = [(false, eval e X.env)] := by rfl) :
    L2.PI X (.Tuple elts kk tpos) (.Call (.Name "enumerate" p) [e] [⟨some "start", .Constant (.int k) j p2, p3⟩] pos) (iEnumS X.K k ta) := by
  refine ⟨fun pins s σ H R I h => ?_⟩
  refine wpAny_Call_Name_kw (ld_blt I hg hm boot_enumerate ?_)
  refine PySem.W.callWith_of (P := fun _ => True) (by rw [hs]; rfl) (fun _ _ => ⟨.machine, .inr (.inl rfl), PySem.W.Looks.of_pure rfl⟩) (evalArgs_kw2 rfl ?_ hs)
  refine thn (ha.run pos pins s σ H _ I h) fun us s1 ⟨vs, H1, I1, r1, q1⟩ => ?_
  refine kwAll_cons (thn ((pe_int (X := X) (i := k) (j := j) (pos := p2)).run pins s1 σ H1 (fun v H2 => v = .int k ∧ H2 = H1) I1 ⟨rfl, rfl⟩) fun u s2 ⟨v, H2, I2, r2, ev, eH⟩ => kwAll_nil ⟨trivial, ?_⟩)
  subst ev eH
  obtain ⟨t, rfl⟩ := r2
  obtain ⟨a, xs, ex, hq, q⟩ := q1
  subst ex
  cases r1 with
  | cons r rr =>
    cases rr
    cases r
    obtain ⟨its, rv, pl, hz⟩ := I2.list hq
    refine enum_begins_start (begins_list a its.toArray) pl.isList hk.1 hk.2 fun h' he ho hsz kp => ?_
    refine wpAny_pyIter_enum he ?_
    have I3 : Inv X pins σ H2 { s2 with heap := h' } := I2.kept (t' := s2.toks) kp
    have hal : a < s2.heap.objs.size := by obtain ⟨o, ho, _⟩ := pl.isList; exact Heap.lt_size ho
    refine ⟨s2.heap.objs.size + 1, [s2.heap.objs.size + 1, s2.heap.objs.size], _, _, H2, rfl, I3, turn_enumS k a (s2.heap.objs.size + 1) s2.heap.objs.size, ⟨⟨.none, by rw [show k + ((0 : Nat) : Int) = k by omega]; exact he⟩, ⟨_, ho, rfl, rfl⟩, Nat.succ_ne_self _, Nat.ne_of_lt hal, Nat.ne_of_lt (Nat.lt_succ_of_lt hal)⟩, fun b hb => ?_, q⟩
    have hle : s2.heap.objs.size ≤ b := by
      rcases List.mem_cons.mp hb with rfl | hb
      · exact Nat.le_add_right _ _
      · rw [List.mem_singleton.mp hb]; exact Nat.le_refl _
    exact I2.fpOk hle (I2.hok.fresh hle)
def enumS (k : Int) (xs : List D) : List D := xs.mapIdx fun i d => .tup [.int (k + (i : Nat)), d]
def iEnS (k : Int) (ta : TAt) : TIt := fun τ M Q => ta τ M fun ds M1 => match ds with
  | [d] => (match lstOf M1 d with
    | some xs => Q ⟨enumS k xs, fun M => lstOf M d = some xs⟩ M1
    | none => False)
  | _ => False
theorem enumS_get {k : Int} {xs : List D} {i : Nat} {x : D} (h : (enumS k xs)[i]? = some x) : ∃ y, xs[i]? = some y ∧ x = .tup [.int (k + (i : Nat)), y] := by
  unfold enumS at h
  rw [List.getElem?_mapIdx] at h
  obtain ⟨y, h1, h2⟩ := Option.map_eq_some_iff.mp h
  exact ⟨y, h1, h2.symm⟩
theorem itOk_enumS {K : PySem.W.Frag} {F0 : Hp} {k : Int} {a : Addr} {d : D} {ds : List D} (p : Rp K F0 (.ref a) d) : ItOk K F0 (IteS K k a) ⟨enumS k ds, fun M => lstOf M d = some ds⟩ where
  go := fun i G F H M x s R h hx => by
    obtain ⟨b, vs, e, hs, r⟩ := lst_of R (p.mono s) h
    cases e
    obtain ⟨y, hy, _⟩ := enumS_get hx
    obtain ⟨v, hv, _⟩ := r.getD hy
    exact ⟨vs, v, hs, hv⟩
  yld := fun i G F H M x v H' s R h hx y => by
    obtain ⟨b, vs, e, hs, r⟩ := lst_of R (p.mono s) h
    cases e
    obtain ⟨z, hz, rfl⟩ := enumS_get hx
    obtain ⟨v', hv, rv⟩ := r.getD hz
    obtain ⟨T, w, rfl, nT, rfl, f⟩ := y
    have := SqL_get hs hv f
    subst this
    obtain ⟨s2, r2⟩ := R.newF (o := .tup [.int (k + (i : Nat)), w]) nT
    exact ⟨_, s2, r2, .tup upd_same (.cons (.int _) (.cons (rv.mono s2) .nil))⟩
  stop := fun i G F H M s R h hl => by
    obtain ⟨b, vs, e, hs, r⟩ := lst_of R (p.mono s) h
    cases e
    have hl : (enumS k ds).length ≤ i := hl
    unfold enumS at hl
    rw [List.length_mapIdx] at hl
    exact ⟨vs, hs, by rw [r.length]; exact hl⟩
theorem qi_enumS {X : Cx} {E : XK} {Et : XT} {e : Expr} {k : Int} {j : Nat} {ta : TAt} {p p2 p3 pos tpos : Pos} {elts : List Expr} {kk : Nat} (hm : X.mg "enumerate" = none) (ha : QA X E Et [e] ta) (hk : -(2 ^ 63) ≤ k ∧ k < 2 ^ 63) (hg : Gl X "enumerate" := by rfl) (hs : starEach [e] X.env = [(false, eval e X.env)] := by rfl) :
    QI X E Et (.Tuple elts kk tpos) (.Call (.Name "enumerate" p) [e] [⟨some "start", .Constant (.int k) j p2, p3⟩] pos) (iEnS k ta) := by
  refine ⟨fun pins s σ H R I h => (pi_enumS hg hm ha hk hs).run pins s σ H R I ?_⟩
  obtain ⟨G, F, M, τ, Qt, a, h, kk⟩ := h
  refine ⟨G, F, M, τ, _, a, h, fun vs F1 H1 M1 ds s1 r1 p1 q1 => ?_⟩
  match ds, p1, q1 with
  | [d], .cons h1 .nil, q1 =>
    have q1 : (match lstOf M1 d with | some xs => Qt ⟨enumS k xs, fun M => lstOf M d = some xs⟩ M1 | none => False) := q1
    cases q : lstOf M1 d with
    | none => rw [q] at q1; exact q1.elim
    | some xs =>
      rw [q] at q1
      obtain ⟨b, vs, rfl, hs, r⟩ := lst_of r1 h1 q
      exact ⟨b, vs, rfl, hs, kk _ _ F1 H1 M1 s1 r1 (itOk_enumS h1) q1⟩
theorem uEnS {k : Int} {tA : TAt} {τ : Sg} {M : MH} {Q : Its → MH → Prop} : iEnS k tA τ M Q = tA τ M fun ds M1 => oL1 ds fun d => oSome (lstOf M1 d) fun xs => Q ⟨enumS k xs, fun M => lstOf M d = some xs⟩ M1 := by
  unfold iEnS
  congr 1
  funext ds M1
  unfold oL1 oSome
  match ds with
  | [] => rfl
  | [d] => cases h : lstOf M1 d <;> simp only [h]
  | _ :: _ :: _ => rfl
end Tl

namespace Tl
open PySem PySem.Spec PyProof.Rows L2

/-! ### min and max of two pairs whose first numbers are unlike -/
/-- what is asked of the iterator over the two -/
def Best2 (prog : Program) (w : World) (A : Around) (op : CmpOp) (Q : Value → PySem.Shared → Prop) : Value → PySem.Shared → Prop := fun it t => ∃ I fp wr G n P St H bt, it = .ref I ∧ WalksS prog w A I fp wr G n P St ∧ St 0 t ∧ (∀ b ∈ fp, b < t.heap.objs.size) ∧ 0 < n ∧
  (∀ b o, H.get? b = some o → b ∉ wr) ∧ (∀ b o, H.get? b = some o → t.heap.get? b = some o) ∧ CmpIn prog w A op H P bt ∧ ∀ v t', P (argBest bt (n - 1)) v → Moved wr G t t' → Q v t'
section
variable {prog : Program} {w : World} {A : Around} {E : Value → PySem.Shared → Prop} {s : PySem.Shared} {a b : Value} {Q : Value → PySem.Shared → Prop}
theorem min2_of (h : wpAny (model prog w) A.in1 (pyIter (.ref s.heap.objs.size)) (Best2 prog w A.in1 .Lt Q) E { s with heap := s.heap.push { cls := .type "tuple", data := .seq #[a, b] } }) : wpAny (model prog w) A (call (.builtin "min") [a, b]) Q E s := by
  have nm : (toString "min" ++ toString ".loop" : String) = "min.loop" := by decide
  have bp : Builtin.Builtins.bindParams "min" ["key", "default"] 0 ⟨[], []⟩ = pure [none, none] := rfl
  refine call_function_tree PySem.F.kind_min PySem.F.plain_min PySem.F.entry_min (PySem.F.args_min2 a b) (show wpAny _ A.in1 (_ >>= _) _ _ s from wpAny_bind (wpAny_of_eq bp (show wpAny _ A.in1 (newTuple [a, b] >>= _) _ _ s from wpAny_bind (wpAny_newObj_type (wpAny_bind (wpAny_mono h (fun it t ht => ?_) fun _ _ e => e))))))
  obtain ⟨I, fp, wr, G, n, P, St, H, bt, rfl, W, st, lt, pos, apart, keep, cmp, fin⟩ := ht
  have nf : t.heap.objs.size ∉ fp := fun q => absurd (lt _ q) (Nat.lt_irrefl _)
  refine wpAny_bind (wpAny_newObj_type ?_); rw [nm]
  refine wpAny_pure ⟨plainId_quiet PySem.F.plain_min_loop _, codeAny_min_loop_firstH W H apart bt cmp t.heap.objs.size nf (fresh_in keep) _ pos (fun x o q => Heap.get?_push_of_some _ (keep x o q)) (W.frame 0 t _ t.toks st (Nat.le_refl _) fun x _ o q => Heap.get?_push_of_some _ q) (Heap.get?_push_size _ rfl) fun v t' hv m => fin v t' hv (Moved.drop_new (tk := t.toks) m (Nat.le_refl _))⟩
theorem max2_of (h : wpAny (model prog w) A.in1 (pyIter (.ref s.heap.objs.size)) (Best2 prog w A.in1 .Gt Q) E { s with heap := s.heap.push { cls := .type "tuple", data := .seq #[a, b] } }) : wpAny (model prog w) A (call (.builtin "max") [a, b]) Q E s := by
  have nm : (toString "max" ++ toString ".loop" : String) = "max.loop" := by decide
  have bp : Builtin.Builtins.bindParams "max" ["key", "default"] 0 ⟨[], []⟩ = pure [none, none] := rfl
  refine call_function_tree PySem.F.kind_max PySem.F.plain_max PySem.F.entry_max (PySem.F.args_max2 a b) (show wpAny _ A.in1 (_ >>= _) _ _ s from wpAny_bind (wpAny_of_eq bp (show wpAny _ A.in1 (newTuple [a, b] >>= _) _ _ s from wpAny_bind (wpAny_newObj_type (wpAny_bind (wpAny_mono h (fun it t ht => ?_) fun _ _ e => e))))))
  obtain ⟨I, fp, wr, G, n, P, St, H, bt, rfl, W, st, lt, pos, apart, keep, cmp, fin⟩ := ht
  have nf : t.heap.objs.size ∉ fp := fun q => absurd (lt _ q) (Nat.lt_irrefl _)
  refine wpAny_bind (wpAny_newObj_type ?_); rw [nm]
  refine wpAny_pure ⟨plainId_quiet PySem.F.plain_max_loop _, codeAny_max_loop_firstH W H apart bt cmp t.heap.objs.size nf (fresh_in keep) _ pos (fun x o q => Heap.get?_push_of_some _ (keep x o q)) (W.frame 0 t _ t.toks st (Nat.le_refl _) fun x _ o q => Heap.get?_push_of_some _ q) (Heap.get?_push_size _ rfl) fun v t' hv m => fin v t' hv (Moved.drop_new (tk := t.toks) m (Nat.le_refl _))⟩
end
open PySem.W in
def prD (i j : Int) : PyData := .tuple [.int i, .int j]
open PySem.W in
theorem lt_prD {i j k l : Int} (h : i ≠ k) : dataLt (prD i j) (prD k l) = decide (i < k) := by
  have e : ∀ a b : Int, keyToks (prD a b) = .inl 1 :: .inl a :: (.inl 1 :: .inl b :: [.inl 0]) := fun a b => by
    unfold prD keyToks keyToksAll keyToksAll keyToksAll keyToks; rfl
  unfold dataLt
  rw [e, e, lex_self (O := itemOrd), lex_diff (O := itemOrd) (fun q => h (Sum.inl.inj q))]
  rfl
open PySem.W in
theorem alike_pr (i j k l : Int) : AlikeAll [prD i j, prD k l] := by
  refine ⟨fun x hx y hy => ?_, fun x hx => ?_⟩
  · simp only [List.mem_cons, List.not_mem_nil, or_false] at hx hy
    rcases hx with rfl | rfl <;> rcases hy with rfl | rfl <;> rfl
  · simp only [List.mem_cons, List.not_mem_nil, or_false] at hx
    rcases hx with rfl | rfl <;> (intro q; cases q)
section
variable {prog : Program} {w : World} {A : Around} {E : Value → PySem.Shared → Prop} {s : PySem.Shared} {p q : Addr} {i j k l : Int} {t1 t2 t3 t4 : Tok} {Q : Value → PySem.Shared → Prop}
open PySem.W in
theorem pr_reads (hp : s.heap.IsTuple p #[.int i t1, .int j t2]) (hq : s.heap.IsTuple q #[.int k t3, .int l t4]) : ∃ as, ReadsAll (s.heap.push { cls := .type "tuple", data := .seq #[.ref p, .ref q] }) (#[Value.ref p, Value.ref q] : Array Value).toList [prD i j, prD k l] as := by
  obtain ⟨o, ho, hc, n, hd⟩ := hp
  obtain ⟨o2, ho2, hc2, n2, hd2⟩ := hq
  exact ⟨_, .cons (.tuple (Heap.get?_push_of_some _ ho) hc hd (.cons (.int i t1) (.cons (.int j t2) .nil))) (.cons (.tuple (Heap.get?_push_of_some _ ho2) hc2 hd2 (.cons (.int k t3) (.cons (.int l t4) .nil))) .nil)⟩
open PySem.W in
theorem min_pairs (hh : A.handled = none) (hu : A.units + 64 < cLine) (hp : s.heap.IsTuple p #[.int i t1, .int j t2]) (hq : s.heap.IsTuple q #[.int k t3, .int l t4]) (hne : i ≠ k)
    (h : ∀ h' tk, (∀ b o, s.heap.get? b = some o → h'.get? b = some o) → Q (.ref (if k < i then q else p)) { s with heap := h', toks := tk }) : wpAny (model prog w) A (call (.builtin "min") [.ref p, .ref q]) Q E s := by
  obtain ⟨as, hr⟩ := pr_reads hp hq
  have hT : (s.heap.push { cls := .type "tuple", data := .seq #[.ref p, .ref q] }).IsTuple s.heap.objs.size #[.ref p, .ref q] := ⟨_, Heap.get?_push_size _ rfl, rfl, 0, rfl⟩
  refine min2_of (iter_tupleW (A := A.in1) hh hT fun t e W st lt apart keep => ?_)
  refine ⟨_, _, _, _, _, _, _, _, _, rfl, W, st, lt, Nat.zero_lt_succ _, apart, keep, cmpIn_lt (A := A.in1) (s := { s with heap := s.heap.push { cls := .type "tuple", data := .seq #[.ref p, .ref q] } }) hr (alike_pr i j k l) (by
    have h1 : PyData.depthAll [prD i j, prD k l] ≤ 2 := by simp [prD, PyData.depthAll, PyData.depth]
    show A.units + 1 + _ < _
    omega), fun v t' hv m => ?_⟩
  obtain ⟨h', tk, rfl, hk⟩ := moved_old e rfl m
  have hv : (#[Value.ref p, Value.ref q] : Array Value)[if dataLt (prD k l) (prD i j) = true then 1 else 0]? = some v := hv
  rw [lt_prD (Ne.symm hne)] at hv
  have := h h' tk fun b o q => hk b o (Heap.get?_push_of_some _ q)
  by_cases hki : k < i
  · rw [if_pos (decide_eq_true hki)] at hv
    rw [if_pos hki] at this
    cases hv
    exact this
  · rw [if_neg (by simpa using hki)] at hv
    rw [if_neg hki] at this
    cases hv
    exact this
open PySem.W in
theorem max_pairs (hh : A.handled = none) (hu : A.units + 64 < cLine) (hp : s.heap.IsTuple p #[.int i t1, .int j t2]) (hq : s.heap.IsTuple q #[.int k t3, .int l t4]) (hne : i ≠ k)
    (h : ∀ h' tk, (∀ b o, s.heap.get? b = some o → h'.get? b = some o) → Q (.ref (if i < k then q else p)) { s with heap := h', toks := tk }) : wpAny (model prog w) A (call (.builtin "max") [.ref p, .ref q]) Q E s := by
  obtain ⟨as, hr⟩ := pr_reads hp hq
  have hT : (s.heap.push { cls := .type "tuple", data := .seq #[.ref p, .ref q] }).IsTuple s.heap.objs.size #[.ref p, .ref q] := ⟨_, Heap.get?_push_size _ rfl, rfl, 0, rfl⟩
  refine max2_of (iter_tupleW (A := A.in1) hh hT fun t e W st lt apart keep => ?_)
  refine ⟨_, _, _, _, _, _, _, _, _, rfl, W, st, lt, Nat.zero_lt_succ _, apart, keep, cmpIn_gt (A := A.in1) (s := { s with heap := s.heap.push { cls := .type "tuple", data := .seq #[.ref p, .ref q] } }) hr (alike_pr i j k l) (by
    have h1 : PyData.depthAll [prD i j, prD k l] ≤ 2 := by simp [prD, PyData.depthAll, PyData.depth]
    show A.units + 1 + _ < _
    omega), fun v t' hv m => ?_⟩
  obtain ⟨h', tk, rfl, hk⟩ := moved_old e rfl m
  have hv : (#[Value.ref p, Value.ref q] : Array Value)[if dataLt (prD i j) (prD k l) = true then 1 else 0]? = some v := hv
  rw [lt_prD hne] at hv
  have := h h' tk fun b o q => hk b o (Heap.get?_push_of_some _ q)
  by_cases hki : i < k
  · rw [if_pos (decide_eq_true hki)] at hv
    rw [if_pos hki] at this
    cases hv
    exact this
  · rw [if_neg (by simpa using hki)] at hv
    rw [if_neg hki] at this
    cases hv
    exact this
end
section
variable {X : Cx}
def rPr (mx : Bool) : List V → Hp → VK → Prop := fun xs H Q => ∃ (p q : Addr) (i j k l : Int), xs = [.ref p, .ref q] ∧ H p = some (.tup [.int i, .int j]) ∧ H q = some (.tup [.int k, .int l]) ∧ i ≠ k ∧ Q (.ref (if (if mx = true then i < k else k < i) then q else p)) H
theorem tup_at {pins : List (Addr × Obj)} {σ : L2.St} {H : Hp} {s : PySem.Shared} (I : L2.Inv X pins σ H s) {p : Addr} {i j : Int} (h : H p = some (.tup [.int i, .int j])) : ∃ t u, s.heap.IsTuple p #[.int i t, .int j u] := by
  obtain ⟨_, its, r, o, ho, hc, n, hd⟩ := I.hok _ _ h
  obtain ⟨u1, u2, rfl, ri, rj⟩ := vals2 r
  obtain ⟨t1, rfl⟩ := ri
  obtain ⟨t2, rfl⟩ := rj
  exact ⟨t1, t2, o, ho, hc, n, hd⟩
theorem call_minP (hc : X.calm = true) (hu : X.A.units + 64 < cLine) : CallR X (.builtin "min") (rPr false) := by
  rintro pins s σ H xs us Q I r ⟨p, q, i, j, k, l, rfl, hp, hq, ne, hQ⟩
  obtain ⟨u, w', rfl, r1, r2⟩ := vals2 r
  cases r1; cases r2
  obtain ⟨t1, t2, g1⟩ := tup_at I hp
  obtain ⟨t3, t4, g2⟩ := tup_at I hq
  exact min_pairs (I.ok.hd hc) hu g1 g2 ne fun h' tk kk => ⟨.ref (if k < i then q else p), H, I.kept kk, rfl, hQ⟩
theorem call_maxP (hc : X.calm = true) (hu : X.A.units + 64 < cLine) : CallR X (.builtin "max") (rPr true) := by
  rintro pins s σ H xs us Q I r ⟨p, q, i, j, k, l, rfl, hp, hq, ne, hQ⟩
  obtain ⟨u, w', rfl, r1, r2⟩ := vals2 r
  cases r1; cases r2
  obtain ⟨t1, t2, g1⟩ := tup_at I hp
  obtain ⟨t3, t4, g2⟩ := tup_at I hq
  exact max_pairs (I.ok.hd hc) hu g1 g2 ne fun h' tk kk => ⟨.ref (if i < k then q else p), H, I.kept kk, rfl, hQ⟩
def cPr (mx : Bool) : RLt := fun ds M Q => match ds with
  | [.tup [.int i, .int j], .tup [.int k, .int l]] => i ≠ k ∧ Q (if (if mx = true then i < k else k < i) then .tup [.int k, .int l] else .tup [.int i, .int j]) M
  | _ => False
theorem lv_pr {mx : Bool} : ∀ xs H Q, lrL X.K (cPr mx) xs H Q → rPr mx xs H Q := by
  rintro xs H Q ⟨G, F, M, ds, Qt, R, r, h, k⟩
  match ds, r, h with
  | [.tup [.int i, .int j], .tup [.int l, .int m]], .cons (.tup (a := p) h1 (.cons (.int _) (.cons (.int _) .nil))) (.cons (.tup (a := q) h2 (.cons (.int _) (.cons (.int _) .nil))) .nil), h =>
    have h : i ≠ l ∧ Qt (if (if mx = true then i < l else l < i) then .tup [.int l, .int m] else .tup [.int i, .int j]) M := h
    refine ⟨p, q, i, j, l, m, rfl, R.sub _ _ h1, R.sub _ _ h2, h.1, k _ F H M _ (Same.refl _) R ?_ h.2⟩
    by_cases c : if mx = true then i < l else l < i
    · rw [if_pos c, if_pos c]; exact .tup h2 (.cons (.int _) (.cons (.int _) .nil))
    · rw [if_neg c, if_neg c]; exact .tup h1 (.cons (.int _) (.cons (.int _) .nil))
theorem cq_minP (hu : X.A.units + 64 < cLine) (hc : X.calm = true) : CallQ X (.builtin "min") (cPr false) := CallRimp (call_minP hc hu) lv_pr
theorem cq_maxP (hu : X.A.units + 64 < cLine) (hc : X.calm = true) : CallQ X (.builtin "max") (cPr true) := CallRimp (call_maxP hc hu) lv_pr
theorem ucPr {mx : Bool} {i j k l : Int} {M : MH} {Q : VD} : cPr mx [.tup [.int i, .int j], .tup [.int k, .int l]] M Q = (i ≠ k ∧ Q (if (if mx = true then i < k else k < i) then .tup [.int k, .int l] else .tup [.int i, .int j]) M) := propext Iff.rfl
end
/-! ### xs.clear() -/
def mClear : RMt := fun x xs M Q => match x, xs with
  | .ref l, [] => (match M l with
    | some (.lst _) => Q .non (mup M l (.lst []))
    | _ => False)
  | _, _ => False
section
variable {X : Cx} {E : XK} {Et : XT} {o : Expr} {apos cpos : Pos} {to : TEt}
theorem umClear {l : Addr} {M : MH} {Q : VD} : mClear (.ref l) [] M Q = oSome (mLst M l) fun _ => Q .non (mup M l (.lst [])) := by
  show (match M l with | some (.lst _) => Q .non (mup M l (.lst [])) | _ => False) = _
  unfold oSome mLst
  cases M l with
  | none => rfl
  | some m => cases m <;> rfl
end
section
variable {X : Cx} {E : XK} {Et : XT} {o : Expr} {apos cpos : Pos} {to : TEt}
theorem q_clear (ho : QE X E Et o to) (hbase : attributeBase o "clear" X.env (eval o X.env) = eval o X.env := by rfl) (hline : (apos.endLine == cpos.line) = true := by rfl) : QE X E Et (.Call (.Attribute o "clear" apos) [] [] cpos) (tMt0 mClear to) :=
  PEimp (pe_bm0 PySem.F.plainAttrs_list PySem.F.slot_list_clear PySem.F.type_list_clear mt_clear ho hbase hline) (lv_bm0 (by
    rintro x xs H Q ⟨G, F, M, dx, ds, Qt, R, p, ps, h, k⟩
    match dx, ds, p, ps, h with
    | .ref l, [], .ref _, .nil, h =>
      have h : (match M l with | some (.lst _) => Qt .non (mup M l (.lst [])) | _ => False) := h
      cases q : M l with
      | none => simp only [q] at h
      | some mo =>
        cases mo with
        | lst ds =>
          simp only [q] at h
          obtain ⟨vs, hu, r⟩ := chg_lst R q
          exact ⟨l, vs, rfl, rfl, hu, k .non F _ _ .non (Same.refl _) (R.put (u := .lst []) (o := .lst []) q (show Rps X.K F [] [] from .nil)) .non h⟩
        | _ => simp only [q] at h))
end
/-! ### a, b = a list, in a comprehension -/
theorem go_lst {K : PySem.W.Frag} {vs : List Nat} {n : Nat} {gs : TGs} {gts : TGst} (h : GOwns K gs gts vs) : GOwn K (gLst K n gs) (gLs n gts) vs := ⟨fun {G F H M σ τ v d Q Qt} a p q k => by
  unfold gLs at q
  cases e : lstOf M d with
  | none => rw [e] at q; exact q.elim
  | some ds =>
    rw [e] at q
    obtain ⟨b, xs, rfl, hs, rs⟩ := lst_of a.rel p e
    exact ⟨b, xs, rfl, hs, by rw [rs.length]; exact q.1, h.lift a rs q.2 k⟩⟩
/-! ### x.m(..) in a comprehension -/
section
variable {X : Cx} {E : XK} {Et : XT} {K : PySem.W.Frag} {c m : Str} {sp : SpT} {k : Nat} {o e : Expr} {es : List Expr} {apos pos : Pos} {ta : TAt}
theorem q_methB (fl : List Str) (Fo : Fm X.prog X.w K X.mg X.base CX0 k c m sp) (hr : Room k X.A) {to : TEt} (he : QE X E Et o to) (ha : QA X E Et (e :: es) ta) (hK : X.K = K := by rfl) (hm : m ∉ fl := by decide)
    (hst : starEach (e :: es) X.env = (false, eval e X.env) :: starEach es X.env := by rfl) (hpl : (backTo pos (starEach es X.env)).any (·.1) = false := by rfl)
    {pl : Sem Bool} (ht : eval (.Call (.Attribute o m apos) (e :: es) [] pos) X.env = (do
      let ov ← eval o X.env
      standAt apos.atName
      let (f, first) ← holding [ov] (getMethod ov m pl)
      callWith pos f first (backTo pos (starEach (e :: es) X.env)) (backToKw pos (keywordEach [] X.env))) := by rfl) :
    QE X E Et (.Call (.Attribute o m apos) (e :: es) [] pos) (tMe (He.ga K c) fl sp to ta) := by
  subst hK
  exact q_meth fl Fo hr he ha hm hst hpl ht
end
/-! ### == of a list of changing lists -/
def pyN (M : MH) (d : D) : Option PyData := match d with
  | .lst l => (l.mapM (pyM M)).map .list
  | d => pyM M d
theorem dps_of {K : PySem.W.Frag} {G F H : Hp} {M : MH} (R : Rel K G F H M) : ∀ {vs : List V} {ds : List D} {ys : List PyData}, Rps K F vs ds → ds.mapM (pyM M) = some ys → DpAll K H vs ys
  | _, _, _, .nil, e => by cases e; exact .nil
  | _, _, _, .cons (d := d) (ds := ds) h t, e => by
    rw [List.mapM_cons] at e
    cases q : pyM M d with
    | none => rw [q] at e; cases e
    | some a =>
      cases q2 : ds.mapM (pyM M) with
      | none => rw [q, q2] at e; cases e
      | some b =>
        rw [q, q2] at e
        cases e
        exact .cons (dp_of R h q) (dps_of R t q2)
theorem dpN_of {K : PySem.W.Frag} {G F H : Hp} {M : MH} {v : V} {d : D} {y : PyData} (R : Rel K G F H M) (p : Rp K F v d) (e : pyN M d = some y) : Dp K H v y := by
  cases d with
  | lst l =>
    unfold pyN at e
    obtain ⟨ys, e2, rfl⟩ := Option.map_eq_some_iff.mp e
    cases p with
    | lst h r => exact .lst (SqL.of (R.sub _ _ h)) (dps_of R r e2)
  | _ => exact dp_of R p e
def bNeN : R2t := fun x y M Q => match pyN M x, pyN M y with
  | some d, some e => SeqAt.shaped d = true ∧ SeqAt.shaped e = true ∧ Q (.bl (!PyData.eqv d e)) M
  | _, _ => False
theorem oq_neN {X : Cx} (hu : X.A.units + 64 < cLine) : OpQ X (compareOp .NotEq) bNeN := OpRimp (op_neD hu) (by
  rintro x y H Q ⟨G, F, M, dx, dy, Qt, R, px, py, h, k⟩
  unfold bNeN at h
  cases e1 : pyN M dx with
  | none => simp only [e1] at h
  | some d =>
    cases e2 : pyN M dy with
    | none => simp only [e1, e2] at h
    | some e =>
      simp only [e1, e2] at h
      exact ⟨d, e, dpN_of R px e1, dpN_of R py e2, h.1, h.2.1, k _ F H M _ (Same.refl _) R (.bl _) h.2.2⟩)
/-- two lists of lists that hold the same -/
theorem neN_same {M : MH} {l m : List D} {z : List D} {Q : VD} (hx : l.mapM (asD M) = some z) (hy : m.mapM (asD M) = some z) (ok : okD 63 (.lst z)) (h : Q (.bl false) M) : bNeN (.lst l) (.lst m) M Q := by
  have st : ∀ {l z : List D}, l.mapM (asD M) = some z → l.mapM (pyM M) = pyDs z := by
    intro l
    induction l with
    | nil => intro z e; cases e; unfold pyDs; rfl
    | cons d t ih =>
      intro z e
      rw [List.mapM_cons] at e ⊢
      cases q : asD M d with
      | none => rw [q] at e; cases e
      | some a =>
        cases q2 : t.mapM (asD M) with
        | none => rw [q, q2] at e; cases e
        | some b =>
          rw [q, q2] at e
          cases e
          rw [pyM_asD q, ih q2]
          show _ = pyDs (a :: b)
          rw [pyDs]
          cases pyD a <;> cases pyDs b <;> rfl
  obtain ⟨d, e, c, dp⟩ := okD_py 63 _ ok
  unfold pyD at e
  have e1 : pyN M (.lst l) = some d := by show (l.mapM (pyM M)).map PyData.list = some d; rw [st hx]; exact e
  have e2 : pyN M (.lst m) = some d := by show (m.mapM (pyM M)).map PyData.list = some d; rw [st hy]; exact e
  unfold bNeN
  simp only [e1, e2]
  have sh : SeqAt.shaped d = true := Bool.and_eq_true_iff.mpr ⟨c, decide_eq_true (by omega)⟩
  exact ⟨sh, sh, by rw [SeqAt.eqv_refl d c]; exact h⟩
end Tl

set_option maxHeartbeats 2000000
namespace Tl
open PySem PySem.Spec PyProof.Rows L2

/-! ### cells apart and together -/
section
variable {M0 M1 M2 M M' : MH} {cs ds : List (Addr × MO)}
theorem Cel.glue (h : Cel M0 M1 cs) (g : Cel M1 M2 ds) : Cel M0 M2 (ds ++ cs) := by
  refine ⟨?_, fun c hc => ?_, fun a o e => g.old a o (h.old a o e), fun c hc => ?_⟩
  · rw [List.map_append, List.nodup_append]
    refine ⟨g.nd, h.nd, fun a ha b hb e => ?_⟩
    obtain ⟨c, hc, rfl⟩ := List.mem_map.mp ha
    obtain ⟨d, hd, e2⟩ := List.mem_map.mp hb
    have h1 := g.new c hc
    have h2 := h.at_ d hd
    rw [← show c.1 = d.1 from e.trans e2.symm, h1] at h2
    cases h2
  · rcases List.mem_append.mp hc with hc | hc
    · exact g.at_ c hc
    · exact g.old _ _ (h.at_ c hc)
  · rcases List.mem_append.mp hc with hc | hc
    · cases e : M0 c.1 with
      | none => rfl
      | some o => have := h.old _ _ e; rw [g.new c hc] at this; cases this
    · exact h.new c hc
/-- M without some cells -/
def without (M : MH) (as : List Addr) : MH := fun a => if a ∈ as then none else M a
theorem Cel.part (h : Cel M0 M (ds ++ cs)) : Cel M0 (without M (ds.map (·.1))) cs ∧ Cel (without M (ds.map (·.1))) M ds := by
  have nd := h.nd
  rw [List.map_append, List.nodup_append] at nd
  obtain ⟨n1, n2, n3⟩ := nd
  refine ⟨⟨n2, fun c hc => ?_, fun a o e => ?_, fun c hc => h.new c (List.mem_append_right _ hc)⟩, ⟨n1, fun c hc => h.at_ c (List.mem_append_left _ hc), fun a o e => ?_, fun c hc => ?_⟩⟩
  · unfold without
    rw [if_neg fun q => n3 _ q _ (List.mem_map_of_mem hc) rfl]
    exact h.at_ c (List.mem_append_right _ hc)
  · unfold without
    rw [if_neg fun q => ?_]
    · exact h.old a o e
    · obtain ⟨d, hd, rfl⟩ := List.mem_map.mp q
      rw [h.new d (List.mem_append_left _ hd)] at e
      cases e
  · unfold without at e
    split at e
    · cases e
    · exact e
  · unfold without
    rw [if_pos (List.mem_map_of_mem hc)]
end
/-! ### shared boxes -/
structure Tch where
  put : Bool
  lane : Int
  place : Int
  line : Int
def wS : Bool → Str
  | true => "put"
  | false => "get"
abbrev C5 := Int × Int × Int × Int × Int
def c5D (c : C5) : List D := [.int c.1, .int c.2.1, .int c.2.2.1, .int c.2.2.2.1, .int c.2.2.2.2]
def clD : Option C5 → D
  | none => .non
  | some c => .tup (c5D c)
def Tch.d (t : Tch) : D := .tup [.int t.lane, .int t.line, .str (wS t.put)]
def Tch.deed (t : Tch) : D := .lst [.str (wS t.put), .int t.lane, .int t.place, .int t.line]
def clOf (t o : Tch) : C5 := if t.lane < o.lane then (t.place, t.lane, t.line, o.lane, o.line) else (t.place, o.lane, o.line, t.lane, t.line)
def hits (t o : Tch) : Bool := decide (o.lane ≠ t.lane) && (o.put || t.put)
def earlier (p : Int) (T : List Tch) : List Tch := T.filter fun o => decide (o.place = p)
/-- the clash that is due -/
def due (T : List Tch) (t : Tch) : Option C5 := ((earlier t.place T).find? (hits t)).map (clOf t)
theorem cl_step (cl : Option C5) (t : Tch) (ys : List Tch) (o : Tch) : cl.or (((ys ++ [o]).find? (hits t)).map (clOf t)) = (cl.or ((ys.find? (hits t)).map (clOf t))).or (if hits t o = true then some (clOf t o) else none) := by
  rw [List.find?_append]
  cases cl with
  | some c => rfl
  | none =>
    cases ys.find? (hits t) with
    | some c => rfl
    | none =>
      cases h : hits t o with
      | true => simp [h]
      | false => simp [h]
def hitP (t o : Tch) : Bool := decide (o.place = t.place) && hits t o
theorem due_eq (T : List Tch) (t : Tch) : due T t = (T.find? (hitP t)).map (clOf t) := by
  unfold due earlier
  rw [List.find?_filter]
  congr 2
  funext a
  unfold hitP
  by_cases e : a.place = t.place
  · rw [decide_eq_true e]; simp
  · rw [decide_eq_false e]; simp
theorem w2_get {k : Int} (h0 : 0 ≤ k) (h : k < 2) : ∃ b, atI [D.str (Str.ofString "get"), D.str (Str.ofString "put")] k = some (.str (wS b)) :=
  ⟨[false, true].getD k.toNat false, atI_mapD (f := fun b => D.str (wS b)) (xs := [false, true]) false h0 (by simpa using h)⟩
theorem wS_put {b : Bool} : (wS b = Str.ofString "put") ↔ b = true := by
  cases b with
  | true => exact ⟨fun _ => rfl, fun _ => rfl⟩
  | false => exact ⟨fun h => by exact absurd h (by decide +kernel), fun h => by cases h⟩
theorem okD_ints (n : Nat) : ∀ ns : List Int, okDs n (ns.map D.int)
  | [] => by unfold List.map okDs; trivial
  | i :: t => by rw [List.map_cons]; unfold okDs; exact ⟨by unfold okD; trivial, okD_ints n t⟩
structure Sh where
  s : Addr
  n : Addr
  k : Addr
  dx : Addr
abbrev Kvs := List (Key × D)
def Sh.cells (C : Addr) (fl : List Str) (A : Sh) (ns : List Int) (kvs : Kvs) (cl : Option C5) : List (Addr × MO) := [(A.s, .obj C A.dx fl [.ref A.n, .ref A.k, clD cl]), (A.n, .lst (ns.map .int)), (A.k, .dK kvs)]
def markL (E : List Tch) : Option D := if E = [] then none else some (.lst (E.map Tch.d))
structure MarksOk (kvs : Kvs) (T : List Tch) : Prop where
  val : ∀ p : Int, valD kvs (.inl p) = markL (earlier p T)
  len : kvs.length ≤ T.length
theorem noMarks : MarksOk [] [] := ⟨fun _ => rfl, Nat.le_refl _⟩
theorem marks_put {kvs kvs1 : Kvs} {T : List Tch} {t : Tch} (h : MarksOk kvs T) (h1 : ∀ p : Int, p ≠ t.place → valD kvs1 (.inl p) = valD kvs (.inl p)) (hl : (putM kvs1 (.inl t.place) (.lst ((earlier t.place T ++ [t]).map Tch.d))).length ≤ T.length + 1) :
    MarksOk (putM kvs1 (.inl t.place) (.lst ((earlier t.place T ++ [t]).map Tch.d))) (T ++ [t]) := by
  refine ⟨fun p => ?_, by rw [List.length_append]; exact hl⟩
  rw [valD_put]
  unfold earlier
  rw [List.filter_append]
  by_cases e : p = t.place
  · subst e
    rw [if_pos rfl]
    unfold markL
    rw [if_neg (by simp)]
    simp [earlier]
  · rw [if_neg (fun q => e (Sum.inl.inj q).symm), h1 p e, h.val p]
    have : List.filter (fun o => decide (o.place = p)) [t] = [] := by simp [Ne.symm e]
    rw [this, List.append_nil]
    rfl
theorem markL_some {E : List Tch} {d : D} (h : markL E = some d) : d = .lst (E.map Tch.d) := by
  unfold markL at h
  split at h
  · cases h
  · cases h; rfl
theorem markL_none {E : List Tch} (h : markL E = none) : E = [] := by
  unfold markL at h
  split at h
  · assumption
  · cases h
theorem oSdk_i {kvs : Kvs} {i : Int} {z : D} {f : D → Option MO → Prop} : oSdk (some (.dK kvs)) (.int i) z f = (kvs.length < 16777216 ∧ match valD kvs (.inl i) with
      | some d => f d none
      | none => f z (some (.dK (putM kvs (.inl i) z)))) := by rw [← sizeLine_eq]; rfl
section
variable {C : Addr} {fl : List Str} {A : Sh} {M0 M : MH} {ns : List Int} {kvs : Kvs} {cl : Option C5}
theorem Sh.s_ (h : Cel M0 M (A.cells C fl ns kvs cl)) : M A.s = some (.obj C A.dx fl [.ref A.n, .ref A.k, clD cl]) := h.at_ (A.s, _) (by unfold Sh.cells; simp)
theorem Sh.n_ (h : Cel M0 M (A.cells C fl ns kvs cl)) : M A.n = some (.lst (ns.map .int)) := h.at_ (A.n, .lst (ns.map .int)) (by unfold Sh.cells; simp)
theorem Sh.k_ (h : Cel M0 M (A.cells C fl ns kvs cl)) : M A.k = some (.dK kvs) := h.at_ (A.k, .dK kvs) (by unfold Sh.cells; simp)
theorem Sh.put_n {ms : List Int} (h : Cel M0 M (A.cells C fl ns kvs cl)) : Cel M0 (mup M A.n (.lst (ms.map .int))) (A.cells C fl ms kvs cl) := Cel.put (pre := [(A.s, .obj C A.dx fl [.ref A.n, .ref A.k, clD cl])]) h
theorem Sh.put_k {kvs' : Kvs} (h : Cel M0 M (A.cells C fl ns kvs cl)) : Cel M0 (mup M A.k (.dK kvs')) (A.cells C fl ns kvs' cl) := Cel.put (pre := [(A.s, .obj C A.dx fl [.ref A.n, .ref A.k, clD cl]), (A.n, .lst (ns.map .int))]) h
theorem Sh.put_c {cl' : Option C5} (h : Cel M0 M (A.cells C fl ns kvs cl)) : Cel M0 (mup M A.s (.obj C A.dx fl [.ref A.n, .ref A.k, clD cl'])) (A.cells C fl ns kvs cl') := Cel.put (pre := []) h
/-- a new dict of marks -/
theorem Sh.new_k {k : Addr} (h : Cel M0 M (A.cells C fl ns kvs cl)) (hk : M k = none) : Cel M0 (mup (mup M k (.dK [])) A.s (.obj C A.dx fl [.ref A.n, .ref k, clD cl])) ({ A with k := k }.cells C fl ns [] cl) := by
  have h1 := h.fresh (p := k) (o := .dK []) hk
  have h2 : Cel M0 (mup (mup M k (.dK [])) A.s (.obj C A.dx fl [.ref A.n, .ref k, clD cl])) ([(k, .dK [])] ++ (A.s, .obj C A.dx fl [.ref A.n, .ref k, clD cl]) :: [(A.n, .lst (ns.map .int)), (A.k, .dK kvs)]) := Cel.put (pre := [(k, .dK [])]) h1
  have h3 : Cel M0 (mup (mup M k (.dK [])) A.s (.obj C A.dx fl [.ref A.n, .ref k, clD cl])) ([(k, .dK []), (A.s, .obj C A.dx fl [.ref A.n, .ref k, clD cl]), (A.n, .lst (ns.map .int))] ++ []) := Cel.forget (pre := [(k, .dK []), (A.s, .obj C A.dx fl [.ref A.n, .ref k, clD cl]), (A.n, .lst (ns.map .int))]) h2
  refine h3.perm ?_
  rw [List.append_nil]
  unfold Sh.cells
  exact (List.Perm.swap _ _ _).trans ((List.Perm.swap _ _ _).cons _)
theorem Sh.init_ {a p q dx : Addr} (h : Cel M0 M [(a, .obj C dx fl [])]) (hp : M p = none) (hq : mup (mup M p (.lst (ns.map .int))) a (.obj C dx fl [.ref p]) q = none) :
    Cel M0 (mup (mup (mup (mup M p (.lst (ns.map .int))) a (.obj C dx fl [.ref p])) q (.dK [])) a (.obj C dx fl [.ref p, .ref q, .non])) (Sh.cells C fl ⟨a, p, q, dx⟩ ns [] none) := by
  have h1 := h.fresh (p := p) (o := .lst (ns.map .int)) hp
  have h2 : Cel M0 (mup (mup M p (.lst (ns.map .int))) a (.obj C dx fl [.ref p])) [(p, .lst (ns.map .int)), (a, .obj C dx fl [.ref p])] := Cel.put (pre := [(p, .lst (ns.map .int))]) (post := []) h1
  have h3 := h2.fresh (p := q) (o := .dK []) hq
  have h4 := Cel.put (o' := .obj C dx fl [.ref p, .ref q, .non]) (pre := [(q, .dK []), (p, .lst (ns.map .int))]) (post := []) h3
  exact h4.perm (List.reverse_perm _).symm
/-- setdefault of the marks of a place -/
theorem sd_marks {T : List Tch} {p : Int} {Q : VD} (h : Cel M0 M (A.cells C fl ns kvs cl)) (hm : MarksOk kvs T) (hl : T.length < 100000)
    (k : ∀ kvs1 M1, Cel M0 M1 (A.cells C fl ns kvs1 cl) → (∀ q : Int, q ≠ p → valD kvs1 (.inl q) = valD kvs (.inl q)) → valD kvs1 (.inl p) ≠ none → kvs1.length ≤ T.length + 1 → Q (.lst ((earlier p T).map Tch.d)) M1) : sSdk (.ref A.k) (.int p) (.lst []) M Q := by
  rw [uSdk, Sh.k_ h, oSdk_i]
  have l0 := hm.len
  refine ⟨by omega, ?_⟩
  cases e : valD kvs (.inl p) with
  | some d =>
    have e2 := hm.val p
    rw [e] at e2
    have e3 := markL_some e2.symm
    subst e3
    exact k kvs M h (fun _ _ => rfl) (by rw [e]; exact fun q => nomatch q) (by omega)
  | none =>
    have e2 := hm.val p
    rw [e] at e2
    have e3 := markL_none e2.symm
    have := k (putM kvs (.inl p) (.lst [])) (mup M A.k (.dK (putM kvs (.inl p) (.lst [])))) (Sh.put_k h) (fun q hq => by rw [valD_put, if_neg (fun z => hq (Sum.inl.inj z).symm)]) (by rw [valD_put, if_pos rfl]; exact fun q => nomatch q) (by have := putM_len kvs (.inl p) (.lst []); omega)
    rw [e3] at this
    exact this
end
theorem putM_len_old {κ : Type} [DecidableEq κ] {kvs : List (κ × D)} {k : κ} {v : D} (h : valD kvs k ≠ none) : (putM kvs k v).length = kvs.length := by
  unfold putM
  rw [if_pos, List.length_map]
  unfold valD at h
  cases e : kvs.find? fun kv => decide (kv.1 = k) with
  | none => rw [e] at h; exact absurd rfl h
  | some x =>
    rw [List.any_eq_true]
    have e2 := List.find?_some (p := fun kv : κ × D => decide (kv.1 = k)) e
    exact ⟨x, List.mem_of_find?_eq_some e, e2⟩
end Tl

set_option maxHeartbeats 2000000
namespace Tl
open PySem PySem.Spec PyProof.Rows L2

theorem perm13 (a b c d e f g h i j k l m : Addr × MO) : [a, b, c, d, e, f, g, h, i, j, k, l, m].Perm [e, g, h, i, j, d, f, k, l, m, c, b, a] :=
  List.Perm.map (fun n => [a, b, c, d, e, f, g, h, i, j, k, l, m].getD n a) (show [0, 1, 2, 3, 4, 5, 6, 7, 8, 9, 10, 11, 12].Perm [4, 6, 7, 8, 9, 3, 5, 10, 11, 12, 2, 1, 0] by decide)
/-! ### a row of shared boxes beside the law's own numbers and touches -/
structure Rwx where
  A : Sh
  nl : Addr
  tl : Addr
  ns : List Int
  T : List Tch
  kvs : Kvs
  cl : Option C5
section
variable (C : Addr) (fl : List Str)
def Rwx.own (r : Rwx) : List (Addr × MO) := [(r.tl, .lst (r.T.map Tch.deed)), (r.nl, .lst (r.ns.map .int))]
def Rwx.cells (r : Rwx) : List (Addr × MO) := r.own ++ r.A.cells C fl r.ns r.kvs r.cl
end
/-- n touches at most, room boxes -/
structure RowOk (room n : Nat) (r : Rwx) : Prop where
  marks : MarksOk r.kvs r.T
  few : r.T.length ≤ n
  room_ : r.ns.length = room
  cl_ : ∀ c, r.cl = some c → 0 ≤ c.1 ∧ c.1 < room
theorem RowOk.mono {room n m : Nat} {r : Rwx} (h : RowOk room n r) (l : n ≤ m) : RowOk room m r := ⟨h.marks, Nat.le_trans h.few l, h.room_, h.cl_⟩
theorem due_place {T : List Tch} {t : Tch} {c : C5} (h : due T t = some c) : c.1 = t.place := by
  unfold due at h
  obtain ⟨o, _, rfl⟩ := Option.map_eq_some_iff.mp h
  unfold clOf
  split <;> rfl
/-- a row after a touch -/
def Rwx.touched (r : Rwx) (t : Tch) (n : Int) (kvs : Kvs) : Rwx := { r with ns := if t.put = true then r.ns.set t.place.toNat n else r.ns, T := r.T ++ [t], kvs := kvs, cl := due r.T t }
theorem touched_ok {r : Rwx} {t : Tch} {n : Int} {kvs : Kvs} {room k : Nat} (h : RowOk room k r) (m : MarksOk kvs (r.T ++ [t])) (h0 : 0 ≤ t.place) (h1 : t.place < room) : RowOk room (k + 1) (r.touched t n kvs) := by
  refine ⟨m, ?_, ?_, fun c e => ?_⟩
  · have := h.few
    show (r.T ++ [t]).length ≤ k + 1
    rw [List.length_append, List.length_singleton]
    omega
  · show (if t.put = true then r.ns.set t.place.toNat n else r.ns).length = room
    split
    · rw [List.length_set]; exact h.room_
    · exact h.room_
  · rw [due_place e]; exact ⟨h0, h1⟩
theorem asD_cl {M : MH} {o : Option C5} : asD M (clD o) = some (clD o) := by cases o <;> rfl
theorem okD_cl (o : Option C5) : okD 1 (clD o) := by
  cases o with
  | none => unfold clD okD; trivial
  | some c =>
    show okD 1 (.tup ([c.1, c.2.1, c.2.2.1, c.2.2.2.1, c.2.2.2.2].map D.int))
    unfold okD
    exact okD_ints 0 _
/-- what a told pair of lists holds -/
structure Td where
  a : Addr
  b : Addr
  xs : List Int
  ys : List Int
def Td.d (x : Td) : D := .lst [.ref x.a, .ref x.b]
def Td.cells (x : Td) : List (Addr × MO) := [(x.a, .lst (x.xs.map .int)), (x.b, .lst (x.ys.map .int))]
def upR (R : Nat → Rwx) (w : Nat) (r : Rwx) : Nat → Rwx := fun i => if i = w then r else R i
theorem upR_at {R : Nat → Rwx} {w : Nat} {r : Rwx} : upR R w r w = r := if_pos rfl
theorem upR_ne {R : Nat → Rwx} {w i : Nat} {r : Rwx} (h : i ≠ w) : upR R w r i = R i := if_neg h
def twoC (C : Addr) (fl : List Str) (R : Nat → Rwx) : List (Addr × MO) := (R 0).cells C fl ++ (R 1).cells C fl
theorem two_perm {C : Addr} {fl : List Str} {R : Nat → Rwx} {w : Nat} (h : w = 0 ∨ w = 1) : (twoC C fl R).Perm ((R w).cells C fl ++ (R (1 - w)).cells C fl) := by
  rcases h with rfl | rfl
  · exact List.Perm.refl _
  · exact List.perm_append_comm
theorem two_up {C : Addr} {fl : List Str} {R : Nat → Rwx} {w : Nat} {r : Rwx} (h : w = 0 ∨ w = 1) : (r.cells C fl ++ (R (1 - w)).cells C fl).Perm (twoC C fl (upR R w r)) := by
  rcases h with rfl | rfl
  · unfold twoC
    rw [upR_at, upR_ne (by decide)]
  · unfold twoC
    rw [upR_at, upR_ne (by decide)]
    exact List.perm_append_comm
theorem two_at {f : Nat → D} {w : Nat} (h : w = 0 ∨ w = 1) : atI [f 0, f 1] (w : Int) = some (f w) := by
  rcases h with rfl | rfl <;> rfl
/-- one row is set apart, changed and put back -/
theorem row_step {C : Addr} {fl : List Str} {M0 M : MH} {R : Nat → Rwx} {w : Nat} {rest : List (Addr × MO)} (hw : w = 0 ∨ w = 1) (h : Cel M0 M (twoC C fl R ++ rest)) :
    ∃ M1, Cel M1 M ((R w).cells C fl) ∧ ∀ (M' : MH) (r : Rwx) (more : List (Addr × MO)), Cel M1 M' (more ++ r.cells C fl) → Cel M0 M' (more ++ (twoC C fl (upR R w r) ++ rest)) := by
  have h1 : Cel M0 M ((R w).cells C fl ++ ((R (1 - w)).cells C fl ++ rest)) := by
    refine h.perm ?_
    rw [← List.append_assoc]
    exact (two_perm hw).append_right rest
  obtain ⟨h2, h3⟩ := h1.part
  refine ⟨_, h3, fun M' r more g => ?_⟩
  refine (h2.glue g).perm ?_
  rw [List.append_assoc]
  refine List.Perm.append_left more ?_
  rw [← List.append_assoc]
  exact (two_up hw).append_right rest
abbrev Zs := Nat → List (Addr × MO)
def upZ (Z : Zs) (w : Nat) (cs : List (Addr × MO)) : Zs := fun i => if i = w then cs else Z i
theorem upZ_at {Z : Zs} {w : Nat} {cs : List (Addr × MO)} : upZ Z w cs w = cs := if_pos rfl
theorem upZ_ne {Z : Zs} {w i : Nat} {cs : List (Addr × MO)} (h : i ≠ w) : upZ Z w cs i = Z i := if_neg h
theorem z_step {M0 M : MH} {Z : Zs} {w : Nat} {rest : List (Addr × MO)} (hw : w = 0 ∨ w = 1) (h : Cel M0 M (Z 0 ++ (Z 1 ++ rest))) :
    ∃ M1, Cel M1 M (Z w) ∧ ∀ (M' : MH) (cs more : List (Addr × MO)), Cel M1 M' (more ++ cs) → Cel M0 M' (more ++ (upZ Z w cs 0 ++ (upZ Z w cs 1 ++ rest))) := by
  rcases hw with rfl | rfl
  · obtain ⟨h2, h3⟩ := h.part
    refine ⟨_, h3, fun M' cs more g => ?_⟩
    have := h2.glue g
    rw [List.append_assoc] at this
    exact this
  · have h1 : Cel M0 M (Z 1 ++ (Z 0 ++ rest)) := h.perm (by
      rw [← List.append_assoc, ← List.append_assoc]
      exact List.perm_append_comm.append_right rest)
    obtain ⟨h2, h3⟩ := h1.part
    refine ⟨_, h3, fun M' cs more g => ?_⟩
    refine (h2.glue g).perm ?_
    rw [List.append_assoc]
    refine List.Perm.append_left more ?_
    show (cs ++ (Z 0 ++ rest)).Perm (Z 0 ++ (cs ++ rest))
    rw [← List.append_assoc, ← List.append_assoc]
    exact List.perm_append_comm.append_right rest
/-- what stands beside the rows -/
def restC (cO oO : Addr) (b0 b1 : Bool) (told : List Td) : List (Addr × MO) := (cO, .lst [.bl b0, .bl b1]) :: (oO, .lst (told.map Td.d)) :: told.flatMap Td.cells
theorem bl_at {f : Nat → Bool} {w : Nat} (h : w = 0 ∨ w = 1) : atI [D.bl (f 0), D.bl (f 1)] (w : Int) = some (.bl (f w)) := two_at (f := fun i => .bl (f i)) h
theorem ref_at {f : Nat → Addr} {w : Nat} (h : w = 0 ∨ w = 1) : atI [D.ref (f 0), D.ref (f 1)] (w : Int) = some (.ref (f w)) := two_at (f := fun i => .ref (f i)) h
section
variable {M0 M M1 M3 Mo : MH} {z : List (Addr × MO)} {cO oO : Addr} {b0 b1 : Bool} {told : List Td}
theorem rest_c (h : Cel M0 M (z ++ restC cO oO b0 b1 told)) : M cO = some (.lst [.bl b0, .bl b1]) := h.at_ (cO, _) (by unfold restC; simp)
theorem rest_o (h : Cel M0 M (z ++ restC cO oO b0 b1 told)) : M oO = some (.lst (told.map Td.d)) := h.at_ (oO, .lst (told.map Td.d)) (by unfold restC; simp)
theorem rest_a (h : Cel M0 M (z ++ restC cO oO b0 b1 told)) {x : Td} (hx : x ∈ told) : M x.a = some (.lst (x.xs.map .int)) ∧ M x.b = some (.lst (x.ys.map .int)) := by
  have m1 : ∀ c ∈ x.cells, c ∈ z ++ restC cO oO b0 b1 told := fun c hc => by
    unfold restC
    refine List.mem_append_right _ (List.mem_cons_of_mem _ (List.mem_cons_of_mem _ (List.mem_flatMap.mpr ⟨x, hx, hc⟩)))
  exact ⟨h.at_ (x.a, .lst (x.xs.map .int)) (m1 _ (by unfold Td.cells; simp)), h.at_ (x.b, .lst (x.ys.map .int)) (m1 _ (by unfold Td.cells; simp))⟩
/-- a row without the law's touches -/
def Rwx.cut (C : Addr) (fl : List Str) (r : Rwx) : List (Addr × MO) := (r.nl, .lst (r.ns.map .int)) :: r.A.cells C fl r.ns r.kvs r.cl
theorem met_cells {C : Addr} {fl : List Str} {r : Rwx} {k p : Addr} (e1 : Cel M1 Mo r.own) (e3 : Cel Mo M3 ((p, .lst (r.ns.map .int)) :: { r.A with k := k }.cells C fl r.ns [] r.cl)) :
    Cel M1 M3 ([(p, .lst (r.ns.map .int))] ++ ({ r with A := { r.A with k := k }, T := [], kvs := [] } : Rwx).cut C fl) := by
  have g := e1.glue e3
  unfold Rwx.own at g
  have g2 := Cel.forget (post := [(r.nl, .lst (r.ns.map .int))]) g
  refine g2.perm ?_
  unfold Rwx.cut
  dsimp only
  rw [List.cons_append, List.cons_append, List.nil_append]
  exact List.Perm.cons _ List.perm_append_comm
end
theorem td_split {told' ys zs : List Td} {x : Td} (h : told'.map Td.d = (ys ++ x :: zs).map Td.d) : ∃ p x' q, told' = p ++ x' :: q ∧ x'.a = x.a ∧ x'.b = x.b := by
  rw [List.map_append, List.map_cons] at h
  obtain ⟨p, r, rfl, h1, h2⟩ := List.map_eq_append_iff.mp h
  obtain ⟨x', q, rfl, h3, h4⟩ := List.map_eq_cons_iff.mp h2
  unfold Td.d at h3
  simp only [D.lst.injEq, List.cons.injEq, D.ref.injEq, and_true] at h3
  exact ⟨p, x', q, rfl, h3.1, h3.2⟩
theorem row_more {Z : Zs} {w : Nat} {x : Addr × MO} {cs rest : List (Addr × MO)} (hw : w = 0 ∨ w = 1) : (x :: (upZ Z w cs 0 ++ (upZ Z w cs 1 ++ rest))).Perm (upZ Z w (x :: cs) 0 ++ (upZ Z w (x :: cs) 1 ++ rest)) := by
  rcases hw with rfl | rfl
  · exact List.Perm.refl _
  · show (x :: (Z 0 ++ (cs ++ rest))).Perm (Z 0 ++ ((x :: cs) ++ rest))
    exact List.perm_middle.symm
theorem flags_put {M0 M : MH} {z : List (Addr × MO)} {cO oO : Addr} {B : Nat → Bool} {b : Bool} {w : Nat} {told : List Td} (hw : w = 0 ∨ w = 1) (h : Cel M0 M (z ++ restC cO oO (B 0) (B 1) told)) :
    Cel M0 (mup M cO (.lst ([D.bl (B 0), D.bl (B 1)].set w (.bl b)))) (z ++ restC cO oO (if 0 = w then b else B 0) (if 1 = w then b else B 1) told) := by
  have := Cel.put (o' := .lst ([D.bl (B 0), D.bl (B 1)].set w (.bl b))) h
  rcases hw with rfl | rfl <;> exact this
theorem ix2 {w : Nat} (hw : w = 0 ∨ w = 1) : ixN 2 (w : Int) = some w := by
  rcases hw with rfl | rfl <;> rfl
theorem upZ_R {C : Addr} {fl : List Str} {R : Nat → Rwx} {w : Nat} {r : Rwx} (i : Nat) : upZ (fun i => (R i).cells C fl) w (r.cells C fl) i = (upR R w r i).cells C fl := by
  unfold upZ upR
  split <;> rfl
theorem upR_of {α : Type} {R : Nat → Rwx} {w : Nat} {r : Rwx} (f : Rwx → α) (h : f r = f (R w)) (i : Nat) : f (upR R w r i) = f (R i) := by
  unfold upR
  split
  · rename_i e; rw [e]; exact h
  · rfl
theorem wS_met {b : Bool} : ¬ wS b = Str.ofString "met" := by cases b <;> decide +kernel
/-- one more told pair -/
theorem told_more {M0 M : MH} {z : List (Addr × MO)} {cO oO p q : Addr} {b0 b1 : Bool} {told : List Td} {xs ys : List Int} (h : Cel M0 M ((q, .lst (ys.map .int)) :: (p, .lst (xs.map .int)) :: (z ++ restC cO oO b0 b1 told))) :
    Cel M0 (mup M oO (.lst ((told ++ [Td.mk p q xs ys]).map Td.d))) (z ++ restC cO oO b0 b1 (told ++ [Td.mk p q xs ys])) := by
  have h1 : Cel M0 M (((q, MO.lst (ys.map .int)) :: (p, .lst (xs.map .int)) :: (z ++ [(cO, .lst [.bl b0, .bl b1])])) ++ (oO, .lst (told.map Td.d)) :: told.flatMap Td.cells) := by
    unfold restC at h
    simpa [List.append_assoc] using h
  have h2 := Cel.put (o' := .lst ((told ++ [Td.mk p q xs ys]).map Td.d)) h1
  refine h2.perm ?_
  unfold restC
  rw [List.flatMap_append]
  have e : List.flatMap Td.cells [Td.mk p q xs ys] = [(p, .lst (xs.map .int)), (q, .lst (ys.map .int))] := rfl
  rw [e]
  generalize told.flatMap Td.cells = t
  generalize hoo : MO.lst ((told ++ [Td.mk p q xs ys]).map Td.d) = o at h2 ⊢
  have p1 : ((q, MO.lst (ys.map .int)) :: (p, .lst (xs.map .int)) :: (z ++ [(cO, .lst [.bl b0, .bl b1])]) ++ (oO, o) :: t).Perm ([(p, MO.lst (xs.map .int)), (q, .lst (ys.map .int))] ++ (z ++ (cO, .lst [.bl b0, .bl b1]) :: (oO, o) :: t)) := by
    simp only [List.cons_append, List.nil_append, List.append_assoc]
    exact List.Perm.swap _ _ _
  refine p1.trans (List.perm_append_comm.trans ?_)
  simp only [List.cons_append, List.nil_append, List.append_assoc]
  exact List.Perm.refl _
/-- a told pair's first list changes -/
theorem told_put {M0 M : MH} {z : List (Addr × MO)} {cO oO : Addr} {b0 b1 : Bool} {pre post : List Td} {x : Td} {zs : List Int} (h : Cel M0 M (z ++ restC cO oO b0 b1 (pre ++ x :: post))) :
    M x.a = some (.lst (x.xs.map .int)) ∧ Cel M0 (mup M x.a (.lst (zs.map .int))) (z ++ restC cO oO b0 b1 (pre ++ { x with xs := zs } :: post)) := by
  have ed : (pre ++ { x with xs := zs } :: post).map Td.d = (pre ++ x :: post).map Td.d := by simp [Td.d]
  unfold restC at h ⊢
  rw [ed]
  have h1 : Cel M0 M ((z ++ (cO, .lst [.bl b0, .bl b1]) :: (oO, .lst ((pre ++ x :: post).map Td.d)) :: pre.flatMap Td.cells) ++ (x.a, .lst (x.xs.map .int)) :: (x.b, .lst (x.ys.map .int)) :: post.flatMap Td.cells) := by
    simpa [Td.cells, List.append_assoc] using h
  refine ⟨h1.here, ?_⟩
  have h2 := Cel.put (o' := .lst (zs.map .int)) h1
  simpa [Td.cells, List.append_assoc] using h2
end Tl

local macro_rules | `(tactic| walk_at "vc") => `(tactic| simp only [Tl.umClear, Tl.ucPr, Tl.ugLs, Tl.utSdk, Tl.utSm, Tl.umSplit, Tl.umStarts, Tl.umJoin, Tl.ucStr, Tl.ucIntS, Tl.ubInS, Tl.uZiT, Tl.uDisp1, Tl.uIsB, Tl.uSortDI, Tl.op_lane, Tl.op_lanes, Tl.op_mine, Tl.op_num, Tl.op_name, Tl.op_box, Tl.cut_tail, Tl.val_name, Tl.val_row, Tl.val_def, Tl.val_back, Tl.ofS_inj, String.reduceEq, Tl.uDic, Tl.oDA_ki, Tl.oDA_ks, Tl.oDA_t, Tl.oPA_ki, Tl.oPA_ks, Tl.oPA_t, Tl.consK_s, Tl.kT_nil, Tl.kT_i, Tl.kT_s, Tl.uzDict, Tl.uIn, Tl.uRepS, Tl.uRep, Tl.uRepM, Tl.uCatT, Tl.uSlT, Tl.oLD_k, Tl.oLD_t, Tl.uLenD, Tl.z_tDnK, Tl.z_tDnT, Tl.z_tDg, Tl.z_tDi, Tl.z_tDg2, Tl.z_tRe, Tl.z_sRe, Tl.wip, Tl.uObj, Tl.oAt_i, Tl.cxK, Tl.cxKn, true_or, or_true, or_false, false_or, Nat.zero_le, Nat.le_refl, Tl.mup_same, Tl.mup_mup, Tl.uAlt, Tl.z_tFd, Tl.z_sFd, Tl.z_sFa, Tl.z_tMe, Tl.z_tMk, Tl.nthD, Tl.putD, Tl.uFo, Tl.uLcF, Tl.uLcV', Tl.uAsRef, Tl.z_sNx, Tl.z_sSq, Tl.z_sBk, Tl.z_sCt, Tl.z_sDr, Tl.z_sRt, Tl.z_sRtN, Tl.z_sIf, Tl.z_sAs, Tl.z_gN, Tl.z_gSb, Tl.z_tK, Tl.z_tO, Tl.z_tU, Tl.z_tCa, Tl.z_tN, Tl.z_tCs, Tl.z_tAn, Tl.tOr', Tl.z_tNo, Tl.z_tIfE, Tl.z_tCl, Tl.z_tTu, Tl.z_tLi, Tl.z_tLm, Tl.z_tSc, Tl.z_oNo, Tl.z_tMt, Tl.z_tMt0, Tl.z_tYe, Tl.z_tLt, Tl.kit_ii, Tl.kit_ib, Tl.kit_bi, Tl.kit_bb, Tl.kit_si, Tl.kit_ss, Tl.kit_is, Tl.kit_tt, Tl.kit_ll, Tl.kit_lt, Tl.kit_tl, Tl.kit_ts, Tl.kit_ls, Tl.kit_sl, Tl.kit_st, Tl.kit_it, Tl.kit_il, Tl.kit_dd, Tl.kit_ni, Tl.kit_nb, Tl.begin_, Tl.nth, List.map, List.length, List.replicate, List.append, List.set, List.nil_append, List.cons_append, List.append_nil, Nat.reduceAdd, Nat.reduceSub, Nat.zero_add, reduceIte, Bool.false_eq_true, Bool.true_eq_false, Bool.not_eq_true', Bool.not_eq_false', Bool.not_true, Bool.not_false, not_true_eq_false, not_false_eq_true, decide_eq_true_eq, decide_eq_false_iff_not, decide_not, Option.isSome_some, true_and, and_true, Int.reduceLT, Int.reduceLE, Int.reduceNeg, List.cons.injEq, Option.some.injEq, PySem.sizeLine_eq, Nat.reduceLeDiff, List.length_map, List.length_append, List.length_cons, List.length_nil, Tl.oBl_i, Tl.oInt_i, Tl.oStr_i, Tl.oTup_i, Tl.oSome_i, Tl.oBl_if, Tl.uV, Tl.uBo, Tl.uAnV, Tl.uOrV, Tl.uNoV, Tl.uCh, Tl.uNl0, Tl.uCs1, Tl.uTp, Tl.uAg, Tl.uInt, Tl.uInt0, Tl.uNegI, Tl.uEq, Tl.uNe, Tl.dScal_ii, Tl.dScal_ss, Tl.dScal_bb, Tl.dScal_nn, Tl.dScal_ni, Tl.dScal_in, Tl.dScal_is, Tl.dScal_si, Tl.uIsN, Tl.uNotN, Tl.nonD_n, Tl.nonD_i, Tl.nonD_s, Tl.nonD_t, Tl.nonD_l, Tl.nonD_b, Tl.nonD_r, Tl.uCatS, Tl.uCatL, Tl.uCatM, Tl.lstOf_l, Tl.lstOf_c, Tl.lstOf_m, Tl.trkOf_l, Tl.trkOf_m, Tl.tupOf_t, Tl.tupOf_b, Tl.seqOf_t, Tl.seqOf_b, Tl.seqOf_l, Tl.seqOf_c, Tl.seqOf_r, Tl.uIx_t, Tl.uIx_b, Tl.uIx_l, Tl.uIx_c, Tl.uIx_s, Tl.uIx_r, Tl.uYes, Tl.uSlL, Tl.uSlM, Tl.uSlS, Tl.uIsi, Tl.dTy_n, Tl.dTy_b, Tl.dTy_i, Tl.dTy_s, Tl.dTy_t, Tl.dTy_l, Tl.uLen, Tl.lenOf_t, Tl.lenOf_b, Tl.lenOf_l, Tl.lenOf_c, Tl.lenOf_m, Tl.uIntI, Tl.uIntB, Tl.uLs, Tl.uTu, Tl.oL1_i, Tl.oL2_i, Tl.oL3_i, Tl.uR1, Tl.uR2, Tl.uR3, Tl.uEn, Tl.uZi, Tl.uSt, Tl.uRv, Tl.uDivmod, Tl.uList, Tl.uListM, Tl.uSum, Tl.uMax, Tl.uMin, Tl.intLst_l, Tl.intLst_c, Tl.blLst_l, Tl.uMax2, Tl.uMin2, Tl.uAbs, Tl.uAny, Tl.uAll, Tl.mLst_m, Tl.uAppend, Tl.uExtend, Tl.uPop, Tl.uSet, Tl.lMt_l, Tl.isS_m, Tl.atI_0, Tl.atI_1, Tl.atI_2, Tl.atI_3, Tl.atI_4, Tl.atI_5])
local macro_rules | `(tactic| walk_at "vh") => `(tactic| simp only [Tl.umClear, Tl.ucPr, Tl.ugLs, Tl.utSdk, Tl.utSm, Tl.umSplit, Tl.umStarts, Tl.umJoin, Tl.ucStr, Tl.ucIntS, Tl.ubInS, Tl.uZiT, Tl.uDisp1, Tl.uIsB, Tl.uSortDI, Tl.op_lane, Tl.op_lanes, Tl.op_mine, Tl.op_num, Tl.op_name, Tl.op_box, Tl.cut_tail, Tl.val_name, Tl.val_row, Tl.val_def, Tl.val_back, Tl.ofS_inj, String.reduceEq, Tl.uDic, Tl.oDA_ki, Tl.oDA_ks, Tl.oDA_t, Tl.oPA_ki, Tl.oPA_ks, Tl.oPA_t, Tl.consK_s, Tl.kT_nil, Tl.kT_i, Tl.kT_s, Tl.uzDict, Tl.uIn, Tl.uRepS, Tl.uRep, Tl.uRepM, Tl.uCatT, Tl.uSlT, Tl.oLD_k, Tl.oLD_t, Tl.uLenD, Tl.z_tDnK, Tl.z_tDnT, Tl.z_tDg, Tl.z_tDi, Tl.z_tDg2, Tl.z_tRe, Tl.z_sRe, Tl.wip, Tl.uObj, Tl.oAt_i, Tl.cxK, Tl.cxKn, true_or, or_true, or_false, false_or, Nat.zero_le, Nat.le_refl, Tl.mup_same, Tl.mup_mup, Tl.uAlt, Tl.z_tFd, Tl.z_sFd, Tl.z_sFa, Tl.z_tMe, Tl.z_tMk, Tl.nthD, Tl.putD, Tl.uFo, Tl.uLcF, Tl.uLcV', Tl.uAsRef, Tl.z_sNx, Tl.z_sSq, Tl.z_sBk, Tl.z_sCt, Tl.z_sDr, Tl.z_sRt, Tl.z_sRtN, Tl.z_sIf, Tl.z_sAs, Tl.z_gN, Tl.z_gSb, Tl.z_tK, Tl.z_tO, Tl.z_tU, Tl.z_tCa, Tl.z_tN, Tl.z_tCs, Tl.z_tAn, Tl.tOr', Tl.z_tNo, Tl.z_tIfE, Tl.z_tCl, Tl.z_tTu, Tl.z_tLi, Tl.z_tLm, Tl.z_tSc, Tl.z_oNo, Tl.z_tMt, Tl.z_tMt0, Tl.z_tYe, Tl.z_tLt, Tl.kit_ii, Tl.kit_ib, Tl.kit_bi, Tl.kit_bb, Tl.kit_si, Tl.kit_ss, Tl.kit_is, Tl.kit_tt, Tl.kit_ll, Tl.kit_lt, Tl.kit_tl, Tl.kit_ts, Tl.kit_ls, Tl.kit_sl, Tl.kit_st, Tl.kit_it, Tl.kit_il, Tl.kit_dd, Tl.kit_ni, Tl.kit_nb, Tl.begin_, Tl.nth, List.map, List.length, List.replicate, List.append, List.set, List.nil_append, List.cons_append, List.append_nil, Nat.reduceAdd, Nat.reduceSub, Nat.zero_add, reduceIte, Bool.false_eq_true, Bool.true_eq_false, Bool.not_eq_true', Bool.not_eq_false', Bool.not_true, Bool.not_false, not_true_eq_false, not_false_eq_true, decide_eq_true_eq, decide_eq_false_iff_not, decide_not, Option.isSome_some, true_and, and_true, Int.reduceLT, Int.reduceLE, Int.reduceNeg, List.cons.injEq, Option.some.injEq, PySem.sizeLine_eq, Nat.reduceLeDiff, List.length_map, List.length_append, List.length_cons, List.length_nil, Tl.oBl_i, Tl.oInt_i, Tl.oStr_i, Tl.oTup_i, Tl.oSome_i, Tl.oBl_if, Tl.uV, Tl.uBo, Tl.uAnV, Tl.uOrV, Tl.uNoV, Tl.uCh, Tl.uNl0, Tl.uCs1, Tl.uTp, Tl.uAg, Tl.uInt, Tl.uInt0, Tl.uNegI, Tl.uEq, Tl.uNe, Tl.dScal_ii, Tl.dScal_ss, Tl.dScal_bb, Tl.dScal_nn, Tl.dScal_ni, Tl.dScal_in, Tl.dScal_is, Tl.dScal_si, Tl.uIsN, Tl.uNotN, Tl.nonD_n, Tl.nonD_i, Tl.nonD_s, Tl.nonD_t, Tl.nonD_l, Tl.nonD_b, Tl.nonD_r, Tl.uCatS, Tl.uCatL, Tl.uCatM, Tl.lstOf_l, Tl.lstOf_c, Tl.lstOf_m, Tl.trkOf_l, Tl.trkOf_m, Tl.tupOf_t, Tl.tupOf_b, Tl.seqOf_t, Tl.seqOf_b, Tl.seqOf_l, Tl.seqOf_c, Tl.seqOf_r, Tl.uIx_t, Tl.uIx_b, Tl.uIx_l, Tl.uIx_c, Tl.uIx_s, Tl.uIx_r, Tl.uYes, Tl.uSlL, Tl.uSlM, Tl.uSlS, Tl.uIsi, Tl.dTy_n, Tl.dTy_b, Tl.dTy_i, Tl.dTy_s, Tl.dTy_t, Tl.dTy_l, Tl.uLen, Tl.lenOf_t, Tl.lenOf_b, Tl.lenOf_l, Tl.lenOf_c, Tl.lenOf_m, Tl.uIntI, Tl.uIntB, Tl.uLs, Tl.uTu, Tl.oL1_i, Tl.oL2_i, Tl.oL3_i, Tl.uR1, Tl.uR2, Tl.uR3, Tl.uEn, Tl.uZi, Tl.uSt, Tl.uRv, Tl.uDivmod, Tl.uList, Tl.uListM, Tl.uSum, Tl.uMax, Tl.uMin, Tl.intLst_l, Tl.intLst_c, Tl.blLst_l, Tl.uMax2, Tl.uMin2, Tl.uAbs, Tl.uAny, Tl.uAll, Tl.mLst_m, Tl.uAppend, Tl.uExtend, Tl.uPop, Tl.uSet, Tl.lMt_l, Tl.isS_m, Tl.atI_0, Tl.atI_1, Tl.atI_2, Tl.atI_3, Tl.atI_4, Tl.atI_5, *])

namespace K51
open PySem PySem.Spec PyProof.Rows L2 Tl
def top (i : Nat) : Stmt := PySem.Challenge.pw_widelanes_k51_shared_boxes.main.body.getD i (.Pass ⟨0, 0, 0, 0⟩)
def fl_Shared : List Str := ["numbers", "marks", "clash"]
abbrev s_clash_of : Stmt := top 1
abbrev nm_clash_of : List Str := ["place", "one", "other", "first", "last"]
theorem sc_clash_of : FnScope nm_clash_of ["place", "one", "other"] (defScope s_clash_of) := ⟨rfl, rfl, rfl, by decide +kernel, rfl, by decide +kernel, by decide +kernel⟩
def e_clash_of : He.DefD := ⟨("clash_of", none), "clash_of", "clash_of", defArgs s_clash_of, defBody s_clash_of, defScope s_clash_of, [], []⟩
abbrev s_Shared___init : Stmt := inClass (top 3) 0
abbrev nm_Shared___init : List Str := ["self", "boxes"]
theorem sc_Shared___init : FnScope nm_Shared___init ["self", "boxes"] (defScope s_Shared___init) := ⟨rfl, rfl, rfl, by decide +kernel, rfl, by decide +kernel, by decide +kernel⟩
def e_Shared___init : He.DefD := ⟨("Shared", some "__init__"), "__init__", "Shared.__init__", defArgs s_Shared___init, defBody s_Shared___init, defScope s_Shared___init, [], []⟩
abbrev s_Shared_touch : Stmt := inClass (top 3) 1
abbrev nm_Shared_touch : List Str := ["self", "word", "lane", "place", "line", "earlier", "other", "there", "what"]
theorem sc_Shared_touch : FnScope nm_Shared_touch ["self", "word", "lane", "place", "line"] (defScope s_Shared_touch) := ⟨rfl, rfl, rfl, by decide +kernel, rfl, by decide +kernel, by decide +kernel⟩
def e_Shared_touch : He.DefD := ⟨("Shared", some "touch"), "touch", "Shared.touch", defArgs s_Shared_touch, defBody s_Shared_touch, defScope s_Shared_touch, [], []⟩
abbrev s_Shared_taken : Stmt := inClass (top 3) 2
abbrev nm_Shared_taken : List Str := ["self", "lane", "place", "line"]
theorem sc_Shared_taken : FnScope nm_Shared_taken ["self", "lane", "place", "line"] (defScope s_Shared_taken) := ⟨rfl, rfl, rfl, by decide +kernel, rfl, by decide +kernel, by decide +kernel⟩
def e_Shared_taken : He.DefD := ⟨("Shared", some "taken"), "taken", "Shared.taken", defArgs s_Shared_taken, defBody s_Shared_taken, defScope s_Shared_taken, [], []⟩
abbrev s_Shared_laid : Stmt := inClass (top 3) 3
abbrev nm_Shared_laid : List Str := ["self", "lane", "place", "line", "number"]
theorem sc_Shared_laid : FnScope nm_Shared_laid ["self", "lane", "place", "line", "number"] (defScope s_Shared_laid) := ⟨rfl, rfl, rfl, by decide +kernel, rfl, by decide +kernel, by decide +kernel⟩
def e_Shared_laid : He.DefD := ⟨("Shared", some "laid"), "laid", "Shared.laid", defArgs s_Shared_laid, defBody s_Shared_laid, defScope s_Shared_laid, [], []⟩
abbrev s_Shared_met : Stmt := inClass (top 3) 4
abbrev nm_Shared_met : List Str := ["self"]
theorem sc_Shared_met : FnScope nm_Shared_met ["self"] (defScope s_Shared_met) := ⟨rfl, rfl, rfl, by decide +kernel, rfl, by decide +kernel, by decide +kernel⟩
def e_Shared_met : He.DefD := ⟨("Shared", some "met"), "met", "Shared.met", defArgs s_Shared_met, defBody s_Shared_met, defScope s_Shared_met, [], []⟩
abbrev s_l_whole : Stmt := top 5
abbrev nm_l_whole : List Str := ["_law_found"]
theorem sc_l_whole : FnScope nm_l_whole ["_law_found"] (defScope s_l_whole) := ⟨rfl, rfl, rfl, by decide +kernel, rfl, by decide +kernel, by decide +kernel⟩
def e_l_whole : He.DefD := ⟨("_law_whole", none), "_law_whole", "_law_whole", defArgs s_l_whole, defBody s_l_whole, defScope s_l_whole, [], []⟩
abbrev s_l_mixed : Stmt := top 6
abbrev nm_l_mixed : List Str := ["_law_cell", "_law_k", "_law_number"]
theorem sc_l_mixed : FnScope nm_l_mixed ["_law_cell", "_law_k"] (defScope s_l_mixed) := ⟨rfl, rfl, rfl, by decide +kernel, rfl, by decide +kernel, by decide +kernel⟩
def e_l_mixed : He.DefD := ⟨("_law_mixed", none), "_law_mixed", "_law_mixed", defArgs s_l_mixed, defBody s_l_mixed, defScope s_l_mixed, [], []⟩
abbrev s_l_number_by : Stmt := top 7
abbrev nm_l_number_by : List Str := ["_law_cell"]
theorem sc_l_number_by : FnScope nm_l_number_by ["_law_cell"] (defScope s_l_number_by) := ⟨rfl, rfl, rfl, by decide +kernel, rfl, by decide +kernel, by decide +kernel⟩
def e_l_number_by : He.DefD := ⟨("_law_number_by", none), "_law_number_by", "_law_number_by", defArgs s_l_number_by, defBody s_l_number_by, defScope s_l_number_by, [], []⟩
abbrev s_l_deed_by : Stmt := top 8
abbrev nm_l_deed_by : List Str := ["_law_cell", "_law_room", "_law_lane", "_law_kind", "_law_line"]
theorem sc_l_deed_by : FnScope nm_l_deed_by ["_law_cell", "_law_room"] (defScope s_l_deed_by) := ⟨rfl, rfl, rfl, by decide +kernel, rfl, by decide +kernel, by decide +kernel⟩
def e_l_deed_by : He.DefD := ⟨("_law_deed_by", none), "_law_deed_by", "_law_deed_by", defArgs s_l_deed_by, defBody s_l_deed_by, defScope s_l_deed_by, [], []⟩
abbrev s_l_clash : Stmt := top 9
abbrev nm_l_clash : List Str := ["_law_touches", "_law_deed", "_law_word", "_law_lane", "_law_place", "_law_line", "_law_what", "_law_other", "_law_there", "_law_row"]
theorem sc_l_clash : FnScope nm_l_clash ["_law_touches", "_law_deed"] (defScope s_l_clash) := ⟨rfl, rfl, rfl, by decide +kernel, rfl, by decide +kernel, by decide +kernel⟩
def e_l_clash : He.DefD := ⟨("_law_clash", none), "_law_clash", "_law_clash", defArgs s_l_clash, defBody s_l_clash, defScope s_l_clash, [], []⟩
abbrev s_l_same_list : Stmt := top 10
abbrev nm_l_same_list : List Str := ["_law_found", "_law_due", "_law_number"]
theorem sc_l_same_list : FnScope nm_l_same_list ["_law_found", "_law_due"] (defScope s_l_same_list) := ⟨rfl, rfl, rfl, by decide +kernel, rfl, by decide +kernel, by decide +kernel⟩
def e_l_same_list : He.DefD := ⟨("_law_same_list", none), "_law_same_list", "_law_same_list", defArgs s_l_same_list, defBody s_l_same_list, defScope s_l_same_list, [], []⟩
abbrev s_l_touched : Stmt := top 11
abbrev nm_l_touched : List Str := ["_law_boxes", "_law_numbers", "_law_touches", "_law_deed", "_law_number", "_law_word", "_law_lane", "_law_place", "_law_line", "_law_due", "_law_found"]
theorem sc_l_touched : FnScope nm_l_touched ["_law_boxes", "_law_numbers", "_law_touches", "_law_deed", "_law_number"] (defScope s_l_touched) := ⟨rfl, rfl, rfl, by decide +kernel, rfl, by decide +kernel, by decide +kernel⟩
def e_l_touched : He.DefD := ⟨("_law_touched", none), "_law_touched", "_law_touched", defArgs s_l_touched, defBody s_l_touched, defScope s_l_touched, [], []⟩
abbrev s_l_stays : Stmt := top 12
abbrev nm_l_stays : List Str := ["_law_boxes", "_law_place", "_law_lane", "_law_line", "_law_other", "_law_row", "_law_kept"]
theorem sc_l_stays : FnScope nm_l_stays ["_law_boxes"] (defScope s_l_stays) := ⟨rfl, rfl, rfl, by decide +kernel, rfl, by decide +kernel, by decide +kernel⟩
def e_l_stays : He.DefD := ⟨("_law_stays", none), "_law_stays", "_law_stays", defArgs s_l_stays, defBody s_l_stays, defScope s_l_stays, [], []⟩
abbrev s_l_at_last : Stmt := top 13
abbrev nm_l_at_last : List Str := ["_law_boxes", "_law_numbers", "_law_closed", "_law_told", "_law_which", "_law_one", "_law_due", "_law_found", "_law_k"]
theorem sc_l_at_last : FnScope nm_l_at_last ["_law_boxes", "_law_numbers", "_law_closed", "_law_told"] (defScope s_l_at_last) := ⟨rfl, rfl, rfl, by decide +kernel, rfl, by decide +kernel, by decide +kernel⟩
def e_l_at_last : He.DefD := ⟨("_law_at_last", none), "_law_at_last", "_law_at_last", defArgs s_l_at_last, defBody s_l_at_last, defScope s_l_at_last, [], []⟩
abbrev s_law : Stmt := top 14
abbrev nm_law : List Str := ["_law_script", "_law_room", "_law_k", "_law_handed", "_law_numbers", "_law_boxes", "_law_touches", "_law_closed", "_law_told", "_law_one", "_law_cell", "_law_which", "_law_deed", "_law_word"]
theorem sc_law : FnScope nm_law ["_law_script"] (defScope s_law) := ⟨rfl, rfl, rfl, by decide +kernel, rfl, by decide +kernel, by decide +kernel⟩
def e_law : He.DefD := ⟨("law", none), "law", "law", defArgs s_law, defBody s_law, defScope s_law, [], []⟩
def fn : List He.DefD := [e_clash_of, e_Shared___init, e_Shared_touch, e_Shared_taken, e_Shared_laid, e_Shared_met, e_l_whole, e_l_mixed, e_l_number_by, e_l_deed_by, e_l_clash, e_l_same_list, e_l_touched, e_l_stays, e_l_at_last, e_law]
def fa : List He.Fa := [.glo "clash_of", .glo "_law_whole", .glo "_law_mixed", .glo "_law_number_by", .glo "_law_deed_by", .glo "_law_clash", .glo "_law_same_list", .glo "_law_touched", .glo "_law_stays", .glo "_law_at_last", .glo "law", .cls "Shared", .noat "Shared" "numbers", .noat "Shared" "marks", .noat "Shared" "clash", .mkr "Shared", .glo "Shared", .meth "Shared" "touch", .meth "Shared" "taken", .meth "Shared" "laid", .meth "Shared" "met", .free "min", .free "max", .free "list", .free "isinstance", .free "bool", .free "int", .free "all", .free "tuple", .free "range", .free "len", .free "enumerate"]
abbrev Tp (K : PySem.W.Frag) (mg : Str → Option Value) : Prop := Top fa fn K mg
section
variable {K : PySem.W.Frag} {mg : Str → Option Value}
theorem m_clash_of (T : Tp K mg) : mg "clash_of" = some (.ref (He.ga K "clash_of")) := T.glo 0
theorem m_l_whole (T : Tp K mg) : mg "_law_whole" = some (.ref (He.ga K "_law_whole")) := T.glo 1
theorem m_l_mixed (T : Tp K mg) : mg "_law_mixed" = some (.ref (He.ga K "_law_mixed")) := T.glo 2
theorem m_l_number_by (T : Tp K mg) : mg "_law_number_by" = some (.ref (He.ga K "_law_number_by")) := T.glo 3
theorem m_l_deed_by (T : Tp K mg) : mg "_law_deed_by" = some (.ref (He.ga K "_law_deed_by")) := T.glo 4
theorem m_l_clash (T : Tp K mg) : mg "_law_clash" = some (.ref (He.ga K "_law_clash")) := T.glo 5
theorem m_l_same_list (T : Tp K mg) : mg "_law_same_list" = some (.ref (He.ga K "_law_same_list")) := T.glo 6
theorem m_l_touched (T : Tp K mg) : mg "_law_touched" = some (.ref (He.ga K "_law_touched")) := T.glo 7
theorem m_l_stays (T : Tp K mg) : mg "_law_stays" = some (.ref (He.ga K "_law_stays")) := T.glo 8
theorem m_l_at_last (T : Tp K mg) : mg "_law_at_last" = some (.ref (He.ga K "_law_at_last")) := T.glo 9
theorem m_law (T : Tp K mg) : mg "law" = some (.ref (He.ga K "law")) := T.glo 10
theorem c_Shared_numbers (T : Tp K mg) : ∀ C, (C = He.ga K "Shared") → Cls K C ∧ NoAttr K C "numbers" := by
  rintro _ (rfl)
  · exact ⟨T.cls 11, T.noat 12⟩
theorem c_Shared_marks (T : Tp K mg) : ∀ C, (C = He.ga K "Shared") → Cls K C ∧ NoAttr K C "marks" := by
  rintro _ (rfl)
  · exact ⟨T.cls 11, T.noat 13⟩
theorem c_Shared_clash (T : Tp K mg) : ∀ C, (C = He.ga K "Shared") → Cls K C ∧ NoAttr K C "clash" := by
  rintro _ (rfl)
  · exact ⟨T.cls 11, T.noat 14⟩
theorem m_min (T : Tp K mg) : mg "min" = none := T.free 21
theorem m_max (T : Tp K mg) : mg "max" = none := T.free 22
theorem m_list (T : Tp K mg) : mg "list" = none := T.free 23
theorem m_isinstance (T : Tp K mg) : mg "isinstance" = none := T.free 24
theorem m_bool (T : Tp K mg) : mg "bool" = none := T.free 25
theorem m_int (T : Tp K mg) : mg "int" = none := T.free 26
theorem m_all (T : Tp K mg) : mg "all" = none := T.free 27
theorem m_tuple (T : Tp K mg) : mg "tuple" = none := T.free 28
theorem m_range (T : Tp K mg) : mg "range" = none := T.free 29
theorem m_len (T : Tp K mg) : mg "len" = none := T.free 30
theorem m_enumerate (T : Tp K mg) : mg "enumerate" = none := T.free 31
end
section
variable {P : Program} {w : World} {K : PySem.W.Frag} {mg : Str → Option Value} {base : Heap}
def spClash : SpT := fun ds M Q _ => ∃ (t o : Tch), ds = [.int t.place, .tup [.int t.lane, .int t.line], .tup [.int o.lane, .int o.line]] ∧ o.lane ≠ t.lane ∧ Q (.tup (c5D (clOf t o))) M
theorem ok_clash_of (T : Tp K mg) : Fn P w K mg base CX0 1 "clash_of" spClash := by
  refine fn_top T 0 e_clash_of (m_clash_of T) sc_clash_of (by rintro _ M Q Et ⟨n, _, rfl, _⟩; rfl) (fun cdv A outer s H E hr => ⟨_, (qss_cons (qs_set (i := 3) sc_clash_of.nd (q_callB (cq_minP (un64 hr) rfl) (m_min T) (by decide +kernel) (qa_cons (qv 1) (qa_cons (qv 2) qa_nil))))
 (qss_cons (qs_set (i := 4) sc_clash_of.nd (q_callB (cq_maxP (un64 hr) rfl) (m_max T) (by decide +kernel) (qa_cons (qv 1) (qa_cons (qv 2) qa_nil))))
 (qss_one (qs_ret (q_tup (qa_cons (qv 0) (qa_cons (q_ix (qv 3) q_int) (qa_cons (q_ix (qv 3) q_int) (qa_cons (q_ix (qv 4) q_int) (qa_cons (q_ix (qv 4) q_int) qa_nil)))))))))), ?_⟩) (fun _ _ _ _ _ _ us hl => match us, hl with | [_, _, _], _ => rfl)
  rintro _ M Q Et ⟨t, o, rfl, hne, h⟩
  walk_at "vc"
  unfold clOf c5D at h
  refine ⟨Ne.symm hne, ?_⟩
  by_cases hl : o.lane < t.lane
  · rw [if_neg (by omega)] at h
    simp only [if_pos hl, if_neg (show ¬ t.lane < o.lane by omega)]
    walk_at "vc"
    exact ⟨Ne.symm hne, h⟩
  · rw [if_pos (by omega)] at h
    simp only [if_neg hl, if_pos (show t.lane < o.lane by omega)]
    walk_at "vc"
    exact ⟨Ne.symm hne, h⟩
def spInit (K : PySem.W.Frag) : SpT := fun ds M Q _ => ∃ (a dx b : Addr) (ns : List Int) (M0 : MH), ds = [.ref a, .ref b] ∧ Cel M0 M [(a, .obj (He.ga K "Shared") dx fl_Shared [])] ∧ M b = some (.lst (ns.map .int)) ∧
  ∀ p q M', Cel M0 M' (Sh.cells (He.ga K "Shared") fl_Shared ⟨a, p, q, dx⟩ ns [] none) → Q .non M'
theorem ok_Shared___init (T : Tp K mg) : Fi P w K mg base CX0 1 "Shared" (spInit K) := by
  refine fi_top T e_Shared___init 1 sc_Shared___init (T.mkr 15) (T.glo 16) (by rintro _ M Q Et ⟨n, _, z, _, _, rfl, _⟩; rfl) (fun cdv A outer s H E hr => ⟨_, (qss_cons (qs_fld 0 fl_Shared (c_Shared_numbers T) (qv 0) (q_callTy cq_listM (m_list T) (by decide +kernel) (qa_cons (qv 1) qa_nil)))
 (qss_cons (qs_fld 1 fl_Shared (c_Shared_marks T) (qv 0) q_dnewK)
 (qss_one (qs_fld 2 fl_Shared (c_Shared_clash T) (qv 0) q_non)))), ?_⟩) (fun _ _ _ _ _ _ us hl => match us, hl with | [_, _], _ => rfl)
  rintro _ M Q Et ⟨a, dx, b, ns, M0, rfl, hc, hb, h⟩
  have hM : M a = _ := hc.at_ (a, _) (List.mem_singleton.mpr rfl)
  walk_at "vh"
  rw [show lstOf M (.ref b) = some (ns.map .int) by unfold lstOf; dsimp only; rw [hb]]
  simp only [oSome_i]
  intro p hp
  have hpa : a ≠ p := fun e => by rw [← e, hM] at hp; cases hp
  rw [mup_ne hpa, hM]
  walk_at "vh"
  intro q hq
  have hqa : a ≠ q := fun e => by rw [← e, mup_same] at hq; cases hq
  rw [mup_ne hqa]
  walk_at "vh"
  exact h p q _ (Sh.init_ hc hp hq)
def spTouch (K : PySem.W.Frag) : SpT := fun ds M Q _ => ∃ (A : Sh) (M0 : MH) (ns : List Int) (kvs : Kvs) (T : List Tch) (cl : Option C5) (t : Tch), ds = [.ref A.s, .str (wS t.put), .int t.lane, .int t.place, .int t.line] ∧ Cel M0 M (A.cells (He.ga K "Shared") fl_Shared ns kvs cl) ∧ MarksOk kvs T ∧ T.length < 1000 ∧
  ∀ kvs' M', Cel M0 M' (A.cells (He.ga K "Shared") fl_Shared ns kvs' (cl.or (due T t))) → MarksOk kvs' (T ++ [t]) → Q .non M'
theorem ok_Shared_touch (T : Tp K mg) : Fm P w K mg base CX0 2 "Shared" "touch" (spTouch K) := by
  refine fm_top T e_Shared_touch 2 sc_Shared_touch (T.meth 17) (T.cls 11) (by rintro _ M Q Et ⟨A, _, _, _, _, _, _, rfl, _⟩; rfl) (fun cdv A outer s H E hr => ⟨_, (qss_cons (qs_set (i := 5) sc_Shared_touch.nd (q_setdefault2 (q_fld 1 fl_Shared (c_Shared_marks T) (qv 0)) (qv 3) (q_lst qa_nil)))
 (qss_cons (qs_for PassesOwn.never rfl (qi_list (qv 5)) (qg_tup (n := 3) rfl (qgs_cons (qg_name (i := 6) sc_Shared_touch.nd) (qgs_cons (qg_name (i := 7) sc_Shared_touch.nd) (qgs_cons (qg_name (i := 8) sc_Shared_touch.nd) qgs_nil))))
  (qss_one (qs_if (qt_w (qw_and (qt_cmp oq_isN (q_fld 2 fl_Shared (c_Shared_clash T) (qv 0)) q_non) (qw_and (qt_cmp oq_ne (qv 6) (qv 2)) (qw_and1 (qt_cmp oq_inQ q_str (q_tup (qa_cons (qv 1) (qa_cons (qv 8) qa_nil))))))))
  (qss_one (qs_fld 2 fl_Shared (c_Shared_clash T) (qv 0) (q_call (ok_clash_of T) (hr.mono (by decide)) (qa_cons (qv 3) (qa_cons (q_tup (qa_cons (qv 2) (qa_cons (qv 4) qa_nil))) (qa_cons (q_tup (qa_cons (qv 6) (qa_cons (qv 7) qa_nil))) qa_nil))))))
  qss_nil)))
 (qss_one (qs_asg (q_op oq_catL (qv 5) (q_lst (qa_cons (q_tup (qa_cons (qv 2) (qa_cons (qv 4) (qa_cons (qv 1) qa_nil)))) qa_nil))) (qg_sub (q_fld 1 fl_Shared (c_Shared_marks T) (qv 0)) (qv 3) (sq_dict (hu_of hr))))))), ?_⟩) (fun _ _ _ _ _ _ us hl => match us, hl with | [_, _, _, _, _], _ => rfl)
  rintro _ M Q Et ⟨A, M0, ns, kvs, T, cl, t, rfl, hc, hm, hl, h⟩
  have hs := Sh.s_ hc
  walk_at "vc"
  simp only [hs]
  walk_at "vc"
  refine ⟨⟨A.k, _, rfl, Sh.k_ hc, trivial⟩, ?_⟩
  refine sd_marks hc hm (by omega) fun kvs1 M1 c1 e1 e2 l1 => ?_
  walk_at "vc"
  refine for_map (earlier t.place T) Tch.d rfl (fun ys τ M' => (∃ x1 x2 x3, τ = [some (.ref A.s), some (.str (wS t.put)), some (.int t.lane), some (.int t.place), some (.int t.line), some (.lst ((earlier t.place T).map Tch.d)), x1, x2, x3]) ∧ Cel M0 M' (A.cells (He.ga K "Shared") fl_Shared ns kvs1 (cl.or ((ys.find? (hits t)).map (clOf t)))))
    ⟨⟨_, _, _, rfl⟩, by simpa using c1⟩ (fun ys τ M' w => trivial) (fun ys o zs τ M2 Nx exs w hN => ?_) (fun τ M2 w => ?_)
  · obtain ⟨⟨x1, x2, x3, rfl⟩, c2⟩ := w
    have hs2 := Sh.s_ c2
    have ho : o.place = t.place := by
      have : o ∈ earlier t.place T := by rw [exs]; simp
      unfold earlier at this
      rw [List.mem_filter] at this
      simpa using this.2
    rw [show Tch.d o = .tup [.int o.lane, .int o.line, .str (wS o.put)] from rfl]
    walk_at "vc"
    simp only [hs2]
    walk_at "vc"
    have st := cl_step cl t ys o
    cases hq : cl.or ((ys.find? (hits t)).map (clOf t)) with
    | some c =>
      rw [hq] at st c2
      rw [if_neg (show ¬ isNonD (clD (some c)) = true from fun q => Bool.false_ne_true q)]
      exact hN _ _ ⟨⟨_, _, _, rfl⟩, by rw [st]; exact c2⟩
    | none =>
      rw [hq] at st c2 hs2
      rw [if_pos (show isNonD (clD none) = true from rfl)]
      by_cases hl2 : o.lane = t.lane
      · rw [if_neg (fun q => q hl2)]
        have hh : hits t o = false := by unfold hits; rw [decide_eq_false (fun q => q hl2)]; rfl
        exact hN _ _ ⟨⟨_, _, _, rfl⟩, by rw [st, hh]; exact c2⟩
      · rw [if_pos hl2]
        refine ⟨rfl, rfl, ?_⟩
        have ha : ([D.str (wS t.put), D.str (wS o.put)].any fun z => eqD z (.str "put")) = (o.put || t.put) := by cases t.put <;> cases o.put <;> decide +kernel
        have hh : hits t o = (o.put || t.put) := by unfold hits; rw [decide_eq_true hl2]; rfl
        rw [ha]
        cases hp : (o.put || t.put) with
        | false =>
          rw [if_neg Bool.false_ne_true]
          exact hN _ _ ⟨⟨_, _, _, rfl⟩, by rw [st, hh, hp]; exact c2⟩
        | true =>
          rw [if_pos rfl]
          refine ⟨t, o, rfl, hl2, ?_⟩
          dsimp only
          rw [hs2]
          walk_at "vc"
          exact hN _ _ ⟨⟨_, _, _, rfl⟩, by rw [st, hh, hp]; exact Sh.put_c (cl' := some (clOf t o)) c2⟩
  · obtain ⟨⟨x1, x2, x3, rfl⟩, c2⟩ := w
    have hs2 := Sh.s_ c2
    walk_at "vc"
    simp only [hs2]
    walk_at "vc"
    have le : (earlier t.place T).length ≤ T.length := List.length_filter_le _ _
    rw [Sh.k_ c2, oPA_ki, show List.map Tch.d (earlier t.place T) ++ [D.tup [.int t.lane, .int t.line, .str (wS t.put)]] = (earlier t.place T ++ [t]).map Tch.d by rw [List.map_append]; rfl]
    exact ⟨by omega, by omega, h _ _ (Sh.put_k c2) (marks_put hm e1 (by rw [putM_len_old e2]; exact l1))⟩
def spTaken (K : PySem.W.Frag) : SpT := fun ds M Q _ => ∃ (A : Sh) (M0 : MH) (ns : List Int) (kvs : Kvs) (T : List Tch) (cl : Option C5) (t : Tch), ds = [.ref A.s, .int t.lane, .int t.place, .int t.line] ∧ t.put = false ∧ Cel M0 M (A.cells (He.ga K "Shared") fl_Shared ns kvs cl) ∧ MarksOk kvs T ∧ T.length < 1000 ∧ 0 ≤ t.place ∧ t.place < ns.length ∧
  ∀ kvs' M', Cel M0 M' (A.cells (He.ga K "Shared") fl_Shared ns kvs' (cl.or (due T t))) → MarksOk kvs' (T ++ [t]) → Q (.int (ns.getD t.place.toNat 0)) M'
theorem ok_Shared_taken (T : Tp K mg) : Fm P w K mg base CX0 3 "Shared" "taken" (spTaken K) := by
  refine fm_top T e_Shared_taken 3 sc_Shared_taken (T.meth 18) (T.cls 11) (by rintro _ M Q Et ⟨A, _, _, _, _, _, _, rfl, _⟩; rfl) (fun cdv A outer s H E hr => ⟨_, (qss_cons (qs_expr (q_meth fl_Shared (ok_Shared_touch T) (hr.mono (by decide)) (qv 0) (qa_cons q_str (qa_cons (qv 1) (qa_cons (qv 2) (qa_cons (qv 3) qa_nil))))))
 (qss_one (qs_ret (q_ix (q_fld 0 fl_Shared (c_Shared_numbers T) (qv 0)) (qv 2))))), ?_⟩) (fun _ _ _ _ _ _ us hl => match us, hl with | [_, _, _, _], _ => rfl)
  rintro _ M Q Et ⟨A, M0, ns, kvs, T, cl, t, rfl, hp, hc, hm, hl, h0, hn, h⟩
  have hs := Sh.s_ hc
  walk_at "vc"
  simp only [hs]
  walk_at "vc"
  refine ⟨A, M0, ns, kvs, T, cl, t, by rw [hp]; rfl, hc, hm, hl, fun kvs' M' c2 m2 => ?_⟩
  have hs2 := Sh.s_ c2
  simp only [hs2]
  walk_at "vc"
  rw [lstOf_at (Sh.n_ c2)]
  simp only [oSome_i]
  rw [atI_mapD 0 h0 hn]
  exact h kvs' M' c2 m2
def spLaid (K : PySem.W.Frag) : SpT := fun ds M Q _ => ∃ (A : Sh) (M0 : MH) (ns : List Int) (kvs : Kvs) (T : List Tch) (cl : Option C5) (t : Tch) (n : Int), ds = [.ref A.s, .int t.lane, .int t.place, .int t.line, .int n] ∧ t.put = true ∧ Cel M0 M (A.cells (He.ga K "Shared") fl_Shared ns kvs cl) ∧ MarksOk kvs T ∧ T.length < 1000 ∧ 0 ≤ t.place ∧ t.place < ns.length ∧
  ∀ kvs' M', Cel M0 M' (A.cells (He.ga K "Shared") fl_Shared (ns.set t.place.toNat n) kvs' (cl.or (due T t))) → MarksOk kvs' (T ++ [t]) → Q .non M'
theorem ok_Shared_laid (T : Tp K mg) : Fm P w K mg base CX0 3 "Shared" "laid" (spLaid K) := by
  refine fm_top T e_Shared_laid 4 sc_Shared_laid (T.meth 19) (T.cls 11) (by rintro _ M Q Et ⟨A, _, _, _, _, _, _, _, rfl, _⟩; rfl) (fun cdv A outer s H E hr => ⟨_, (qss_cons (qs_expr (q_meth fl_Shared (ok_Shared_touch T) (hr.mono (by decide)) (qv 0) (qa_cons q_str (qa_cons (qv 1) (qa_cons (qv 2) (qa_cons (qv 3) qa_nil))))))
 (qss_one (qs_asg (qv 4) (qg_sub (q_fld 0 fl_Shared (c_Shared_numbers T) (qv 0)) (qv 2) sq_list)))), ?_⟩) (fun _ _ _ _ _ _ us hl => match us, hl with | [_, _, _, _, _], _ => rfl)
  rintro _ M Q Et ⟨A, M0, ns, kvs, T, cl, t, n, rfl, hp, hc, hm, hl, h0, hn, h⟩
  have hs := Sh.s_ hc
  walk_at "vc"
  simp only [hs]
  walk_at "vc"
  refine ⟨A, M0, ns, kvs, T, cl, t, by rw [hp]; rfl, hc, hm, hl, fun kvs' M' c2 m2 => ?_⟩
  have hs2 := Sh.s_ c2
  simp only [hs2]
  walk_at "vc"
  have ix : ixN (ns.map D.int).length t.place = some t.place.toNat := by
    rw [List.length_map]; unfold ixN; rw [if_pos h0, if_pos (by omega)]
  rw [mLst_at (Sh.n_ c2)]
  simp only [oSome_i]
  rw [ix]
  simp only [oSome_i]
  rw [← List.map_set]
  exact h kvs' _ (Sh.put_n c2) m2
def spMet (K : PySem.W.Frag) : SpT := fun ds M Q _ => ∃ (A : Sh) (M0 : MH) (ns : List Int) (kvs : Kvs) (cl : Option C5), ds = [.ref A.s] ∧ Cel M0 M (A.cells (He.ga K "Shared") fl_Shared ns kvs cl) ∧
  ∀ k r M', Cel M0 M' ((r, .lst (ns.map .int)) :: { A with k := k }.cells (He.ga K "Shared") fl_Shared ns [] cl) → Q (.ref r) M'
theorem ok_Shared_met (T : Tp K mg) : Fm P w K mg base CX0 1 "Shared" "met" (spMet K) := by
  refine fm_top T e_Shared_met 5 sc_Shared_met (T.meth 20) (T.cls 11) (by rintro _ M Q Et ⟨A, _, _, _, _, rfl, _⟩; rfl) (fun cdv A outer s H E hr => ⟨_, (qss_cons (qs_fld 1 fl_Shared (c_Shared_marks T) (qv 0) q_dnewK)
 (qss_one (qs_ret (q_callTy cq_listM (m_list T) (by decide +kernel) (qa_cons (q_fld 0 fl_Shared (c_Shared_numbers T) (qv 0)) qa_nil))))), ?_⟩) (fun _ _ _ _ _ _ us hl => match us, hl with | [_], _ => rfl)
  rintro _ M Q Et ⟨A, M0, ns, kvs, cl, rfl, hc, h⟩
  have hs := Sh.s_ hc
  walk_at "vc"
  intro k hk
  have hne : A.s ≠ k := fun e => by rw [← e, hs] at hk; cases hk
  rw [mup_ne hne, hs]
  walk_at "vc"
  have c2 := Sh.new_k hc hk
  rw [lstOf_at (Sh.n_ c2)]
  simp only [oSome_i]
  intro r hr
  exact h k r _ (c2.fresh hr)
end
end K51

namespace K51
open PySem PySem.Spec PyProof.Rows L2 Tl
section
variable {P : Program} {w : World} {K : PySem.W.Frag} {mg : Str → Option Value} {base : Heap}
def spWhole : SpT := fun ds M Q _ => ∃ n, ds = [.int n] ∧ Q (.bl true) M
theorem ok_l_whole (T : Tp K mg) : Fn P w K mg base CX0 1 "_law_whole" spWhole := by
  refine fn_top T 6 e_l_whole (m_l_whole T) sc_l_whole (by rintro _ M Q Et ⟨n, rfl, _⟩; rfl) (fun cdv A outer s H E hr => ⟨_, (qss_one (qs_ret (q_and (q_callB cq_isi (m_isinstance T) (by decide +kernel) (qa_cons (qv 0) (qa_cons (q_ty "int" (m_int T) (by decide +kernel)) qa_nil))) (q_one (q_not (q_callB cq_isi (m_isinstance T) (by decide +kernel) (qa_cons (qv 0) (qa_cons (q_ty "bool" (m_bool T) (by decide +kernel)) qa_nil)))))))), ?_⟩) (fun _ _ _ _ _ _ us hl => match us, hl with | [_], _ => rfl)
  rintro _ M Q Et ⟨n, rfl, h⟩
  walk_at "vc"
  exact h
def spMixed : SpT := fun ds M Q _ => ∃ (c : Int) (k : Nat), ds = [.int c, .int k] ∧ k ≤ 1000 ∧ ∀ r, Q (.int r) M
theorem ok_l_mixed (T : Tp K mg) : Fn P w K mg base CX0 1 "_law_mixed" spMixed := by
  refine fn_top T 7 e_l_mixed (m_l_mixed T) sc_l_mixed (by rintro _ M Q Et ⟨n, _, rfl, _⟩; rfl) (fun cdv A outer s H E hr => ⟨_, (qss_cons (qs_set (i := 2) sc_l_mixed.nd (q_op oq_mod (q_op oq_addI (q_op oq_addI (q_op oq_mulS (qv 0) q_int) (q_op oq_mulS (q_op oq_mulS (qv 1) (qv 1)) q_int)) q_int) q_int))
 (qss_one (qs_ret (q_op oq_mod (q_op oq_mulS (qv 2) (qv 2)) q_int)))), ?_⟩) (fun _ _ _ _ _ _ us hl => match us, hl with | [_, _], _ => rfl)
  rintro _ M Q Et ⟨c, k, rfl, hk, h⟩
  walk_at "vc"
  have b1 := modB (a := c * 48271 + (k : Int) * k * 7919 + 101) (b := 2147483647) (by decide)
  exact ⟨ms_r (by decide), ms_r (by omega), ms_r (by decide), ms_r (by omega), h _⟩
def fNum (c : Int) : Int := c * 69621 % 4294967296 - 2147483648
def spNum : SpT := fun ds M Q _ => ∃ c, ds = [.int c] ∧ Q (.int (fNum c)) M
theorem ok_l_number_by (T : Tp K mg) : Fn P w K mg base CX0 1 "_law_number_by" spNum := by
  refine fn_top T 8 e_l_number_by (m_l_number_by T) sc_l_number_by (by rintro _ M Q Et ⟨n, rfl, _⟩; rfl) (fun cdv A outer s H E hr => ⟨_, (qss_one (qs_ret (q_op oq_sub (q_op oq_mod (q_op oq_mulS (qv 0) q_int) q_int) q_int))), ?_⟩) (fun _ _ _ _ _ _ us hl => match us, hl with | [_], _ => rfl)
  rintro _ M Q Et ⟨c, rfl, h⟩
  walk_at "vc"
  exact ⟨ms_r (by decide), h⟩
def spDeed : SpT := fun ds M Q _ => ∃ (c : Int) (room : Nat), ds = [.int c, .int room] ∧ 13 ≤ room ∧ room ≤ 18 ∧ (∀ l n : Int, Q (.lst [.str "met", .int l, .int 0, .int n]) M) ∧ ∀ t : Tch, 0 ≤ t.place → t.place < room → Q t.deed M
theorem ok_l_deed_by (T : Tp K mg) : Fn P w K mg base CX0 1 "_law_deed_by" spDeed := by
  refine fn_top T 9 e_l_deed_by (m_l_deed_by T) sc_l_deed_by (by rintro _ M Q Et ⟨n, _, rfl, _⟩; rfl) (fun cdv A outer s H E hr => ⟨_, (qss_cons (qs_set (i := 2) sc_l_deed_by.nd (q_op oq_mod (qv 0) q_int))
 (qss_cons (qs_set (i := 3) sc_l_deed_by.nd (q_op oq_mod (q_op oq_fdiv (qv 0) q_int) q_int))
 (qss_cons (qs_set (i := 4) sc_l_deed_by.nd (q_op oq_addI q_int (q_op oq_mod (q_op oq_fdiv (qv 0) q_int) q_int)))
 (qss_cons (qs_if (qt_cmp oq_eq (qv 3) q_int)
  (qss_one (qs_ret (q_lst (qa_cons q_str (qa_cons (qv 2) (qa_cons q_int (qa_cons (qv 4) qa_nil)))))))
  qss_nil)
 (qss_cons (qs_if (qt_cmp oq_lt (qv 3) q_int)
  (qss_one (qs_ret (q_lst (qa_cons (q_ix (q_lst (qa_cons q_str (qa_cons q_str qa_nil))) (q_op oq_sub (qv 3) q_int)) (qa_cons (qv 2) (qa_cons (q_op oq_mod (q_op oq_fdiv (qv 0) q_int) (qv 1)) (qa_cons (qv 4) qa_nil)))))))
  qss_nil)
 (qss_cons (qs_if (qt_cmp oq_lt (qv 3) q_int)
  (qss_one (qs_ret (q_lst (qa_cons q_str (qa_cons (qv 2) (qa_cons (q_op oq_sub (qv 1) q_int) (qa_cons (qv 4) qa_nil)))))))
  qss_nil)
 (qss_one (qs_ret (q_lst (qa_cons (q_ix (q_lst (qa_cons q_str (qa_cons q_str qa_nil))) (q_op oq_mod (qv 3) q_int)) (qa_cons (qv 2) (qa_cons (qv 2) (qa_cons (qv 4) qa_nil))))))))))))), ?_⟩) (fun _ _ _ _ _ _ us hl => match us, hl with | [_, _], _ => rfl)
  rintro _ M Q Et ⟨c, room, rfl, h13, h18, h1, h2⟩
  walk_at "vc"
  have b1 := modB (a := c / 8) (b := 16) (by decide)
  have b2 := modB (a := c / 8 % 16) (b := 2) (by decide)
  have b3 := modB (a := c) (b := 8) (by decide)
  have b4 := modB (a := c / 128) (b := (room : Int)) (by omega)
  refine ⟨wd60 (by decide) (by decide), wd60 (by decide) (by decide), ?_⟩
  split
  · exact h1 _ _
  · split
    · obtain ⟨b, e⟩ := w2_get (k := c / 8 % 16 - 1) (by omega) (by omega)
      rw [e]
      simp only [oSome_i]
      exact ⟨wd60 (by decide) (by decide), by omega, h2 ⟨b, _, _, _⟩ b4.1 b4.2⟩
    · split
      · exact h2 ⟨false, c % 8, (room : Int) - 1, _⟩ (by show (0 : Int) ≤ room - 1; omega) (by show (room : Int) - 1 < room; omega)
      · obtain ⟨b, e⟩ := w2_get b2.1 b2.2
        rw [e]
        simp only [oSome_i]
        exact h2 ⟨b, c % 8, c % 8, _⟩ b3.1 (by show c % 8 < room; omega)
def spDue : SpT := fun ds M Q _ => ∃ (a : Addr) (T : List Tch) (t : Tch), ds = [.ref a, t.deed] ∧ M a = some (.lst (T.map Tch.deed)) ∧ T.length < 1000 ∧ Q (clD (due T t)) M
theorem ok_l_clash (T : Tp K mg) : Fn P w K mg base CX0 1 "_law_clash" spDue := by
  refine fn_top T 10 e_l_clash (m_l_clash T) sc_l_clash (by rintro _ M Q Et ⟨n, _, _, rfl, _⟩; rfl) (fun cdv A outer s H E hr => ⟨_, (qss_cons (qs_asg (qv 1) (qg_lst (n := 4) rfl (qgs_cons (qg_name (i := 2) sc_l_clash.nd) (qgs_cons (qg_name (i := 3) sc_l_clash.nd) (qgs_cons (qg_name (i := 4) sc_l_clash.nd) (qgs_cons (qg_name (i := 5) sc_l_clash.nd) qgs_nil))))))
 (qss_cons (qs_for PassesOwn.never rfl (qi_list (qv 0)) (qg_lst (n := 4) rfl (qgs_cons (qg_name (i := 6) sc_l_clash.nd) (qgs_cons (qg_name (i := 7) sc_l_clash.nd) (qgs_cons (qg_name (i := 8) sc_l_clash.nd) (qgs_cons (qg_name (i := 9) sc_l_clash.nd) qgs_nil)))))
  (qss_one (qs_if (qt_w (qw_and (qt_cmp oq_eq (qv 8) (qv 4)) (qw_and (qt_cmp oq_ne (qv 7) (qv 3)) (qw_and1 (qt_w (qw_or (qt_cmp oq_eq (qv 6) q_str) (qw_or1 (qt_cmp oq_eq (qv 2) q_str))))))))
  (qss_cons (qs_if (qt_cmp oq_lt (qv 3) (qv 7))
  (qss_one (qs_ret (q_tup (qa_cons (qv 4) (qa_cons (qv 3) (qa_cons (qv 5) (qa_cons (qv 7) (qa_cons (qv 9) qa_nil))))))))
  qss_nil)
 (qss_one (qs_ret (q_tup (qa_cons (qv 4) (qa_cons (qv 7) (qa_cons (qv 9) (qa_cons (qv 3) (qa_cons (qv 5) qa_nil)))))))))
  qss_nil)))
 (qss_one (qs_ret q_non)))), ?_⟩) (fun _ _ _ _ _ _ us hl => match us, hl with | [_, _], _ => rfl)
  rintro _ M Q Et ⟨a, T, t, rfl, hM, hl, h⟩
  rw [show t.deed = .lst [.str (wS t.put), .int t.lane, .int t.place, .int t.line] from rfl]
  walk_at "vc"
  rw [lstOf_at hM]
  simp only [oSome_i]
  refine for_map T Tch.deed rfl (fun ys τ M' => (M' = M ∧ ∃ x1 x2 x3 x4, τ = [some (.ref a), some (.lst [.str (wS t.put), .int t.lane, .int t.place, .int t.line]), some (.str (wS t.put)), some (.int t.lane), some (.int t.place), some (.int t.line), x1, x2, x3, x4]) ∧ ys.find? (hitP t) = none)
    ⟨⟨rfl, _, _, _, _, rfl⟩, rfl⟩ (fun ys τ M' w => by rw [w.1.1]; exact lstOf_at hM) (fun ys o zs τ M2 Nx exs w hN => ?_) (fun τ M2 w => ?_)
  · obtain ⟨⟨rfl, x1, x2, x3, x4, rfl⟩, hy⟩ := w
    rw [show o.deed = .lst [.str (wS o.put), .int o.lane, .int o.place, .int o.line] from rfl]
    walk_at "vc"
    have no : hitP t o = false → Nx [some (.ref a), some (.lst [.str (wS t.put), .int t.lane, .int t.place, .int t.line]), some (.str (wS t.put)), some (.int t.lane), some (.int t.place), some (.int t.line), some (.str (wS o.put)), some (.int o.lane), some (.int o.place), some (.int o.line)] M2 :=
      fun e => hN _ _ ⟨⟨rfl, _, _, _, _, rfl⟩, by rw [List.find?_append, hy]; simp [e]⟩
    have yes : hitP t o = true → if t.lane < o.lane then Q (.tup [.int t.place, .int t.lane, .int t.line, .int o.lane, .int o.line]) M2 else Q (.tup [.int t.place, .int o.lane, .int o.line, .int t.lane, .int t.line]) M2 := fun e => by
      have e2 : due T t = some (clOf t o) := by rw [due_eq, exs, List.find?_append, hy]; simp [e]
      rw [e2] at h
      unfold clOf at h
      split
      · rename_i g; rw [if_pos g] at h; exact h
      · rename_i g; rw [if_neg g] at h; exact h
    unfold hitP hits at no yes
    by_cases e1 : o.place = t.place
    · rw [if_pos e1]
      by_cases e2 : o.lane = t.lane
      · rw [if_neg (fun q => q e2)]; exact no (by simp [e2])
      · rw [if_pos e2]
        by_cases e3 : o.put = true
        · rw [if_pos (wS_put.mpr e3)]; exact yes (by simp [e1, e2, e3])
        · rw [if_neg (fun q => e3 (wS_put.mp q))]
          by_cases e4 : t.put = true
          · rw [if_pos (wS_put.mpr e4)]; exact yes (by simp [e1, e2, e4])
          · rw [if_neg (fun q => e4 (wS_put.mp q))]; exact no (by simp [e3, e4])
    · rw [if_neg e1]; exact no (by simp [e1])
  · obtain ⟨⟨rfl, x1, x2, x3, x4, rfl⟩, hy⟩ := w
    walk_at "vc"
    rw [due_eq, hy] at h
    exact h
def spSame : SpT := fun ds M Q _ => ∃ (a b : Addr) (ns : List Int), ds = [.ref a, .ref b] ∧ M a = some (.lst (ns.map .int)) ∧ M b = some (.lst (ns.map .int)) ∧ ns.length < 1000 ∧ Q (.bl true) M
theorem ok_l_same_list (T : Tp K mg) : Fn P w K mg base CX0 2 "_law_same_list" spSame := by
  refine fn_top T 11 e_l_same_list (m_l_same_list T) sc_l_same_list (by rintro _ M Q Et ⟨n, _, _, rfl, _⟩; rfl) (fun cdv A outer s H E hr => ⟨_, (qss_one (qs_ret (q_and (q_callB cq_isi (m_isinstance T) (by decide +kernel) (qa_cons (qv 0) (qa_cons (q_ty "list" (m_list T) (by decide +kernel)) qa_nil))) (q_and (q_callB (cq_all rfl) (m_all T) (by decide +kernel) (qa_cons (q_lc rfl sc_l_same_list.nd (qi_list (qv 0)) (blkOk_by (N := nm_l_same_list) (sc := defScope s_l_same_list) (own := [(("_law_number" : Str), 2)]) (by decide +kernel)) go_name (fun _ _ _ _ _ => (pg_name (i := 2) sc_l_same_list.nd rfl (Or.inl rfl))) (fun _ _ _ _ _ => qts_nil) (fun _ _ _ _ _ => (q_call (ok_l_whole T) (hr.mono (by decide)) (qa_cons (qv 2) qa_nil)))) qa_nil)) (q_one (q_cmp (oq_eqD (un64 hr)) (qv 0) (qv 1))))))), ?_⟩) (fun _ _ _ _ _ _ us hl => match us, hl with | [_, _], _ => rfl)
  rintro _ M Q Et ⟨a, b, ns, rfl, ha, hb, hl, h⟩
  walk_at "vc"
  rw [show dTy M (.ref a) = some "list" by unfold dTy; dsimp only; rw [ha]]
  simp only [oSome_i]
  walk_at "vc"
  rw [lstOf_at ha]
  simp only [oSome_i]
  refine lc_map ns D.int (fun _ => .bl true) rfl (by rw [sizeLine_eq]; omega) (lstOf_at ha) (fun n R1 R0 _ h1 => ?_) ?_
  · walk_at "vc"
    exact ⟨n, rfl, h1⟩
  · have e1 : blLst M (.lst (ns.map fun _ => D.bl true)) = some (ns.map fun _ => true) := blLst_l (is := ns.map fun _ => true) |> fun e => by rw [List.map_map] at e; exact e
    rw [e1]
    simp only [oSome_i]
    rw [if_pos (by simp)]
    exact eqD_same 2 (z := .lst (ns.map .int)) (by unfold asD; dsimp only; rw [ha]) (by unfold asD; dsimp only; rw [hb]) (by unfold okD; exact okD_ints 1 ns) h
end
end K51

namespace K51
open PySem PySem.Spec PyProof.Rows L2 Tl
section
variable {P : Program} {w : World} {K : PySem.W.Frag} {mg : Str → Option Value} {base : Heap}
abbrev CS (K : PySem.W.Frag) : Addr := He.ga K "Shared"
def tellW (o : Option C5) : Str := if o.isSome = true then "clash" else "well"
def spTouched (K : PySem.W.Frag) : SpT := fun ds M Q _ => ∃ (r : Rwx) (t : Tch) (n : Int) (M0 : MH) (room k : Nat), ds = [.ref r.A.s, .ref r.nl, .ref r.tl, t.deed, .int n] ∧ Cel M0 M (r.cells (CS K) fl_Shared) ∧ RowOk room k r ∧ r.cl = none ∧ 0 ≤ t.place ∧ t.place < room ∧ k < 900 ∧ room ≤ 18 ∧
  ∀ kvs M', Cel M0 M' ((r.touched t n kvs).cells (CS K) fl_Shared) → RowOk room (k + 1) (r.touched t n kvs) → Q (.str (tellW (due r.T t))) M'
theorem ok_l_touched (T : Tp K mg) : Fn P w K mg base CX0 4 "_law_touched" (spTouched K) := by
  refine fn_top T 12 e_l_touched (m_l_touched T) sc_l_touched (by rintro _ M Q Et ⟨r, _, _, _, _, _, rfl, _⟩; rfl) (fun cdv A outer s H E hr => ⟨_, (qss_cons (qs_asg (qv 3) (qg_lst (n := 4) rfl (qgs_cons (qg_name (i := 5) sc_l_touched.nd) (qgs_cons (qg_name (i := 6) sc_l_touched.nd) (qgs_cons (qg_name (i := 7) sc_l_touched.nd) (qgs_cons (qg_name (i := 8) sc_l_touched.nd) qgs_nil))))))
 (qss_cons (qs_set (i := 9) sc_l_touched.nd (q_call (ok_l_clash T) (hr.mono (by decide)) (qa_cons (qv 2) (qa_cons (qv 3) qa_nil))))
 (qss_cons (qs_expr (q_append (qv 2) (qa_cons (qv 3) qa_nil)))
 (qss_cut (qs_if (qt_cmp oq_eq (qv 5) q_str)
  (qss_cons (qs_expr (q_meth fl_Shared (ok_Shared_laid T) (hr.mono (by decide)) (qv 0) (qa_cons (qv 6) (qa_cons (qv 7) (qa_cons (qv 8) (qa_cons (qv 4) qa_nil))))))
 (qss_one (qs_asg (qv 4) (qg_sub (qv 1) (qv 7) sq_list))))
  (qss_cons (qs_set (i := 10) sc_l_touched.nd (q_meth fl_Shared (ok_Shared_taken T) (hr.mono (by decide)) (qv 0) (qa_cons (qv 6) (qa_cons (qv 7) (qa_cons (qv 8) qa_nil)))))
 (qss_one (qs_if (qt_w (qw_and (qt_cmp oq_isN (qv 9) q_non) (qw_and1 (qt_w (qw_or (qt_not (qt_val (q_call (ok_l_whole T) (hr.mono (by decide)) (qa_cons (qv 10) qa_nil)))) (qw_or1 (qt_cmp oq_ne (qv 10) (q_ix (qv 1) (qv 7)))))))))
  (qss_one (qs_ret q_str))
  qss_nil))))
 (qss_cons (qs_if (qt_cmp (oq_neD (un64 hr)) (q_fld 2 fl_Shared (c_Shared_clash T) (qv 0)) (qv 9))
  (qss_one (qs_ret q_str))
  qss_nil)
 (qss_cons (qs_if (qt_cmp oq_isN (qv 9) q_non)
  (qss_one (qs_ret q_str))
  qss_nil)
 (qss_cons (qs_if (qt_w (qw_or (qt_not (qt_val (q_callB cq_isi (m_isinstance T) (by decide +kernel) (qa_cons (q_fld 2 fl_Shared (c_Shared_clash T) (qv 0)) (qa_cons (q_ty "tuple" (m_tuple T) (by decide +kernel)) qa_nil))))) (qw_or1 (qt_not (qt_val (q_callB (cq_all rfl) (m_all T) (by decide +kernel) (qa_cons (q_lc rfl sc_l_touched.nd (qi_tup (q_fld 2 fl_Shared (c_Shared_clash T) (qv 0))) (blkOk_by (N := nm_l_touched) (sc := defScope s_l_touched) (own := [(("_law_number" : Str), 4)]) (by decide +kernel)) go_name (fun _ _ _ _ _ => (pg_name (i := 4) sc_l_touched.nd rfl (Or.inl rfl))) (fun _ _ _ _ _ => qts_nil) (fun _ _ _ _ _ => (q_call (ok_l_whole T) (hr.mono (by decide)) (qa_cons (qv 4) qa_nil)))) qa_nil)))))))
  (qss_one (qs_ret q_str))
  qss_nil)
 (qss_one (qs_ret q_str))))))))), ?_⟩) (fun _ _ _ _ _ _ us hl => match us, hl with | [_, _, _, _, _], _ => rfl)
  rintro _ M Q Et ⟨r, t, n, M0, room, k, rfl, hc, ok, hcl, h0, h1, hk, hr, h⟩
  rw [show t.deed = .lst [.str (wS t.put), .int t.lane, .int t.place, .int t.line] from rfl]
  walk_at "vc"
  have ht : M r.tl = some (.lst (r.T.map Tch.deed)) := hc.at_ (r.tl, _) (by unfold Rwx.cells Rwx.own; simp)
  have few := ok.few
  refine ⟨r.tl, r.T, t, rfl, ht, by omega, ?_⟩
  dsimp only
  rw [mLst_at ht]
  walk_at "vc"
  refine ⟨is_m ht, by omega, ?_⟩
  rw [show List.map Tch.deed r.T ++ [D.lst [.str (wS t.put), .int t.lane, .int t.place, .int t.line]] = (r.T ++ [t]).map Tch.deed by rw [List.map_append]; rfl]
  have c1 : Cel M0 (mup M r.tl (.lst ((r.T ++ [t]).map Tch.deed))) ([(r.tl, .lst ((r.T ++ [t]).map Tch.deed)), (r.nl, .lst (r.ns.map .int))] ++ r.A.cells (CS K) fl_Shared r.ns r.kvs r.cl) := Cel.put (pre := []) hc
  obtain ⟨g1, g2⟩ := (c1.perm List.perm_append_comm).part
  generalize mup M r.tl (.lst ((r.T ++ [t]).map Tch.deed)) = M1 at c1 g1 g2 ⊢
  generalize without M1 _ = Mx at g1 g2
  have hlen := ok.room_
  have hs := Sh.s_ g2
  refine cut_by (fun τ M' => ∃ v kvs, τ = [some (.ref r.A.s), some (.ref r.nl), some (.ref r.tl), some (.lst [.str (wS t.put), .int t.lane, .int t.place, .int t.line]), some (.int n), some (.str (wS t.put)), some (.int t.lane), some (.int t.place), some (.int t.line), some (clD (due r.T t)), v] ∧ Cel M0 M' ((r.touched t n kvs).cells (CS K) fl_Shared) ∧ RowOk room (k + 1) (r.touched t n kvs)) ?_ ?_
  · walk_at "vc"
    simp only [hs]
    walk_at "vc"
    split
    · rename_i hp
      have hp := wS_put.mp hp
      refine ⟨r.A, Mx, r.ns, r.kvs, r.T, r.cl, t, n, rfl, hp, g2, ok.marks, by omega, h0, by omega, fun kvs' M' c3 m3 => ?_⟩
      have c4 := (g1.glue c3).perm List.perm_append_comm
      have hn : M' r.nl = some (.lst (r.ns.map .int)) := c4.at_ (r.nl, _) (by simp)
      have ix : ixN (r.ns.map D.int).length t.place = some t.place.toNat := by
        rw [List.length_map]; unfold ixN; rw [if_pos h0, if_pos (by omega)]
      dsimp only
      rw [mLst_at hn]
      simp only [oSome_i]
      rw [ix]
      simp only [oSome_i]
      rw [← List.map_set]
      have c5 := Cel.put (o' := .lst ((r.ns.set t.place.toNat n).map D.int)) (pre := [(r.tl, .lst ((r.T ++ [t]).map Tch.deed))]) c4
      refine ⟨_, kvs', rfl, ?_, touched_ok ok m3 h0 h1⟩
      unfold Rwx.cells Rwx.own Rwx.touched
      dsimp only
      rw [if_pos hp]
      rw [hcl] at c5
      exact c5
    · rename_i hp
      have hp : t.put = false := Bool.eq_false_iff.mpr fun q => hp (wS_put.mpr q)
      refine ⟨r.A, Mx, r.ns, r.kvs, r.T, r.cl, t, rfl, hp, g2, ok.marks, by omega, h0, by omega, fun kvs' M' c3 m3 => ?_⟩
      have c4 := (g1.glue c3).perm List.perm_append_comm
      have hn : M' r.nl = some (.lst (r.ns.map .int)) := c4.at_ (r.nl, _) (by simp)
      have c6 : Cel M0 M' ((r.touched t n kvs').cells (CS K) fl_Shared) := by
        unfold Rwx.cells Rwx.own Rwx.touched
        dsimp only
        rw [if_neg (by rw [hp]; exact Bool.false_ne_true)]
        rw [hcl] at c4
        exact c4
      dsimp only
      split
      · refine ⟨_, rfl, ?_⟩
        dsimp only
        rw [lstOf_at hn]
        simp only [oSome_i]
        rw [atI_mapD 0 h0 (by omega)]
        walk_at "vc"
        exact ⟨_, kvs', rfl, c6, touched_ok ok m3 h0 h1⟩
      · exact ⟨_, kvs', rfl, c6, touched_ok ok m3 h0 h1⟩
  · rintro τ M' ⟨v, kvs, rfl, c6, ok2⟩
    have hs6 : M' r.A.s = _ := c6.at_ (r.A.s, .obj (CS K) r.A.dx fl_Shared [.ref r.A.n, .ref r.A.k, clD (due r.T t)]) (by unfold Rwx.cells Sh.cells Rwx.touched; simp)
    walk_at "vc"
    simp only [hs6]
    walk_at "vc"
    have q := h kvs M' c6 ok2
    unfold tellW at q
    refine neD_same 1 asD_cl asD_cl (okD_cl _) ?_
    walk_at "vc"
    cases hd : due r.T t with
    | none =>
      rw [hd] at q
      rw [if_pos (show isNonD (clD none) = true from rfl)]
      exact q
    | some c =>
      rw [hd] at q hs6
      rw [if_neg (show ¬ isNonD (clD (some c)) = true from fun q => Bool.false_ne_true q)]
      simp only [hs6]
      rw [show clD (some c) = .tup [.int c.1, .int c.2.1, .int c.2.2.1, .int c.2.2.2.1, .int c.2.2.2.2] from rfl]
      walk_at "vc"
      refine lc_map [c.1, c.2.1, c.2.2.1, c.2.2.2.1, c.2.2.2.2] D.int (fun _ => .bl true) rfl (show 5 < sizeLine by decide) trivial (fun n R1 R0 _ h1 => ?_) ?_
      · walk_at "vc"
        exact ⟨n, rfl, h1⟩
      · have e1 : blLst M' (.lst ([c.1, c.2.1, c.2.2.1, c.2.2.2.1, c.2.2.2.2].map fun _ => D.bl true)) = some [true, true, true, true, true] := blLst_l (is := [true, true, true, true, true])
        rw [e1]
        simp only [oSome_i]
        exact q
def spStays (K : PySem.W.Frag) : SpT := fun ds M Q _ => ∃ (r : Rwx) (M0 : MH) (room k : Nat) (c : C5), ds = [.ref r.A.s] ∧ Cel M0 M (r.A.cells (CS K) fl_Shared r.ns r.kvs r.cl) ∧ RowOk room k r ∧ r.cl = some c ∧ k < 900 ∧ room ≤ 18 ∧ 0 < room ∧
  ∀ (M' : MH) (r' : Rwx), Cel M0 M' (r'.A.cells (CS K) fl_Shared r'.ns r'.kvs r'.cl) → Q (.bl true) M'
theorem ok_l_stays (T : Tp K mg) : Fn P w K mg base CX0 4 "_law_stays" (spStays K) := by
  refine fn_top T 13 e_l_stays (m_l_stays T) sc_l_stays (by rintro _ M Q Et ⟨r, _, _, _, _, rfl, _⟩; rfl) (fun cdv A outer s H E hr => ⟨_, (qss_cons (qs_asg (q_fld 2 fl_Shared (c_Shared_clash T) (qv 0)) (qg_tup (n := 5) rfl (qgs_cons (qg_name (i := 1) sc_l_stays.nd) (qgs_cons (qg_name (i := 2) sc_l_stays.nd) (qgs_cons (qg_name (i := 3) sc_l_stays.nd) (qgs_cons (qg_name (i := 4) sc_l_stays.nd) (qgs_cons (qg_name (i := 5) sc_l_stays.nd) qgs_nil)))))))
 (qss_cons (qs_set (i := 6) sc_l_stays.nd (q_fld 2 fl_Shared (c_Shared_clash T) (qv 0)))
 (qss_cons (qs_expr (q_meth0 fl_Shared (ok_Shared_met T) (hr.mono (by decide)) (qv 0)))
 (qss_cons (qs_expr (q_meth fl_Shared (ok_Shared_laid T) (hr.mono (by decide)) (qv 0) (qa_cons (q_op oq_mod (q_op oq_addI (qv 2) q_int) q_int) (qa_cons (qv 1) (qa_cons (q_op oq_addI (qv 5) q_int) (qa_cons q_int qa_nil))))))
 (qss_cons (qs_expr (q_meth fl_Shared (ok_Shared_taken T) (hr.mono (by decide)) (qv 0) (qa_cons (qv 4) (qa_cons (qv 1) (qa_cons (q_op oq_addI (qv 3) q_int) qa_nil)))))
 (qss_cons (qs_expr (q_meth fl_Shared (ok_Shared_laid T) (hr.mono (by decide)) (qv 0) (qa_cons (qv 2) (qa_cons q_int (qa_cons (qv 3) (qa_cons q_int qa_nil))))))
 (qss_one (qs_ret (q_chain (oq_eqD (un64 hr)) (oq_eqD (un64 hr)) (q_fld 2 fl_Shared (c_Shared_clash T) (qv 0)) (qv 6) (q_tup (qa_cons (qv 1) (qa_cons (qv 2) (qa_cons (qv 3) (qa_cons (qv 4) (qa_cons (qv 5) qa_nil))))))))))))))), ?_⟩) (fun _ _ _ _ _ _ us hl => match us, hl with | [_], _ => rfl)
  rintro _ M Q Et ⟨r, M0, room, k, c, rfl, hc, ok, hcl, hk, hr, hp, h⟩
  have hs := Sh.s_ hc
  rw [hcl] at hs hc
  walk_at "vc"
  simp only [hs]
  have hc0 := ok.cl_ c hcl
  have hlen := ok.room_
  rw [show clD (some c) = .tup [.int c.1, .int c.2.1, .int c.2.2.1, .int c.2.2.2.1, .int c.2.2.2.2] from rfl]
  walk_at "vc"
  simp only [hs]
  walk_at "vc"
  refine ⟨r.A, M0, r.ns, r.kvs, some c, rfl, hc, fun k' b M1 c1 => ?_⟩
  have c1 : Cel M0 M1 ({ r.A with k := k' }.cells (CS K) fl_Shared r.ns [] (some c)) := Cel.forget (pre := []) c1
  have hs1 : M1 r.A.s = _ := Sh.s_ (A := { r.A with k := k' }) c1
  dsimp only
  simp only [hs1]
  walk_at "vc"
  refine ⟨{ r.A with k := k' }, M0, r.ns, [], [], some c, ⟨true, (c.2.1 + 3) % 8, c.1, c.2.2.2.2 + 1⟩, 5, rfl, rfl, c1, noMarks, by decide, hc0.1, by show c.1 < _; omega, fun kvs2 M2 c2 m2 => ?_⟩
  have hs2 : M2 r.A.s = _ := Sh.s_ (A := { r.A with k := k' }) c2
  dsimp only
  simp only [hs2]
  walk_at "vc"
  refine ⟨{ r.A with k := k' }, M0, _, kvs2, _, some c, ⟨false, c.2.2.2.1, c.1, c.2.2.1 + 1⟩, rfl, rfl, c2, m2, by simp, hc0.1, by show c.1 < _; rw [List.length_set]; omega, fun kvs3 M3 c3 m3 => ?_⟩
  have hs3 : M3 r.A.s = _ := Sh.s_ (A := { r.A with k := k' }) c3
  dsimp only
  simp only [hs3]
  walk_at "vc"
  refine ⟨{ r.A with k := k' }, M0, _, kvs3, _, some c, ⟨true, c.2.1, 0, c.2.2.1⟩, 5, rfl, rfl, c3, m3, by simp, Int.le_refl _, by show (0 : Int) < _; rw [List.length_set]; omega, fun kvs4 M4 c4 m4 => ?_⟩
  have hs4 : M4 r.A.s = _ := Sh.s_ (A := { r.A with k := k' }) c4
  dsimp only
  simp only [hs4]
  walk_at "vc"
  refine eqD_same 1 (z := clD (some c)) rfl rfl (okD_cl _) ?_
  walk_at "vc"
  refine eqD_same 1 (z := clD (some c)) rfl rfl (okD_cl _) ?_
  exact h M4 { r with A := { r.A with k := k' }, ns := _, kvs := kvs4, cl := some c } c4
end
end K51

namespace K51
open PySem PySem.Spec PyProof.Rows L2 Tl
section
variable {P : Program} {w : World} {K : PySem.W.Frag} {mg : Str → Option Value} {base : Heap}
structure TdOk (room : Nat) (told : List Td) (n : Nat) : Prop where
  same : ∀ x ∈ told, x.xs = x.ys
  len : ∀ x ∈ told, x.xs.length = room
  few : told.length ≤ n
def clB (r : Rwx) : Bool := r.cl.isSome
structure LastOk (K : PySem.W.Frag) (M0 M : MH) (R : Nat → Rwx) (cO oO : Addr) (told : List Td) (room k : Nat) : Prop where
  cel : Cel M0 M ((R 0).cells (CS K) fl_Shared ++ ((R 1).cells (CS K) fl_Shared ++ restC cO oO (clB (R 0)) (clB (R 1)) told))
  ok : ∀ i, RowOk room k (R i)
  td : TdOk room told k
  r1 : 13 ≤ room
  r2 : room ≤ 18
  k_ : k ≤ 300
def spLast (K : PySem.W.Frag) : SpT := fun ds M Q _ => ∃ M0 R cO oO told room k, ds = [.lst [.ref (R 0).A.s, .ref (R 1).A.s], .lst [.ref (R 0).nl, .ref (R 1).nl], .ref cO, .ref oO] ∧ LastOk K M0 M R cO oO told room k ∧ ∀ M', Q (.bl true) M'
theorem ok_l_at_last (T : Tp K mg) : Fn P w K mg base CX0 5 "_law_at_last" (spLast K) := by
  refine fn_top T 14 e_l_at_last (m_l_at_last T) sc_l_at_last (by rintro _ M Q Et ⟨_, _, _, _, _, _, _, rfl, _⟩; rfl) (fun cdv A outer s H E hr => ⟨_, (qss_cons (qs_for PassesOwn.never rfl (qi_range1 (m_range T) (qa_cons q_int qa_nil)) (qg_name (i := 4) sc_l_at_last.nd)
  (qss_cons (qs_if (qt_w (qw_and (qt_val (q_ix (qv 2) (qv 4))) (qw_and1 (qt_not (qt_val (q_call (ok_l_stays T) (hr.mono (by decide)) (qa_cons (q_ix (qv 0) (qv 4)) qa_nil)))))))
  (qss_one (qs_ret q_bl))
  qss_nil)
 (qss_one (qs_if (qt_not (qt_val (q_ix (qv 2) (qv 4))))
  (qss_one (qs_expr (q_append (qv 3) (qa_cons (q_lst (qa_cons (q_meth0 fl_Shared (ok_Shared_met T) (hr.mono (by decide)) (q_ix (qv 0) (qv 4))) (qa_cons (q_callTy cq_listM (m_list T) (by decide +kernel) (qa_cons (q_ix (qv 1) (qv 4)) qa_nil)) qa_nil))) qa_nil))))
  qss_nil))))
 (qss_cons (qs_if (qt_not (qt_val (q_callB (cq_all rfl) (m_all T) (by decide +kernel) (qa_cons (q_lc rfl sc_l_at_last.nd (qi_list (qv 3)) (blkOk_by (N := nm_l_at_last) (sc := defScope s_l_at_last) (own := [(("_law_one" : Str), 5), (("_law_due" : Str), 6)]) (by decide +kernel)) (go_lst (gos_cons go_name (gos_cons go_name gos_nil))) (fun _ _ _ _ _ => (pg_lst (n := 2) rfl (pgs_cons (pg_name (i := 5) sc_l_at_last.nd rfl (Or.inl rfl)) (pgs_cons (pg_name (i := 6) sc_l_at_last.nd rfl (Or.inl rfl)) pgs_nil)))) (fun _ _ _ _ _ => qts_nil) (fun _ _ _ _ _ => (q_call (ok_l_same_list T) (hr.mono (by decide)) (qa_cons (qv 5) (qa_cons (qv 6) qa_nil))))) qa_nil))))
  (qss_one (qs_ret q_bl))
  qss_nil)
 (qss_cons (qs_for PassesOwn.never rfl (qi_list (qv 3)) (qg_lst (n := 2) rfl (qgs_cons (qg_name (i := 5) sc_l_at_last.nd) (qgs_cons (qg_name (i := 6) sc_l_at_last.nd) qgs_nil)))
  (qss_cons (qs_asg (q_op oq_sub q_int (q_ix (qv 5) q_int)) (qg_sub (qv 5) q_int sq_list))
 (qss_one (qs_expr (q_append (qv 5) (qa_cons q_int qa_nil))))))
 (qss_cons (qs_for PassesOwn.never rfl (qi_range1 (m_range T) (qa_cons q_int qa_nil)) (qg_name (i := 4) sc_l_at_last.nd)
  (qss_one (qs_if (qt_not (qt_val (q_ix (qv 2) (qv 4))))
  (qss_cons (qs_setLc (i := 7) (own := [(("_law_k" : Str), 8)]) (lv_lcF go_name) rfl sc_l_at_last.nd (qi_range1 (m_range T) (qa_cons (q_callB cq_len (m_len T) (by decide +kernel) (qa_cons (q_ix (qv 1) (qv 4)) qa_nil)) qa_nil)) (blkOk_by (N := nm_l_at_last) (sc := defScope s_l_at_last) (own := [(("_law_k" : Str), 8)]) (by decide +kernel)) (fun _ _ _ _ _ => (pg_name (i := 8) sc_l_at_last.nd rfl (Or.inl rfl))) (fun _ _ _ _ _ => qts_nil) (fun _ _ _ _ _ => (q_methB fl_Shared (ok_Shared_taken T) (hr.mono (by decide)) (q_ix (qv 0) (qv 4)) (qa_cons q_int (qa_cons (qv 8) (qa_cons q_int qa_nil))))) (sw_true rfl rfl rfl (by decide +kernel)))
 (qss_one (qs_if (qt_cmp (oq_neD (un64 hr)) (qv 7) (q_ix (qv 1) (qv 4)))
  (qss_one (qs_ret q_bl))
  qss_nil)))
  qss_nil)))
 (qss_one (qs_ret q_bl)))))), ?_⟩) (fun _ _ _ _ _ _ us hl => match us, hl with | [_, _, _, _], _ => rfl)
  rintro _ M Q Et ⟨M0, R, cO, oO, told, room, k, rfl, ok, h⟩
  obtain ⟨cel, rok, td, r1, r2, hk⟩ := ok
  walk_at "vc"
  refine for_map (List.range 2) (fun i => D.int (i : Int)) rfl (fun ys τ M' => (∃ x4 x5 x6 x7 x8, τ = [some (.lst [.ref (R 0).A.s, .ref (R 1).A.s]), some (.lst [.ref (R 0).nl, .ref (R 1).nl]), some (.ref cO), some (.ref oO), x4, x5, x6, x7, x8]) ∧ ∃ Z told', Cel M0 M' (Z 0 ++ (Z 1 ++ restC cO oO (clB (R 0)) (clB (R 1)) told')) ∧ TdOk room told' (k + ys.length) ∧
      ∀ i, (i = 0 ∨ i = 1) → if i ∈ ys then (clB (R i) = false → ∃ r : Rwx, Z i = r.cut (CS K) fl_Shared ∧ r.A.s = (R i).A.s ∧ r.nl = (R i).nl ∧ RowOk room 0 r) else Z i = (R i).cells (CS K) fl_Shared)
    ⟨⟨_, _, _, _, _, rfl⟩, fun i => (R i).cells (CS K) fl_Shared, told, cel, td, fun i _ => by rw [if_neg (by simp)]⟩ (fun _ _ _ _ => trivial) (fun ys i zs τ M2 Nx exs hw hN => ?_) (fun τ M2 hw => ?_)
  · obtain ⟨⟨x4, x5, x6, x7, x8, rfl⟩, Z, told1, c1, td1, hz⟩ := hw
    have hi : i = 0 ∨ i = 1 := by
      have : i ∈ List.range 2 := by rw [exs]; simp
      rw [List.mem_range] at this
      omega
    have hny : i ∉ ys := by
      have : (List.range 2).Nodup := List.nodup_range
      rw [exs, List.nodup_append] at this
      exact fun q => this.2.2 i q i (by simp) rfl
    have hzi : Z i = (R i).cells (CS K) fl_Shared := by have := hz i hi; rwa [if_neg hny] at this
    walk_at "vc"
    have c1' : Cel M0 M2 ((Z 0 ++ Z 1) ++ restC cO oO (clB (R 0)) (clB (R 1)) told1) := by rw [List.append_assoc]; exact c1
    rw [lstOf_at (rest_c c1')]
    simp only [oSome_i]
    rw [bl_at (f := fun i => clB (R i)) hi]
    simp only [oSome_i, oBl_i]
    obtain ⟨M1, d1, back⟩ := z_step hi c1
    rw [hzi] at d1
    obtain ⟨e1, e2⟩ := (d1.perm List.perm_append_comm).part
    generalize without M2 _ = Mo at e1 e2
    cases hb : clB (R i) with
    | true =>
      have hcl : ∃ c, (R i).cl = some c := by
        unfold clB at hb
        cases e : (R i).cl with
        | none => rw [e] at hb; cases hb
        | some c => exact ⟨c, rfl⟩
      obtain ⟨c, hcl⟩ := hcl
      rw [if_pos rfl, ref_at (f := fun i => (R i).A.s) hi]
      simp only [oSome_i]
      refine ⟨R i, Mo, room, k, c, rfl, e2, rok i, hcl, by omega, r2, by omega, fun M' r' e3 => ?_⟩
      have e4 := e1.glue e3
      obtain ⟨cs, f⟩ : ∃ cs, Cel M0 M' (upZ Z i cs 0 ++ (upZ Z i cs 1 ++ restC cO oO (clB (R 0)) (clB (R 1)) told1)) := ⟨_, back M' _ [] e4⟩
      have f' : Cel M0 M' ((upZ Z i cs 0 ++ upZ Z i cs 1) ++ restC cO oO (clB (R 0)) (clB (R 1)) told1) := by rw [List.append_assoc]; exact f
      walk_at "vc"
      rw [lstOf_at (rest_c f')]
      simp only [oSome_i]
      rw [bl_at (f := fun i => clB (R i)) hi]
      simp only [oSome_i, oBl_i, hb]
      rw [if_neg (by decide)]
      refine hN _ _ ⟨⟨_, _, _, _, _, rfl⟩, upZ Z i cs, told1, f, ⟨td1.same, td1.len, by have := td1.few; rw [List.length_append]; omega⟩, fun j hj => ?_⟩
      by_cases e : j = i
      · subst e
        rw [if_pos (by simp)]
        intro q; rw [hb] at q; cases q
      · have hzj := hz j hj
        by_cases m : j ∈ ys
        · rw [if_pos m] at hzj
          rw [if_pos (by simp [m]), upZ_ne e]; exact hzj
        · rw [if_neg m] at hzj
          rw [if_neg (by simp [m, e]), upZ_ne e]; exact hzj
    | false =>
      rw [if_neg Bool.false_ne_true]
      simp only [hb]
      rw [if_pos trivial]
      refine ⟨is_m (rest_o c1'), ?_⟩
      rw [ref_at (f := fun i => (R i).A.s) hi]
      simp only [oSome_i]
      have hs := Sh.s_ e2
      walk_at "vc"
      simp only [hs]
      walk_at "vc"
      refine ⟨(R i).A, Mo, (R i).ns, (R i).kvs, (R i).cl, rfl, e2, fun k' p M3 e3 => ?_⟩
      have g := met_cells e1 e3
      have f := back M3 _ _ g
      have hlen := (rok i).room_
      have hcl : (R i).cl = none := by
        unfold clB at hb
        cases e : (R i).cl with
        | none => rfl
        | some c => rw [e] at hb; cases hb
      have hn : M3 (R i).nl = some (.lst ((R i).ns.map .int)) := g.at_ ((R i).nl, _) (by unfold Rwx.cut; simp)
      dsimp only
      rw [ref_at (f := fun i => (R i).nl) hi]
      simp only [oSome_i]
      rw [seqOf_r, lstOf_at hn]
      simp only [oSome_i]
      intro p2 hp2
      have f2 := f.fresh (p := p2) (o := .lst ((R i).ns.map .int)) hp2
      generalize hcs : ({ R i with A := { (R i).A with k := k' }, T := [], kvs := [] } : Rwx).cut (CS K) fl_Shared = cs at f f2
      have f3 : Cel M0 (mup M3 p2 (.lst ((R i).ns.map .int))) ((p2, .lst ((R i).ns.map .int)) :: (p, .lst ((R i).ns.map .int)) :: ((upZ Z i cs 0 ++ upZ Z i cs 1) ++ restC cO oO (clB (R 0)) (clB (R 1)) told1)) := by
        rw [List.append_assoc]; exact f2
      have f4 := told_more f3
      have ho : mup M3 p2 (.lst ((R i).ns.map .int)) oO = some (.lst (told1.map Td.d)) := f3.at_ (oO, .lst (told1.map Td.d)) (by unfold restC; simp)
      have few := td1.few
      have hys : ys.length ≤ 2 := by
        have := congrArg List.length exs
        simp at this
        omega
      rw [mLst_at ho]
      simp only [oSome_i]
      refine ⟨by rw [List.length_map]; omega, ?_⟩
      rw [show List.map Td.d told1 ++ [D.lst [.ref p, .ref p2]] = (told1 ++ [Td.mk p p2 (R i).ns (R i).ns]).map Td.d by rw [List.map_append]; rfl]
      refine hN _ _ ⟨⟨_, _, _, _, _, rfl⟩, upZ Z i cs, _, by rw [List.append_assoc] at f4; exact f4, ⟨fun x hx => ?_, fun x hx => ?_, by rw [List.length_append, List.length_append]; simp only [List.length_singleton]; omega⟩, fun j hj => ?_⟩
      · rcases List.mem_append.mp hx with hx | hx
        · exact td1.same x hx
        · rw [List.mem_singleton.mp hx]
      · rcases List.mem_append.mp hx with hx | hx
        · exact td1.len x hx
        · rw [List.mem_singleton.mp hx]; exact hlen
      · by_cases e : j = i
        · subst e
          rw [if_pos (by simp)]
          intro _
          exact ⟨{ R j with A := { (R j).A with k := k' }, T := [], kvs := [] }, by rw [upZ_at]; exact hcs.symm, rfl, rfl, ⟨noMarks, Nat.le_refl _, hlen, fun c q => by rw [hcl] at q; cases q⟩⟩
        · have hzj := hz j hj
          by_cases m : j ∈ ys
          · rw [if_pos m] at hzj
            rw [if_pos (by simp [m]), upZ_ne e]; exact hzj
          · rw [if_neg m] at hzj
            rw [if_neg (by simp [m, e]), upZ_ne e]; exact hzj
  · obtain ⟨⟨x4, x5, x6, x7, x8, rfl⟩, Z, told1, c1, td1, hz⟩ := hw
    have c1' : Cel M0 M2 ((Z 0 ++ Z 1) ++ restC cO oO (clB (R 0)) (clB (R 1)) told1) := by rw [List.append_assoc]; exact c1
    have hopen : ∀ i, (i = 0 ∨ i = 1) → clB (R i) = false → ∃ r : Rwx, Z i = r.cut (CS K) fl_Shared ∧ r.A.s = (R i).A.s ∧ r.nl = (R i).nl ∧ RowOk room 0 r := fun i hi => by
      have := hz i hi
      rwa [if_pos (by rw [List.mem_range]; omega)] at this
    have few := td1.few
    simp only [List.length_range] at few
    walk_at "vc"
    rw [lstOf_at (rest_o c1')]
    simp only [oSome_i]
    refine lc_map told1 Td.d (fun _ => .bl true) rfl (by rw [sizeLine_eq]; omega) (lstOf_at (rest_o c1')) (fun x R1 R0 hx h1 => ?_) ?_
    · rw [show x.d = .lst [.ref x.a, .ref x.b] from rfl]
      walk_at "vc"
      have ha := rest_a c1' hx
      have hl := td1.len x hx
      exact ⟨x.a, x.b, x.xs, rfl, ha.1, by rw [td1.same x hx]; exact ha.2, by omega, h1⟩
    · have e1 : blLst M2 (.lst (told1.map fun _ => D.bl true)) = some (told1.map fun _ => true) := blLst_l (is := told1.map fun _ => true) |> fun e => by rw [List.map_map] at e; exact e
      rw [e1]
      simp only [oSome_i]
      rw [if_neg (by simp), lstOf_at (rest_o c1')]
      simp only [oSome_i]
      refine for_map told1 Td.d rfl (fun ys τ M' => (∃ x4 x5 x6 x7 x8, τ = [some (.lst [.ref (R 0).A.s, .ref (R 1).A.s]), some (.lst [.ref (R 0).nl, .ref (R 1).nl]), some (.ref cO), some (.ref oO), x4, x5, x6, x7, x8]) ∧ ∃ told', told'.map Td.d = told1.map Td.d ∧ (∀ x ∈ told', x.xs ≠ [] ∧ x.xs.length ≤ 20 + ys.length) ∧ Cel M0 M' ((Z 0 ++ Z 1) ++ restC cO oO (clB (R 0)) (clB (R 1)) told'))
        ⟨⟨_, _, _, _, _, rfl⟩, told1, rfl, fun x hx => ?_, c1'⟩ (fun ys τ M' w => ?_) (fun ys x zs τ M3 Nx exs hw hN => ?_) (fun τ M3 hw => ?_)
      · have hl := td1.len x hx
        exact ⟨fun q => by rw [q] at hl; simp at hl; omega, by omega⟩
      · obtain ⟨_, told', em, _, c⟩ := w
        show lstOf M' (.ref oO) = some (told1.map Td.d)
        rw [lstOf_at (rest_o c), em]
      · obtain ⟨⟨x4, x5, x6, x7, x8, rfl⟩, told', em, hx', c⟩ := hw
        rw [exs] at em
        obtain ⟨p, y, q, rfl, ya, yb⟩ := td_split em
        rw [show x.d = .lst [.ref y.a, .ref y.b] by rw [ya, yb]; rfl]
        obtain ⟨hne, hlen⟩ := hx' y (by simp)
        have hy := (rest_a c (x := y) (by simp)).1
        have hys : ys.length ≤ told1.length := by rw [exs, List.length_append]; omega
        cases hxs : y.xs with
        | nil => exact absurd hxs hne
        | cons z t =>
          rw [hxs] at hy hlen
          walk_at "vc"
          rw [lstOf_at hy, mLst_at hy]
          simp only [oSome_i]
          rw [show atI ((z :: t).map D.int) 0 = some (.int z) from atI_mapD (xs := z :: t) 0 (Int.le_refl 0) (by simp only [List.length_cons]; omega)]
          simp only [oSome_i, oInt_i]
          rw [show ixN ((z :: t).map D.int).length 0 = some 0 by rw [List.length_map]; unfold ixN; rw [if_pos (Int.le_refl 0), if_pos (by simp only [List.length_cons]; omega)]; rfl]
          simp only [oSome_i]
          rw [show ((z :: t).map D.int).set 0 (.int (1 - z)) ++ [D.int 7] = (((1 - z) :: t) ++ [7]).map D.int by simp]
          rw [List.length_cons] at hlen
          refine ⟨by simp only [List.length_set, List.length_map, List.length_cons]; omega, hN _ _ ⟨⟨_, _, _, _, _, rfl⟩, p ++ { y with xs := ((1 - z) :: t) ++ [7] } :: q, ?_, fun v hv => ?_, (told_put c).2⟩⟩
          · rw [← exs] at em
            rw [← em]
            simp [Td.d]
          · rcases List.mem_append.mp hv with hv | hv
            · have := hx' v (List.mem_append_left _ hv)
              exact ⟨this.1, by rw [List.length_append]; omega⟩
            · rcases List.mem_cons.mp hv with rfl | hv
              · exact ⟨by simp, by simp only [List.length_append, List.length_cons, List.length_nil]; omega⟩
              · have := hx' v (List.mem_append_right _ (List.mem_cons_of_mem _ hv))
                exact ⟨this.1, by rw [List.length_append]; omega⟩
      · obtain ⟨⟨x4, x5, x6, x7, x8, rfl⟩, told', em, hx', c⟩ := hw
        walk_at "vc"
        refine for_map (List.range 2) (fun i => D.int (i : Int)) rfl (fun ys τ M' => (∃ x4 x5 x6 x7 x8, τ = [some (.lst [.ref (R 0).A.s, .ref (R 1).A.s]), some (.lst [.ref (R 0).nl, .ref (R 1).nl]), some (.ref cO), some (.ref oO), x4, x5, x6, x7, x8]) ∧ ∃ Z', Cel M0 M' (Z' 0 ++ (Z' 1 ++ restC cO oO (clB (R 0)) (clB (R 1)) told')) ∧
            ∀ i, (i = 0 ∨ i = 1) → i ∉ ys → clB (R i) = false → ∃ r : Rwx, Z' i = r.cut (CS K) fl_Shared ∧ r.A.s = (R i).A.s ∧ r.nl = (R i).nl ∧ RowOk room 0 r)
          ⟨⟨_, _, _, _, _, rfl⟩, Z, by rw [← List.append_assoc]; exact c, fun i hi _ => hopen i hi⟩ (fun _ _ _ _ => trivial) (fun ys i zs τ M4 Nx exs hw hN => ?_) (fun τ M4 hw => ?_)
        · obtain ⟨⟨x4, x5, x6, x7, x8, rfl⟩, Z', c4, hz'⟩ := hw
          have hi : i = 0 ∨ i = 1 := by
            have : i ∈ List.range 2 := by rw [exs]; simp
            rw [List.mem_range] at this
            omega
          have hny : i ∉ ys := by
            have : (List.range 2).Nodup := List.nodup_range
            rw [exs, List.nodup_append] at this
            exact fun q => this.2.2 i q i (by simp) rfl
          have c4' : Cel M0 M4 ((Z' 0 ++ Z' 1) ++ restC cO oO (clB (R 0)) (clB (R 1)) told') := by rw [List.append_assoc]; exact c4
          walk_at "vc"
          rw [lstOf_at (rest_c c4')]
          simp only [oSome_i]
          rw [bl_at (f := fun i => clB (R i)) hi]
          simp only [oSome_i, oBl_i]
          cases hb : clB (R i) with
          | true =>
            rw [if_neg (by decide)]
            exact hN _ _ ⟨⟨_, _, _, _, _, rfl⟩, Z', c4, fun j hj m => hz' j hj fun q => m (List.mem_append_left _ q)⟩
          | false =>
            rw [if_pos rfl]
            obtain ⟨r, zr, rs, rn, rok2⟩ := hz' i hi hny hb
            obtain ⟨M1, d1, back⟩ := z_step hi c4
            rw [zr] at d1
            have hrn : M4 r.nl = some (.lst (r.ns.map .int)) := d1.at_ (r.nl, _) (by unfold Rwx.cut; simp)
            have hlen := rok2.room_
            rw [ref_at (f := fun i => (R i).nl) hi]
            simp only [oSome_i]
            rw [← rn, lenOf_at hrn]
            simp only [oSome_i, List.length_map]
            have hd := d1.perm (show ((r.nl, MO.lst (r.ns.map .int)) :: r.A.cells (CS K) fl_Shared r.ns r.kvs r.cl).Perm (r.A.cells (CS K) fl_Shared r.ns r.kvs r.cl ++ [(r.nl, MO.lst (r.ns.map .int))]) from (List.perm_append_comm (l₁ := [(r.nl, MO.lst (r.ns.map .int))])))
            obtain ⟨e2, e3⟩ := hd.part
            generalize without M4 _ = Mo at e2 e3
            refine ⟨by omega, ?_⟩
            rw [Int.toNat_natCast]
            refine lc_any (fun j acc M' => ∃ kvs T cl, acc = (r.ns.take j).map D.int ∧ j ≤ room ∧ Cel Mo M' (r.A.cells (CS K) fl_Shared r.ns kvs cl) ∧ MarksOk kvs T ∧ T.length ≤ j) (by rw [List.length_map, List.length_range, sizeLine_eq]; omega)
              ⟨r.kvs, r.T, r.cl, rfl, Nat.zero_le _, e3, rok2.marks, rok2.few⟩ (fun j acc M' w => ?_) (fun j x acc M' hx w => ?_) (fun acc M' w => ?_)
            · obtain ⟨_, _, _, rfl, _⟩ := w
              exact ⟨trivial, by rw [List.length_map, List.length_take]; omega⟩
            · obtain ⟨kvs, T, cl, rfl, hj, e4, m4, l4⟩ := w
              obtain ⟨hj2, rfl⟩ := rng_get (f := fun i => D.int (i : Int)) hx
              have hs := Sh.s_ e4
              walk_at "vc"
              rw [ref_at (f := fun i => (R i).A.s) hi]
              simp only [oSome_i]
              rw [← rs]
              walk_at "vc"
              simp only [hs]
              walk_at "vc"
              refine ⟨r.A, Mo, r.ns, kvs, T, cl, ⟨false, 0, (j : Int), 1⟩, rfl, rfl, e4, m4, by omega, by show (0 : Int) ≤ j; omega, by show (j : Int) < _; omega, fun kvs' M5 e5 m5 => ?_⟩
              refine ⟨kvs', _, _, ?_, by omega, e5, m5, by rw [List.length_append, List.length_singleton]; omega⟩
              show _ ++ [D.int (r.ns.getD (j : Int).toNat 0)] = _
              rw [Int.toNat_natCast, List.take_add_one, List.map_append, List.getD_eq_getElem?_getD, List.getElem?_eq_getElem hj2]
              rfl
            · obtain ⟨kvs, T, cl, rfl, hj, e4, m4, l4⟩ := w
              rw [List.length_map, List.length_range, List.take_of_length_le (Nat.le_refl _)]
              have e5 := e2.glue e4
              have e6 : Cel M1 M' ([] ++ (r.A.cells (CS K) fl_Shared r.ns kvs cl ++ [(r.nl, MO.lst (r.ns.map .int))])) := e5
              have f := back M' _ [] e6
              have hn : M' r.nl = some (.lst (r.ns.map .int)) := e5.at_ (r.nl, _) (by simp)
              refine neD_same 2 (z := .lst (r.ns.map .int)) rfl (by unfold asD; dsimp only; rw [hn]) (by unfold okD; exact okD_ints 1 _) ?_
              walk_at "vc"
              refine hN _ _ ⟨⟨_, _, _, _, _, rfl⟩, _, f, fun v hv m q => ?_⟩
              have hvi : v ≠ i := fun e => m (by rw [e]; simp)
              rw [upZ_ne hvi]
              exact hz' v hv (fun z => m (List.mem_append_left _ z)) q
        · obtain ⟨⟨x4, x5, x6, x7, x8, rfl⟩, _⟩ := hw
          walk_at "vc"
          exact h _
end
end K51

set_option maxHeartbeats 8000000

namespace K51
open PySem PySem.Spec PyProof.Rows L2 Tl
section
variable {P : Program} {w : World} {K : PySem.W.Frag} {mg : Str → Option Value} {base : Heap}
def tlC (tO : Addr) (R : Nat → Rwx) : Addr × MO := (tO, .lst [.ref (R 0).tl, .ref (R 1).tl])
structure LawOk (K : PySem.W.Frag) (M0 M : MH) (R : Nat → Rwx) (tO cO oO : Addr) (told : List Td) (room k : Nat) : Prop where
  cel : Cel M0 M ((R 0).cells (CS K) fl_Shared ++ ((R 1).cells (CS K) fl_Shared ++ (tlC tO R :: restC cO oO (clB (R 0)) (clB (R 1)) told)))
  ok : ∀ i, RowOk room k (R i)
  td : TdOk room told k
  r1 : 13 ≤ room
  r2 : room ≤ 18
theorem tell_clash {o : Option C5} : decide (tellW o = Str.ofString "clash") = o.isSome := by unfold tellW; generalize o.isSome = b; cases b <;> decide +kernel
theorem tell_wrong {o : Option C5} : ¬ tellW o = Str.ofString "wrong" := by unfold tellW; generalize o.isSome = b; cases b <;> decide +kernel
/-- behind i turns of the law's round -/
def TurnOk (K : PySem.W.Frag) (ns : List Int) (room : Nat) (M0 : MH) (i : Nat) (τ : Sg) (M : MH) : Prop := i ≤ 63 ∧ ∃ (R : Nat → Rwx) (gO cO oO : Addr) (told : List Td) (x2 x3 x9 x10 x11 x12 x13 : Option D), τ = [some (.scr (ns.map .int)), some (.int (room : Int)), x2, x3, some (.lst [.ref (R 0).nl, .ref (R 1).nl]), some (.lst [.ref (R 0).A.s, .ref (R 1).A.s]), some (.ref gO), some (.ref cO), some (.ref oO), x9, x10, x11, x12, x13] ∧ LawOk K M0 M R gO cO oO told room i
theorem ok_law (T : Tp K mg) {f : Addr} {fd : FuncData} (F : FunD K e_law.name e_law.qual e_law.params e_law.body e_law.scope [] [] f fd) : FnOk P w K mg base CX0 6 f fd ["_law_script"] (lSp K spLaw) := by
  refine fn_ok e_law fd F sc_law (by rintro _ M Q Et ⟨n, rfl, _⟩; rfl) (fun cdv A outer s H E hr => ⟨_, (qss_cons (qs_set (i := 1) sc_law.nd q_int)
 (qss_cut (qs_if (qt_cmp oq_gt (q_callB cq_len (m_len T) (by decide +kernel) (qa_cons (qv 0) qa_nil)) q_int)
  (qss_one (qs_set (i := 1) sc_law.nd (q_op oq_addI q_int (q_op oq_mod (q_ix (qv 0) q_int) q_int))))
  qss_nil)
 (qss_cons (qs_set (i := 3) sc_law.nd (q_lst (qa_cons (q_lcV rfl sc_law.nd (qi_range1 (m_range T) (qa_cons (qv 1) qa_nil)) (blkOk_by (N := nm_law) (sc := defScope s_law) (own := [(("_law_k" : Str), 2)]) (by decide +kernel)) go_name (fun _ _ _ _ _ => (pg_name (i := 2) sc_law.nd rfl (Or.inl rfl))) (fun _ _ _ _ _ => qts_nil) (fun _ _ _ _ _ => (q_call (ok_l_number_by T) (hr.mono (by decide)) (qa_cons (q_op oq_addI (q_op oq_mulS (qv 2) (qv 2)) q_int) qa_nil)))) (qa_cons (q_lcV rfl sc_law.nd (qi_range1 (m_range T) (qa_cons (qv 1) qa_nil)) (blkOk_by (N := nm_law) (sc := defScope s_law) (own := [(("_law_k" : Str), 2)]) (by decide +kernel)) go_name (fun _ _ _ _ _ => (pg_name (i := 2) sc_law.nd rfl (Or.inl rfl))) (fun _ _ _ _ _ => qts_nil) (fun _ _ _ _ _ => (q_call (ok_l_number_by T) (hr.mono (by decide)) (qa_cons (q_op oq_mulS (q_op oq_mulS (q_op oq_mulS q_int (qv 2)) (qv 2)) (qv 2)) qa_nil)))) qa_nil))))
 (qss_cons (qs_set (i := 4) sc_law.nd (q_lst (qa_cons (q_callTy cq_listM (m_list T) (by decide +kernel) (qa_cons (q_ix (qv 3) q_int) qa_nil)) (qa_cons (q_callTy cq_listM (m_list T) (by decide +kernel) (qa_cons (q_ix (qv 3) q_int) qa_nil)) qa_nil))))
 (qss_cons (qs_set (i := 5) sc_law.nd (q_lst (qa_cons (q_make fl_Shared (ok_Shared___init T) (hr.mono (by decide)) (qa_cons (q_ix (qv 3) q_int) qa_nil)) (qa_cons (q_make fl_Shared (ok_Shared___init T) (hr.mono (by decide)) (qa_cons (q_ix (qv 3) q_int) qa_nil)) qa_nil))))
 (qss_cons (qs_if (qt_cmp (oq_neN (un64 hr)) (qv 3) (qv 4))
  (qss_one (qs_ret q_bl))
  qss_nil)
 (qss_cons (qs_expr (q_clear (q_ix (qv 3) q_int)))
 (qss_cons (qs_asg q_int (qg_sub (q_ix (qv 3) q_int) q_int sq_list))
 (qss_cons (qs_set (i := 6) sc_law.nd (q_lstM (qa_cons (q_lstM qa_nil) (qa_cons (q_lstM qa_nil) qa_nil))))
 (qss_cons (qs_set (i := 7) sc_law.nd (q_lstM (qa_cons q_bl (qa_cons q_bl qa_nil))))
 (qss_cut (qs_set (i := 8) sc_law.nd (q_lstM qa_nil))
 (qss_cons (qs_for PassesOwn.never rfl (qi_enum (m_enumerate T) (qa_cons (q_sliceL (qv 0) qo_none (qo_some q_int)) qa_nil)) (qg_tup (n := 2) rfl (qgs_cons (qg_name (i := 2) sc_law.nd) (qgs_cons (qg_name (i := 9) sc_law.nd) qgs_nil)))
  (qss_cons (qs_set (i := 10) sc_law.nd (q_call (ok_l_mixed T) (hr.mono (by decide)) (qa_cons (qv 9) (qa_cons (qv 2) qa_nil))))
 (qss_cons (qs_set (i := 11) sc_law.nd (q_op oq_mod (qv 10) q_int))
 (qss_cons (qs_set (i := 12) sc_law.nd (q_call (ok_l_deed_by T) (hr.mono (by decide)) (qa_cons (q_op oq_fdiv (qv 10) q_int) (qa_cons (qv 1) qa_nil))))
 (qss_one (qs_if (qt_w (qw_and (qt_not (qt_val (q_ix (qv 7) (qv 11)))) (qw_and1 (qt_cmp oq_eq (q_ix (qv 12) q_int) q_str))))
  (qss_cons (qs_expr (q_append (qv 8) (qa_cons (q_lst (qa_cons (q_meth0 fl_Shared (ok_Shared_met T) (hr.mono (by decide)) (q_ix (qv 5) (qv 11))) (qa_cons (q_callTy cq_listM (m_list T) (by decide +kernel) (qa_cons (q_ix (qv 4) (qv 11)) qa_nil)) qa_nil))) qa_nil)))
 (qss_cons (qs_asg (q_lstM qa_nil) (qg_sub (qv 6) (qv 11) sq_list))
 (qss_one (qs_if (qt_cmp oq_notN (q_fld 2 fl_Shared (c_Shared_clash T) (q_ix (qv 5) (qv 11))) q_non)
  (qss_one (qs_ret q_bl))
  qss_nil))))
  (qss_one (qs_if (qt_not (qt_val (q_ix (qv 7) (qv 11))))
  (qss_cons (qs_set (i := 13) sc_law.nd (q_call (ok_l_touched T) (hr.mono (by decide)) (qa_cons (q_ix (qv 5) (qv 11)) (qa_cons (q_ix (qv 4) (qv 11)) (qa_cons (q_ix (qv 6) (qv 11)) (qa_cons (qv 12) (qa_cons (q_call (ok_l_number_by T) (hr.mono (by decide)) (qa_cons (qv 10) qa_nil)) qa_nil)))))))
 (qss_cons (qs_asg (q_cmp oq_eq (qv 13) q_str) (qg_sub (qv 7) (qv 11) sq_list))
 (qss_one (qs_if (qt_cmp oq_eq (qv 13) q_str)
  (qss_one (qs_ret q_bl))
  qss_nil))))
  qss_nil))))))))
 (qss_one (qs_ret (q_call (ok_l_at_last T) (hr.mono (by decide)) (qa_cons (qv 5) (qa_cons (qv 4) (qa_cons (qv 7) (qa_cons (qv 8) qa_nil))))))))))))))))))), ?_⟩)
  rintro _ M Q Et ⟨ns, rfl, hl, h⟩
  walk_at "vc"
  refine cut_by (fun τ M' => M' = M ∧ ∃ room : Nat, 13 ≤ room ∧ room ≤ 18 ∧ τ = [some (.scr (ns.map .int)), some (.int (room : Int)), none, none, none, none, none, none, none, none, none, none, none, none]) ?_ ?_
  · walk_at "vc"
    split
    · rename_i hlt
      have hlt : 0 < ns.length := by omega
      rw [show ((0 : Int)) = ((0 : Nat) : Int) from rfl, atI_nat (v := .int ns[0]) (by rw [List.getElem?_map, List.getElem?_eq_getElem hlt]; rfl)]
      have b6 := modB (a := ns[0]) (b := 6) (by decide)
      walk_at "vc"
      refine ⟨((13 : Int) + ns[0] % 6).toNat, by omega, by omega, ?_⟩
      rw [Int.toNat_of_nonneg (by omega)]
    · exact ⟨13, by decide, by decide, rfl⟩
  · rintro τ M' ⟨rfl, room, r1, r2, rfl⟩
    walk_at "vc"
    refine ⟨by omega, ?_⟩
    rw [Int.toNat_natCast]
    have mm : ∀ g : Nat → Int, (List.range room).map (fun k => D.int (g k)) = ((List.range room).map g).map D.int := fun g => by rw [List.map_map]; rfl
    refine lc_map (List.range room) (fun i => D.int (i : Int)) (fun k => D.int (fNum ((k : Int) * k + 5))) rfl (by rw [List.length_range, sizeLine_eq]; omega) trivial (fun k R1 R0 hk h1 => ?_) ?_
    · rw [List.mem_range] at hk
      walk_at "vc"
      exact ⟨ms_r (by omega), _, rfl, h1⟩
    rw [mm fun k => fNum ((k : Int) * k + 5)]
    have len0 : ((List.range room).map fun k : Nat => fNum ((k : Int) * k + 5)).length = room := by rw [List.length_map, List.length_range]
    generalize ((List.range room).map fun k : Nat => fNum ((k : Int) * k + 5)) = xs0 at len0 ⊢
    walk_at "vc"
    intro p0 hp0
    refine ⟨by omega, ?_⟩
    refine lc_map (List.range room) (fun i => D.int (i : Int)) (fun k => D.int (fNum (7 * (k : Int) * k * k))) rfl (by rw [List.length_range, sizeLine_eq]; omega) trivial (fun k R1 R0 hk h1 => ?_) ?_
    · rw [List.mem_range] at hk
      walk_at "vc"
      exact ⟨ms_r (by omega), ms_r (by omega), ms_r (by omega), _, rfl, h1⟩
    rw [mm fun k => fNum (7 * (k : Int) * k * k)]
    have len1 : ((List.range room).map fun k : Nat => fNum (7 * (k : Int) * k * k)).length = room := by rw [List.length_map, List.length_range]
    generalize ((List.range room).map fun k : Nat => fNum (7 * (k : Int) * k * k)) = xs1 at len1 ⊢
    walk_at "vc"
    intro p1 hp1
    have c1 := ((Cel.nil (M := M')).fresh (o := .lst (xs0.map .int)) hp0).fresh (o := .lst (xs1.map .int)) hp1
    generalize mup (mup M' p0 (.lst (xs0.map .int))) p1 (.lst (xs1.map .int)) = M1 at c1 ⊢
    try simp only [seqOf_r]
    rw [lstOf_at (show M1 p0 = some (.lst (xs0.map .int)) from c1.at_ (p0, _) (by simp))]
    simp only [oSome_i]
    intro p2 hp2
    have c2 := c1.fresh (o := .lst (xs0.map .int)) hp2
    generalize mup M1 p2 (.lst (xs0.map .int)) = M2 at c2 ⊢
    try simp only [seqOf_r]
    rw [lstOf_at (show M2 p1 = some (.lst (xs1.map .int)) from c2.at_ (p1, _) (by simp))]
    simp only [oSome_i]
    intro p3 hp3
    have c3 := c2.fresh (o := .lst (xs1.map .int)) hp3
    generalize mup M2 p3 (.lst (xs1.map .int)) = M3 at c3 ⊢
    intro s0 d0 hs0
    have hn0 : mup M3 s0 (.obj (CS K) d0 fl_Shared []) p0 = some (.lst (xs0.map .int)) := by
      have h1 : M3 p0 = some (.lst (xs0.map .int)) := c3.at_ (p0, _) (by simp)
      rw [mup_ne (fun e => by rw [← e, h1] at hs0; cases hs0)]
      exact h1
    refine ⟨s0, d0, p0, xs0, M3, rfl, Cel.nil.fresh hs0, hn0, fun n0 k0 M4 g0 => ⟨rfl, ?_⟩⟩
    have c4 := c3.glue g0
    intro s1 d1 hs1
    have hn1 : mup M4 s1 (.obj (CS K) d1 fl_Shared []) p1 = some (.lst (xs1.map .int)) := by
      have h1 : M4 p1 = some (.lst (xs1.map .int)) := c4.at_ (p1, _) (by simp)
      rw [mup_ne (fun e => by rw [← e, h1] at hs1; cases hs1)]
      exact h1
    refine ⟨s1, d1, p1, xs1, M4, rfl, Cel.nil.fresh hs1, hn1, fun n1 k1 M5 g1 => ⟨rfl, ?_⟩⟩
    have c5 := (c4.glue g1).perm (show List.Perm (Sh.cells (CS K) fl_Shared ⟨s1, n1, k1, d1⟩ xs1 [] none ++ (Sh.cells (CS K) fl_Shared ⟨s0, n0, k0, d0⟩ xs0 [] none ++ [(p3, .lst (xs1.map .int)), (p2, .lst (xs0.map .int)), (p1, .lst (xs1.map .int)), (p0, .lst (xs0.map .int))])) ([(p3, .lst (xs1.map .int)), (p2, .lst (xs0.map .int)), (p1, .lst (xs1.map .int)), (p0, .lst (xs0.map .int))] ++ (Sh.cells (CS K) fl_Shared ⟨s0, n0, k0, d0⟩ xs0 [] none ++ Sh.cells (CS K) fl_Shared ⟨s1, n1, k1, d1⟩ xs1 [] none)) from by
      refine List.perm_append_comm.trans ?_
      rw [List.append_assoc]
      refine List.perm_append_comm.trans ?_
      rw [List.append_assoc]
      exact List.Perm.append_left _ List.perm_append_comm)
    have a0 : M5 p0 = some (.lst (xs0.map .int)) := c5.at_ (p0, _) (by simp)
    have a1 : M5 p1 = some (.lst (xs1.map .int)) := c5.at_ (p1, _) (by simp)
    have a2 : M5 p2 = some (.lst (xs0.map .int)) := c5.at_ (p2, _) (by simp)
    have a3 : M5 p3 = some (.lst (xs1.map .int)) := c5.at_ (p3, _) (by simp)
    have ad : ∀ {p : Addr} {l : List D}, M5 p = some (.lst l) → asD M5 (.ref p) = some (.lst l) := fun e => by unfold asD; dsimp only; rw [e]
    refine neN_same (z := [.lst (xs0.map .int), .lst (xs1.map .int)]) (by simp only [List.mapM_cons, List.mapM_nil, ad a0, ad a1]; rfl) (by simp only [List.mapM_cons, List.mapM_nil, ad a2, ad a3]; rfl) (by
      unfold okD okDs okDs okDs okD
      exact ⟨okD_ints _ _, by unfold okD; exact okD_ints _ _, trivial⟩) ?_
    walk_at "vc"
    refine ⟨is_m a0, ?_⟩
    rw [mLst_at a0]
    simp only [oSome_i]
    have c6 : Cel M' (mup M5 p0 (.lst [])) ([(p3, .lst (xs1.map .int)), (p2, .lst (xs0.map .int)), (p1, .lst (xs1.map .int))] ++ (p0, .lst []) :: (Sh.cells (CS K) fl_Shared ⟨s0, n0, k0, d0⟩ xs0 [] none ++ Sh.cells (CS K) fl_Shared ⟨s1, n1, k1, d1⟩ xs1 [] none)) := Cel.put (pre := [(p3, .lst (xs1.map .int)), (p2, .lst (xs0.map .int)), (p1, .lst (xs1.map .int))]) c5
    generalize mup M5 p0 (.lst []) = M6 at c6 ⊢
    rw [mLst_at (show M6 p1 = some (.lst (xs1.map .int)) from c6.at_ (p1, _) (by simp))]
    simp only [oSome_i]
    rw [show ixN (xs1.map D.int).length 0 = some 0 by rw [List.length_map]; unfold ixN; rw [if_pos (Int.le_refl 0), if_pos (by omega)]; rfl]
    simp only [oSome_i]
    generalize (xs1.map D.int).set 0 (.int 7) = l7
    have c7 : Cel M' (mup M6 p1 (.lst l7)) ([(p3, .lst (xs1.map .int)), (p2, .lst (xs0.map .int))] ++ (p1, .lst l7) :: (p0, .lst []) :: (Sh.cells (CS K) fl_Shared ⟨s0, n0, k0, d0⟩ xs0 [] none ++ Sh.cells (CS K) fl_Shared ⟨s1, n1, k1, d1⟩ xs1 [] none)) := Cel.put (pre := [(p3, .lst (xs1.map .int)), (p2, .lst (xs0.map .int))]) c6
    generalize mup M6 p1 (.lst l7) = M7 at c7 ⊢
    have c8 := Cel.forget (pre := [(p3, .lst (xs1.map .int)), (p2, .lst (xs0.map .int))]) (Cel.forget (pre := [(p3, .lst (xs1.map .int)), (p2, .lst (xs0.map .int))]) c7)
    intro t0 ht0
    have c9 := c8.fresh (o := .lst []) ht0
    generalize mup M7 t0 (.lst []) = M8 at c9 ⊢
    intro t1 ht1
    have c10 := c9.fresh (o := .lst []) ht1
    generalize mup M8 t1 (.lst []) = M9 at c10 ⊢
    intro tO htO
    have c11 := c10.fresh (o := .lst [.ref t0, .ref t1]) htO
    generalize mup M9 tO (.lst [.ref t0, .ref t1]) = M10 at c11 ⊢
    intro cO hcO
    have c12 := c11.fresh (o := .lst [.bl false, .bl false]) hcO
    generalize mup M10 cO (.lst [.bl false, .bl false]) = M11 at c12 ⊢
    refine cut_by (fun τ M12 => ∃ (R : Nat → Rwx) (tO cO oO : Addr) (x2 x3 x9 x10 x11 x12 x13 : Option D), τ = [some (.scr (ns.map .int)), some (.int (room : Int)), x2, x3, some (.lst [.ref (R 0).nl, .ref (R 1).nl]), some (.lst [.ref (R 0).A.s, .ref (R 1).A.s]), some (.ref tO), some (.ref cO), some (.ref oO), x9, x10, x11, x12, x13] ∧ LawOk K M' M12 R tO cO oO [] room 0) ?_ ?_
    · walk_at "vc"
      intro oO hoO
      have c13 := c12.fresh (o := .lst []) hoO
      refine ⟨fun i => if i = 0 then ⟨⟨s0, n0, k0, d0⟩, p2, t0, xs0, [], [], none⟩ else ⟨⟨s1, n1, k1, d1⟩, p3, t1, xs1, [], [], none⟩, tO, cO, oO, _, _, _, _, _, _, _, ⟨rfl, rfl, rfl, rfl, rfl, rfl, rfl, rfl, rfl, rfl, rfl, rfl⟩, ?_, fun i => ?_, ⟨(fun x hx => by cases hx), (fun x hx => by cases hx), Nat.le_refl _⟩, r1, r2⟩
      · exact c13.perm (perm13 _ _ _ _ _ _ _ _ _ _ _ _ _)
      · split
        · exact ⟨noMarks, Nat.le_refl _, len0, fun c q => nomatch q⟩
        · exact ⟨noMarks, Nat.le_refl _, len1, fun c q => nomatch q⟩
    · rintro τ M12 ⟨R, tO, cO, oO, x2, x3, x9, x10, x11, x12, x13, rfl, ok⟩
      clear c1 c2 c3 c4 c5 c6 c7 c8 c9 c10 c11 c12 g0 g1 a0 a1 a2 a3 ad hn0 hn1 hp0 hp1 hp2 hp3 hs0 hs1 ht0 ht1 htO hcO
      clear M1 M2 M3 M4 M5 M6 M7 M8 M9 M10 M11 len0 len1 mm xs0 xs1 l7 n0 k0 n1 k1 s0 s1 d0 d1 t0 t1 p0 p1 p2 p3
      walk_at "vc"
      have hcut : Tl.cutD (ns.map D.int) none (some 120) = (ns.take 120).map D.int := by
        rw [show (some (120 : Int)) = some ((120 : Nat) : Int) from rfl, cut_take, List.map_take]
      rw [hcut]
      have hlen : (enumD ((ns.take 120).map D.int)).length ≤ 63 := by rw [enumD_len, List.length_map, List.length_take]; omega
      refine for_any (TurnOk K ns room M') ⟨Nat.zero_le _, R, tO, cO, oO, [], _, _, _, _, _, _, _, rfl, ok⟩ (fun _ _ _ _ => trivial) ?_ ?_
      · clear ok
        rintro i x τ M13 hx ⟨hi, R, gO, cO, oO, told, x2, x3, x9, x10, x11, x12, x13, rfl, ok⟩
        obtain ⟨c, hc, rfl⟩ := enumD_map hx
        have hi2 : i < 63 := by
          have : i < (enumD ((ns.take 120).map D.int)).length := (List.getElem?_eq_some_iff.mp hx).1
          omega
        walk_at "vc"
        refine ⟨c, i, rfl, by omega, fun r => ?_⟩
        have b2 := modB (a := r) (b := 2) (by decide)
        obtain ⟨w, hw, hw2⟩ : ∃ w : Nat, (w : Int) = r % 2 ∧ (w = 0 ∨ w = 1) := ⟨(r % 2).toNat, by omega, by omega⟩
        have cel := ok.cel
        have cR : Cel M' M13 ((((R 0).cells (CS K) fl_Shared ++ (R 1).cells (CS K) fl_Shared) ++ [tlC gO R]) ++ restC cO oO (clB (R 0)) (clB (R 1)) told) := by simpa [List.append_assoc] using cel
        have hgO : M13 gO = some (.lst [.ref (R 0).tl, .ref (R 1).tl]) := cR.at_ (tlC gO R) (by simp)
        obtain ⟨M1, d1, back⟩ := z_step (Z := fun i => (R i).cells (CS K) fl_Shared) hw2 cel
        walk_at "vc"
        refine ⟨wd60 (by decide) (by decide), _, room, rfl, r1, r2, fun l n => ?_, fun t t0 t1 => ?_⟩
        · walk_at "vc"
          rw [← hw]
          rw [lstOf_at (rest_c cR)]
          simp only [oSome_i]
          rw [bl_at (f := fun i => clB (R i)) hw2]
          simp only [oSome_i, oBl_i]
          cases hb : clB (R w) with
          | true =>
            rw [if_neg (by decide), if_neg (by decide)]
            exact ⟨by omega, R, gO, cO, oO, told, _, _, _, _, _, _, _, rfl, cel, fun i => (ok.ok i).mono (Nat.le_succ _), ⟨ok.td.same, ok.td.len, Nat.le_succ_of_le ok.td.few⟩, r1, r2⟩
          | false =>
            rw [if_pos rfl]
            have hcl : (R w).cl = none := by
              unfold clB at hb
              cases e : (R w).cl with
              | none => rfl
              | some c => rw [e] at hb; cases hb
            obtain ⟨e1, e2⟩ := (d1.perm List.perm_append_comm).part
            generalize without M13 _ = Mo at e1 e2
            refine ⟨is_m (rest_o cR), ?_⟩
            rw [ref_at (f := fun i => (R i).A.s) hw2]
            simp only [oSome_i]
            have hs := Sh.s_ e2
            walk_at "vc"
            simp only [hs]
            walk_at "vc"
            refine ⟨(R w).A, Mo, (R w).ns, (R w).kvs, (R w).cl, rfl, e2, fun k' p M3 e3 => ?_⟩
            have g := met_cells e1 e3
            have f := back M3 _ _ g
            have hlw := (ok.ok w).room_
            have hn : M3 (R w).nl = some (.lst ((R w).ns.map .int)) := g.at_ ((R w).nl, _) (by unfold Rwx.cut; simp)
            dsimp only
            rw [ref_at (f := fun i => (R i).nl) hw2]
            simp only [oSome_i]
            rw [seqOf_r, lstOf_at hn]
            simp only [oSome_i]
            intro p2 hp2
            have f2 := f.fresh (p := p2) (o := .lst ((R w).ns.map .int)) hp2
            generalize hcs : ({ R w with A := { (R w).A with k := k' }, T := [], kvs := [] } : Rwx).cut (CS K) fl_Shared = cs at f f2
            have f3 : Cel M' (mup M3 p2 (.lst ((R w).ns.map .int))) ((p2, .lst ((R w).ns.map .int)) :: (p, .lst ((R w).ns.map .int)) :: ((upZ (fun i => (R i).cells (CS K) fl_Shared) w cs 0 ++ upZ (fun i => (R i).cells (CS K) fl_Shared) w cs 1 ++ [tlC gO R]) ++ restC cO oO (clB (R 0)) (clB (R 1)) told)) := by
              rw [List.append_assoc, List.append_assoc]; exact f2
            have ho : mup M3 p2 (.lst ((R w).ns.map .int)) oO = some (.lst (told.map Td.d)) := f3.at_ (oO, .lst (told.map Td.d)) (by unfold restC; simp)
            have few := ok.td.few
            rw [mLst_at ho]
            simp only [oSome_i]
            refine ⟨by rw [List.length_map]; omega, ?_⟩
            rw [show List.map Td.d told ++ [D.lst [.ref p, .ref p2]] = (told ++ [Td.mk p p2 (R w).ns (R w).ns]).map Td.d by rw [List.map_append]; rfl]
            have f4 := told_more f3
            generalize mup (mup M3 p2 (.lst ((R w).ns.map .int))) oO (.lst ((told ++ [Td.mk p p2 (R w).ns (R w).ns]).map Td.d)) = M4 at f4 ⊢
            intro t' ht'
            have f5 := f4.fresh (o := .lst []) ht'
            generalize mup M4 t' (.lst []) = M5 at f5 ⊢
            have hg : M5 gO = some (.lst [.ref (R 0).tl, .ref (R 1).tl]) := f5.at_ (tlC gO R) (by simp)
            rw [mLst_at hg]
            simp only [oSome_i]
            rw [show ixN [D.ref (R 0).tl, D.ref (R 1).tl].length (w : Int) = some w from ix2 hw2]
            simp only [oSome_i]
            have f6 : Cel M' (mup M5 gO (.lst ([D.ref (R 0).tl, D.ref (R 1).tl].set w (.ref t')))) (((t', .lst []) :: (upZ (fun i => (R i).cells (CS K) fl_Shared) w cs 0 ++ upZ (fun i => (R i).cells (CS K) fl_Shared) w cs 1)) ++ (gO, .lst ([D.ref (R 0).tl, D.ref (R 1).tl].set w (.ref t'))) :: restC cO oO (clB (R 0)) (clB (R 1)) (told ++ [Td.mk p p2 (R w).ns (R w).ns])) :=
              Cel.put (pre := (t', .lst []) :: (upZ (fun i => (R i).cells (CS K) fl_Shared) w cs 0 ++ upZ (fun i => (R i).cells (CS K) fl_Shared) w cs 1)) (by rw [List.append_assoc] at f5; exact f5)
            generalize mup M5 gO (.lst ([D.ref (R 0).tl, D.ref (R 1).tl].set w (.ref t'))) = M6 at f6 ⊢
            rw [List.cons_append, List.append_assoc] at f6
            have f7 := f6.perm (row_more hw2)
            rw [← hcs] at f7
            let r2' : Rwx := { R w with A := { (R w).A with k := k' }, tl := t', T := [], kvs := [] }
            have f8 : Cel M' M6 ((upR R w r2' 0).cells (CS K) fl_Shared ++ ((upR R w r2' 1).cells (CS K) fl_Shared ++ ((gO, .lst ([D.ref (R 0).tl, D.ref (R 1).tl].set w (.ref t'))) :: restC cO oO (clB (R 0)) (clB (R 1)) (told ++ [Td.mk p p2 (R w).ns (R w).ns])))) := by
              rw [← upZ_R, ← upZ_R]; exact f7
            have hs6 : M6 (R w).A.s = some (.obj (CS K) (R w).A.dx fl_Shared [.ref (R w).A.n, .ref k', clD (R w).cl]) := f8.at_ ((R w).A.s, _) (by
              rcases hw2 with rfl | rfl
              · refine List.mem_append_left _ ?_
                rw [upR_at]
                simp [r2', Rwx.cells, Rwx.own, Sh.cells]
              · refine List.mem_append_right _ (List.mem_append_left _ ?_)
                rw [upR_at]
                simp [r2', Rwx.cells, Rwx.own, Sh.cells])
            simp only [hs6, hcl]
            walk_at "vc"
            rw [if_neg (by decide)]
            have en : ∀ i, (upR R w r2' i).nl = (R i).nl := upR_of (fun r => r.nl) rfl
            have ea : ∀ i, (upR R w r2' i).A.s = (R i).A.s := upR_of (fun r => r.A.s) rfl
            have ec : ∀ i, clB (upR R w r2' i) = clB (R i) := upR_of clB rfl
            have et : tlC gO (upR R w r2') = (gO, .lst ([D.ref (R 0).tl, D.ref (R 1).tl].set w (.ref t'))) := by
              rcases hw2 with rfl | rfl <;> rfl
            refine ⟨by omega, upR R w r2', gO, cO, oO, told ++ [Td.mk p p2 (R w).ns (R w).ns], _, _, _, _, _, _, _, by simp only [en, ea]; rfl, by rw [ec, ec, et]; exact f8, fun j => ?_, ⟨fun x hx => ?_, fun x hx => ?_, by rw [List.length_append, List.length_singleton]; omega⟩, r1, r2⟩
            · by_cases e : j = w
              · rw [e, upR_at]
                exact ⟨noMarks, Nat.zero_le _, hlw, fun c q => by rw [show r2'.cl = none from hcl] at q; cases q⟩
              · rw [upR_ne e]; exact (ok.ok j).mono (Nat.le_succ _)
            · rcases List.mem_append.mp hx with hx | hx
              · exact ok.td.same x hx
              · rw [List.mem_singleton.mp hx]
            · rcases List.mem_append.mp hx with hx | hx
              · exact ok.td.len x hx
              · rw [List.mem_singleton.mp hx]; exact hlw
        · rw [show t.deed = .lst [.str (wS t.put), .int t.lane, .int t.place, .int t.line] from rfl]
          walk_at "vc"
          rw [← hw]
          rw [lstOf_at (rest_c cR)]
          simp only [oSome_i]
          rw [bl_at (f := fun i => clB (R i)) hw2]
          simp only [oSome_i, oBl_i]
          cases hb : clB (R w) with
          | true =>
            rw [if_neg (by decide), if_neg (by decide)]
            exact ⟨by omega, R, gO, cO, oO, told, _, _, _, _, _, _, _, rfl, cel, fun i => (ok.ok i).mono (Nat.le_succ _), ⟨ok.td.same, ok.td.len, Nat.le_succ_of_le ok.td.few⟩, r1, r2⟩
          | false =>
            rw [if_pos rfl, if_neg wS_met, if_pos rfl]
            have hcl : (R w).cl = none := by
              unfold clB at hb
              cases e : (R w).cl with
              | none => rfl
              | some c => rw [e] at hb; cases hb
            rw [ref_at (f := fun i => (R i).A.s) hw2]
            simp only [oSome_i]
            rw [ref_at (f := fun i => (R i).nl) hw2]
            simp only [oSome_i]
            rw [lstOf_at hgO]
            simp only [oSome_i]
            rw [ref_at (f := fun i => (R i).tl) hw2]
            simp only [oSome_i]
            refine ⟨r, rfl, ?_⟩
            refine ⟨R w, t, fNum r, M1, room, i, rfl, d1, ok.ok w, hcl, t0, t1, by omega, r2, fun kvs M3 e3 ok3 => ?_⟩
            have f := back M3 _ [] e3
            have f1 : Cel M' M3 ((upZ (fun i => (R i).cells (CS K) fl_Shared) w (((R w).touched t (fNum r) kvs).cells (CS K) fl_Shared) 0 ++ upZ (fun i => (R i).cells (CS K) fl_Shared) w (((R w).touched t (fNum r) kvs).cells (CS K) fl_Shared) 1 ++ [tlC gO R]) ++ restC cO oO (clB (R 0)) (clB (R 1)) told) := by
              rw [List.append_assoc, List.append_assoc]; exact f
            walk_at "vc"
            rw [mLst_at (rest_c f1)]
            simp only [oSome_i]
            rw [show ixN [D.bl (clB (R 0)), D.bl (clB (R 1))].length (w : Int) = some w from ix2 hw2]
            simp only [oSome_i]
            have f6 := flags_put (B := fun i => clB (R i)) (b := (due (R w).T t).isSome) hw2 f1
            rw [tell_clash, if_neg tell_wrong]
            generalize mup M3 cO (.lst ([D.bl (clB (R 0)), D.bl (clB (R 1))].set w (.bl (due (R w).T t).isSome))) = M4 at f6 ⊢
            have en : ∀ i, (upR R w ((R w).touched t (fNum r) kvs) i).nl = (R i).nl := upR_of (fun r => r.nl) rfl
            have ea : ∀ i, (upR R w ((R w).touched t (fNum r) kvs) i).A.s = (R i).A.s := upR_of (fun r => r.A.s) rfl
            have el : ∀ i, (upR R w ((R w).touched t (fNum r) kvs) i).tl = (R i).tl := upR_of (fun r => r.tl) rfl
            have ec : ∀ i, clB (upR R w ((R w).touched t (fNum r) kvs) i) = if i = w then (due (R w).T t).isSome else clB (R i) := fun i => by unfold upR; split <;> rfl
            have et : tlC gO (upR R w ((R w).touched t (fNum r) kvs)) = tlC gO R := by unfold tlC; rw [el, el]
            refine ⟨by omega, upR R w ((R w).touched t (fNum r) kvs), gO, cO, oO, told, _, _, _, _, _, _, _, by simp only [en, ea]; rfl, ?_, fun j => ?_, ⟨ok.td.same, ok.td.len, Nat.le_succ_of_le ok.td.few⟩, r1, r2⟩
            · rw [et, ec, ec, ← upZ_R, ← upZ_R]
              rw [List.append_assoc, List.append_assoc] at f6
              exact f6
            · by_cases e : j = w
              · rw [e, upR_at]; exact ok3
              · rw [upR_ne e]; exact (ok.ok j).mono (Nat.le_succ _)
      · rintro τ M13 ⟨hi, R, gO, cO, oO, told, x2, x3, x9, x10, x11, x12, x13, rfl, ok⟩
        walk_at "vc"
        refine ⟨M', R, cO, oO, told, room, _, rfl, ⟨?_, ok.ok, ok.td, r1, r2, ?_⟩, h⟩
        · have c1 := ok.cel
          have c2 : Cel M' M13 (((R 0).cells (CS K) fl_Shared ++ (R 1).cells (CS K) fl_Shared) ++ tlC gO R :: restC cO oO (clB (R 0)) (clB (R 1)) told) := by rw [List.append_assoc]; exact c1
          have c3 := c2.forget
          rw [List.append_assoc] at c3
          exact c3
        · exact Nat.le_trans hi (by decide)
end
theorem facts {P : Program} {w : World} {K : PySem.W.Frag} {h : Heap} {mg : Str → Option Value} {f : Addr} (X : K.In h) (G : h.Ns mainGlobals mg) (hfa : mg ("law" : Str) = some (.ref f)) (c : He.SaysD fa fn K) :
    ∃ fd : FuncData, (∀ (s : Shared) (v : Value), BindsTo s fd ⟨[v], []⟩ [("_law_script", v)]) ∧ ∀ base : Heap, K.In base → base.Ns mainGlobals mg → FnOk P w K mg base CX0 6 f fd ["_law_script"] (lSp K spLaw) := by
  have T : Tp K mg := ⟨c, h, X, G⟩
  obtain ⟨fd, F⟩ := c.def_ 15 (d := e_law) rfl
  have e := hfa.symm.trans (m_law T)
  cases e
  have b := FunD.bindsA (ps := ["_law_script"]) F fun _ _ _ _ _ _ us hl => match us, hl with | [_], _ => rfl
  exact ⟨fd, fun s v => b s [v] rfl, fun base _ _ => ok_law T F⟩
abbrev R : PySem.W.OpenRow := PySem.W.OpenLaw.row PySem.Challenge.rw_widelanes_k51_shared_boxes
abbrev hk : PySem.W.Hook := He.hookD 4 fa fn
def ob (s : PySem.W.SharedT) : He.AlD := He.obsDG 4 fa fn (HandSHeadRun.getT s)
theorem ob_eq (s : PySem.W.SharedT) : ob s = hk.obs s.abs := He.obsDG_eq (HandSHeadRun.getT_eq s)
theorem run (w : World) : HandSHeadRun.RunEq R (PySem.W.view R.prog [14]) hk ob 4000 ("__name__" :: "clash_of" :: "Shared" :: "_law_whole" :: "_law_mixed" :: "_law_number_by" :: "_law_deed_by" :: "_law_clash" :: "_law_same_list" :: "_law_touched" :: "_law_stays" :: "_law_at_last" :: []) w := by
  intro os
  kernel_rfl
end K51
open PySem PySem.W PySem.Calls PyProof.Rows
theorem PySem.Challenge.cw_widelanes_k51_shared_boxes_holds : PySem.Challenge.rw_widelanes_k51_shared_boxes.Holds := by
  w_on; o_law
  refine HandSHeadRun.head_any (r := OpenLaw.row PySem.Challenge.rw_widelanes_k51_shared_boxes) (q := view (OpenLaw.row PySem.Challenge.rw_widelanes_k51_shared_boxes).prog [14]) (H := K51.hk) (ob := K51.ob) (M := 4000) (loose := ("__name__" :: "clash_of" :: "Shared" :: "_law_whole" :: "_law_mixed" :: "_law_number_by" :: "_law_deed_by" :: "_law_clash" :: "_law_same_list" :: "_law_touched" :: "_law_stays" :: "_law_at_last" :: [])) (d := HandSHeadRun.topDef (OpenLaw.row PySem.Challenge.rw_widelanes_k51_shared_boxes).prog 14) (kwd := []) K51.ob_eq
    (by kernel_rfl) (fun s => by kernel_rfl) K51.run (by kernel_rfl) (by kernel_rfl) (by kernel_rfl) (by rfl) (by first | assumption | decide +kernel) (by decide +kernel) ⟨rfl, rfl, rfl, rfl, rfl, by decide +kernel⟩ ?hw ?hc
  case hw => w_witness2
  case hc =>
    refine L2.walk_ofE (l := PySem.Challenge.rw_widelanes_k51_shared_boxes) (n := 63) (k := 6) (x := "_law_script") (CX := L2.CX0) rfl (by decide) (by kernel_rfl) ⟨rfl, by decide, by decide⟩ ?F (fun _ _ _ _ z => z)
    intro w mg fa h Y G hmg0
    obtain ⟨K, KX, c⟩ := Y
    have hmg : mg ("law" : PySem.Str) = some (.ref fa) := by
      have e : (HandSHeadRun.topDef (OpenLaw.row PySem.Challenge.rw_widelanes_k51_shared_boxes).prog 14).name = ("law" : PySem.Str) := by kernel_rfl
      rw [← e]
      exact hmg0
    obtain ⟨fd, hb, hF⟩ := K51.facts (P := (PySem.Challenge.rw_widelanes_k51_shared_boxes).prog) (w := w) KX G hmg c
    exact ⟨K, fd, Tl.lSp K Tl.spLaw, KX, hb, fun H a ns hl _ hS => Tl.end_sp hS ⟨ns, rfl, hl, fun _ => rfl⟩, hF⟩
#print axioms PySem.Challenge.cw_widelanes_k51_shared_boxes_holds
