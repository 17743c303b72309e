import PyProof.Rows.All
import Wide.All
import OpenK.AllK
import Wide.FinOn
import HandS.ForMost
import HandS.ForExc
import HandS.Wide
import HandS.IsInst
import HandS.HeadHook2
import HandS.Head2
import HandS.HeadEnd
import PyProof.Rows.SeqMore
import HandS.SortInts
import PyProof.Rows.RuleDivmod
import HandS.TupLen
import HandS.TupAny
import HandS.TupMul
import HandS.More
import HandS.Conv
import HandS.SetKeys
import HandS.Deep
import HandS.Codes
import HandS.Zip
import HandS.TryOnly
import KE.GoesEnumKw
import KE.DataMinMax
import KE.KEqNest
import PyProof.ReprRoads
import PyProof.DictUpdate
import PyProof.NeKinds
import HandS.SetFor
import HandS.HeadHook4
import PySem.Challenge.RW_widelanes_k46_fewer_steps
set_option Elab.async false
set_option linter.all false
set_option maxRecDepth 100000
set_option maxHeartbeats 4000000
namespace Tl
open PySem PySem.Spec PyProof.Rows L2
/-! ### data as trees -/
inductive D where
  | non | bl (b : Bool) | int (i : Int) | str (s : Str) | tup (l : List D) | lst (l : List D) | tab (l : List D) | scr (l : List D) | ref (a : Addr) | ty (n : String)
/-- what may still change -/
inductive MO where
  | lst (l : List D) | dK (kvs : List (Key × D)) | dT (kvs : List (List Key × D)) | obj (C dx : Addr) (fl : List Str) (ds : List D) | lk (o : Obj) (ks : List (Key × V)) (kvs : List (Key × D))
abbrev MH := Addr → Option MO
def mup (M : MH) (a : Addr) (o : MO) : MH := fun b => if b = a then some o else M b
def mdel (M : MH) (a : Addr) : MH := fun b => if b = a then none else M b
theorem mup_same {M : MH} {a : Addr} {o : MO} : mup M a o a = some o := by unfold mup; rw [if_pos rfl]
theorem mup_ne {M : MH} {a b : Addr} {o : MO} (h : b ≠ a) : mup M a o b = M b := by unfold mup; rw [if_neg h]
theorem mup_mup {M : MH} {a : Addr} {o u : MO} : mup (mup M a o) a u = mup M a u := by
  funext b; unfold mup; split <;> rfl
theorem mdel_mup {M : MH} {a : Addr} {o : MO} (h : M a = none) : mdel (mup M a o) a = M := by
  funext b; unfold mdel mup
  by_cases e : b = a
  · rw [if_pos e, e, h]
  · rw [if_neg e, if_neg e]
section
variable (K : PySem.W.Frag)
mutual
inductive Rp (F : Hp) : V → D → Prop
  | non : Rp F .non .non
  | bl (b : Bool) : Rp F (.bl b) (.bl b)
  | int (i : Int) : Rp F (.int i) (.int i)
  | str (s : Str) : Rp F (.str s) (.str s)
  | ty (n : String) : Rp F (.ty n) (.ty n)
  | ref (a : Addr) : Rp F (.ref a) (.ref a)
  | tup {a : Addr} {vs : List V} {ds : List D} (h : F a = some (.tup vs)) (r : Rps F vs ds) : Rp F (.ref a) (.tup ds)
  | tab {a : Addr} {vs : List V} {ds : List D} (h : SqT K F a vs) (r : Rps F vs ds) : Rp F (.ref a) (.tab ds)
  | lst {a : Addr} {vs : List V} {ds : List D} (h : F a = some (.lst vs)) (r : Rps F vs ds) : Rp F (.ref a) (.lst ds)
  | scr {a : Addr} {vs : List V} {ds : List D} (h : SqL K F a vs) (r : Rps F vs ds) : Rp F (.ref a) (.scr ds)
inductive Rps (F : Hp) : List V → List D → Prop
  | nil : Rps F [] []
  | cons {v : V} {d : D} {vs : List V} {ds : List D} (h : Rp F v d) (t : Rps F vs ds) : Rps F (v :: vs) (d :: ds)
end
end
section
variable {K : PySem.W.Frag}
theorem SameT {H H' : Hp} {a : Addr} {xs : List V} (e : Same H H') (h : SqT K H a xs) : SqT K H' a xs := by
  rcases h with (h | ⟨o, h⟩) | h
  · exact .inl (.inl (e _ _ h))
  · exact .inl (.inr ⟨o, e _ _ h⟩)
  · exact .inr h
theorem SameR {H H' : Hp} {a : Addr} {u : HO} (e : Same H H') (h : Rd H a u) : Rd H' a u := by
  rcases h with h | ⟨o, h⟩
  · exact .inl (e _ _ h)
  · exact .inr ⟨o, e _ _ h⟩
mutual
theorem Rp.mono {F F' : Hp} (s : Same F F') : ∀ {v : V} {d : D}, Rp K F v d → Rp K F' v d
  | _, _, .non => .non
  | _, _, .bl b => .bl b
  | _, _, .int i => .int i
  | _, _, .str x => .str x
  | _, _, .ty n => .ty n
  | _, _, .ref a => .ref a
  | _, _, .tup h r => .tup (s _ _ h) (Rps.mono s r)
  | _, _, .tab h r => .tab (SameT s h) (Rps.mono s r)
  | _, _, .lst h r => .lst (s _ _ h) (Rps.mono s r)
  | _, _, .scr h r => .scr (s.seq h) (Rps.mono s r)
theorem Rps.mono {F F' : Hp} (s : Same F F') : ∀ {vs : List V} {ds : List D}, Rps K F vs ds → Rps K F' vs ds
  | _, _, .nil => .nil
  | _, _, .cons h t => .cons (Rp.mono s h) (Rps.mono s t)
end
theorem Rps.length {F : Hp} : ∀ {vs : List V} {ds : List D}, Rps K F vs ds → vs.length = ds.length
  | _, _, .nil => rfl
  | _, _, .cons _ t => by rw [List.length_cons, List.length_cons, Rps.length t]
theorem Rps.get {F : Hp} : ∀ {vs : List V} {ds : List D} {i : Nat} {v : V}, Rps K F vs ds → vs[i]? = some v → ∃ d, ds[i]? = some d ∧ Rp K F v d
  | _, _, _, _, .nil, e => by simp at e
  | _, _, 0, _, .cons h _, e => by simp at e; subst e; exact ⟨_, rfl, h⟩
  | _, _, i + 1, v, .cons _ t, e => by
    obtain ⟨d, h1, h2⟩ := Rps.get (i := i) (v := v) t (by simpa using e)
    exact ⟨d, by simpa using h1, h2⟩
theorem Rps.getD {F : Hp} : ∀ {vs : List V} {ds : List D} {i : Nat} {d : D}, Rps K F vs ds → ds[i]? = some d → ∃ v, vs[i]? = some v ∧ Rp K F v d
  | _, _, _, _, .nil, e => by simp at e
  | _, _, 0, _, .cons h _, e => by simp at e; subst e; exact ⟨_, rfl, h⟩
  | _, _, i + 1, v, .cons _ t, e => by
    obtain ⟨d, h1, h2⟩ := Rps.getD (i := i) (d := v) t (by simpa using e)
    exact ⟨d, by simpa using h1, h2⟩
theorem Rps.append {F : Hp} : ∀ {vs ws : List V} {ds es : List D}, Rps K F vs ds → Rps K F ws es → Rps K F (vs ++ ws) (ds ++ es)
  | _, _, _, _, .nil, s => s
  | _, _, _, _, .cons h t, s => .cons h (Rps.append t s)
theorem Rps.take {F : Hp} : ∀ {vs : List V} {ds : List D} (n : Nat), Rps K F vs ds → Rps K F (vs.take n) (ds.take n)
  | _, _, 0, _ => .nil
  | _, _, _ + 1, .nil => .nil
  | _, _, n + 1, .cons r t => .cons r (Rps.take n t)
theorem Rps.drop {F : Hp} : ∀ {vs : List V} {ds : List D} (n : Nat), Rps K F vs ds → Rps K F (vs.drop n) (ds.drop n)
  | _, _, 0, r => r
  | _, _, _ + 1, .nil => .nil
  | _, _, n + 1, .cons _ t => Rps.drop n t
theorem Rps.set {F : Hp} {v : V} {d : D} (r : Rp K F v d) : ∀ {vs : List V} {ds : List D} (n : Nat), Rps K F vs ds → Rps K F (vs.set n v) (ds.set n d)
  | _, _, _, .nil => .nil
  | _, _, 0, .cons _ t => .cons r t
  | _, _, n + 1, .cons q t => .cons q (Rps.set r n t)
theorem Rps.dropLast {F : Hp} {vs : List V} {ds : List D} (h : Rps K F vs ds) : Rps K F vs.dropLast ds.dropLast := by
  rw [List.dropLast_eq_take, List.dropLast_eq_take, h.length]
  exact h.take _
theorem Rps.reverse {F : Hp} : ∀ {vs : List V} {ds : List D}, Rps K F vs ds → Rps K F vs.reverse ds.reverse
  | _, _, .nil => .nil
  | _, _, .cons h t => by
    rw [List.reverse_cons, List.reverse_cons]
    exact (Rps.reverse t).append (.cons h .nil)
/-- what stands at a mutable place -/
def RpLk (K : PySem.W.Frag) (F : Hp) (u : HO) (ks : List (Key × V)) (ls : List (Key × D)) : Prop := u = .dK ks ∧ Paired (fun (p : Key × V) (q : Key × D) => p.1 = q.1 ∧ Rp K F p.2 q.2) ks ls
def RpO (K : PySem.W.Frag) (F : Hp) : HO → MO → Prop
  | .lst vs, .lst ds => Rps K F vs ds
  | .dK ks, .dK ls => Paired (fun (p : Key × V) (q : Key × D) => p.1 = q.1 ∧ Rp K F p.2 q.2) ks ls
  | .dT ks, .dT ls => Paired (fun (p : List Key × V) (q : List Key × D) => p.1 = q.1 ∧ Rp K F p.2 q.2) ks ls
  | .ins C dx fs, .obj C' dx' fl ds => C = C' ∧ dx = dx' ∧ fl.Nodup ∧ fs.map (·.1) = fl.take ds.length ∧ Rps K F (fs.map (·.2)) ds
  | .frz ob u, .lk o ks ls => ob = o ∧ RpLk K F u ks ls
  | _, _ => False
theorem Paired.imp {α β : Type} {R S : α → β → Prop} (h : ∀ a b, R a b → S a b) : ∀ {xs : List α} {ys : List β}, Paired R xs ys → Paired S xs ys
  | _, _, .nil => .nil
  | _, _, .cons r t => .cons (h _ _ r) (Paired.imp h t)
theorem RpO.mono {F F' : Hp} (s : Same F F') : ∀ {u : HO} {o : MO}, RpO K F u o → RpO K F' u o
  | .lst _, .lst _, h => Rps.mono s h
  | .dK _, .dK _, h => Paired.imp (fun _ _ q => ⟨q.1, q.2.mono s⟩) h
  | .dT _, .dT _, h => Paired.imp (fun _ _ q => ⟨q.1, q.2.mono s⟩) h
  | .ins _ _ _, .obj _ _ _ _, h => ⟨h.1, h.2.1, h.2.2.1, h.2.2.2.1, Rps.mono s h.2.2.2.2⟩
  | .lst _, .dK _, h => h.elim
  | .lst _, .dT _, h => h.elim
  | .lst _, .obj _ _ _ _, h => h.elim
  | .dK _, .lst _, h => h.elim
  | .dK _, .dT _, h => h.elim
  | .dK _, .obj _ _ _ _, h => h.elim
  | .dT _, .lst _, h => h.elim
  | .dT _, .dK _, h => h.elim
  | .dT _, .obj _ _ _ _, h => h.elim
  | .ins _ _ _, .lst _, h => h.elim
  | .ins _ _ _, .dK _, h => h.elim
  | .ins _ _ _, .dT _, h => h.elim
  | .tup _, _, h => (h : False).elim
  | .set _ _, _, h => (h : False).elim
  | .own _, _, h => (h : False).elim
  | .xd _, _, h => (h : False).elim
  | .met _ _, _, h => (h : False).elim
  | .rng _ _, _, h => (h : False).elim
  | .lst _, .lk _ _ _, h => h.elim
  | .dK _, .lk _ _ _, h => h.elim
  | .dT _, .lk _ _ _, h => h.elim
  | .ins _ _ _, .lk _ _ _, h => h.elim
  | .frz _ u, .lk _ ks ls, h => ⟨h.1, h.2.1, Paired.imp (fun _ _ q => ⟨q.1, q.2.mono s⟩) h.2.2⟩
  | .frz _ _, .lst _, h => (h : False).elim
  | .frz _ _, .dK _, h => (h : False).elim
  | .frz _ _, .dT _, h => (h : False).elim
  | .frz _ _, .obj _ _ _ _, h => (h : False).elim
  | .tbl _, _, h => (h : False).elim
  | .ext _, _, h => (h : False).elim
/-- what a caller hides G, the frozen part F, the heap H, the changing part M -/
structure Rel (K : PySem.W.Frag) (G F H : Hp) (M : MH) : Prop where
  sub : Same F H
  chg : ∀ a o, M a = some o → F a = none ∧ ∃ u, H a = some u ∧ RpO K F u o
  hid : ∀ a o, G a = some o → H a = some o ∧ F a = none ∧ M a = none
  hidt : ∀ a vs, G a ≠ some (.tup vs)
theorem same_upd {H : Hp} {p : Addr} {o : HO} (h : H p = none) : Same H (upd H p o) := fun b x e => by
  rw [upd_ne (ne_of_none e h)]
  exact e
section
variable {G F H : Hp} {M : MH}
theorem Rel.free (R : Rel K G F H M) {p : Addr} (h : H p = none) : F p = none ∧ M p = none := by
  refine ⟨R.sub.free h, ?_⟩
  cases e : M p with
  | none => rfl
  | some o =>
    obtain ⟨_, u, hu, _⟩ := R.chg p o e
    rw [h] at hu
    cases hu
theorem Rel.freeG (R : Rel K G F H M) {p : Addr} (h : H p = none) : G p = none := by
  cases e : G p with
  | none => rfl
  | some o =>
    rw [(R.hid p o e).1] at h
    cases h
/-- a new frozen thing -/
theorem Rel.newF (R : Rel K G F H M) {p : Addr} {o : HO} (h : H p = none) : Same F (upd F p o) ∧ Rel K G (upd F p o) (upd H p o) M := by
  have s : Same F (upd F p o) := same_upd (R.free h).1
  refine ⟨s, ⟨fun b u e => ?_, fun a m e => ?_, fun a u e => ?_, R.hidt⟩⟩
  · by_cases q : b = p
    · subst q
      rw [upd_same] at e ⊢
      exact e
    · rw [upd_ne q] at e ⊢
      exact R.sub _ _ e
  · obtain ⟨f, u, hu, r⟩ := R.chg a m e
    have q : a ≠ p := ne_of_none hu h
    exact ⟨by rw [upd_ne q]; exact f, u, by rw [upd_ne q]; exact hu, r.mono s⟩
  · obtain ⟨h1, h2, h3⟩ := R.hid a u e
    have q : a ≠ p := ne_of_none h1 h
    exact ⟨by rw [upd_ne q]; exact h1, by rw [upd_ne q]; exact h2, h3⟩
/-- a new changing thing -/
theorem Rel.newM (R : Rel K G F H M) {p : Addr} {u : HO} {o : MO} (h : H p = none) (r : RpO K F u o) : Rel K G F (upd H p u) (mup M p o) := by
  refine ⟨fun b x e => same_upd h _ _ (R.sub _ _ e), fun a m e => ?_, fun a x e => ?_, R.hidt⟩
  · by_cases q : a = p
    · subst q
      rw [mup_same] at e
      cases e
      exact ⟨(R.free h).1, u, upd_same, r⟩
    · rw [mup_ne q] at e
      obtain ⟨f, x, hx, r⟩ := R.chg a m e
      exact ⟨f, x, by rw [upd_ne q]; exact hx, r⟩
  · obtain ⟨h1, h2, h3⟩ := R.hid a x e
    have q : a ≠ p := ne_of_none h1 h
    exact ⟨by rw [upd_ne q]; exact h1, h2, by rw [mup_ne q]; exact h3⟩
/-- a store -/
theorem Rel.put (R : Rel K G F H M) {p : Addr} {u : HO} {o o0 : MO} (h : M p = some o0) (r : RpO K F u o) : Rel K G F (upd H p u) (mup M p o) := by
  obtain ⟨f0, _, _, _⟩ := R.chg p o0 h
  refine ⟨fun b x e => ?_, fun a m e => ?_, fun a x e => ?_, R.hidt⟩
  · rw [upd_ne (ne_of_none e f0)]
    exact R.sub _ _ e
  · by_cases q : a = p
    · subst q
      rw [mup_same] at e
      cases e
      exact ⟨f0, u, upd_same, r⟩
    · rw [mup_ne q] at e
      obtain ⟨f, x, hx, r⟩ := R.chg a m e
      exact ⟨f, x, by rw [upd_ne q]; exact hx, r⟩
  · obtain ⟨h1, h2, h3⟩ := R.hid a x e
    have q : a ≠ p := fun q => by
      rw [q, h] at h3
      cases h3
    exact ⟨by rw [upd_ne q]; exact h1, h2, by rw [mup_ne q]; exact h3⟩
/-- less is known -/
theorem Rel.drop {M' : MH} (R : Rel K G F H M) (h : ∀ a o, M' a = some o → M a = some o) : Rel K G F H M' := ⟨R.sub, fun a o e => R.chg a o (h a o e), (fun a o e => by
  obtain ⟨h1, h2, h3⟩ := R.hid a o e
  refine ⟨h1, h2, ?_⟩
  cases q : M' a with
  | none => rfl
  | some x =>
    rw [h a x q] at h3
    cases h3), R.hidt⟩
/-- a changing list will change no more -/
theorem Rel.freeze (R : Rel K G F H M) {p : Addr} {ds : List D} (h : M p = some (.lst ds)) : ∃ F', Same F F' ∧ Rel K G F' H (mdel M p) ∧ Rp K F' (.ref p) (.lst ds) := by
  obtain ⟨f, u, hu, r⟩ := R.chg p _ h
  cases u with
  | lst vs =>
    have r' : Rps K F vs ds := r
    have s : Same F (upd F p (.lst vs)) := same_upd f
    refine ⟨upd F p (.lst vs), s, ⟨fun b x e => ?_, fun a m e => ?_, fun a x e => ?_, R.hidt⟩, .lst upd_same (r'.mono s)⟩
    · by_cases q : b = p
      · subst q
        rw [upd_same] at e
        rw [hu]
        exact e
      · rw [upd_ne q] at e
        exact R.sub _ _ e
    · unfold mdel at e
      by_cases q : a = p
      · rw [if_pos q] at e
        cases e
      · rw [if_neg q] at e
        obtain ⟨f2, x, hx, r2⟩ := R.chg a m e
        exact ⟨by rw [upd_ne q]; exact f2, x, hx, r2.mono s⟩
    · obtain ⟨h1, h2, h3⟩ := R.hid a x e
      have q : a ≠ p := fun q => by
        rw [q, h] at h3
        cases h3
      refine ⟨h1, by rw [upd_ne q]; exact h2, ?_⟩
      unfold mdel
      rw [if_neg q]
      exact h3
  | _ => exact (r : False).elim
/-- a new thing, hidden -/
theorem Rel.newG (R : Rel K G F H M) {p : Addr} {u : HO} (h : H p = none) (hu : ∀ vs, u ≠ .tup vs := by intro vs; exact HO.noConfusion) : Rel K (upd G p u) F (upd H p u) M := by
  have q0 : ∀ a x, H a = some x → a ≠ p := fun a x e => ne_of_none e h
  refine ⟨fun b x e => same_upd h _ _ (R.sub _ _ e), fun a m e => ?_, fun a x e => ?_, fun a vs e => ?_⟩
  · obtain ⟨f, x, hx, r⟩ := R.chg a m e
    exact ⟨f, x, by rw [upd_ne (q0 _ _ hx)]; exact hx, r⟩
  · by_cases q : a = p
    · subst q
      rw [upd_same] at e
      cases e
      exact ⟨upd_same, (R.free h).1, (R.free h).2⟩
    · rw [upd_ne q] at e
      obtain ⟨h1, h2, h3⟩ := R.hid a x e
      exact ⟨by rw [upd_ne q]; exact h1, h2, h3⟩
  · by_cases q : a = p
    · subst q
      rw [upd_same] at e
      exact hu vs (Option.some.inj e)
    · rw [upd_ne q] at e
      exact R.hidt a vs e
/-- the hidden thing is changed -/
theorem Rel.putG {u u' : HO} {p : Addr} (R : Rel K (upd G p u) F H M) (hu : ∀ vs, u' ≠ .tup vs := by intro vs; exact HO.noConfusion) : Rel K (upd G p u') F (upd H p u') M := by
  obtain ⟨h1, h2, h3⟩ := R.hid p u upd_same
  refine ⟨fun b x e => ?_, fun a m e => ?_, fun a x e => ?_, fun a vs e => ?_⟩
  · rw [upd_ne (ne_of_none e h2)]
    exact R.sub _ _ e
  · obtain ⟨f, x, hx, r⟩ := R.chg a m e
    have q : a ≠ p := fun q => by
      rw [q, h3] at e
      cases e
    exact ⟨f, x, by rw [upd_ne q]; exact hx, r⟩
  · by_cases q : a = p
    · subst q
      rw [upd_same] at e
      cases e
      exact ⟨upd_same, h2, h3⟩
    · rw [upd_ne q] at e
      obtain ⟨g1, g2, g3⟩ := R.hid a x (by rw [upd_ne q]; exact e)
      exact ⟨by rw [upd_ne q]; exact g1, g2, g3⟩
  · by_cases q : a = p
    · subst q
      rw [upd_same] at e
      exact hu vs (Option.some.inj e)
    · rw [upd_ne q] at e
      exact R.hidt a vs (by rw [upd_ne q]; exact e)
/-- the hidden thing is shown, frozen | changing -/
theorem Rel.showF {u : HO} {p : Addr} (hg : G p = none) (R : Rel K (upd G p u) F H M) : Same F (upd F p u) ∧ Rel K G (upd F p u) H M := by
  obtain ⟨h1, h2, h3⟩ := R.hid p u upd_same
  have s : Same F (upd F p u) := same_upd h2
  refine ⟨s, fun b x e => ?_, fun a m e => ?_, fun a x e => ?_, fun a vs e => R.hidt a vs (by rw [upd_ne (ne_of_none e hg)]; exact e)⟩
  · by_cases q : b = p
    · subst q
      rw [upd_same] at e
      rw [h1]
      exact e
    · rw [upd_ne q] at e
      exact R.sub _ _ e
  · obtain ⟨f, x, hx, r⟩ := R.chg a m e
    have q : a ≠ p := fun q => by
      rw [q, h3] at e
      cases e
    exact ⟨by rw [upd_ne q]; exact f, x, hx, r.mono s⟩
  · have q : a ≠ p := ne_of_none e hg
    obtain ⟨g1, g2, g3⟩ := R.hid a x (by rw [upd_ne q]; exact e)
    exact ⟨g1, by rw [upd_ne q]; exact g2, g3⟩
theorem Rel.showM {u : HO} {o : MO} {p : Addr} (hg : G p = none) (r : RpO K F u o) (R : Rel K (upd G p u) F H M) : Rel K G F H (mup M p o) := by
  obtain ⟨h1, h2, h3⟩ := R.hid p u upd_same
  refine ⟨R.sub, fun a m e => ?_, fun a x e => ?_, fun a vs e => R.hidt a vs (by rw [upd_ne (ne_of_none e hg)]; exact e)⟩
  · by_cases q : a = p
    · subst q
      rw [mup_same] at e
      cases e
      exact ⟨h2, u, h1, r⟩
    · rw [mup_ne q] at e
      exact R.chg a m e
  · have q : a ≠ p := ne_of_none e hg
    obtain ⟨g1, g2, g3⟩ := R.hid a x (by rw [upd_ne q]; exact e)
    exact ⟨g1, g2, by rw [mup_ne q]; exact g3⟩
end
end
end Tl
namespace Tl
open PySem PySem.Spec PyProof.Rows L2
/-! ### judgements over trees -/
abbrev Sg := List (Option D)
abbrev VD := D → MH → Prop
abbrev XT := Value → MH → Prop
abbrev TEt := Sg → MH → VD → Prop
abbrev TTt := Sg → MH → (Bool → MH → Prop) → Prop
abbrev TAt := Sg → MH → (List D → MH → Prop) → Prop
structure En where
  nx : Sg → MH → Prop
  rt : VD
  bk : Sg → MH → Prop := fun _ _ => False
  ct : Sg → MH → Prop := fun _ _ => False
abbrev TSt := En → Sg → MH → Prop
def nth : Sg → Nat → Option D
  | [], _ => none
  | x :: _, 0 => x
  | _ :: t, n + 1 => nth t n
theorem nth_get : ∀ {t : Sg} {i : Nat} {d : D}, nth t i = some d → t[i]? = some (some d)
  | [], _, _, h => by cases h
  | x :: _, 0, d, h => by
    show some x = some (some d)
    exact congrArg some h
  | _ :: t, n + 1, d, h => by
    rw [List.getElem?_cons_succ]
    exact nth_get (t := t) h
abbrev Et0 : XT := fun _ _ => False
def Sgr (K : PySem.W.Frag) (F : Hp) (σ : L2.St) (τ : Sg) : Prop := σ.length = τ.length ∧ ∀ (i : Nat) (d : D), τ[i]? = some (some d) → ∃ v, σ[i]? = some (some v) ∧ Rp K F v d
/-- what is wished of exceptions -/
def EL (K : PySem.W.Frag) (G F : Hp) (E : XK) (Et : XT) : Prop := ∀ cls F' H' M', Same F F' → Rel K G F' H' M' → Et cls M' → E cls none H'
structure At (K : PySem.W.Frag) (E : XK) (Et : XT) (G F H : Hp) (M : MH) (σ : L2.St) (τ : Sg) : Prop where
  rel : Rel K G F H M
  sg : Sgr K F σ τ
  el : EL K G F E Et
section
variable {K : PySem.W.Frag} {E : XK} {Et : XT} {G F F' H H' : Hp} {M M' : MH} {σ : L2.St} {τ : Sg}
theorem Sgr.mono (h : Sgr K F σ τ) (s : Same F F') : Sgr K F' σ τ := ⟨h.1, fun i d e => by
  obtain ⟨v, a, b⟩ := h.2 i d e
  exact ⟨v, a, b.mono s⟩⟩
theorem Sgr.set (h : Sgr K F σ τ) {i : Nat} {v : V} {d : D} (r : Rp K F v d) : Sgr K F (σ.set i (some v)) (τ.set i (some d)) := by
  refine ⟨by rw [List.length_set, List.length_set]; exact h.1, fun j e q => ?_⟩
  by_cases hij : i = j
  · subst hij
    by_cases hl : i < τ.length
    · rw [List.getElem?_set_self hl] at q
      rw [List.getElem?_set_self (by rw [h.1]; exact hl)]
      cases q
      exact ⟨v, rfl, r⟩
    · rw [List.getElem?_eq_none (by rw [List.length_set]; omega)] at q
      cases q
  · rw [List.getElem?_set_ne hij] at q ⊢
    exact h.2 j e q
theorem Sgr.unset (h : Sgr K F σ τ) {i : Nat} : Sgr K F (σ.set i none) (τ.set i none) := by
  refine ⟨by rw [List.length_set, List.length_set]; exact h.1, fun j e q => ?_⟩
  by_cases hij : i = j
  · subst hij
    by_cases hl : i < τ.length
    · rw [List.getElem?_set_self hl] at q
      cases q
    · rw [List.getElem?_eq_none (by rw [List.length_set]; omega)] at q
      cases q
  · rw [List.getElem?_set_ne hij] at q ⊢
    exact h.2 j e q
theorem EL.mono (h : EL K G F E Et) (s : Same F F') : EL K G F' E Et := fun cls F2 H2 M2 s2 => h cls F2 H2 M2 (s.trans s2)
theorem EL.never {E : XK} : EL K G F E Et0 := fun _ _ _ _ _ _ h => h.elim
theorem At.step (a : At K E Et G F H M σ τ) (s : Same F F') (r : Rel K G F' H' M') : At K E Et G F' H' M' σ τ := ⟨r, a.sg.mono s, a.el.mono s⟩
theorem At.store (a : At K E Et G F H M σ τ) {i : Nat} {v : V} {d : D} (r : Rp K F v d) : At K E Et G F H M (σ.set i (some v)) (τ.set i (some d)) := ⟨a.rel, a.sg.set r, a.el⟩
end
section
variable (K : PySem.W.Frag) (E : XK) (Et : XT)
def liftE (t : TEt) : TE := fun σ H Q => ∃ G F M τ Qt, At K E Et G F H M σ τ ∧ t τ M Qt ∧ ∀ v F' H' M' d, Same F F' → Rel K G F' H' M' → Rp K F' v d → Qt d M' → Q v H'
def liftT (t : TTt) : TT := fun σ H Q => ∃ G F M τ Qt, At K E Et G F H M σ τ ∧ t τ M Qt ∧ ∀ b F' H' M', Same F F' → Rel K G F' H' M' → Qt b M' → Q b H'
def liftA (t : TAt) : TA := fun σ H Q => ∃ G F M τ Qt, At K E Et G F H M σ τ ∧ t τ M Qt ∧ ∀ vs F' H' M' ds, Same F F' → Rel K G F' H' M' → Rps K F' vs ds → Qt ds M' → Q vs H'
structure EnL (G F : Hp) (D : Ends) (Dt : En) : Prop where
  nx : ∀ F' H' M' σ τ, Same F F' → At K E Et G F' H' M' σ τ → Dt.nx τ M' → D.nx σ H'
  rt : ∀ F' H' M' v d, Same F F' → Rel K G F' H' M' → Rp K F' v d → Dt.rt d M' → D.rt v H'
  bk : ∀ F' H' M' σ τ, Same F F' → At K E Et G F' H' M' σ τ → Dt.bk τ M' → D.bk σ H'
  ct : ∀ F' H' M' σ τ, Same F F' → At K E Et G F' H' M' σ τ → Dt.ct τ M' → D.ct σ H'
def liftS (t : TSt) : TS := fun D σ H => ∃ G F M τ Dt, At K E Et G F H M σ τ ∧ EnL K E Et G F D Dt ∧ t Dt τ M
end
theorem EnL.mono {K : PySem.W.Frag} {E : XK} {Et : XT} {G F F' : Hp} {D : Ends} {Dt : En} (h : EnL K E Et G F D Dt) (s : Same F F') : EnL K E Et G F' D Dt :=
  ⟨fun F2 H2 M2 σ τ s2 => h.nx F2 H2 M2 σ τ (s.trans s2), fun F2 H2 M2 v d s2 => h.rt F2 H2 M2 v d (s.trans s2), fun F2 H2 M2 σ τ s2 => h.bk F2 H2 M2 σ τ (s.trans s2), fun F2 H2 M2 σ τ s2 => h.ct F2 H2 M2 σ τ (s.trans s2)⟩
abbrev QE (X : Cx) (E : XK) (Et : XT) (e : Expr) (t : TEt) : Prop := PE X e (liftE X.K E Et t)
abbrev QT (X : Cx) (E : XK) (Et : XT) (e : Expr) (t : TTt) : Prop := PT X e (liftT X.K E Et t)
abbrev QW (X : Cx) (E : XK) (Et : XT) (e : Expr) (t : TTt) : Prop := PW X e (liftT X.K E Et t)
abbrev QA (X : Cx) (E : XK) (Et : XT) (es : List Expr) (t : TAt) : Prop := PA X es (liftA X.K E Et t)
abbrev QS (X : Cx) (E : XK) (Et : XT) (st : Stmt) (t : TSt) : Prop := PS X st (liftS X.K E Et t)
abbrev QSs (X : Cx) (E : XK) (Et : XT) (st : List Stmt) (t : TSt) : Prop := PSs X st (liftS X.K E Et t)
section
variable {X : Cx}
theorem PEimp {e : Expr} {t t' : TE} (h : PE X e t) (i : ∀ σ H Q, t' σ H Q → t σ H Q) : PE X e t' := ⟨fun pins s σ H Q I w => h.run pins s σ H Q I (i _ _ _ w)⟩
theorem PTimp {e : Expr} {t t' : TT} (h : PT X e t) (i : ∀ σ H Q, t' σ H Q → t σ H Q) : PT X e t' := ⟨fun pins s σ H Q I w => h.run pins s σ H Q I (i _ _ _ w)⟩
theorem PWimp {e : Expr} {t t' : TT} (h : PW X e t) (i : ∀ σ H Q, t' σ H Q → t σ H Q) : PW X e t' := ⟨fun wh pins s σ H Q I w => h.run wh pins s σ H Q I (i _ _ _ w)⟩
theorem PAimp {e : List Expr} {t t' : TA} (h : PA X e t) (i : ∀ σ H Q, t' σ H Q → t σ H Q) : PA X e t' := ⟨fun pos pins s σ H Q I w => h.run pos pins s σ H Q I (i _ _ _ w)⟩
theorem PSimp {e : Stmt} {t t' : TS} (h : PS X e t) (i : ∀ D σ H, t' D σ H → t D σ H) : PS X e t' := ⟨fun pins s σ H D I w => h.run pins s σ H D I (i _ _ _ w)⟩
theorem PSsimp {e : List Stmt} {t t' : TS} (h : PSs X e t) (i : ∀ D σ H, t' D σ H → t D σ H) : PSs X e t' := ⟨fun pins s σ H D I w => h.run pins s σ H D I (i _ _ _ w)⟩
theorem OpRimp {f : Value → Value → Sem Value} {r r' : R2} (h : OpR X f r) (i : ∀ x y H Q, r' x y H Q → r x y H Q) : OpR X f r' := fun pins s σ H x y u v Q I rx ry w => h pins s σ H x y u v Q I rx ry (i _ _ _ _ w)
theorem UnRimp {f : Value → Sem Value} {r r' : V → Hp → VK → Prop} (h : UnR X f r) (i : ∀ x H Q, r' x H Q → r x H Q) : UnR X f r' := fun pins s σ H x u Q I rx w => h pins s σ H x u Q I rx (i _ _ _ w)
theorem CallRimp {f : Value} {r r' : List V → Hp → VK → Prop} (h : CallR X f r) (i : ∀ x H Q, r' x H Q → r x H Q) : CallR X f r' := fun pins s σ H x u Q I rx w => h pins s σ H x u Q I rx (i _ _ _ w)
end
/-! ### names, constants -/
def tV (i : Nat) : TEt := fun τ M Q => match nth τ i with
  | some d => Q d M
  | none => False
def tK (d : D) : TEt := fun _ M Q => Q d M
section
variable {X : Cx} {E : XK} {Et : XT}
theorem lv_var {i : Nat} : ∀ σ H Q, liftE X.K E Et (tV i) σ H Q → tVar i σ H Q := by
  rintro σ H Q ⟨G, F, M, τ, Qt, a, h, k⟩
  unfold tV at h
  cases e : nth τ i with
  | none => rw [e] at h; exact h.elim
  | some d =>
    rw [e] at h
    obtain ⟨v, h1, h2⟩ := a.sg.2 i d (nth_get e)
    exact ⟨v, h1, k v F H M d (Same.refl _) a.rel h2 h⟩
theorem qv (i : Nat) {x : Str} {pos : Pos} (hN : X.N[i]? = some x := by rfl) (hv : Vis X.env.scope x := by first | exact Or.inl rfl | exact Or.inr (Or.inl rfl) | exact Or.inr (Or.inr rfl)) (hd : (x == ("__debug__" : Str)) = false := by decide)
    (hcd : (x == ("__classdict__" : Str)) = false := by decide) : QE X E Et (.Name x pos) (tV i) := PEimp (pe_var hN hv hd hcd) lv_var
theorem lv_c {v : V} {d : D} (r : ∀ F, Rp X.K F v d) : ∀ σ H Q, liftE X.K E Et (tK d) σ H Q → tC v σ H Q := by
  rintro σ H Q ⟨G, F, M, τ, Qt, a, h, k⟩
  exact k v F H M d (Same.refl _) a.rel (r F) h
theorem q_int {i j pos} : QE X E Et (.Constant (.int i) j pos) (tK (.int i)) := PEimp pe_int (lv_c fun _ => .int i)
theorem q_bl {b j pos} : QE X E Et (.Constant (.bool b) j pos) (tK (.bl b)) := PEimp pe_bl (lv_c fun _ => .bl b)
theorem q_non {j pos} : QE X E Et (.Constant .none j pos) (tK .non) := PEimp pe_non (lv_c fun _ => .non)
theorem q_str {x j pos} : QE X E Et (.Constant (.str x) j pos) (tK (.str x)) := PEimp pe_str (lv_c fun _ => .str x)
theorem q_gint {x : Str} {i : Int} {pos : Pos} (hm : ∃ t, X.mg x = some (.int i t)) (hg : Gl X x := by rfl) (hd : (x == ("__debug__" : Str)) = false := by decide) : QE X E Et (.Name x pos) (tK (.int i)) := by
  obtain ⟨t, hm⟩ := hm
  exact PEimp (pe_glob (v := .int i) hg hm ⟨t, rfl⟩ hd) (lv_c fun _ => .int i)
theorem q_ty {x : Str} (T : String) {pos : Pos} (hm : X.mg x = none) (hv : bootBuiltins x = some (.type T)) (hg : Gl X x := by rfl) (hn : x ≠ "__name__" := by decide) (hd : (x == ("__debug__" : Str)) = false := by decide) : QE X E Et (.Name x pos) (tK (.ty T)) :=
  PEimp (pe_bltn (v := .ty T) hg hm hv rfl hn hd) (lv_c fun _ => .ty T)
end
/-! ### operators by values -/
abbrev R2t := D → D → MH → VD → Prop
abbrev R1t := D → MH → VD → Prop
abbrev RLt := List D → MH → VD → Prop
def lr2 (K : PySem.W.Frag) (r : R2t) : R2 := fun x y H Q => ∃ G F M dx dy Qt, Rel K G F H M ∧ Rp K F x dx ∧ Rp K F y dy ∧ r dx dy M Qt ∧ ∀ v F' H' M' d, Same F F' → Rel K G F' H' M' → Rp K F' v d → Qt d M' → Q v H'
def lr1 (K : PySem.W.Frag) (r : R1t) : V → Hp → VK → Prop := fun x H Q => ∃ G F M dx Qt, Rel K G F H M ∧ Rp K F x dx ∧ r dx M Qt ∧ ∀ v F' H' M' d, Same F F' → Rel K G F' H' M' → Rp K F' v d → Qt d M' → Q v H'
def lrL (K : PySem.W.Frag) (r : RLt) : List V → Hp → VK → Prop := fun xs H Q => ∃ G F M ds Qt, Rel K G F H M ∧ Rps K F xs ds ∧ r ds M Qt ∧ ∀ v F' H' M' d, Same F F' → Rel K G F' H' M' → Rp K F' v d → Qt d M' → Q v H'
abbrev OpQ (X : Cx) (f : Value → Value → Sem Value) (r : R2t) : Prop := OpR X f (lr2 X.K r)
abbrev UnQ (X : Cx) (f : Value → Sem Value) (r : R1t) : Prop := UnR X f (lr1 X.K r)
abbrev CallQ (X : Cx) (f : Value) (r : RLt) : Prop := CallR X f (lrL X.K r)
def tO (r : R2t) (ta tb : TEt) : TEt := fun τ M Q => ta τ M fun x M1 => tb τ M1 fun y M2 => r x y M2 Q
def tU (r : R1t) (ta : TEt) : TEt := fun τ M Q => ta τ M fun x M1 => r x M1 Q
def tCa (r : RLt) (ta : TAt) : TEt := fun τ M Q => ta τ M fun xs M1 => r xs M1 Q
section
variable {X : Cx} {E : XK} {Et : XT} {e a b : Expr} {es : List Expr} {ta tb : TEt} {t : TAt} {pos : Pos}
theorem lv_op {r : R2t} : ∀ σ H Q, liftE X.K E Et (tO r ta tb) σ H Q → tOp (lr2 X.K r) (liftE X.K E Et ta) (liftE X.K E Et tb) σ H Q := by
  rintro σ H Q ⟨G, F, M, τ, Qt, a, h, k⟩
  refine ⟨G, F, M, τ, _, a, h, fun v F1 H1 M1 d s1 r1 p1 q1 => ?_⟩
  refine ⟨G, F1, M1, τ, _, a.step s1 r1, q1, fun v2 F2 H2 M2 d2 s2 r2 p2 q2 => ?_⟩
  exact ⟨G, F2, M2, d, d2, Qt, r2, p1.mono s2, p2, q2, fun v F' H' M' d s => k v F' H' M' d ((s1.trans s2).trans s)⟩
theorem q_op {op : Operator} {r : R2t} (ho : OpQ X (binaryOp op) r) (ha : QE X E Et a ta) (hb : QE X E Et b tb) : QE X E Et (.BinOp a op b pos) (tO r ta tb) := PEimp (pe_op ho ha hb) lv_op
theorem q_cmp {op : CmpOp} {r : R2t} (ho : OpQ X (compareOp op) r) (ha : QE X E Et a ta) (hb : QE X E Et b tb) (hm : behindInMarks op b = false := by first | exact nomark _ | rfl) : QE X E Et (.Compare a [op] [b] pos) (tO r ta tb) := PEimp (pe_cmpR ho ha hb hm) lv_op
theorem q_un {op : UnaryOp} {r : R1t} (ho : UnQ X (unaryOp op) r) (ha : QE X E Et a ta) : QE X E Et (.UnaryOp op a pos) (tU r ta) := PEimp (pe_un ho ha) (by
  rintro σ H Q ⟨G, F, M, τ, Qt, a, h, k⟩
  refine ⟨G, F, M, τ, _, a, h, fun v F1 H1 M1 d s1 r1 p1 q1 => ?_⟩
  exact ⟨G, F1, M1, d, Qt, r1, p1, q1, fun v F' H' M' d s => k v F' H' M' d (s1.trans s)⟩)
/-! ### arguments -/
def tN : TAt := fun _ M Q => Q [] M
def tCs (ta : TEt) (tr : TAt) : TAt := fun τ M Q => ta τ M fun x M1 => tr τ M1 fun xs M2 => Q (x :: xs) M2
theorem qa_nil : QA X E Et [] tN := PAimp pa_nil (by
  rintro σ H Q ⟨G, F, M, τ, Qt, a, h, k⟩
  exact k [] F H M [] (Same.refl _) a.rel .nil h)
theorem qa_cons (ha : QE X E Et e ta) (hr : QA X E Et es t) (hs : starEach (e :: es) X.env = (false, eval e X.env) :: starEach es X.env := by rfl) : QA X E Et (e :: es) (tCs ta t) := PAimp (pa_cons ha hr hs) (by
  rintro σ H Q ⟨G, F, M, τ, Qt, a, h, k⟩
  refine ⟨G, F, M, τ, _, a, h, fun v F1 H1 M1 d s1 r1 p1 q1 => ?_⟩
  refine ⟨G, F1, M1, τ, _, a.step s1 r1, q1, fun vs F2 H2 M2 ds s2 r2 p2 q2 => ?_⟩
  exact k (v :: vs) F2 H2 M2 (d :: ds) (s1.trans s2) r2 (.cons (p1.mono s2) p2) q2)
theorem lv_cb {r : RLt} : ∀ σ H Q, liftE X.K E Et (tCa r t) σ H Q → tCB (lrL X.K r) (liftA X.K E Et t) σ H Q := by
  rintro σ H Q ⟨G, F, M, τ, Qt, a, h, k⟩
  refine ⟨G, F, M, τ, _, a, h, fun vs F1 H1 M1 ds s1 r1 p1 q1 => ?_⟩
  exact ⟨G, F1, M1, ds, Qt, r1, p1, q1, fun v F' H' M' d s => k v F' H' M' d (s1.trans s)⟩
theorem q_callB {id : String} {x : Str} {p : Pos} {r : RLt} (hc : CallQ X (.builtin id) r) (hm : X.mg x = none) (hv : bootBuiltins x = some (.builtin id)) (ha : QA X E Et (e :: es) t) (hg : Gl X x := by rfl) (hn : x ≠ "__name__" := by decide) (hdb : (x == ("__debug__" : Str)) = false := by decide)
    (he : starEach (e :: es) X.env = (false, eval e X.env) :: starEach es X.env := by rfl) (hpl : (backTo pos (starEach es X.env)).any (·.1) = false := by rfl) : QE X E Et (.Call (.Name x p) (e :: es) [] pos) (tCa r t) :=
  PEimp (pe_callB hc hg hm hv ha hn hdb he hpl) lv_cb
theorem q_callTy {T : String} {x : Str} {p : Pos} {r : RLt} (hc : CallQ X (.type T) r) (hm : X.mg x = none) (hv : bootBuiltins x = some (.type T)) (ha : QA X E Et (e :: es) t) (hg : Gl X x := by rfl) (hn : x ≠ "__name__" := by decide) (hdb : (x == ("__debug__" : Str)) = false := by decide)
    (he : starEach (e :: es) X.env = (false, eval e X.env) :: starEach es X.env := by rfl) (hpl : (backTo pos (starEach es X.env)).any (·.1) = false := by rfl) : QE X E Et (.Call (.Name x p) (e :: es) [] pos) (tCa r t) :=
  PEimp (pe_callTy hc hg hm hv ha hn hdb he hpl) lv_cb
end
/-! ### tests -/
def tBo (t : TEt) : TTt := fun τ M Q => t τ M fun x M1 => match x with
  | .bl c => Q c M1
  | _ => False
def tAn (t u : TTt) : TTt := fun τ M Q => t τ M fun c M1 => if c = true then u τ M1 Q else Q false M1
def tOr' (t u : TTt) : TTt := fun τ M Q => t τ M fun c M1 => if c = true then Q true M1 else u τ M1 Q
def tNo (t : TTt) : TTt := fun τ M Q => t τ M fun c M1 => Q (!c) M1
def tAnV (ta tb : TEt) : TEt := fun τ M Q => ta τ M fun x M1 => match x with
  | .bl c => if c = true then tb τ M1 Q else Q (.bl false) M1
  | _ => False
def tOrV' (ta tb : TEt) : TEt := fun τ M Q => ta τ M fun x M1 => match x with
  | .bl c => if c = true then Q (.bl true) M1 else tb τ M1 Q
  | _ => False
def tNoV (ta : TEt) : TEt := fun τ M Q => ta τ M fun x M1 => match x with
  | .bl c => Q (.bl (!c)) M1
  | _ => False
def tIfE (t : TTt) (ta tb : TEt) : TEt := fun τ M Q => t τ M fun c M1 => if c = true then ta τ M1 Q else tb τ M1 Q
section
variable {X : Cx} {E : XK} {Et : XT} {e a b c : Expr} {rest : List Expr} {ta tb : TEt} {t u : TTt} {pos : Pos}
theorem Rp.bl_inv {K : PySem.W.Frag} {F : Hp} {v : V} {c : Bool} (h : Rp K F v (.bl c)) : v = .bl c := by cases h; rfl
theorem lv_bo : ∀ σ H Q, liftT X.K E Et (tBo ta) σ H Q → tB (liftE X.K E Et ta) σ H Q := by
  rintro σ H Q ⟨G, F, M, τ, Qt, a, h, k⟩
  refine ⟨G, F, M, τ, _, a, h, fun v F1 H1 M1 d s1 r1 p1 q1 => ?_⟩
  cases d with
  | bl c => exact ⟨c, p1.bl_inv, k c F1 H1 M1 s1 r1 q1⟩
  | _ => exact q1.elim
theorem qt_val (h : QE X E Et e ta) (he : ∀ whole, isTrue e X.env whole = (do let v ← whole; standAt e.pos; holding [v] (truthy v)) := by intro _; rfl) : QT X E Et e (tBo ta) := PTimp (pt_val h he) lv_bo
theorem qt_cmp {op : CmpOp} {r : R2t} (ho : OpQ X (compareOp op) r) (ha : QE X E Et a ta) (hb : QE X E Et b tb) (hm : behindInMarks op b = false := by first | exact nomark _ | rfl) : QT X E Et (.Compare a [op] [b] pos) (tBo (tO r ta tb)) := PTimp (pt_cmpR ho ha hb hm) (by
  rintro σ H Q ⟨G, F, M, τ, Qt, a, h, k⟩
  refine lv_op _ _ _ ⟨G, F, M, τ, _, a, h, fun v F1 H1 M1 d s1 r1 p1 q1 => ?_⟩
  cases d with
  | bl c => exact ⟨c, p1.bl_inv, k c F1 H1 M1 s1 r1 q1⟩
  | _ => exact q1.elim)
theorem qw_and1 (ha : QT X E Et a t) : QW X E Et (.BoolOp .And [a] pos) t := pw_and1 ha
theorem qw_or1 (ha : QT X E Et a t) : QW X E Et (.BoolOp .Or [a] pos) t := pw_or1 ha
theorem qw_and (ha : QT X E Et a t) (hb : QW X E Et (.BoolOp .And (b :: rest) pos) u) : QW X E Et (.BoolOp .And (a :: b :: rest) pos) (tAn t u) := PWimp (pw_and ha hb) (by
  rintro σ H Q ⟨G, F, M, τ, Qt, a, h, k⟩
  refine ⟨G, F, M, τ, _, a, h, fun b F1 H1 M1 s1 r1 q1 => ?_⟩
  cases b with
  | true =>
    rw [if_pos rfl] at q1 ⊢
    exact ⟨G, F1, M1, τ, Qt, a.step s1 r1, q1, fun b F2 H2 M2 s2 => k b F2 H2 M2 (s1.trans s2)⟩
  | false =>
    rw [if_neg Bool.false_ne_true] at q1 ⊢
    exact k false F1 H1 M1 s1 r1 q1)
theorem qw_or (ha : QT X E Et a t) (hb : QW X E Et (.BoolOp .Or (b :: rest) pos) u) : QW X E Et (.BoolOp .Or (a :: b :: rest) pos) (tOr' t u) := PWimp (pw_or ha hb) (by
  rintro σ H Q ⟨G, F, M, τ, Qt, a, h, k⟩
  refine ⟨G, F, M, τ, _, a, h, fun b F1 H1 M1 s1 r1 q1 => ?_⟩
  cases b with
  | true =>
    rw [if_pos rfl] at q1 ⊢
    exact k true F1 H1 M1 s1 r1 q1
  | false =>
    rw [if_neg Bool.false_ne_true] at q1 ⊢
    exact ⟨G, F1, M1, τ, Qt, a.step s1 r1, q1, fun b F2 H2 M2 s2 => k b F2 H2 M2 (s1.trans s2)⟩)
theorem qt_w (h : QW X E Et e t) : QT X E Et e t := h.pt
theorem qt_not (ha : QT X E Et a t) : QT X E Et (.UnaryOp .Not a pos) (tNo t) := PTimp (pt_not ha) (by
  rintro σ H Q ⟨G, F, M, τ, Qt, a, h, k⟩
  exact ⟨G, F, M, τ, _, a, h, fun b F1 H1 M1 s1 r1 q1 => k _ F1 H1 M1 s1 r1 q1⟩)
theorem q_one {op} (h : QE X E Et a ta) : QE X E Et (.BoolOp op [a] pos) ta := pe_one h
theorem q_and (ha : QE X E Et a ta) (hb : QE X E Et (.BoolOp .And (b :: rest) pos) tb) : QE X E Et (.BoolOp .And (a :: b :: rest) pos) (tAnV ta tb) := PEimp (pe_and ha hb) (by
  rintro σ H Q ⟨G, F, M, τ, Qt, a, h, k⟩
  refine ⟨G, F, M, τ, _, a, h, fun v F1 H1 M1 d s1 r1 p1 q1 => ?_⟩
  cases d with
  | bl c =>
    refine ⟨c, p1.bl_inv, ?_⟩
    cases c with
    | true =>
      rw [if_pos rfl]
      exact ⟨G, F1, M1, τ, Qt, a.step s1 r1, q1, fun v F2 H2 M2 d s2 => k v F2 H2 M2 d (s1.trans s2)⟩
    | false =>
      rw [if_neg Bool.false_ne_true]
      exact k _ F1 H1 M1 _ s1 r1 (.bl false) q1
  | _ => exact q1.elim)
/-- a < b < c -/
def tCh (r r' : R2t) (ta tb tc : TEt) : TEt := fun τ M Q => ta τ M fun x M1 => tb τ M1 fun y M2 => r x y M2 fun z M3 => match z with
  | .bl k => if k = true then tc τ M3 fun w M4 => r' y w M4 Q else Q (.bl false) M3
  | _ => False
theorem lv_chain {r r' : R2t} {tc : TEt} : ∀ σ H Q, liftE X.K E Et (tCh r r' ta tb tc) σ H Q → tChain (lr2 X.K r) (lr2 X.K r') (liftE X.K E Et ta) (liftE X.K E Et tb) (liftE X.K E Et tc) σ H Q := by
  rintro σ H Q ⟨G, F, M, τ, Qt, a, h, k⟩
  refine ⟨G, F, M, τ, _, a, h, fun v F1 H1 M1 d s1 r1 p1 q1 => ?_⟩
  refine ⟨G, F1, M1, τ, _, a.step s1 r1, q1, fun v2 F2 H2 M2 d2 s2 r2 p2 q2 => ?_⟩
  refine ⟨G, F2, M2, d, d2, _, r2, p1.mono s2, p2, q2, fun z F3 H3 M3 dz s3 r3 p3 q3 => ?_⟩
  cases dz with
  | bl c =>
    refine ⟨c, p3.bl_inv, ?_⟩
    cases c with
    | true =>
      rw [if_pos rfl]
      refine ⟨G, F3, M3, τ, _, a.step ((s1.trans s2).trans s3) r3, q3, fun v4 F4 H4 M4 d4 s4 r4 p4 q4 => ?_⟩
      exact ⟨G, F4, M4, d2, d4, Qt, r4, p2.mono (s3.trans s4), p4, q4, fun v F' H' M' d s => k v F' H' M' d ((((s1.trans s2).trans s3).trans s4).trans s)⟩
    | false =>
      rw [if_neg Bool.false_ne_true]
      exact k _ F3 H3 M3 _ ((s1.trans s2).trans s3) r3 (.bl false) q3
  | _ => exact q3.elim
theorem qt_chain {op op' : CmpOp} {r r' : R2t} {tc : TEt} (ho : OpQ X (compareOp op) r) (ho' : OpQ X (compareOp op') r') (ha : QE X E Et a ta) (hb : QE X E Et b tb) (hc : QE X E Et c tc)
    (hm : lastMarks [op, op'] [b, c] = false := by with_unfolding_all rfl) : QT X E Et (.Compare a [op, op'] [b, c] pos) (tBo (tCh r r' ta tb tc)) := PTimp (pt_chain ho ho' ha hb hc hm) (by
  rintro σ H Q ⟨G, F, M, τ, Qt, a, h, k⟩
  refine lv_chain _ _ _ ⟨G, F, M, τ, _, a, h, fun v F1 H1 M1 d s1 r1 p1 q1 => ?_⟩
  cases d with
  | bl c => exact ⟨c, p1.bl_inv, k c F1 H1 M1 s1 r1 q1⟩
  | _ => exact q1.elim)
end
end Tl
namespace Tl
open PySem PySem.Spec PyProof.Rows L2
/-! ### calls of the text's own defs -/
abbrev SpT := List D → MH → VD → XT → Prop
def lSp (K : PySem.W.Frag) (sp : SpT) : Sp := fun vs H Q E => ∃ G F M ds Qt Et, Rel K G F H M ∧ Rps K F vs ds ∧ EL K G F E Et ∧ sp ds M Qt Et ∧ ∀ v F' H' M' d, Same F F' → Rel K G F' H' M' → Rp K F' v d → Qt d M' → Q v H'
/-- a def of the text, called by its name x -/
structure Fn (P : Program) (w : World) (K : PySem.W.Frag) (mg : Str → Option Value) (base : Heap) (CX : CXT) (k : Nat) (x : Str) (sp : SpT) : Prop where
  ok : ∃ fd ps, FnOk P w K mg base CX k (He.ga K x) fd ps (lSp K sp) ∧ Binds K fd ps []
  m : mg x = some (.ref (He.ga K x))
  kp : PySem.W.keepIn K (.ref (He.ga K x)) = true
def tCl (sp : SpT) (Et : XT) (t : TAt) : TEt := fun τ M Q => t τ M fun ds M1 => sp ds M1 Q Et
section
variable {X : Cx} {E E' : XK} {Et Et' : XT} {e : Expr} {es : List Expr} {t : TAt} {pos p : Pos} {sp : SpT} {k : Nat} {x : Str}
theorem lv_call (hE : ∀ G F, EL X.K G F E Et → EL X.K G F E' Et') : ∀ σ H Q, liftE X.K E Et (tCl sp Et' t) σ H Q → tCall (lSp X.K sp) [] E' (liftA X.K E Et t) σ H Q := by
  rintro σ H Q ⟨G, F, M, τ, Qt, a, h, k⟩
  refine ⟨G, F, M, τ, _, a, h, fun vs F1 H1 M1 ds s1 r1 p1 q1 => ?_⟩
  show lSp X.K sp (vs ++ []) H1 Q E'
  rw [List.append_nil]
  exact ⟨G, F1, M1, ds, Qt, Et', r1, p1, hE G F1 (a.el.mono s1), q1, fun v F' H' M' d s => k v F' H' M' d (s1.trans s)⟩
theorem q_call (Fo : Fn X.prog X.w X.K X.mg X.base CX0 k x sp) (hr : Room k X.A) (ha : QA X E Et (e :: es) t) (hg : Gl X x := by rfl) (hdb : (x == ("__debug__" : Str)) = false := by decide)
    (he : starEach (e :: es) X.env = (false, eval e X.env) :: starEach es X.env := by rfl) (hpl : (backTo pos (starEach es X.env)).any (·.1) = false := by rfl) : QE X E Et (.Call (.Name x p) (e :: es) [] pos) (tCl sp Et0 t) := by
  obtain ⟨⟨fd, ps, F1, b⟩, m, kp⟩ := Fo
  exact PEimp (pe_call F1 hr hg m kp b .nil pass0 ha hdb he hpl) (lv_call fun _ _ _ => .never)
end
/-! ### statements -/
def sNx : TSt := fun D τ M => D.nx τ M
def sSq (t u : TSt) : TSt := fun D τ M => t { D with nx := u D } τ M
def sBk : TSt := fun D τ M => D.bk τ M
def sCt : TSt := fun D τ M => D.ct τ M
def sDr (t : TEt) : TSt := fun D τ M => t τ M fun _ M1 => D.nx τ M1
def sRt (t : TEt) : TSt := fun D τ M => t τ M D.rt
def sRtN : TSt := fun D _ M => D.rt .non M
def sIf (c : TTt) (t u : TSt) : TSt := fun D τ M => c τ M fun b M1 => if b = true then t D τ M1 else u D τ M1
abbrev TGt := D → Sg → MH → (Sg → MH → Prop) → Prop
abbrev TGst := List D → Sg → MH → (Sg → MH → Prop) → Prop
def liftG (K : PySem.W.Frag) (E : XK) (Et : XT) (t : TGt) : TG := fun v σ H Q => ∃ G F M τ d Qt, At K E Et G F H M σ τ ∧ Rp K F v d ∧ t d τ M Qt ∧ ∀ F' H' M' σ' τ', Same F F' → At K E Et G F' H' M' σ' τ' → Qt τ' M' → Q σ' H'
def liftGs (K : PySem.W.Frag) (E : XK) (Et : XT) (t : TGst) : TGs := fun vs σ H Q => ∃ G F M τ ds Qt, At K E Et G F H M σ τ ∧ Rps K F vs ds ∧ t ds τ M Qt ∧ ∀ F' H' M' σ' τ', Same F F' → At K E Et G F' H' M' σ' τ' → Qt τ' M' → Q σ' H'
def gN (i : Nat) : TGt := fun d τ M Q => Q (τ.set i (some d)) M
def gNl : TGst := fun ds τ M Q => match ds with
  | [] => Q τ M
  | _ :: _ => False
def gCs (t : TGt) (u : TGst) : TGst := fun ds τ M Q => match ds with
  | [] => False
  | d :: r => t d τ M fun τ' M' => u r τ' M' Q
def gTp (n : Nat) (t : TGst) : TGt := fun d τ M Q => match d with
  | .tup ds => ds.length = n ∧ t ds τ M Q
  | _ => False
/-- o[i] = v by values -/
abbrev TSett := D → D → D → MH → (MH → Prop) → Prop
def lSet (K : PySem.W.Frag) (t : TSett) : TSet := fun o i v H Q => ∃ G F M od idd vd Qt, Rel K G F H M ∧ Rp K F o od ∧ Rp K F i idd ∧ Rp K F v vd ∧ t od idd vd M Qt ∧ ∀ F' H' M', Same F F' → Rel K G F' H' M' → Qt M' → Q H'
def gSb (to ti : TEt) (t : TSett) : TGt := fun v τ M Q => to τ M fun o M1 => ti τ M1 fun i M2 => t o i v M2 fun M3 => Q τ M3
abbrev QG (X : Cx) (E : XK) (Et : XT) (e : Expr) (t : TGt) : Prop := PG X e (liftG X.K E Et t)
abbrev QGs (X : Cx) (E : XK) (Et : XT) (e : List Expr) (t : TGst) : Prop := PGs X e (liftGs X.K E Et t)
def sAs (te : TEt) (g : TGt) : TSt := fun D τ M => te τ M fun x M1 => g x τ M1 D.nx
section
variable {X : Cx} {E : XK} {Et : XT} {st : Stmt} {rest : List Stmt} {t u : TSt} {e : Expr} {te : TEt} {pos : Pos}
theorem qss_nil : QSs X E Et [] sNx := PSsimp pss_nil (by
  rintro D σ H ⟨G, F, M, τ, Dt, a, en, h⟩
  exact en.nx F H M σ τ (Same.refl _) a h)
theorem qss_cons (h1 : QS X E Et st t) (h2 : QSs X E Et rest u) : QSs X E Et (st :: rest) (sSq t u) := PSsimp (pss_cons h1 h2) (by
  rintro D σ H ⟨G, F, M, τ, Dt, a, en, h⟩
  exact ⟨G, F, M, τ, { Dt with nx := u Dt }, a, ⟨fun F' H' M' σ' τ' s a' h' => ⟨G, F', M', τ', Dt, a', en.mono s, h'⟩, en.rt, en.bk, en.ct⟩, h⟩)
theorem qss_one (h1 : QS X E Et st t) : QSs X E Et [st] t := pss_one h1
theorem qs_expr (he : QE X E Et e te) (hs : swapsWith e none pos.line X.env = pure false := by rfl) : QS X E Et (.Expr e pos) (sDr te) := PSimp (ps_expr he hs) (by
  rintro D σ H ⟨G, F, M, τ, Dt, a, en, h⟩
  exact ⟨G, F, M, τ, _, a, h, fun v F' H' M' d s r p q => en.nx F' H' M' σ τ s (a.step s r) q⟩)
theorem qs_ret (he : QE X E Et e te) : QS X E Et (.Return (some e) pos) (sRt te) := PSimp (ps_ret he) (by
  rintro D σ H ⟨G, F, M, τ, Dt, a, en, h⟩
  exact ⟨G, F, M, τ, _, a, h, fun v F' H' M' d s r p q => en.rt F' H' M' v d s r p q⟩)
theorem qs_if {c : Expr} {a b : List Stmt} {tc : TTt} (hc : QT X E Et c tc) (ha : QSs X E Et a t) (hb : QSs X E Et b u) : QS X E Et (.If c a b pos) (sIf tc t u) := PSimp (ps_if hc ha hb) (by
  rintro D σ H ⟨G, F, M, τ, Dt, a, en, h⟩
  refine ⟨G, F, M, τ, _, a, h, fun b F' H' M' s r q => ?_⟩
  cases b with
  | true =>
    rw [if_pos rfl] at q ⊢
    exact ⟨G, F', M', τ, Dt, a.step s r, en.mono s, q⟩
  | false =>
    rw [if_neg Bool.false_ne_true] at q ⊢
    exact ⟨G, F', M', τ, Dt, a.step s r, en.mono s, q⟩)
/-! targets -/
theorem qg_name {i : Nat} {x : Str} (hN : X.N.Nodup) (hi : X.N[i]? = some x := by rfl) (hx : Loc X.env.scope x := by first | exact Or.inl rfl | exact Or.inr rfl) (hf : X.fn x = true ∨ X.env.scope.names.lookup x = some .local := by first | exact .inl rfl | exact .inr rfl | assumption) : QG X E Et (.Name x pos) (gN i) := by
  refine ⟨fun pins s σ H v u Q I r h => ?_⟩
  obtain ⟨G, F, M, τ, d, Qt, a, p, h, k⟩ := h
  exact (pg_name hN hi hx hf).run pins s σ H v u Q I r (k F H M _ _ (Same.refl _) (a.store p) h)
theorem qgs_nil : QGs X E Et [] gNl := by
  refine ⟨fun pins s σ H vs us Q I r h => ?_⟩
  obtain ⟨G, F, M, τ, ds, Qt, a, p, h, k⟩ := h
  cases p with
  | nil => exact pgs_nil.run pins s σ H [] us Q I r ⟨rfl, k F H M _ _ (Same.refl _) a h⟩
  | cons _ _ => exact (show False from h).elim
theorem qgs_cons {es : List Expr} {t : TGt} {u : TGst} (h1 : QG X E Et e t) (h2 : QGs X E Et es u)
    (hs : (assignEach (e :: es) X.env).map (·.2) = assign e X.env :: (assignEach es X.env).map (·.2) := by rfl) : QGs X E Et (e :: es) (gCs t u) := by
  refine ⟨fun pins s σ H vs us Q I r h => ?_⟩
  obtain ⟨G, F, M, τ, ds, Qt, a, p, h, k⟩ := h
  cases p with
  | nil => exact (show False from h).elim
  | cons p1 p2 =>
    refine (pgs_cons h1 h2 hs).run pins s σ H _ us Q I r ⟨_, _, rfl, G, F, M, τ, _, _, a, p1, h, fun F1 H1 M1 σ1 τ1 s1 a1 q1 => ?_⟩
    exact ⟨G, F1, M1, τ1, _, Qt, a1, p2.mono s1, q1, fun F' H' M' σ' τ' s => k F' H' M' σ' τ' (s1.trans s)⟩
theorem qg_tup {es : List Expr} {k : Nat} {t : TGst} {n : Nat} (hc : X.calm = true) (h : QGs X E Et es t)
    (hn : (assignEach es X.env).length = n := by rfl) (hst : (assignEach es X.env).findIdx? (·.1) = none := by rfl) : QG X E Et (.Tuple es k pos) (gTp n t) := by
  refine ⟨fun pins s σ H v u Q I r hw => ?_⟩
  obtain ⟨G, F, M, τ, d, Qt, a, p, hw, k⟩ := hw
  cases p with
  | tup h0 r0 =>
    obtain ⟨hl, hw⟩ := (show _ ∧ _ from hw)
    exact (pg_tup hc h hn hst).run pins s σ H _ u Q I r ⟨_, _, rfl, SqT.of (a.rel.sub _ _ h0), by rw [r0.length]; exact hl, G, F, M, τ, _, Qt, a, r0, hw, k⟩
  | _ => exact (show False from hw).elim
theorem qg_sub {o i : Expr} {to ti : TEt} {t : TSett} (ho : QE X E Et o to) (hi : QE X E Et i ti) (hs : PSet X (lSet X.K t))
    (ha : ∀ v, assign (.Subscript o i pos) X.env v = (do
      let ov ← holding [v] (eval o X.env)
      let iv ← holding [v, ov] (eval i X.env)
      standAt pos
      holding [v, ov, iv] (setItem ov iv v)
      release [v, ov, iv] []) := by intro _; rfl) : QG X E Et (.Subscript o i pos) (gSb to ti t) := by
  refine ⟨fun pins s σ H v u Q I r hw => ?_⟩
  obtain ⟨G, F, M, τ, d, Qt, a, p, hw, k⟩ := hw
  refine (pg_sub ho hi hs ha).run pins s σ H v u Q I r ?_
  refine ⟨G, F, M, τ, _, a, hw, fun v1 F1 H1 M1 d1 s1 r1 p1 q1 => ?_⟩
  refine ⟨G, F1, M1, τ, _, a.step s1 r1, q1, fun v2 F2 H2 M2 d2 s2 r2 p2 q2 => ?_⟩
  exact ⟨G, F2, M2, d1, d2, d, _, r2, p1.mono s2, p2, p.mono (s1.trans s2), q2, fun F3 H3 M3 s3 r3 q3 => k F3 H3 M3 σ τ ((s1.trans s2).trans s3) (a.step ((s1.trans s2).trans s3) r3) q3⟩
theorem lv_asg {g : TGt} : ∀ D σ H, liftS X.K E Et (sAs te g) D σ H → tAsg (liftE X.K E Et te) (liftG X.K E Et g) D σ H := by
  rintro D σ H ⟨G, F, M, τ, Dt, a, en, h⟩
  refine ⟨G, F, M, τ, _, a, h, fun v F1 H1 M1 d s1 r1 p1 q1 => ?_⟩
  exact ⟨G, F1, M1, τ, d, _, a.step s1 r1, p1, q1, fun F' H' M' σ' τ' s a' q => en.nx F' H' M' σ' τ' (s1.trans s) a' q⟩
theorem qs_asg {tg : Expr} {g : TGt} (he : QE X E Et e te) (hg : QG X E Et tg g) (hs : swapsWithSole [tg] e pos.line X.env = pure false := by rfl) (hw : swappedStores [tg] e X.env = pure none := by rfl)
    (h1 : (assignEach [tg] X.env).map (·.2) = [assign tg X.env] := by rfl) : QS X E Et (.Assign [tg] e pos) (sAs te g) := PSimp (ps_asg he hg hs hw h1) lv_asg
theorem qs_set {i : Nat} {x : Str} {pos' : Pos} (hN : X.N.Nodup) (he : QE X E Et e te) (hi : X.N[i]? = some x := by rfl) (hx : Loc X.env.scope x := by first | exact Or.inl rfl | exact Or.inr rfl) (hs : swapsWith e (some (.Name x pos')) pos.line X.env = pure false := by rfl) (hf : X.fn x = true ∨ X.env.scope.names.lookup x = some .local := by first | exact .inl rfl | exact .inr rfl | assumption) :
    QS X E Et (.Assign [.Name x pos'] e pos) (sAs te (gN i)) := PSimp (ps_set hN hi hx he hs hf) (by
  rintro D σ H ⟨G, F, M, τ, Dt, a, en, h⟩
  refine ⟨G, F, M, τ, _, a, h, fun v F1 H1 M1 d s1 r1 p1 q1 => ?_⟩
  exact en.nx F1 H1 M1 _ _ s1 ((a.step s1 r1).store p1) q1)
/-- x += e -/
def sAg (i : Nat) (te : TEt) (r : R2t) : TSt := fun D τ M => match nth τ i with
  | some x => te τ M fun y M1 => r x y M1 fun z M2 => D.nx (τ.set i (some z)) M2
  | none => False
end
/-! ### loops -/
/-- while: W by a measure -/
def sWh (c : TTt) (tb : TSt) : TSt := fun D τ M => ∃ W : Nat → Sg → MH → Prop, (∃ m, W m τ M) ∧ ∀ m τ M, W m τ M →
  c τ M fun b M1 => if b = true then tb { D with nx := fun τ' M' => ∃ m', m' < m ∧ W m' τ' M', ct := fun τ' M' => ∃ m', m' < m ∧ W m' τ' M', bk := D.nx } τ M1 else D.nx τ M1
section
variable {X : Cx} {E : XK} {Et : XT} {pos : Pos}
theorem qs_while {c : Expr} {body : List Stmt} {tc : TTt} {tb : TSt} (hp : PassesOwn (model X.prog X.w) X.A X.env X.xe) (hc : QT X E Et c tc) (hb : QSs X E Et body tb) : QS X E Et (.While c body [] pos) (sWh tc tb) := PSimp (ps_while hp hc hb) (by
  rintro D σ H ⟨G, F0, M0, τ0, Dt, a0, en0, W, ⟨m0, w0⟩, turn⟩
  refine ⟨fun m σ H => ∃ F M τ, Same F0 F ∧ At X.K E Et G F H M σ τ ∧ W m τ M, ⟨m0, F0, M0, τ0, Same.refl _, a0, w0⟩, ?_⟩
  rintro m σ H ⟨F, M, τ, s, a, hw⟩
  have en := en0.mono s
  refine ⟨G, F, M, τ, _, a, turn m τ M hw, fun b F1 H1 M1 s1 r1 q1 => ?_⟩
  cases b with
  | true =>
    rw [if_pos rfl] at q1 ⊢
    refine ⟨fun σ' H' => ∃ m', m' < m ∧ ∃ F M τ, Same F0 F ∧ At X.K E Et G F H' M σ' τ ∧ W m' τ M, fun σ' H' z => z, G, F1, M1, τ, _, a.step s1 r1, ?_, q1⟩
    exact ⟨fun F' H' M' σ' τ' s2 a2 ⟨m', hm, w'⟩ => ⟨m', hm, F', M', τ', (s.trans s1).trans s2, a2, w'⟩, (en.mono s1).rt, fun F' H' M' σ' τ' s2 a2 q => (en.mono s1).nx F' H' M' σ' τ' s2 a2 q,
      fun F' H' M' σ' τ' s2 a2 ⟨m', hm, w'⟩ => ⟨m', hm, F', M', τ', (s.trans s1).trans s2, a2, w'⟩⟩
  | false =>
    rw [if_neg Bool.false_ne_true] at q1 ⊢
    exact en.nx F1 H1 M1 σ τ s1 (a.step s1 r1) q1)
end
/-- what is walked: its items, as long as src holds -/
structure Its where
  items : List D
  src : MH → Prop
abbrev TIt := Sg → MH → (Its → MH → Prop) → Prop
/-- J walks the items: at any state in which src holds -/
structure ItOk (K : PySem.W.Frag) (F0 : Hp) (J : It) (I : Its) : Prop where
  go : ∀ i G F H M x, Same F0 F → Rel K G F H M → I.src M → I.items[i]? = some x → J.go i H
  yld : ∀ i G F H M x v H', Same F0 F → Rel K G F H M → I.src M → I.items[i]? = some x → J.yld i H v H' → ∃ F', Same F F' ∧ Rel K G F' H' M ∧ Rp K F' v x
  stop : ∀ i G F H M, Same F0 F → Rel K G F H M → I.src M → I.items.length ≤ i → J.stop i H
def liftI (K : PySem.W.Frag) (E : XK) (Et : XT) (t : TIt) : TI := fun σ H R => ∃ G F M τ Qt, At K E Et G F H M σ τ ∧ t τ M Qt ∧ ∀ J I F' H' M', Same F F' → Rel K G F' H' M' → ItOk K F' J I → Qt I M' → R J H'
abbrev QI (X : Cx) (E : XK) (Et : XT) (tg iter : Expr) (t : TIt) : Prop := PI X tg iter (liftI X.K E Et t)
def sFo (ti : TIt) (g : TGt) (tb : TSt) : TSt := fun D τ M => ti τ M fun I M1 => ∃ W : Nat → Sg → MH → Prop, W 0 τ M1 ∧ (∀ i τ M, W i τ M → I.src M) ∧
  (∀ i x τ M, I.items[i]? = some x → W i τ M → g x τ M fun τ2 M2 => tb { D with nx := W (i + 1), ct := W (i + 1), bk := D.nx } τ2 M2) ∧ ∀ τ M, W I.items.length τ M → D.nx τ M
section
variable {X : Cx} {E : XK} {Et : XT} {pos : Pos}
theorem qs_for {tg iter : Expr} {body : List Stmt} {ti : TIt} {g : TGt} {tb : TSt} (hp : PassesOwn (model X.prog X.w) X.A X.env X.xe) (hc : X.calm = true) (hi : QI X E Et tg iter ti) (hg : QG X E Et tg g) (hb : QSs X E Et body tb)
    (hs : ∀ x, foldedSetIterable iter X.env x = pure x := by intro _; rfl) : QS X E Et (.For tg iter body [] pos) (sFo ti g tb) := PSimp (ps_for hp hc hi hg hb hs) (by
  rintro D σ H ⟨G, F0, M0, τ0, Dt, a0, en0, h⟩
  refine ⟨G, F0, M0, τ0, _, a0, h, fun J I F1 H1 M1 s1 r1 ok q1 => ?_⟩
  obtain ⟨W, w0, ws, turn, done⟩ := q1
  refine ⟨fun i m σ H => m = I.items.length - i ∧ i ≤ I.items.length ∧ ∃ F M τ, Same F1 F ∧ At X.K E Et G F H M σ τ ∧ W i τ M, ⟨I.items.length, by simp, Nat.zero_le _, F1, M1, τ0, Same.refl _, a0.step s1 r1, w0⟩, ?_⟩
  rintro i m σ H ⟨rfl, hi, F, M, τ, s, a, hw⟩
  have en := en0.mono (s1.trans s)
  by_cases hlt : i < I.items.length
  · have hx : I.items[i]? = some I.items[i] := List.getElem?_eq_getElem hlt
    refine .inr ⟨ok.go i G F H M _ s a.rel (ws i τ M hw) hx, fun σ' H' => I.items.length - (i + 1) < I.items.length - i ∧ ∃ F M τ, Same F1 F ∧ At X.K E Et G F H' M σ' τ ∧ W (i + 1) τ M, fun σ' H' z => ⟨_, z.1, rfl, hlt, z.2⟩, fun v H' y => ?_⟩
    obtain ⟨F2, s2, r2, p2⟩ := ok.yld i G F H M _ v H' s a.rel (ws i τ M hw) hx y
    have hm : I.items.length - (i + 1) < I.items.length - i := by omega
    refine ⟨G, F2, M, τ, _, _, a.step s2 r2, p2, turn i _ τ M hx hw, fun F3 H3 M3 σ3 τ3 s3 a3 q3 => ?_⟩
    refine ⟨G, F3, M3, τ3, _, a3, ?_, q3⟩
    exact ⟨fun F' H' M' σ' τ' s4 a4 w' => ⟨hm, F', M', τ', ((s.trans s2).trans s3).trans s4, a4, w'⟩, (en.mono (s2.trans s3)).rt, fun F' H' M' σ' τ' s4 a4 q => (en.mono (s2.trans s3)).nx F' H' M' σ' τ' s4 a4 q,
      fun F' H' M' σ' τ' s4 a4 w' => ⟨hm, F', M', τ', ((s.trans s2).trans s3).trans s4, a4, w'⟩⟩
  · have e : i = I.items.length := by omega
    subst e
    exact .inl ⟨ok.stop _ G F H M s a.rel (ws _ τ M hw) (Nat.le_refl _), en.nx F H M σ τ (Same.refl _) a (done τ M hw)⟩)
end
/-- the items of a list that stands, frozen or not -/
def lstOf (M : MH) : D → Option (List D)
  | .lst ds => some ds
  | .scr ds => some ds
  | .ref a => match M a with
    | some (.lst ds) => some ds
    | _ => none
  | _ => none
def tupOf : D → Option (List D)
  | .tup ds => some ds
  | .tab ds => some ds
  | _ => none
section
variable {K : PySem.W.Frag}
theorem lst_of {G F H : Hp} {M : MH} {v : V} {d : D} {ds : List D} (R : Rel K G F H M) (p : Rp K F v d) (e : lstOf M d = some ds) : ∃ a vs, v = .ref a ∧ SqL K H a vs ∧ Rps K F vs ds := by
  cases p with
  | lst h r =>
    cases e
    exact ⟨_, _, rfl, SqL.of (R.sub _ _ h), r⟩
  | scr h r =>
    cases e
    exact ⟨_, _, rfl, R.sub.seq h, r⟩
  | ref a =>
    unfold lstOf at e
    cases q : M a with
    | none => simp only [q] at e; cases e
    | some o =>
      simp only [q] at e
      obtain ⟨_, u, hu, r⟩ := R.chg a o q
      cases o with
      | lst xs =>
        cases e
        cases u with
        | lst vs => exact ⟨a, vs, rfl, SqL.of hu, r⟩
        | _ => exact (r : False).elim
      | _ => cases e
  | _ => cases e
theorem tup_of {G F H : Hp} {M : MH} {v : V} {d : D} {ds : List D} (R : Rel K G F H M) (p : Rp K F v d) (e : tupOf d = some ds) : ∃ a vs, v = .ref a ∧ SqT K H a vs ∧ Rps K F vs ds := by
  cases p with
  | tup h r =>
    cases e
    exact ⟨_, _, rfl, SqT.of (R.sub _ _ h), r⟩
  | tab h r =>
    cases e
    exact ⟨_, _, rfl, SameT R.sub h, r⟩
  | _ => cases e
end
/-- for x in xs -/
def iLs (te : TEt) : TIt := fun τ M Q => te τ M fun d M1 => match lstOf M1 d with
  | some ds => Q ⟨ds, fun M => lstOf M d = some ds⟩ M1
  | none => False
def iTu (te : TEt) : TIt := fun τ M Q => te τ M fun d M1 => match tupOf d with
  | some ds => Q ⟨ds, fun _ => True⟩ M1
  | none => False
def iR1 (ta : TAt) : TIt := fun τ M Q => ta τ M fun ds M1 => match ds with
  | [.int j] => (-(2 ^ 62) ≤ j ∧ j < 2 ^ 62) ∧ Q ⟨(List.range j.toNat).map fun i => .int (i : Nat), fun _ => True⟩ M1
  | _ => False
def iR2 (ta : TAt) : TIt := fun τ M Q => ta τ M fun ds M1 => match ds with
  | [.int i, .int j] => (-(2 ^ 62) ≤ i ∧ i < 2 ^ 62 ∧ -(2 ^ 62) ≤ j ∧ j < 2 ^ 62) ∧ Q ⟨(List.range (j - i).toNat).map fun k => .int (i + (k : Nat)), fun _ => True⟩ M1
  | _ => False
theorem SqL_get {K : PySem.W.Frag} {H : Hp} {a : Addr} {vs : List V} (h : SqL K H a vs) {i : Nat} {v x : V} (hx : vs[i]? = some x) (f : ∀ xs, SqL K H a xs → xs[i]? = some v) : v = x := Option.some.inj ((f _ h).symm.trans hx)
section
variable {X : Cx} {E : XK} {Et : XT} {pos : Pos} {tg e : Expr} {te : TEt}
theorem itOk_list {K : PySem.W.Frag} {F0 : Hp} {a : Addr} {d : D} {ds : List D} (p : Rp K F0 (.ref a) d) : ItOk K F0 (Itl K a) ⟨ds, fun M => lstOf M d = some ds⟩ where
  go := fun i G F H M x s R h hx => by
    obtain ⟨b, vs, e, hs, r⟩ := lst_of R (p.mono s) h
    cases e
    obtain ⟨v, hv, _⟩ := r.getD hx
    exact ⟨vs, v, hs, hv⟩
  yld := fun i G F H M x v H' s R h hx y => by
    obtain ⟨b, vs, e, hs, r⟩ := lst_of R (p.mono s) h
    cases e
    obtain ⟨v', hv, rv⟩ := r.getD hx
    obtain ⟨rfl, f⟩ := y
    have := SqL_get hs hv f
    subst this
    exact ⟨F, Same.refl _, R, rv⟩
  stop := fun i G F H M s R h hl => by
    obtain ⟨b, vs, e, hs, r⟩ := lst_of R (p.mono s) h
    cases e
    exact ⟨vs, hs, by rw [r.length]; exact hl⟩
theorem qi_list (he : QE X E Et e te) : QI X E Et tg e (iLs te) := by
  refine ⟨fun pins s σ H R I h => (pi_list he).run pins s σ H R I ?_⟩
  obtain ⟨G, F, M, τ, Qt, a, h, k⟩ := h
  refine ⟨G, F, M, τ, _, a, h, fun v F1 H1 M1 d s1 r1 p1 q1 => ?_⟩
  cases q : lstOf M1 d with
  | none => simp only [q] at q1
  | some ds =>
    simp only [q] at q1
    obtain ⟨b, vs, rfl, hs, r⟩ := lst_of r1 p1 q
    exact ⟨b, rfl, ⟨vs, hs⟩, k _ _ F1 H1 M1 s1 r1 (itOk_list p1) q1⟩
theorem range_at {n i : Nat} {f : Nat → D} {x : D} (h : ((List.range n).map f)[i]? = some x) : i < n ∧ x = f i := by
  rw [List.getElem?_map] at h
  by_cases hi : i < n
  · rw [List.getElem?_range hi] at h
    exact ⟨hi, (Option.some.inj h).symm⟩
  · rw [List.getElem?_eq_none (by rw [List.length_range]; omega)] at h
    cases h
theorem itOk_range {K : PySem.W.Frag} {F0 : Hp} {lo : Int} {n : Nat} : ItOk K F0 (Itr lo n) ⟨(List.range n).map fun k => .int (lo + (k : Nat)), fun _ => True⟩ where
  go := fun i G F H M x s R _ hx => (range_at hx).1
  yld := fun i G F H M x v H' s R _ hx y => by
    obtain ⟨rfl, rfl⟩ := y
    obtain ⟨_, rfl⟩ := range_at hx
    exact ⟨F, Same.refl _, R, .int _⟩
  stop := fun i G F H M s R _ hl => by
    rw [List.length_map, List.length_range] at hl
    exact hl
theorem Rp.int_inv {K : PySem.W.Frag} {F : Hp} {v : V} {c : Int} (h : Rp K F v (.int c)) : v = .int c := by cases h; rfl
theorem qi_range1 {a : Expr} {ta : TAt} {p : Pos} (hm : X.mg "range" = none) (ha : QA X E Et [a] ta) (hg : Gl X "range" := by rfl) (hs : starEach [a] X.env = [(false, eval a X.env)] := by rfl) : QI X E Et tg (.Call (.Name "range" p) [a] [] pos) (iR1 ta) := by
  refine ⟨fun pins s σ H R I h => (pi_range1 hg hm ha hs).run pins s σ H R I ?_⟩
  obtain ⟨G, F, M, τ, Qt, a, h, k⟩ := h
  refine ⟨G, F, M, τ, _, a, h, fun vs F1 H1 M1 ds s1 r1 p1 q1 => ?_⟩
  match ds, p1, q1 with
  | [.int j], .cons h1 .nil, q1 =>
    cases h1
    obtain ⟨⟨b1, b2⟩, q1⟩ := q1
    refine ⟨j, rfl, b1, b2, k _ _ F1 H1 M1 s1 r1 itOk_range ?_⟩
    simpa using q1
end
end Tl
namespace Tl
open PySem PySem.Spec PyProof.Rows L2
/-! ### numbers -/
section
variable {K : PySem.W.Frag}
theorem lr2_int {C : Int → Int → Prop} {g : Int → Int → V} {gD : Int → Int → D} {r : R2t} (hg : ∀ F i j, Rp K F (g i j) (gD i j))
    (hr : ∀ x y M Q, r x y M Q → ∃ i j, x = .int i ∧ y = .int j ∧ C i j ∧ Q (gD i j) M) : ∀ x y H Q, lr2 K r x y H Q → rI C g x y H Q := by
  rintro x y H Q ⟨G, F, M, dx, dy, Qt, R, px, py, h, k⟩
  obtain ⟨i, j, rfl, rfl, c, q⟩ := hr dx dy M Qt h
  exact ⟨i, j, px.int_inv, py.int_inv, c, k _ F H M _ (Same.refl _) R (hg F i j) q⟩
theorem lr2_int0 {g : Int → Int → V} {gD : Int → Int → D} {r : R2t} (hg : ∀ F i j, Rp K F (g i j) (gD i j))
    (hr : ∀ x y M Q, r x y M Q → ∃ i j, x = .int i ∧ y = .int j ∧ Q (gD i j) M) : ∀ x y H Q, lr2 K r x y H Q → rI0 g x y H Q := by
  rintro x y H Q ⟨G, F, M, dx, dy, Qt, R, px, py, h, k⟩
  obtain ⟨i, j, rfl, rfl, q⟩ := hr dx dy M Qt h
  exact ⟨i, j, px.int_inv, py.int_inv, k _ F H M _ (Same.refl _) R (hg F i j) q⟩
end
/-- x op y on whole numbers -/
def bInt (C : Int → Int → Prop) (g : Int → Int → D) : R2t := fun x y M Q => match x, y with
  | .int i, .int j => C i j ∧ Q (g i j) M
  | _, _ => False
def bInt0 (g : Int → Int → D) : R2t := fun x y M Q => match x, y with
  | .int i, .int j => Q (g i j) M
  | _, _ => False
theorem bInt_inv {C : Int → Int → Prop} {g : Int → Int → D} : ∀ x y M Q, bInt C g x y M Q → ∃ i j, x = .int i ∧ y = .int j ∧ C i j ∧ Q (g i j) M := by
  intro x y M Q h
  cases x <;> cases y <;> first | exact ⟨_, _, rfl, rfl, h⟩ | exact (show False from h).elim
theorem bInt0_inv {g : Int → Int → D} : ∀ x y M Q, bInt0 g x y M Q → ∃ i j, x = .int i ∧ y = .int j ∧ Q (g i j) M := by
  intro x y M Q h
  cases x <;> cases y <;> first | exact ⟨_, _, rfl, rfl, h⟩ | exact (show False from h).elim
section
variable {X : Cx}
abbrev bSub : R2t := bInt0 fun i j => .int (i - j)
theorem oq_addI : OpQ X (binaryOp .Add) (bInt0 fun i j => .int (i + j)) := OpRimp op_add (lr2_int0 (fun _ _ _ => .int _) bInt0_inv)
theorem oq_sub : OpQ X (binaryOp .Sub) bSub := OpRimp op_sub (lr2_int0 (fun _ _ _ => .int _) bInt0_inv)
theorem oq_mul : OpQ X (binaryOp .Mult) (bInt CMulW fun i j => .int (i * j)) := OpRimp op_mulW (lr2_int (fun _ _ _ => .int _) bInt_inv)
theorem oq_fdiv : OpQ X (binaryOp .FloorDiv) (bInt CDivW fun i j => .int (i / j)) := OpRimp op_fdivW (lr2_int (fun _ _ _ => .int _) bInt_inv)
theorem oq_mod : OpQ X (binaryOp .Mod) (bInt (fun _ j => 0 < j) fun i j => .int (i % j)) := OpRimp op_mod (lr2_int (fun _ _ _ => .int _) bInt_inv)
theorem oq_pow : OpQ X (binaryOp .Pow) (bInt CPow fun i j => .int (i ^ j.toNat)) := OpRimp op_pow (lr2_int (fun _ _ _ => .int _) bInt_inv)
theorem oq_iaddI : OpQ X (inplaceOp .Add) (bInt0 fun i j => .int (i + j)) := OpRimp iop_add (lr2_int0 (fun _ _ _ => .int _) bInt0_inv)
theorem oq_lt : OpQ X (compareOp .Lt) (bInt0 fun i j => .bl (decide (i < j))) := OpRimp op_lt (lr2_int0 (fun _ _ _ => .bl _) bInt0_inv)
theorem oq_gt : OpQ X (compareOp .Gt) (bInt0 fun i j => .bl (decide (j < i))) := OpRimp op_gt (lr2_int0 (fun _ _ _ => .bl _) bInt0_inv)
theorem oq_ge : OpQ X (compareOp .GtE) (bInt0 fun i j => .bl (decide (j ≤ i))) := OpRimp op_ge (lr2_int0 (fun _ _ _ => .bl _) bInt0_inv)
def uNeg : R1t := fun x M Q => match x with
  | .int i => Q (.int (-i)) M
  | _ => False
theorem uq_neg : UnQ X (unaryOp .USub) uNeg := UnRimp un_neg (by
  rintro x H Q ⟨G, F, M, dx, Qt, R, px, h, k⟩
  cases dx <;> first | exact (show False from h).elim | exact ⟨_, px.int_inv, k _ F H M _ (Same.refl _) R (.int _) h⟩)
end
/-! ### == and != of scalars -/
def dScal : D → D → Option Bool
  | .non, .non => some true
  | .int i, .int j => some (decide (i = j))
  | .str x, .str y => some (decide (x = y))
  | .bl x, .bl y => some (decide (x = y))
  | .non, .int _ => some false
  | .int _, .non => some false
  | .non, .str _ => some false
  | .str _, .non => some false
  | .non, .bl _ => some false
  | .bl _, .non => some false
  | .int _, .str _ => some false
  | .str _, .int _ => some false
  | _, _ => none
def bEq : R2t := fun x y M Q => match dScal x y with
  | some b => Q (.bl b) M
  | none => False
def bNe : R2t := fun x y M Q => match dScal x y with
  | some b => Q (.bl (!b)) M
  | none => False
theorem dScal_of {K : PySem.W.Frag} {F : Hp} {v w : V} {x y : D} {b : Bool} (px : Rp K F v x) (py : Rp K F w y) (e : dScal x y = some b) : scal v w = true ∧ decide (v = w) = b := by
  cases x <;> cases y <;> first
    | (cases e; done)
    | (cases px; cases py; cases e; exact ⟨rfl, by first | rfl | (congr 1; simp)⟩)
section
variable {X : Cx}
theorem oq_eq : OpQ X (compareOp .Eq) bEq := OpRimp op_eq (by
  rintro x y H Q ⟨G, F, M, dx, dy, Qt, R, px, py, h, k⟩
  unfold bEq at h
  cases e : dScal dx dy with
  | none => simp only [e] at h
  | some b =>
    simp only [e] at h
    obtain ⟨h1, h2⟩ := dScal_of px py e
    exact ⟨h1, k _ F H M _ (Same.refl _) R (by rw [h2]; exact .bl b) h⟩)
theorem oq_ne : OpQ X (compareOp .NotEq) bNe := OpRimp op_ne (by
  rintro x y H Q ⟨G, F, M, dx, dy, Qt, R, px, py, h, k⟩
  unfold bNe at h
  cases e : dScal dx dy with
  | none => simp only [e] at h
  | some b =>
    simp only [e] at h
    obtain ⟨h1, h2⟩ := dScal_of px py e
    exact ⟨h1, k _ F H M _ (Same.refl _) R (by rw [h2]; exact .bl _) h⟩)
def isNonD : D → Bool
  | .non => true
  | _ => false
theorem isNonD_of {K : PySem.W.Frag} {F : Hp} {v : V} {x : D} (px : Rp K F v x) : decide (v = .non) = isNonD x := by
  cases px <;> rfl
def bIsN : R2t := fun x y M Q => match y with
  | .non => Q (.bl (isNonD x)) M
  | _ => False
def bNotN : R2t := fun x y M Q => match y with
  | .non => Q (.bl (!isNonD x)) M
  | _ => False
theorem oq_isN : OpQ X (compareOp .Is) bIsN := OpRimp op_isN (by
  rintro x y H Q ⟨G, F, M, dx, dy, Qt, R, px, py, h, k⟩
  cases py <;> first | exact (show False from h).elim | exact ⟨rfl, k _ F H M _ (Same.refl _) R (by rw [isNonD_of px]; exact .bl _) h⟩)
theorem oq_notN : OpQ X (compareOp .IsNot) bNotN := OpRimp op_notN (by
  rintro x y H Q ⟨G, F, M, dx, dy, Qt, R, px, py, h, k⟩
  cases py <;> first | exact (show False from h).elim | exact ⟨rfl, k _ F H M _ (Same.refl _) R (by rw [isNonD_of px]; exact .bl _) h⟩)
end
/-! ### texts, lists, tuples joined -/
def bCatS : R2t := fun x y M Q => match x, y with
  | .str a, .str b => a.length + b.length ≤ sizeLine ∧ Q (.str (a ++ b)) M
  | _, _ => False
/-- a new frozen list -/
def bCatL : R2t := fun x y M Q => match lstOf M x, lstOf M y with
  | some a, some b => a.length + b.length ≤ sizeLine ∧ Q (.lst (a ++ b)) M
  | _, _ => False
/-- a new changing list -/
def bCatM : R2t := fun x y M Q => match lstOf M x, lstOf M y with
  | some a, some b => a.length + b.length ≤ sizeLine ∧ ∀ p, M p = none → Q (.ref p) (mup M p (.lst (a ++ b)))
  | _, _ => False
section
variable {X : Cx}
/-- list + list, frozen ones too -/
def rCatR (K : PySem.W.Frag) : R2 := fun x y H Q => ∃ l b xs zs, x = .ref l ∧ y = .ref b ∧ SqL K H l xs ∧ SqL K H b zs ∧ xs.length + zs.length ≤ sizeLine ∧ ∀ p, H p = none → Q (.ref p) (upd H p (.lst (xs ++ zs)))
theorem op_catR : OpR X (binaryOp .Add) (rCatR X.K) := by
  intro pins s σ H x y v u Q I rx ry h
  obtain ⟨l, b, xs, zs, rfl, rfl, hH, hB, hz, q⟩ := h
  cases rx
  cases ry
  obtain ⟨its, r, ⟨⟨cls, dd, data, sl⟩, n, ho, hc, hdd, hd⟩, z⟩ := I.list hH
  obtain ⟨its2, r2, ⟨⟨cls2, dd2, data2, sl2⟩, n2, ho2, hc2, hdd2, hd2⟩, z2⟩ := I.list hB
  simp only at hc hd hc2 hd2
  subst hc hd hc2 hd2
  have e1 := r.length
  have e2 := r2.length
  refine PySem.concat_meets ⟨_, ho, rfl⟩ ⟨_, ho2, rfl⟩ PySem.noFill_list_add PySem.seq_list_add PySem.F.slot_list_add PySem.F.entry_list_add (PySem.F.args_list_add_2 _ _) (PyProof.Rows.list_addW l b its.toArray its2.toArray n n2 dd dd2 sl sl2 (by rw [List.size_toArray, List.size_toArray]; omega)) ⟨ho, ho2, ?_⟩
  have ea : its.toArray ++ its2.toArray = (its ++ its2).toArray := by simp
  rw [ea]
  exact ⟨.ref _, _, I.lnew (t' := s.toks) (r.append r2) (by rw [List.length_append]; omega), rfl, q _ I.fresh⟩
theorem oq_addS : OpQ X (binaryOp .Add) bCatS := OpRimp op_add_str (by
  rintro x y H Q ⟨G, F, M, dx, dy, Qt, R, px, py, h, k⟩
  cases px <;> first
    | exact (show False from h).elim
    | (cases py <;> first | exact (show False from h).elim | exact ⟨_, _, rfl, rfl, h.1, k _ F H M _ (Same.refl _) R (.str _) h.2⟩))
end
section
variable {K : PySem.W.Frag}
theorem lst_two {r : R2t} {G F H : Hp} {M : MH} {x y : V} {dx dy : D} (R : Rel K G F H M) (px : Rp K F x dx) (py : Rp K F y dy) {a b : List D} (e1 : lstOf M dx = some a) (e2 : lstOf M dy = some b) :
    ∃ l m xs zs, x = .ref l ∧ y = .ref m ∧ SqL K H l xs ∧ SqL K H m zs ∧ Rps K F xs a ∧ Rps K F zs b := by
  obtain ⟨l, xs, h1, h2, h3⟩ := lst_of R px e1
  obtain ⟨m, zs, h4, h5, h6⟩ := lst_of R py e2
  exact ⟨l, m, xs, zs, h1, h4, h2, h5, h3, h6⟩
end
section
variable {X : Cx}
theorem oq_catM : OpQ X (binaryOp .Add) bCatM := OpRimp op_catR (by
  rintro x y H Q ⟨G, F, M, dx, dy, Qt, R, px, py, h, k⟩
  unfold bCatM at h
  cases e1 : lstOf M dx with
  | none => simp only [e1] at h
  | some a =>
    cases e2 : lstOf M dy with
    | none => simp only [e1, e2] at h
    | some b =>
      simp only [e1, e2] at h
      obtain ⟨l, m, xs, zs, rfl, rfl, h2, h5, h3, h6⟩ := lst_two (r := bCatM) R px py e1 e2
      refine ⟨l, m, xs, zs, rfl, rfl, h2, h5, by rw [h3.length, h6.length]; exact h.1, fun p np => ?_⟩
      exact k _ _ _ _ _ (Same.refl _) (R.newM (u := .lst (xs ++ zs)) (o := .lst (a ++ b)) np (h3.append h6)) (.ref p) (h.2 p (R.free np).2))
end
/-! ### displays -/
/-- (a, b) -/
def tTu (t : TAt) : TEt := fun τ M Q => t τ M fun ds M1 => ds.length ≤ sizeLine ∧ Q (.tup ds) M1
/-- [a, b]: it stays as it is -/
def tLi (t : TAt) : TEt := fun τ M Q => t τ M fun ds M1 => ds.length ≤ sizeLine ∧ Q (.lst ds) M1
/-- [a, b]: it may change -/
def tLm (t : TAt) : TEt := fun τ M Q => t τ M fun ds M1 => ds.length ≤ sizeLine ∧ ∀ p, M1 p = none → Q (.ref p) (mup M1 p (.lst ds))
section
variable {X : Cx} {E : XK} {Et : XT} {es : List Expr} {t : TAt} {pos : Pos}
theorem q_tup {x1} (h : QA X E Et es t) : QE X E Et (.Tuple es x1 pos) (tTu t) := PEimp (pe_tup h) (by
  rintro σ H Q ⟨G, F, M, τ, Qt, a, h, k⟩
  refine ⟨G, F, M, τ, _, a, h, fun vs F1 H1 M1 ds s1 r1 p1 q1 => ⟨by rw [p1.length]; exact q1.1, fun p np => ?_⟩⟩
  obtain ⟨s, r⟩ := r1.newF (o := .tup vs) np
  exact k _ _ _ M1 _ (s1.trans s) r (.tup upd_same (p1.mono s)) q1.2)
theorem q_lst (h : QA X E Et es t) : QE X E Et (.List es pos) (tLi t) := PEimp (pe_lst h) (by
  rintro σ H Q ⟨G, F, M, τ, Qt, a, h, k⟩
  refine ⟨G, F, M, τ, _, a, h, fun vs F1 H1 M1 ds s1 r1 p1 q1 => ⟨by rw [p1.length]; exact q1.1, fun p np => ?_⟩⟩
  obtain ⟨s, r⟩ := r1.newF (o := .lst vs) np
  exact k _ _ _ M1 _ (s1.trans s) r (.lst upd_same (p1.mono s)) q1.2)
theorem q_lstM (h : QA X E Et es t) : QE X E Et (.List es pos) (tLm t) := PEimp (pe_lst h) (by
  rintro σ H Q ⟨G, F, M, τ, Qt, a, h, k⟩
  refine ⟨G, F, M, τ, _, a, h, fun vs F1 H1 M1 ds s1 r1 p1 q1 => ⟨by rw [p1.length]; exact q1.1, fun p np => ?_⟩⟩
  exact k _ _ _ _ _ s1 (r1.newM (u := .lst vs) (o := .lst ds) np p1) (.ref p) (q1.2 p (r1.free np).2))
end
/-! ### what is as it was, told otherwise -/
/-- at M the value d may as well be told as d' at M' -/
def ReR (K : PySem.W.Frag) (d : D) (M : MH) (d' : D) (M' : MH) : Prop := ∀ G F H v, Rel K G F H M → Rp K F v d → ∃ F', Same F F' ∧ Rel K G F' H M' ∧ Rp K F' v d'
def tRe (K : PySem.W.Frag) (t : TEt) : TEt := fun τ M Q => t τ M fun d M1 => ∃ d' M2, ReR K d M1 d' M2 ∧ Q d' M2
section
variable {K : PySem.W.Frag}
theorem ReR.refl {d : D} {M : MH} : ReR K d M d M := fun G F H v R p => ⟨F, Same.refl _, R, p⟩
theorem ReR.trans {d d1 d2 : D} {M M1 M2 : MH} (a : ReR K d M d1 M1) (b : ReR K d1 M1 d2 M2) : ReR K d M d2 M2 := fun G F H v R p => by
  obtain ⟨F1, s1, R1, p1⟩ := a G F H v R p
  obtain ⟨F2, s2, R2, p2⟩ := b G F1 H v R1 p1
  exact ⟨F2, s1.trans s2, R2, p2⟩
theorem ReR.drop {d : D} {M M' : MH} (h : ∀ a o, M' a = some o → M a = some o) : ReR K d M d M' := fun G F H v R p => ⟨F, Same.refl _, R.drop h, p⟩
theorem ReR.freeze {a : Addr} {ds : List D} {M : MH} (h : M a = some (.lst ds)) : ReR K (.ref a) M (.lst ds) (mdel M a) := fun G F H v R p => by
  obtain ⟨F', s, R', r⟩ := R.freeze h
  cases p
  exact ⟨F', s, R', r⟩
/-- the commonest: a list made here is handed back -/
theorem ReR.made {a : Addr} {ds : List D} {M : MH} (h : M a = none) : ReR K (.ref a) (mup M a (.lst ds)) (.lst ds) M := by
  have := ReR.freeze (K := K) (a := a) (ds := ds) (M := mup M a (.lst ds)) mup_same
  rw [mdel_mup h] at this
  exact this
end
section
variable {X : Cx} {E : XK} {Et : XT} {e : Expr} {t : TEt}
theorem q_re (h : QE X E Et e t) : QE X E Et e (tRe X.K t) := PEimp h (by
  rintro σ H Q ⟨G, F, M, τ, Qt, a, h, k⟩
  refine ⟨G, F, M, τ, _, a, h, fun v F1 H1 M1 d s1 r1 p1 ⟨d', M2, re, q⟩ => ?_⟩
  obtain ⟨F', s, R', p'⟩ := re G F1 H1 v r1 p1
  exact k v F' H1 M2 d' (s1.trans s) R' p' q)
end
/-- the same of all slots -/
def ReS (K : PySem.W.Frag) (τ : Sg) (M : MH) (τ' : Sg) (M' : MH) : Prop := ∀ G F H σ, Rel K G F H M → Sgr K F σ τ → ∃ F', Same F F' ∧ Rel K G F' H M' ∧ Sgr K F' σ τ'
def sRe (K : PySem.W.Frag) (u : TSt) : TSt := fun D τ M => ∃ τ' M', ReS K τ M τ' M' ∧ u D τ' M'
section
variable {X : Cx} {E : XK} {Et : XT} {sts : List Stmt} {u : TSt}
/-- slot i's list is frozen -/
theorem ReS.freeze {K : PySem.W.Frag} {τ : Sg} {M : MH} {i : Nat} {a : Addr} {ds : List D} (h : nth τ i = some (.ref a)) (hm : M a = some (.lst ds)) : ReS K τ M (τ.set i (some (.lst ds))) (mdel M a) := fun G F H σ R sg => by
  obtain ⟨F', s, R', r⟩ := R.freeze hm
  refine ⟨F', s, R', ?_⟩
  have g := sg.mono s
  obtain ⟨v, h1, h2⟩ := g.2 i _ (nth_get h)
  cases h2
  have e : σ = σ.set i (some (.ref a)) := by
    apply List.ext_getElem?
    intro j
    by_cases hij : i = j
    · subst hij
      rw [h1, List.getElem?_set_self (List.getElem?_eq_some_iff.mp h1).1]
    · rw [List.getElem?_set_ne hij]
  rw [e]
  exact g.set r
theorem ReS.drop {K : PySem.W.Frag} {τ : Sg} {M M' : MH} (h : ∀ a o, M' a = some o → M a = some o) : ReS K τ M τ M' := fun G F H σ R sg => ⟨F, Same.refl _, R.drop h, sg⟩
theorem ReS.refl {K : PySem.W.Frag} {τ : Sg} {M : MH} : ReS K τ M τ M := fun G F H σ R sg => ⟨F, Same.refl _, R, sg⟩
theorem ReS.trans {K : PySem.W.Frag} {τ τ1 τ2 : Sg} {M M1 M2 : MH} (a : ReS K τ M τ1 M1) (b : ReS K τ1 M1 τ2 M2) : ReS K τ M τ2 M2 := fun G F H v R p => by
  obtain ⟨F1, s1, R1, p1⟩ := a G F H v R p
  obtain ⟨F2, s2, R2, p2⟩ := b G F1 H v R1 p1
  exact ⟨F2, s1.trans s2, R2, p2⟩
end
/-! ### items -/
/-- x[i]: of a tuple, a list, a text -/
def bIx : R2t := fun x y M Q => match y with
  | .int i => match x with
    | .str z => z.length ≤ sizeLine ∧ match atI z.cps.toList i with
      | some c => Q (.str ⟨#[c]⟩) M
      | none => False
    | .tup ds => match atI ds i with
      | some d => Q d M
      | none => False
    | .tab ds => match atI ds i with
      | some d => Q d M
      | none => False
    | x => match lstOf M x with
      | some ds => match atI ds i with
        | some d => Q d M
        | none => False
      | none => False
  | _ => False
theorem Rps.at {K : PySem.W.Frag} {F : Hp} {vs : List V} {ds : List D} {i : Int} {d : D} (r : Rps K F vs ds) (h : atI ds i = some d) : ∃ v, atI vs i = some v ∧ Rp K F v d := by
  unfold atI at h ⊢
  rw [r.length]
  cases e : ixN ds.length i with
  | none => rw [e] at h; cases h
  | some j =>
    rw [e] at h
    exact r.getD (i := j) h
section
variable {X : Cx} {E : XK} {Et : XT} {a b : Expr} {ta tb : TEt} {pos : Pos}
theorem ixq : ∀ x y H Q, lr2 X.K bIx x y H Q → rIx X.K x y H Q := by
  rintro x y H Q ⟨G, F, M, dx, dy, Qt, R, px, py, h, k⟩
  cases py with
  | int i =>
    cases px with
    | str z =>
      obtain ⟨h1, h2⟩ := (show _ ∧ _ from h)
      cases e : atI z.cps.toList i with
      | none => rw [e] at h2; exact h2.elim
      | some c =>
        rw [e] at h2
        exact .inr (.inr ⟨z, i, c, rfl, rfl, h1, e, k _ F H M _ (Same.refl _) R (.str _) h2⟩)
    | @tup aa vs ds h0 r0 =>
      have h2 : (match atI ds i with | some d => Qt d M | none => False) := h
      cases e : atI ds i with
      | none => rw [e] at h2; exact h2.elim
      | some c =>
        rw [e] at h2
        obtain ⟨v, hv, rv⟩ := r0.at e
        exact .inr (.inl ⟨aa, vs, i, v, rfl, rfl, SqT.of (R.sub _ _ h0), hv, k _ F H M _ (Same.refl _) R rv h2⟩)
    | @tab aa vs ds h0 r0 =>
      have h2 : (match atI ds i with | some d => Qt d M | none => False) := h
      cases e : atI ds i with
      | none => rw [e] at h2; exact h2.elim
      | some c =>
        rw [e] at h2
        obtain ⟨v, hv, rv⟩ := r0.at e
        exact .inr (.inl ⟨aa, vs, i, v, rfl, rfl, SameT R.sub h0, hv, k _ F H M _ (Same.refl _) R rv h2⟩)
    | @lst aa vs ds h0 r0 =>
      have h2 : (match atI ds i with | some d => Qt d M | none => False) := h
      cases e : atI ds i with
      | none => rw [e] at h2; exact h2.elim
      | some c =>
        rw [e] at h2
        obtain ⟨v, hv, rv⟩ := r0.at e
        exact .inl ⟨aa, vs, i, v, rfl, rfl, SqL.of (R.sub _ _ h0), hv, k _ F H M _ (Same.refl _) R rv h2⟩
    | @scr aa vs ds h0 r0 =>
      have h2 : (match atI ds i with | some d => Qt d M | none => False) := h
      cases e : atI ds i with
      | none => rw [e] at h2; exact h2.elim
      | some c =>
        rw [e] at h2
        obtain ⟨v, hv, rv⟩ := r0.at e
        exact .inl ⟨aa, vs, i, v, rfl, rfl, R.sub.seq h0, hv, k _ F H M _ (Same.refl _) R rv h2⟩
    | ref aa =>
      have h2 : (match lstOf M (.ref aa) with | some ds => (match atI ds i with | some d => Qt d M | none => False) | none => False) := h
      cases q : lstOf M (.ref aa) with
      | none => rw [q] at h2; exact h2.elim
      | some ds =>
        rw [q] at h2
        obtain ⟨b, vs, eb, hs, r⟩ := lst_of R (.ref aa) q
        cases eb
        have h2 : (match atI ds i with | some d => Qt d M | none => False) := h2
        cases e : atI ds i with
        | none => rw [e] at h2; exact h2.elim
        | some c =>
          rw [e] at h2
          obtain ⟨v, hv, rv⟩ := r.at e
          exact .inl ⟨aa, vs, i, v, rfl, rfl, hs, hv, k _ F H M _ (Same.refl _) R rv h2⟩
    | _ => exact (show False from h).elim
  | _ => exact (show False from h).elim
theorem q_ix (ha : QE X E Et a ta) (hb : QE X E Et b tb) (hs : PlainIx b := by exact fun _ _ => rfl) : QE X E Et (.Subscript a b pos) (tO bIx ta tb) := PEimp (pe_ix ix_seq ha hb hs) (fun σ H Q h => by
  have := lv_op _ _ _ h
  obtain ⟨G, F, M, τ, Qt, a, h, k⟩ := this
  refine ⟨G, F, M, τ, Qt, a, h, fun v F' H' M' d s r p q => ?_⟩
  obtain ⟨G, F2, M2, τ2, Q2, a2, h2, k2⟩ := k v F' H' M' d s r p q
  exact ⟨G, F2, M2, τ2, Q2, a2, h2, fun v2 F3 H3 M3 d2 s2 r2 p2 q2 => ixq _ _ _ _ (k2 v2 F3 H3 M3 d2 s2 r2 p2 q2)⟩)
end
/-! ### slices -/
abbrev TOt := Sg → MH → (Option Int → MH → Prop) → Prop
def liftO (K : PySem.W.Frag) (E : XK) (Et : XT) (t : TOt) : TO := fun σ H Q => ∃ G F M τ Qt, At K E Et G F H M σ τ ∧ t τ M Qt ∧ ∀ b F' H' M', Same F F' → Rel K G F' H' M' → Qt b M' → Q b H'
abbrev QO (X : Cx) (E : XK) (Et : XT) (e : Option Expr) (t : TOt) : Prop := PO X e (liftO X.K E Et t)
def oNo : TOt := fun _ M Q => Q none M
def oYes (t : TEt) : TOt := fun τ M Q => t τ M fun d M1 => match d with
  | .int i => Q (some i) M1
  | _ => False
def cutD (xs : List D) (lo hi : Option Int) : List D := (xs.drop (HT.sIx xs.length 0 lo)).take (HT.sIx xs.length xs.length hi - HT.sIx xs.length 0 lo)
def tSc (r : D → Option Int → Option Int → MH → VD → Prop) (te : TEt) (tl th : TOt) : TEt := fun τ M Q => te τ M fun x M1 => tl τ M1 fun l M2 => th τ M2 fun u M3 => r x l u M3 Q
/-- of a list: a new frozen one -/
def cSlL : D → Option Int → Option Int → MH → VD → Prop := fun x lo hi M Q => match lstOf M x with
  | some ds => Q (.lst (cutD ds lo hi)) M
  | none => False
def cSlM : D → Option Int → Option Int → MH → VD → Prop := fun x lo hi M Q => match lstOf M x with
  | some ds => ∀ p, M p = none → Q (.ref p) (mup M p (.lst (cutD ds lo hi)))
  | none => False
def cSlS : D → Option Int → Option Int → MH → VD → Prop := fun x lo hi M Q => match x with
  | .str z => z.length ≤ sizeLine ∧ Q (.str (cutS z lo hi)) M
  | _ => False
theorem Rps.cut {K : PySem.W.Frag} {F : Hp} {vs : List V} {ds : List D} {lo hi : Option Int} (r : Rps K F vs ds) : Rps K F (cutV vs lo hi) (cutD ds lo hi) := by
  unfold cutV cutD
  rw [r.length]
  exact (r.drop _).take _
section
variable {X : Cx} {E : XK} {Et : XT} {e : Expr} {te : TEt} {lo hi : Option Expr} {tl th : TOt} {pos p2 : Pos}
theorem qo_none : QO X E Et none oNo := ⟨fun pins s σ H Q I h => po_none.run pins s σ H Q I (by
  obtain ⟨G, F, M, τ, Qt, a, h, k⟩ := h
  exact k none F H M (Same.refl _) a.rel h)⟩
theorem qo_some (h : QE X E Et e te) : QO X E Et (some e) (oYes te) := ⟨fun pins s σ H Q I w => (po_some h).run pins s σ H Q I (by
  obtain ⟨G, F, M, τ, Qt, a, w, k⟩ := w
  refine ⟨G, F, M, τ, _, a, w, fun v F1 H1 M1 d s1 r1 p1 q1 => ?_⟩
  cases p1 <;> first | exact (show False from q1).elim | exact ⟨_, rfl, k _ F1 H1 M1 s1 r1 q1⟩)⟩
def lSl (K : PySem.W.Frag) (r : D → Option Int → Option Int → MH → VD → Prop) : V → Option Int → Option Int → Hp → VK → Prop := fun x lo hi H Q => ∃ G F M dx Qt, Rel K G F H M ∧ Rp K F x dx ∧ r dx lo hi M Qt ∧ ∀ v F' H' M' d, Same F F' → Rel K G F' H' M' → Rp K F' v d → Qt d M' → Q v H'
theorem q_slice {r : D → Option Int → Option Int → MH → VD → Prop} {rr : V → Option Int → Option Int → Hp → VK → Prop} (hr : SlR X rr) (hi0 : ∀ x lo hi H Q, lSl X.K r x lo hi H Q → rr x lo hi H Q) (he : QE X E Et e te) (hl : QO X E Et lo tl) (hu : QO X E Et hi th) :
    QE X E Et (.Subscript e (.Slice lo hi none p2) pos) (tSc r te tl th) := PEimp (pe_slice hr he hl hu) (by
  rintro σ H Q ⟨G, F, M, τ, Qt, a, h, k⟩
  refine ⟨G, F, M, τ, _, a, h, fun v F1 H1 M1 d s1 r1 p1 q1 => ?_⟩
  refine ⟨G, F1, M1, τ, _, a.step s1 r1, q1, fun l F2 H2 M2 s2 r2 q2 => ?_⟩
  refine ⟨G, F2, M2, τ, _, a.step (s1.trans s2) r2, q2, fun u F3 H3 M3 s3 r3 q3 => hi0 _ _ _ _ _ ?_⟩
  exact ⟨G, F3, M3, d, Qt, r3, p1.mono (s2.trans s3), q3, fun v F' H' M' d s => k v F' H' M' d (((s1.trans s2).trans s3).trans s)⟩)
theorem q_sliceL (he : QE X E Et e te) (hl : QO X E Et lo tl) (hu : QO X E Et hi th) : QE X E Et (.Subscript e (.Slice lo hi none p2) pos) (tSc cSlL te tl th) := q_slice sl_list (by
  rintro x lo hi H Q ⟨G, F, M, dx, Qt, R, p, h, k⟩
  unfold cSlL at h
  cases q : lstOf M dx with
  | none => simp only [q] at h
  | some ds =>
    simp only [q] at h
    obtain ⟨b, vs, rfl, hs, r⟩ := lst_of R p q
    refine ⟨b, vs, rfl, hs, fun p np => ?_⟩
    obtain ⟨s, r1⟩ := R.newF (o := .lst (cutV vs lo hi)) np
    exact k _ _ _ M _ s r1 (.lst upd_same (r.cut.mono s)) h) he hl hu
end
end Tl
namespace Tl
open PySem PySem.Spec PyProof.Rows L2
/-! ### a def of the text -/
def begin_ (N : List Str) (ds : List D) : Sg := ds.map some ++ List.replicate (N.length - ds.length) none
theorem sg_start {K : PySem.W.Frag} {F : Hp} {N : List Str} {vs : List V} {ds : List D} (r : Rps K F vs ds) : Sgr K F (L2.start N vs) (begin_ N ds) := by
  refine ⟨by unfold L2.start begin_; rw [List.length_append, List.length_append, List.length_map, List.length_map, List.length_replicate, List.length_replicate, r.length], fun i d e => ?_⟩
  unfold begin_ at e
  unfold L2.start
  by_cases hi : i < ds.length
  · rw [List.getElem?_append_left (by rw [List.length_map]; exact hi), List.getElem?_map] at e
    rw [List.getElem?_append_left (by rw [List.length_map, r.length]; exact hi), List.getElem?_map]
    cases q : ds[i]? with
    | none => rw [q] at e; cases e
    | some x =>
      rw [q] at e
      have ex : x = d := Option.some.inj (Option.some.inj e)
      subst ex
      obtain ⟨v, h1, h2⟩ := r.getD q
      exact ⟨v, by rw [h1]; rfl, h2⟩
  · rw [List.getElem?_append_right (by rw [List.length_map]; omega)] at e
    have := List.mem_of_getElem? e
    rw [List.mem_replicate] at this
    exact absurd this.2 (by simp)
section
variable {P : Program} {w : World} {K : PySem.W.Frag} {mg : Str → Option Value} {base : Heap} {x qual : Str} {params : Arguments} {body : List Stmt} {scope : Scope} {f : Addr} {fd : FuncData} {N ps : List Str} {k : Nat} {sp : SpT}
/-- a def that raises nothing -/
theorem fn_ok (F : He.DefD) (fd : FuncData) (hF : FunD K F.name F.qual F.params F.body F.scope [] [] f fd) (S : FnScope N ps F.scope) (len : ∀ ds M Q Et, sp ds M Q Et → ds.length = ps.length)
    (hb : ∀ (cdv : Value) (A : Around) (outer : List Env) (s : Shared) (H : Hp) (E : XK), Room k (A.deeper (envOfC F.qual F.scope s.heap.objs.size f cdv)) →
      ∃ t, QSs (cxOf CX0 P w K mg base N F.qual F.scope f cdv A outer s H E).nox E0 Et0 F.body t ∧ ∀ ds M Q Et, sp ds M Q Et → t { nx := fun _ M' => Q .non M', rt := Q } (begin_ N ds) M) : FnOk P w K mg base CX0 (k + 1) f fd ps (lSp K sp) := by
  refine hF.ok S (fun vs H Q E h => ?_) fun cdv A outer s H vs Q E hr h => ?_
  · obtain ⟨G, F, M, ds, Qt, Et, R, r, _, h, _⟩ := h
    rw [r.length]
    exact len _ _ _ _ h
  · obtain ⟨t, ht, hw⟩ := hb cdv A outer s H E hr
    obtain ⟨G, F, M, ds, Qt, Et, R, r, el, h, kk⟩ := h
    refine ⟨_, PSs.nox ht, G, F, M, begin_ N ds, { nx := fun _ M' => Qt .non M', rt := Qt }, ⟨R, sg_start r, .never⟩, ?_, hw ds M Qt Et h⟩
    exact ⟨fun F' H' M' σ τ s a q => kk .non F' H' M' .non s a.rel .non q, fun F' H' M' v d s R' p q => kk v F' H' M' d s R' p q, fun _ _ _ _ _ _ _ q => q.elim, fun _ _ _ _ _ _ _ q => q.elim⟩
end
/-! ### facts of the top -/
/-- what the head tells -/
structure Top (fa : List He.Fa) (fn : List He.DefD) (K : PySem.W.Frag) (mg : Str → Option Value) : Prop where
  says : He.SaysD fa fn K
  at_ : ∃ h : Heap, K.In h ∧ h.Ns mainGlobals mg
section
variable {fa : List He.Fa} {fn : List He.DefD} {K : PySem.W.Frag} {mg : Str → Option Value}
theorem Top.glo (T : Top fa fn K mg) (i : Nat) {x : Str} (h : fa[i]? = some (.glo x) := by rfl) : mg x = some (.ref (He.ga K x)) := by
  obtain ⟨_, X, G⟩ := T.at_
  exact He.glo_ok X G (T.says.fact i h)
theorem Top.free (T : Top fa fn K mg) (i : Nat) {x : Str} (h : fa[i]? = some (.free x) := by rfl) : mg x = none := by
  obtain ⟨_, X, G⟩ := T.at_
  exact He.free_ok X G (T.says.fact i h)
theorem Top.int (T : Top fa fn K mg) (i : Nat) {x : Str} {z : Int} (h : fa[i]? = some (.int x z) := by rfl) : ∃ t, mg x = some (.int z t) := by
  obtain ⟨_, X, G⟩ := T.at_
  exact He.int_ok X G (T.says.fact i h)
theorem Top.str (T : Top fa fn K mg) (i : Nat) {x : Str} {z : Str} (h : fa[i]? = some (.str x z) := by rfl) : ∃ t, mg x = some (.str z t) := by
  obtain ⟨_, X, G⟩ := T.at_
  exact He.str_ok X G (T.says.fact i h)
end
section
variable {P : Program} {w : World} {K : PySem.W.Frag} {mg : Str → Option Value} {base : Heap} {x : Str} {N ps : List Str} {k : Nat} {sp : SpT} {fa : List He.Fa} {fn : List He.DefD}
/-- THE RULE of a def at the top, called by its name -/
theorem fn_top (T : Top fa fn K mg) (i : Nat) (d : He.DefD) (m : mg x = some (.ref (He.ga K x))) (S : FnScope N ps d.scope) (len : ∀ ds M Q Et, sp ds M Q Et → ds.length = ps.length)
    (hb : ∀ (cdv : Value) (A : Around) (outer : List Env) (s : Shared) (H : Hp) (E : XK), Room k (A.deeper (envOfC d.qual d.scope s.heap.objs.size (He.ga K x) cdv)) →
      ∃ t, QSs (cxOf CX0 P w K mg base N d.qual d.scope (He.ga K x) cdv A outer s H E).nox E0 Et0 d.body t ∧ ∀ ds M Q Et, sp ds M Q Et → t { nx := fun _ M' => Q .non M', rt := Q } (begin_ N ds) M)
    (bd : ∀ (kV doc pm : Value) (an : Option Addr) (cdv ct : Value) (us : List Value), us.length = ps.length → bindArgs (PySem.W.fnOf d.name d.qual d.params d.body d.scope .none kV doc pm an cdv ct) ⟨us, []⟩ = pure (ps.zip us))
    (h : fn[i]? = some d := by rfl) (h0 : d.dfl = [] := by rfl) (h1 : d.kwd = [] := by rfl) (hx : He.fAd K d.at_ = He.ga K x := by rfl) : Fn P w K mg base CX0 (k + 1) x sp := by
  obtain ⟨fd, F⟩ := T.says.def_ i h
  have e0 : d.dvs K = [] := by unfold He.DefD.dvs; rw [h0]; rfl
  have e1 : d.kws K = [] := by unfold He.DefD.kws; rw [h1]; rfl
  rw [e0, e1, hx] at F
  exact ⟨⟨fd, ps, fn_ok d fd F S len hb, F.bindsN bd⟩, m, F.kp⟩
end
/-! ### kinds -/
def dTy (M : MH) : D → Option String
  | .non => some "NoneType"
  | .bl _ => some "bool"
  | .int _ => some "int"
  | .str _ => some "str"
  | .tup _ => some "tuple"
  | .tab _ => some "tuple"
  | .lst _ => some "list"
  | .ref a => match M a with
    | some (.lst _) => some "list"
    | some (.dK _) => some "dict"
    | some (.dT _) => some "dict"
    | _ => none
  | _ => none
def cIsi : RLt := fun ds M Q => match ds with
  | [x, .ty T] => match dTy M x with
    | some t => match kitB t T with
      | some b => Q (.bl b) M
      | none => False
    | none => False
  | _ => False
theorem tyX_of {K : PySem.W.Frag} {G F H : Hp} {M : MH} {v : V} {x : D} {t : String} (R : Rel K G F H M) (p : Rp K F v x) (e : dTy M x = some t) : TyX K H v (.type t) := by
  cases p with
  | non => cases e; exact .base .non
  | bl b => cases e; exact .base (.bl b)
  | int i => cases e; exact .base (.int i)
  | str z => cases e; exact .base (.str z)
  | tup h r => cases e; exact .base (.tup (R.sub _ _ h))
  | lst h r => cases e; exact .base (.lst (R.sub _ _ h))
  | tab h r =>
    cases e
    rcases SameT R.sub h with (h | ⟨o, h⟩) | ⟨o, its, n, h, hc, _⟩
    · exact .base (.tup h)
    · exact .fTuple h
    · exact .kTuple h hc
  | ref a =>
    unfold dTy at e
    cases q : M a with
    | none => simp only [q] at e; cases e
    | some o =>
      simp only [q] at e
      obtain ⟨_, u, hu, r⟩ := R.chg a o q
      cases o with
      | lst xs => cases e; cases u <;> first | exact .base (.lst hu) | exact (r : False).elim
      | dK xs => cases e; cases u <;> first | exact .base (.dK hu) | exact (r : False).elim
      | dT xs => cases e; cases u <;> first | exact .base (.dT hu) | exact (r : False).elim
      | obj => cases e
      | lk => cases e
  | _ => cases e
section
variable {X : Cx}
theorem cq_isi : CallQ X (.builtin "isinstance") cIsi := CallRimp call_isi (by
  rintro xs H Q ⟨G, F, M, ds, Qt, R, r, h, k⟩
  match ds, r, h with
  | [x, .ty T], .cons h1 (.cons (.ty _) .nil), h =>
    have h : (match dTy M x with | some t => (match kitB t T with | some b => Qt (.bl b) M | none => False) | none => False) := h
    cases e : dTy M x with
    | none => rw [e] at h; exact h.elim
    | some t =>
      rw [e] at h
      have h : (match kitB t T with | some b => Qt (.bl b) M | none => False) := h
      cases e2 : kitB t T with
      | none => rw [e2] at h; exact h.elim
      | some b =>
        rw [e2] at h
        exact ⟨_, _, _, _, b, rfl, .ty T, tyX_of R h1 e, kit_ty e2, k _ F H M _ (Same.refl _) R (.bl b) h⟩)
/-- len -/
def lenOf (M : MH) : D → Option Nat
  | .str z => if z.length ≤ sizeLine then some z.length else none
  | .tup ds => some ds.length
  | .tab ds => some ds.length
  | .lst ds => some ds.length
  | .scr ds => some ds.length
  | .ref a => match M a with
    | some (.lst ds) => some ds.length
    | _ => none
  | _ => none
def cLen : RLt := fun ds M Q => match ds with
  | [x] => match lenOf M x with
    | some n => Q (.int (n : Int)) M
    | none => False
  | _ => False
theorem lenV_of {K : PySem.W.Frag} {G F H : Hp} {M : MH} {v : V} {x : D} {n : Nat} (R : Rel K G F H M) (p : Rp K F v x) (e : lenOf M x = some n) : LenV K v H n := by
  cases p with
  | str z =>
    unfold lenOf at e
    by_cases hz : z.length ≤ sizeLine
    · simp only [if_pos hz] at e; cases e; exact ⟨hz, rfl⟩
    · simp only [if_neg hz] at e; cases e
  | tup h r => cases e; exact .inr ⟨_, SqT.of (R.sub _ _ h), by rw [r.length]⟩
  | tab h r => cases e; exact .inr ⟨_, SameT R.sub h, by rw [r.length]⟩
  | lst h r => cases e; exact .inl ⟨_, SqL.of (R.sub _ _ h), by rw [r.length]⟩
  | scr h r => cases e; exact .inl ⟨_, R.sub.seq h, by rw [r.length]⟩
  | ref a =>
    unfold lenOf at e
    cases q : M a with
    | none => simp only [q] at e; cases e
    | some o =>
      simp only [q] at e
      obtain ⟨_, u, hu, r⟩ := R.chg a o q
      cases o with
      | lst xs =>
        cases e
        cases u with
        | lst vs => exact .inl ⟨vs, SqL.of hu, by rw [Rps.length (show Rps K F vs xs from r)]⟩
        | _ => exact (r : False).elim
      | _ => cases e
  | _ => cases e
theorem cq_len : CallQ X (.builtin "len") cLen := CallRimp call_len (by
  rintro xs H Q ⟨G, F, M, ds, Qt, R, r, h, k⟩
  match ds, r, h with
  | [x], .cons h1 .nil, h =>
    have h : (match lenOf M x with | some n => Qt (.int (n : Int)) M | none => False) := h
    cases e : lenOf M x with
    | none => rw [e] at h; exact h.elim
    | some n =>
      rw [e] at h
      exact ⟨_, n, rfl, lenV_of R h1 e, k _ F H M _ (Same.refl _) R (.int _) h⟩)
/-- int of an int, of a truth -/
def cInt : RLt := fun ds M Q => match ds with
  | [.int i] => Q (.int i) M
  | [.bl b] => Q (.int (if b then 1 else 0)) M
  | _ => False
theorem cq_int : CallQ X (.type "int") cInt := CallRimp call_int1 (by
  rintro xs H Q ⟨G, F, M, ds, Qt, R, r, h, k⟩
  match ds, r, h with
  | [.int i], .cons (.int _) .nil, h => exact .inl ⟨i, rfl, k _ F H M _ (Same.refl _) R (.int _) h⟩
  | [.bl b], .cons (.bl _) .nil, h => exact .inr ⟨b, rfl, k _ F H M _ (Same.refl _) R (.int _) h⟩)
end
/-! ### methods of lists -/
abbrev RMt := D → List D → MH → VD → Prop
def lMt (K : PySem.W.Frag) (r : RMt) : V → List V → Hp → VK → Prop := fun x xs H Q => ∃ G F M dx ds Qt, Rel K G F H M ∧ Rp K F x dx ∧ Rps K F xs ds ∧ r dx ds M Qt ∧ ∀ v F' H' M' d, Same F F' → Rel K G F' H' M' → Rp K F' v d → Qt d M' → Q v H'
def tMt (r : RMt) (to : TEt) (t : TAt) : TEt := fun τ M Q => to τ M fun x M1 => (lstOf M1 x).isSome = true ∧ t τ M1 fun xs M2 => r x xs M2 Q
def tMt0 (r : RMt) (to : TEt) : TEt := fun τ M Q => to τ M fun x M1 => (lstOf M1 x).isSome = true ∧ r x [] M1 Q
theorem ty_list {K : PySem.W.Frag} {G F H : Hp} {M : MH} {v : V} {x : D} (R : Rel K G F H M) (p : Rp K F v x) (e : (lstOf M x).isSome = true) : tyV K "list" v H := by
  obtain ⟨ds, e⟩ := Option.isSome_iff_exists.mp e
  obtain ⟨a, vs, rfl, h, _⟩ := lst_of R p e
  exact .inl ⟨rfl, vs, h⟩
def mAppend : RMt := fun x xs M Q => match x, xs with
  | .ref l, [y] => match M l with
    | some (.lst ds) => ds.length < sizeLine ∧ Q .non (mup M l (.lst (ds ++ [y])))
    | _ => False
  | _, _ => False
section
variable {X : Cx} {E : XK} {Et : XT} {o e : Expr} {es : List Expr} {to : TEt} {t : TAt} {apos cpos : Pos} {name : Str} {id : String} {r : RMt} {rr : V → List V → Hp → VK → Prop}
theorem lv_bm (hi : ∀ x xs H Q, lMt X.K r x xs H Q → rr x xs H Q) : ∀ σ H Q, liftE X.K E Et (tMt r to t) σ H Q → tBM X.K "list" rr (liftE X.K E Et to) (liftA X.K E Et t) σ H Q := by
  rintro σ H Q ⟨G, F, M, τ, Qt, a, h, k⟩
  refine ⟨G, F, M, τ, _, a, h, fun v F1 H1 M1 d s1 r1 p1 q1 => ⟨ty_list r1 p1 q1.1, ?_⟩⟩
  refine ⟨G, F1, M1, τ, _, a.step s1 r1, q1.2, fun vs F2 H2 M2 ds s2 r2 p2 q2 => hi _ _ _ _ ?_⟩
  exact ⟨G, F2, M2, d, ds, Qt, r2, p1.mono s2, p2, q2, fun v F' H' M' d s => k v F' H' M' d ((s1.trans s2).trans s)⟩
theorem lv_bm0 (hi : ∀ x xs H Q, lMt X.K r x xs H Q → rr x xs H Q) : ∀ σ H Q, liftE X.K E Et (tMt0 r to) σ H Q → tBM0 X.K "list" rr (liftE X.K E Et to) σ H Q := by
  rintro σ H Q ⟨G, F, M, τ, Qt, a, h, k⟩
  refine ⟨G, F, M, τ, _, a, h, fun v F1 H1 M1 d s1 r1 p1 q1 => ⟨ty_list r1 p1 q1.1, hi _ _ _ _ ?_⟩⟩
  exact ⟨G, F1, M1, d, [], Qt, r1, p1, .nil, q1.2, fun v F' H' M' d s => k v F' H' M' d (s1.trans s)⟩
theorem q_append (ho : QE X E Et o to) (ha : QA X E Et (e :: es) t)
    (hbase : attributeBase o "append" X.env (eval o X.env) = eval o X.env := by rfl)
    (hfew : ((backTo cpos (starEach (e :: es) X.env)).all (fun x => !x.1) && (backToKw cpos (keywordEach [] X.env)).all (fun x => x.1.isSome)
      && decide ((e :: es).length + ([] : List Keyword).length + (if ([] : List Keyword).isEmpty then 0 else 1) < 30)) = true := by rfl)
    (hline : (apos.endLine == cpos.line) = true := by rfl) (hs : starEach (e :: es) X.env = (false, eval e X.env) :: starEach es X.env := by rfl) (hplain : (backTo cpos (starEach es X.env)).any (·.1) = false := by rfl) :
    QE X E Et (.Call (.Attribute o "append" apos) (e :: es) [] cpos) (tMt mAppend to t) :=
  PEimp (pe_bm PySem.F.plainAttrs_list PySem.F.slot_list_append PySem.F.type_list_append mt_append ho ha hbase hfew hline hs hplain) (lv_bm (by
    rintro x xs H Q ⟨G, F, M, dx, ds, Qt, R, p, ps, h, k⟩
    match dx, ds, p, ps, h with
    | .ref l, [y], .ref _, .cons py .nil, h =>
      have h : (match M l with | some (.lst ds) => ds.length < sizeLine ∧ Qt .non (mup M l (.lst (ds ++ [y]))) | _ => False) := h
      cases q : M l with
      | none => simp only [q] at h
      | some mo =>
        cases mo with
        | lst ds =>
          simp only [q] at h
          obtain ⟨_, u, hu, r⟩ := R.chg l _ q
          cases u with
          | lst vs =>
            have r : Rps X.K F vs ds := r
            refine ⟨l, vs, _, rfl, rfl, hu, by rw [r.length]; exact h.1, ?_⟩
            exact k .non F _ _ .non (Same.refl _) (R.put (u := .lst (vs ++ [_])) (o := .lst (ds ++ [y])) q (r.append (.cons py .nil))) .non h.2
          | _ => exact (r : False).elim
        | _ => simp only [q] at h))
end
/-! ### comprehensions -/
def wip (τ : Sg) : List Nat → Sg
  | [] => τ
  | v :: vs => (wip τ vs).set v none
theorem sg_wipe {K : PySem.W.Frag} {F : Hp} {σ : L2.St} {τ : Sg} (h : Sgr K F σ τ) : ∀ vs : List Nat, Sgr K F (wipe σ vs) (wip τ vs)
  | [] => h
  | v :: vs => by
    have := (sg_wipe h vs).unset (i := v)
    unfold wip wipe
    exact this
abbrev QTs (X : Cx) (E : XK) (Et : XT) (es : List Expr) (t : TTt) : Prop := PTs X es (liftT X.K E Et t)
def tYe : TTt := fun _ M Q => Q true M
theorem qts_nil {X : Cx} {E : XK} {Et : XT} : QTs X E Et [] tYe := ⟨fun pins s σ H Q I h => pts_nil.run pins s σ H Q I (by
  obtain ⟨G, F, M, τ, Qt, a, h, k⟩ := h
  exact k true F H M (Same.refl _) a.rel h)⟩
theorem qts_one {X : Cx} {E : XK} {Et : XT} {c : Expr} {t : TTt} (h : QT X E Et c t) : QTs X E Et [c] t := pts_one h
/-- [elt for target in iter if ..], frozen: W by the turn and what is made so far; block slots vs; own: σ2 wipes as σ -/
def tLcF (ti : TIt) (g : TGt) (tt : TTt) (te : TEt) (vs : List Nat) : TEt := fun τ M Q => ti τ M fun I M1 => I.items.length < sizeLine ∧ ∃ W : Nat → List D → MH → Prop, W 0 [] M1 ∧ (∀ i acc M, W i acc M → I.src M ∧ acc.length ≤ i) ∧
  (∀ i x acc M, I.items[i]? = some x → W i acc M → g x (wip τ vs) M fun τ2 M2 => tt τ2 M2 fun b M3 => if b = true then te τ2 M3 fun y M4 => W (i + 1) (acc ++ [y]) M4 else W (i + 1) acc M3) ∧ ∀ acc M, W I.items.length acc M → Q (.lst acc) M
theorem wipe_get (σ : L2.St) : ∀ (vs : List Nat) (i : Nat), (wipe σ vs)[i]? = if i ∈ vs then (σ[i]?).map (fun _ => none) else σ[i]?
  | [], i => by rw [if_neg (by simp)]; rfl
  | v :: vs, i => by
    unfold wipe
    by_cases hv : v = i
    · subst hv
      rw [if_pos (List.mem_cons_self ..)]
      by_cases hl : v < σ.length
      · rw [List.getElem?_set_self (by rw [wipe_length]; exact hl), List.getElem?_eq_getElem hl]
        rfl
      · rw [List.getElem?_eq_none (by rw [List.length_set, wipe_length]; omega), List.getElem?_eq_none (by omega)]
        rfl
    · rw [List.getElem?_set_ne hv, wipe_get σ vs i]
      by_cases hm : i ∈ vs
      · rw [if_pos hm, if_pos (List.mem_cons_of_mem _ hm)]
      · rw [if_neg hm, if_neg (fun q => by
          rcases List.mem_cons.mp q with q | q
          · exact hv q.symm
          · exact hm q)]
theorem wipe_set {σ : L2.St} {vs : List Nat} {j : Nat} {x : Option V} (h : j ∈ vs) : wipe (σ.set j x) vs = wipe σ vs := by
  apply List.ext_getElem?
  intro i
  rw [wipe_get, wipe_get]
  by_cases hm : i ∈ vs
  · rw [if_pos hm, if_pos hm]
    by_cases hij : j = i
    · subst hij
      by_cases hl : j < σ.length
      · rw [List.getElem?_set_self hl, List.getElem?_eq_getElem hl]
        rfl
      · rw [List.getElem?_eq_none (by rw [List.length_set]; omega), List.getElem?_eq_none (by omega)]
    · rw [List.getElem?_set_ne hij]
  · rw [if_neg hm, if_neg hm, List.getElem?_set_ne (fun q => hm (by rw [← q]; exact h))]
theorem wipe_wipe (σ : L2.St) (vs : List Nat) : wipe (wipe σ vs) vs = wipe σ vs := by
  apply List.ext_getElem?
  intro i
  rw [wipe_get]
  by_cases hm : i ∈ vs
  · rw [if_pos hm, wipe_get, if_pos hm]
    cases σ[i]? <;> rfl
  · rw [if_neg hm]
/-- a target whose stores are the block's own -/
structure GOwn (K : PySem.W.Frag) (g : TG) (gt : TGt) (vs : List Nat) : Prop where
  lift : ∀ {G F H M σ τ v d Q Qt}, At K E0 Et0 G F H M σ τ → Rp K F v d → gt d τ M Qt →
    (∀ F' H' M' σ' τ', Same F F' → At K E0 Et0 G F' H' M' σ' τ' → wipe σ' vs = wipe σ vs → Qt τ' M' → Q σ' H') → g v σ H Q
structure GOwns (K : PySem.W.Frag) (g : TGs) (gt : TGst) (vs : List Nat) : Prop where
  lift : ∀ {G F H M σ τ v d Q Qt}, At K E0 Et0 G F H M σ τ → Rps K F v d → gt d τ M Qt →
    (∀ F' H' M' σ' τ', Same F F' → At K E0 Et0 G F' H' M' σ' τ' → wipe σ' vs = wipe σ vs → Qt τ' M' → Q σ' H') → g v σ H Q
section
variable {K : PySem.W.Frag} {vs : List Nat}
theorem go_name {j : Nat} (h : j ∈ vs := by decide) : GOwn K (gName j) (gN j) vs := ⟨fun {G F H M σ τ v d Q Qt} a p q k => k F H M _ _ (Same.refl _) (a.store p) (wipe_set h) q⟩
theorem gos_nil : GOwns K gNil gNl vs := ⟨fun {G F H M σ τ v d Q Qt} a p q k => by
  cases p with
  | nil => exact ⟨rfl, k F H M _ _ (Same.refl _) a rfl q⟩
  | cons _ _ => exact (show False from q).elim⟩
theorem gos_cons {g : TG} {gt : TGt} {gs : TGs} {gts : TGst} (h1 : GOwn K g gt vs) (h2 : GOwns K gs gts vs) : GOwns K (gCons g gs) (gCs gt gts) vs := ⟨fun {G F H M σ τ v d Q Qt} a p q k => by
  cases p with
  | nil => exact (show False from q).elim
  | cons p1 p2 => exact ⟨_, _, rfl, h1.lift a p1 q fun F1 H1 M1 σ1 τ1 s1 a1 e1 q1 => h2.lift a1 (p2.mono s1) q1 fun F' H' M' σ' τ' s a' e q' => k F' H' M' σ' τ' (s1.trans s) a' (e.trans e1) q'⟩⟩
theorem go_tup {n : Nat} {gs : TGs} {gts : TGst} (h : GOwns K gs gts vs) : GOwn K (gTup K n gs) (gTp n gts) vs := ⟨fun {G F H M σ τ v d Q Qt} a p q k => by
  cases p with
  | tup h0 r0 => exact ⟨_, _, rfl, SqT.of (a.rel.sub _ _ h0), by rw [r0.length]; exact q.1, h.lift a r0 q.2 k⟩
  | _ => exact (show False from q).elim⟩
end
section
variable {X : Cx} {E : XK} {Et : XT} {elt tg iter : Expr} {ifs : List Expr} {scope : Scope} {own : List (Str × Nat)} {pos : Pos} {ti : TIt} {g : TG} {gt : TGt} {tt : TTt} {te : TEt}
/-- what a comprehension's reading asks of the layer below; show_: what is told of the new list -/
theorem lv_lc {vs : List Nat} (go : GOwn X.K g gt vs) {R : List D → MH → V → Hp → Prop} {σ : L2.St} {H : Hp} {Q : VK} {G F : Hp} {M : MH} {τ : Sg} {Qt : VD} (a : At X.K E Et G F H M σ τ) (h : tLcF ti gt tt te vs τ M Qt)
    (k : ∀ (F' H' : Hp) (M' : MH) (p : Addr) (vacc : List V) (acc : List D), Same F F' → Rel X.K (upd G p (.lst vacc)) F' H' M' → G p = none → Rps X.K F' vacc acc → Qt (.lst acc) M' → Q (.ref p) H') :
    tLc (liftI X.K E Et ti) g (liftT X.K E0 Et0 tt) (liftE X.K E0 Et0 te) vs σ H Q := by
  refine ⟨G, F, M, τ, _, a, h, fun J I F1 H1 M1 s1 r1 ok q1 => ?_⟩
  obtain ⟨hz, W, w0, ws, turn, done⟩ := q1
  intro Dl hD
  have hG : G Dl = none := r1.freeG hD
  refine ⟨fun i m H => m = I.items.length - i ∧ i ≤ I.items.length ∧ ∃ F' M' vacc acc, Same F1 F' ∧ Rel X.K (upd G Dl (.lst vacc)) F' H M' ∧ Rps X.K F' vacc acc ∧ W i acc M', ⟨_, rfl, Nat.zero_le _, F1, M1, [], [], Same.refl _, r1.newG hD, .nil, w0⟩, ?_⟩
  rintro i m H2 ⟨rfl, hi, F2, M2, vacc, acc, s2, r2, p2, hw⟩
  obtain ⟨hsrc, hlen⟩ := ws i acc M2 hw
  by_cases hlt : i < I.items.length
  · have hx : I.items[i]? = some I.items[i] := List.getElem?_eq_getElem hlt
    refine .inr ⟨ok.go i _ F2 H2 M2 _ s2 r2 hsrc hx, fun H' => ∃ F' M' vacc acc, Same F1 F' ∧ Rel X.K (upd G Dl (.lst vacc)) F' H' M' ∧ Rps X.K F' vacc acc ∧ W (i + 1) acc M', fun H' z => ⟨I.items.length - (i + 1), by omega, rfl, hlt, z⟩, fun v H3 y => ?_⟩
    obtain ⟨F3, s3, r3, p3⟩ := ok.yld i _ F2 H2 M2 _ v H3 s2 r2 hsrc hx y
    have a3 : At X.K E0 Et0 (upd G Dl (.lst vacc)) F3 H3 M2 (wipe σ vs) (wip τ vs) := ⟨r3, sg_wipe (a.sg.mono ((s1.trans s2).trans s3)) vs, .never⟩
    refine go.lift a3 p3 (turn i _ acc M2 hx hw) fun F4 H4 M4 σ4 τ4 s4 a4 e4 q4 => ⟨e4.trans (wipe_wipe σ vs), ?_⟩
    refine ⟨_, F4, M4, τ4, _, a4, q4, fun b F5 H5 M5 s5 r5 q5 => ?_⟩
    cases b with
    | true =>
      rw [if_pos rfl] at q5 ⊢
      refine ⟨_, F5, M5, τ4, _, a4.step s5 r5, q5, fun y F6 H6 M6 d s6 r6 p6 q6 => ?_⟩
      refine ⟨vacc, (r6.hid Dl _ upd_same).1, by rw [p2.length]; omega, F6, M6, vacc ++ [y], acc ++ [d], ((((s2.trans s3).trans s4).trans s5).trans s6), r6.putG, (p2.mono (((s3.trans s4).trans s5).trans s6)).append (.cons p6 .nil), q6⟩
    | false =>
      rw [if_neg Bool.false_ne_true] at q5 ⊢
      exact ⟨F5, M5, vacc, acc, ((s2.trans s3).trans s4).trans s5, r5, p2.mono ((s3.trans s4).trans s5), q5⟩
  · have e : i = I.items.length := by omega
    subst e
    exact .inl ⟨ok.stop _ _ F2 H2 M2 s2 r2 hsrc (Nat.le_refl _), k F2 H2 M2 Dl vacc acc (s1.trans s2) r2 hG p2 (done acc M2 hw)⟩
theorem lv_lcF {vs : List Nat} (go : GOwn X.K g gt vs) : ∀ σ H Q, liftE X.K E Et (tLcF ti gt tt te vs) σ H Q → tLc (liftI X.K E Et ti) g (liftT X.K E0 Et0 tt) (liftE X.K E0 Et0 te) vs σ H Q := by
  rintro σ H Q ⟨G, F, M, τ, Qt, a, h, k⟩
  refine lv_lc (R := fun _ _ _ _ => True) go a h fun F' H' M' p vacc acc s r hg ps q => ?_
  obtain ⟨s2, r2⟩ := r.showF hg
  exact k _ _ H' M' _ (s.trans s2) r2 (.lst upd_same (ps.mono s2)) q
/-- a changing list -/
def tLcV (ti : TIt) (g : TGt) (tt : TTt) (te : TEt) (vs : List Nat) : TEt := fun τ M Q => tLcF ti g tt te vs τ M fun d M1 => match d with
  | .lst acc => ∀ p, M1 p = none → Q (.ref p) (mup M1 p (.lst acc))
  | _ => False
theorem lv_lcV {vs : List Nat} (go : GOwn X.K g gt vs) : ∀ σ H Q, liftE X.K E Et (tLcV ti gt tt te vs) σ H Q → tLc (liftI X.K E Et ti) g (liftT X.K E0 Et0 tt) (liftE X.K E0 Et0 te) vs σ H Q := by
  rintro σ H Q ⟨G, F, M, τ, Qt, a, h, k⟩
  refine lv_lc (R := fun _ _ _ _ => True) go a h fun F' H' M' p vacc acc s r hg ps q => ?_
  have hm : M' p = none := (r.hid p _ upd_same).2.2
  exact k _ F' H' _ _ s (r.showM (u := .lst vacc) (o := .lst acc) hg ps) (.ref p) (q p hm)
theorem q_lc (hc : X.calm = true) (hN : X.N.Nodup) (hi : QI X E Et tg iter ti) (ok : BlkOk X.N X.env.scope scope own) (go : GOwn X.K g gt (own.map (·.2)))
    (hg : ∀ (s : Shared) (H : Hp) (C : Addr) (cl : List (Str × Addr)) (fp : List Addr), PG (X.blk s H scope (compEnvC scope cl C X.env) fp) tg g) (ht : ∀ (s : Shared) (H : Hp) (C : Addr) (cl : List (Str × Addr)) (fp : List Addr), QTs (X.blk s H scope (compEnvC scope cl C X.env) fp) E0 Et0 ifs tt)
    (he : ∀ (s : Shared) (H : Hp) (C : Addr) (cl : List (Str × Addr)) (fp : List Addr), QE (X.blk s H scope (compEnvC scope cl C X.env) fp) E0 Et0 elt te) (hs : ∀ x, foldedSetIterable iter X.env x = pure x := by intro _; rfl) :
    QE X E Et (.ListComp elt [⟨tg, iter, ifs, 0⟩] scope pos) (tLcF ti gt tt te (own.map (·.2))) := PEimp (pe_lc hc hN hi ok hg ht he hs) (lv_lcF go)
theorem q_lcV (hc : X.calm = true) (hN : X.N.Nodup) (hi : QI X E Et tg iter ti) (ok : BlkOk X.N X.env.scope scope own) (go : GOwn X.K g gt (own.map (·.2)))
    (hg : ∀ (s : Shared) (H : Hp) (C : Addr) (cl : List (Str × Addr)) (fp : List Addr), PG (X.blk s H scope (compEnvC scope cl C X.env) fp) tg g) (ht : ∀ (s : Shared) (H : Hp) (C : Addr) (cl : List (Str × Addr)) (fp : List Addr), QTs (X.blk s H scope (compEnvC scope cl C X.env) fp) E0 Et0 ifs tt)
    (he : ∀ (s : Shared) (H : Hp) (C : Addr) (cl : List (Str × Addr)) (fp : List Addr), QE (X.blk s H scope (compEnvC scope cl C X.env) fp) E0 Et0 elt te) (hs : ∀ x, foldedSetIterable iter X.env x = pure x := by intro _; rfl) :
    QE X E Et (.ListComp elt [⟨tg, iter, ifs, 0⟩] scope pos) (tLcV ti gt tt te (own.map (·.2))) := PEimp (pe_lc hc hN hi ok hg ht he hs) (lv_lcV go)
/-- x = [..] -/
theorem qs_setLc {i : Nat} {y : Str} {py spos : Pos} {tl : TEt} (lv : ∀ σ H Q, liftE X.K E Et tl σ H Q → tLc (liftI X.K E Et ti) g (liftT X.K E0 Et0 tt) (liftE X.K E0 Et0 te) (own.map (·.2)) σ H Q) (hc : X.calm = true) (hN : X.N.Nodup) (hi : QI X E Et tg iter ti) (ok : BlkOk X.N X.env.scope scope own)
    (hg : ∀ (s : Shared) (H : Hp) (C : Addr) (cl : List (Str × Addr)) (fp : List Addr), PG (X.blk s H scope (compEnvC scope cl C X.env) fp) tg g) (ht : ∀ (s : Shared) (H : Hp) (C : Addr) (cl : List (Str × Addr)) (fp : List Addr), QTs (X.blk s H scope (compEnvC scope cl C X.env) fp) E0 Et0 ifs tt)
    (he : ∀ (s : Shared) (H : Hp) (C : Addr) (cl : List (Str × Addr)) (fp : List Addr), QE (X.blk s H scope (compEnvC scope cl C X.env) fp) E0 Et0 elt te)
    (hsw : swapsWith (.ListComp elt [⟨tg, iter, ifs, 0⟩] scope pos) (some (.Name y py)) spos.line X.env = pure true) (hy : X.N[i]? = some y := by rfl) (hyl : X.env.scope.names.lookup y = some .local := by rfl) (hs : ∀ x, foldedSetIterable iter X.env x = pure x := by intro _; rfl) :
    QS X E Et (.Assign [.Name y py] (.ListComp elt [⟨tg, iter, ifs, 0⟩] scope pos) spos) (sAs tl (gN i)) := PSimp (ps_setLc hc hN hy hyl hsw hi ok hg ht he hs) (by
  rintro D σ H ⟨G, F, M, τ, Dt, a, en, h⟩
  refine lv _ _ _ ⟨G, F, M, τ, _, a, h, fun v F1 H1 M1 d s1 r1 p1 q1 => ?_⟩
  exact en.nx F1 H1 M1 _ _ s1 ((a.step s1 r1).store p1) q1)
end
/-! ### the law's end -/
def spLaw : SpT := fun ds M Q _ => ∃ ns : List Int, ds = [.scr (ns.map D.int)] ∧ ns.length ≤ 63 ∧ ∀ M', Q (.bl true) M'
theorem rps_ints {K : PySem.W.Frag} {F : Hp} : ∀ ns : List Int, Rps K F (ns.map V.int) (ns.map D.int)
  | [] => .nil
  | n :: ns => .cons (.int n) (rps_ints ns)
theorem end_sp {K : PySem.W.Frag} {sp : SpT} {H : Hp} {a : Addr} {ns : List Int} (hS : SqL K H a (ns.map V.int)) (h : sp [.scr (ns.map D.int)] (fun _ => none) (fun d _ => d = .bl true) Et0) :
    lSp K sp [.ref a] H (fun v _ => v = .bl true) fun _ _ _ => False :=
  ⟨fun _ => none, H, fun _ => none, _, _, Et0, ⟨Same.refl _, fun _ _ e => (nomatch (show (none : Option MO) = some _ from e)), fun _ _ e => (nomatch (show (none : Option HO) = some _ from e)), fun _ _ e => (nomatch (show (none : Option HO) = some _ from e))⟩, .cons (.scr hS (rps_ints ns)) .nil, .never, h, fun v F' H' M' d _ _ p q => by
    subst q
    exact p.bl_inv⟩
end Tl
namespace Tl
open PySem PySem.Spec PyProof.Rows L2
theorem kit_ii : kitB "int" "int" = some true := by decide +kernel
theorem kit_ib : kitB "int" "bool" = some false := by decide +kernel
theorem kit_bi : kitB "bool" "int" = some true := by decide +kernel
theorem kit_bb : kitB "bool" "bool" = some true := by decide +kernel
theorem kit_si : kitB "str" "int" = some false := by decide +kernel
theorem kit_ss : kitB "str" "str" = some true := by decide +kernel
theorem kit_is : kitB "int" "str" = some false := by decide +kernel
theorem kit_tt : kitB "tuple" "tuple" = some true := by decide +kernel
theorem kit_ll : kitB "list" "list" = some true := by decide +kernel
theorem kit_lt : kitB "list" "tuple" = some false := by decide +kernel
theorem kit_tl : kitB "tuple" "list" = some false := by decide +kernel
theorem kit_ts : kitB "tuple" "str" = some false := by decide +kernel
theorem kit_ls : kitB "list" "str" = some false := by decide +kernel
theorem kit_sl : kitB "str" "list" = some false := by decide +kernel
theorem kit_st : kitB "str" "tuple" = some false := by decide +kernel
theorem kit_it : kitB "int" "tuple" = some false := by decide +kernel
theorem kit_il : kitB "int" "list" = some false := by decide +kernel
theorem kit_dd : kitB "dict" "dict" = some true := by decide +kernel
theorem kit_ni : kitB "NoneType" "int" = some false := by decide +kernel
theorem kit_nb : kitB "NoneType" "bool" = some false := by decide +kernel
/-! ### written things, however many -/
def lit : Expr → Option D
  | .Constant (.int i) _ _ => some (.int i)
  | .Constant (.str x) _ _ => some (.str x)
  | .Constant (.bool b) _ _ => some (.bl b)
  | .Constant .none _ _ => some .non
  | .UnaryOp .USub (.Constant (.int i) _ _) _ => some (.int (-i))
  | _ => none
def litAll : List Expr → Option (List D)
  | [] => some []
  | e :: es => match lit e with
    | some d => match litAll es with
      | some ds => some (d :: ds)
      | none => none
    | none => none
def tLt (ds : List D) : TAt := fun _ M Q => Q ds M
section
variable {X : Cx} {E : XK} {Et : XT}
theorem q_lit {e : Expr} {d : D} (h : lit e = some d) : QE X E Et e (tK d) := by
  unfold lit at h
  split at h
  · cases h; exact q_int
  · cases h; exact q_str
  · cases h; exact q_bl
  · cases h; exact q_non
  · cases h
    exact PEimp (q_un uq_neg q_int) (fun σ H Q h => h)
  · cases h
theorem lit_star {e : Expr} {es : List Expr} {d : D} {env : Env} (h : lit e = some d) : starEach (e :: es) env = (false, eval e env) :: starEach es env := by
  unfold lit at h
  split at h <;> first | rfl | cases h
theorem qa_lits : ∀ {es : List Expr} {ds : List D}, litAll es = some ds → QA X E Et es (tLt ds)
  | [], ds, h => by
    cases h
    exact qa_nil
  | e :: es, ds, h => by
    unfold litAll at h
    cases h1 : lit e with
    | none => simp only [h1] at h; cases h
    | some d =>
      simp only [h1] at h
      cases h2 : litAll es with
      | none => simp only [h2] at h; cases h
      | some ds' =>
        simp only [h2] at h
        cases h
        exact PAimp (qa_cons (q_lit h1) (qa_lits h2) (lit_star h1)) (fun σ H Q h => h)
end
end Tl
namespace Tl
open PySem PySem.Spec PyProof.Rows L2
/-! ### // and % by any divisor, divmod -/
def CDivZ (_ j : Int) : Prop := j ≠ 0 ∧ j.natAbs.log2 < 9000
theorem divz_40 {i j : Int} (h : j ≠ 0) (hb : j.natAbs < 2 ^ 40) : CDivZ i j := ⟨h, Nat.lt_of_lt_of_le (PySem.Flt.log2_lt_of (by decide) hb) (by decide)⟩
section
variable {X : Cx}
theorem call_divmodZ : CallR X (.builtin "divmod") (fun xs H Q => ∃ i j, xs = [.int i, .int j] ∧ CDivZ i j ∧ ∀ p, H p = none → Q (.ref p) (upd H p (.tup [.int (i.fdiv j), .int (i.fmod j)]))) := by
  intro pins s σ H xs us Q I r h
  obtain ⟨i, j, rfl, ⟨h1, h2⟩, q⟩ := h
  obtain ⟨u, w', rfl, ⟨t, rfl⟩, ⟨t', rfl⟩⟩ := vals2 r
  refine divmod_int h1 ?_ (.inl (PyProof.noPylong_of_log2 h2))
  have hn : H s.heap.objs.size = none := I.hok.fresh (Nat.le_refl _)
  refine ⟨.ref s.heap.objs.size, _, ?_, rfl, q _ hn⟩
  refine I.laid (fun b o e => Heap.get?_push_of_some _ e) (Nat.le_refl _) ⟨by simp only [List.length_cons, List.length_nil]; rw [sizeLine_eq]; decide, [.int (i.fdiv j) s.toks, .int (i.fmod j) (s.toks + 1)], .cons ⟨_, rfl⟩ (.cons ⟨_, rfl⟩ .nil), ?_⟩
  exact ⟨_, Heap.get?_push_size s.heap rfl, rfl, 0, rfl⟩
def cDivmod : RLt := fun ds M Q => match ds with
  | [.int i, .int j] => CDivZ i j ∧ Q (.tup [.int (i.fdiv j), .int (i.fmod j)]) M
  | _ => False
theorem cq_divmod : CallQ X (.builtin "divmod") cDivmod := CallRimp call_divmodZ (by
  rintro xs H Q ⟨G, F, M, ds, Qt, R, r, h, k⟩
  match ds, r, h with
  | [.int i, .int j], .cons (.int _) (.cons (.int _) .nil), h =>
    refine ⟨i, j, rfl, h.1, fun p np => ?_⟩
    obtain ⟨s, r1⟩ := R.newF (o := .tup [.int (i.fdiv j), .int (i.fmod j)]) np
    exact k _ _ _ M _ s r1 (.tup upd_same (.cons (.int _) (.cons (.int _) .nil))) h.2)
/-! ### list(x), sum, max, min, all, any -/
/-- the items of a list or a tuple -/
def seqOf (M : MH) (d : D) : Option (List D) := match tupOf d with
  | some ds => some ds
  | none => lstOf M d
theorem seq_of {K : PySem.W.Frag} {G F H : Hp} {M : MH} {v : V} {d : D} {ds : List D} (R : Rel K G F H M) (p : Rp K F v d) (e : seqOf M d = some ds) : ∃ a vs, v = .ref a ∧ (SqL K H a vs ∨ SqT K H a vs) ∧ Rps K F vs ds := by
  unfold seqOf at e
  cases q : tupOf d with
  | some es =>
    rw [q] at e
    cases e
    obtain ⟨a, vs, h1, h2, h3⟩ := tup_of R p q
    exact ⟨a, vs, h1, .inr h2, h3⟩
  | none =>
    rw [q] at e
    obtain ⟨a, vs, h1, h2, h3⟩ := lst_of R p e
    exact ⟨a, vs, h1, .inl h2, h3⟩
def cList : RLt := fun ds M Q => match ds with
  | [x] => match seqOf M x with
    | some es => Q (.lst es) M
    | none => False
  | _ => False
def cListM : RLt := fun ds M Q => match ds with
  | [x] => match seqOf M x with
    | some es => ∀ p, M p = none → Q (.ref p) (mup M p (.lst es))
    | none => False
  | _ => False
theorem cq_list : CallQ X (.type "list") cList := CallRimp call_list_of (by
  rintro xs H Q ⟨G, F, M, ds, Qt, R, r, h, k⟩
  match ds, r, h with
  | [x], .cons h1 .nil, h =>
    have h : (match seqOf M x with | some es => Qt (.lst es) M | none => False) := h
    cases e : seqOf M x with
    | none => rw [e] at h; exact h.elim
    | some es =>
      rw [e] at h
      obtain ⟨a, vs, rfl, hs, r⟩ := seq_of R h1 e
      refine ⟨a, vs, rfl, hs, fun p np => ?_⟩
      obtain ⟨s, r1⟩ := R.newF (o := .lst vs) np
      exact k _ _ _ M _ s r1 (.lst upd_same (r.mono s)) h)
theorem cq_listM : CallQ X (.type "list") cListM := CallRimp call_list_of (by
  rintro xs H Q ⟨G, F, M, ds, Qt, R, r, h, k⟩
  match ds, r, h with
  | [x], .cons h1 .nil, h =>
    have h : (match seqOf M x with | some es => ∀ p, M p = none → Qt (.ref p) (mup M p (.lst es)) | none => False) := h
    cases e : seqOf M x with
    | none => rw [e] at h; exact h.elim
    | some es =>
      rw [e] at h
      obtain ⟨a, vs, rfl, hs, r⟩ := seq_of R h1 e
      refine ⟨a, vs, rfl, hs, fun p np => ?_⟩
      exact k _ F _ _ _ (Same.refl _) (R.newM (u := .lst vs) (o := .lst es) np r) (.ref p) (h p (R.free np).2))
/-- a list of whole numbers -/
def intsD : List D → Option (List Int)
  | [] => some []
  | .int i :: r => match intsD r with
    | some is => some (i :: is)
    | none => none
  | _ => none
theorem intsD_map : ∀ is : List Int, intsD (is.map D.int) = some is
  | [] => rfl
  | i :: is => by simp only [List.map_cons, intsD, intsD_map is]
theorem ints_of {K : PySem.W.Frag} {F : Hp} : ∀ {vs : List V} {ds : List D} {is : List Int}, Rps K F vs ds → intsD ds = some is → vs = is.map V.int
  | _, _, _, .nil, e => by cases e; rfl
  | _, _, _, .cons (.int i) t, e => by
    unfold intsD at e
    split at e
    · rename_i is' q
      cases e
      rw [ints_of t q]; rfl
    · cases e
  | _, _, _, .cons .non _, e => by cases e
  | _, _, _, .cons (.bl _) _, e => by cases e
  | _, _, _, .cons (.str _) _, e => by cases e
  | _, _, _, .cons (.ty _) _, e => by cases e
  | _, _, _, .cons (.ref _) _, e => by cases e
  | _, _, _, .cons (.tup _ _) _, e => by cases e
  | _, _, _, .cons (.tab _ _) _, e => by cases e
  | _, _, _, .cons (.scr _ _) _, e => by cases e
  | _, _, _, .cons (.lst _ _) _, e => by cases e
def intLst (M : MH) (d : D) : Option (List Int) := match lstOf M d with
  | some ds => intsD ds
  | none => none
theorem intLst_of {K : PySem.W.Frag} {G F H : Hp} {M : MH} {v : V} {d : D} {is : List Int} (R : Rel K G F H M) (p : Rp K F v d) (e : intLst M d = some is) : ∃ a, v = .ref a ∧ SqL K H a (is.map V.int) := by
  unfold intLst at e
  cases q : lstOf M d with
  | none => rw [q] at e; cases e
  | some ds =>
    rw [q] at e
    obtain ⟨a, vs, rfl, hs, r⟩ := lst_of R p q
    rw [ints_of r e] at hs
    exact ⟨a, rfl, hs⟩
def cSum : RLt := fun ds M Q => match ds with
  | [x] => match intLst M x with
    | some is => Q (.int is.sum) M
    | none => False
  | _ => False
def cMax : RLt := fun ds M Q => match ds with
  | [x] => match intLst M x with
    | some is => 0 < is.length ∧ ∀ m, m ∈ is → (∀ y, y ∈ is → y ≤ m) → Q (.int m) M
    | none => False
  | _ => False
def cMin : RLt := fun ds M Q => match ds with
  | [x] => match intLst M x with
    | some is => 0 < is.length ∧ ∀ m, m ∈ is → (∀ y, y ∈ is → m ≤ y) → Q (.int m) M
    | none => False
  | _ => False
theorem cq_sum (hc : X.calm = true) : CallQ X (.builtin "sum") cSum := CallRimp (cr_sum hc) (by
  rintro xs H Q ⟨G, F, M, ds, Qt, R, r, h, k⟩
  match ds, r, h with
  | [x], .cons h1 .nil, h =>
    have h : (match intLst M x with | some is => Qt (.int is.sum) M | none => False) := h
    cases e : intLst M x with
    | none => rw [e] at h; exact h.elim
    | some is =>
      rw [e] at h
      obtain ⟨a, rfl, hs⟩ := intLst_of R h1 e
      exact ⟨a, is, rfl, hs, k _ F H M _ (Same.refl _) R (.int _) h⟩)
theorem cq_max (hc : X.calm = true) : CallQ X (.builtin "max") cMax := CallRimp (cr_max hc) (by
  rintro xs H Q ⟨G, F, M, ds, Qt, R, r, h, k⟩
  match ds, r, h with
  | [x], .cons h1 .nil, h =>
    have h : (match intLst M x with | some is => 0 < is.length ∧ ∀ m, m ∈ is → (∀ y, y ∈ is → y ≤ m) → Qt (.int m) M | none => False) := h
    cases e : intLst M x with
    | none => rw [e] at h; exact h.elim
    | some is =>
      rw [e] at h
      obtain ⟨a, rfl, hs⟩ := intLst_of R h1 e
      exact ⟨a, is, rfl, hs, h.1, fun m hm hy => k _ F H M _ (Same.refl _) R (.int _) (h.2 m hm hy)⟩)
theorem cq_min (hc : X.calm = true) : CallQ X (.builtin "min") cMin := CallRimp (cr_min hc) (by
  rintro xs H Q ⟨G, F, M, ds, Qt, R, r, h, k⟩
  match ds, r, h with
  | [x], .cons h1 .nil, h =>
    have h : (match intLst M x with | some is => 0 < is.length ∧ ∀ m, m ∈ is → (∀ y, y ∈ is → m ≤ y) → Qt (.int m) M | none => False) := h
    cases e : intLst M x with
    | none => rw [e] at h; exact h.elim
    | some is =>
      rw [e] at h
      obtain ⟨a, rfl, hs⟩ := intLst_of R h1 e
      exact ⟨a, is, rfl, hs, h.1, fun m hm hy => k _ F H M _ (Same.refl _) R (.int _) (h.2 m hm hy)⟩)
def cMax2 : RLt := fun ds M Q => match ds with
  | [.int i, .int j] => Q (.int (if j > i then j else i)) M
  | _ => False
def cMin2 : RLt := fun ds M Q => match ds with
  | [.int i, .int j] => Q (.int (if j < i then j else i)) M
  | _ => False
theorem cq_max2 (hc : X.calm = true) : CallQ X (.builtin "max") cMax2 := CallRimp (call_max2 hc) (by
  rintro xs H Q ⟨G, F, M, ds, Qt, R, r, h, k⟩
  match ds, r, h with
  | [.int i, .int j], .cons (.int _) (.cons (.int _) .nil), h => exact ⟨i, j, rfl, k _ F H M _ (Same.refl _) R (.int _) h⟩)
def cAbs : RLt := fun ds M Q => match ds with
  | [.int i] => Q (.int (if i < 0 then -i else i)) M
  | _ => False
/-- a list of truths -/
def blsD : List D → Option (List Bool)
  | [] => some []
  | .bl i :: r => match blsD r with
    | some is => some (i :: is)
    | none => none
  | _ => none
theorem blsD_map : ∀ is : List Bool, blsD (is.map D.bl) = some is
  | [] => rfl
  | i :: is => by simp only [List.map_cons, blsD, blsD_map is]
def blLst (M : MH) (d : D) : Option (List Bool) := match lstOf M d with
  | some ds => blsD ds
  | none => none
def cAny : RLt := fun ds M Q => match ds with
  | [x] => match blLst M x with
    | some is => Q (.bl (is.any id)) M
    | none => False
  | _ => False
def cAll : RLt := fun ds M Q => match ds with
  | [x] => match blLst M x with
    | some is => Q (.bl (is.all id)) M
    | none => False
  | _ => False
end
/-! ### enumerate, zip, range with a step, a text sign by sign -/
def enumD (xs : List D) : List D := xs.mapIdx fun i x => .tup [.int (i : Nat), x]
def zipD (xs ys : List D) : List D := List.zipWith (fun x y => .tup [x, y]) xs ys
def iEn (ta : TAt) : TIt := fun τ M Q => ta τ M fun ds M1 => match ds with
  | [d] => match lstOf M1 d with
    | some xs => Q ⟨enumD xs, fun M => lstOf M d = some xs⟩ M1
    | none => False
  | _ => False
def iZi (ta : TAt) : TIt := fun τ M Q => ta τ M fun ds M1 => match ds with
  | [d, e] => match lstOf M1 d with
    | some xs => match lstOf M1 e with
      | some ys => Q ⟨zipD xs ys, fun M => lstOf M d = some xs ∧ lstOf M e = some ys⟩ M1
      | none => False
    | none => False
  | _ => False
def iR3 (ta : TAt) : TIt := fun τ M Q => ta τ M fun ds M1 => match ds with
  | [.int i, .int j, .int c] => ∃ n, RgC i j c n ∧ Q ⟨(List.range n).map fun k => .int (i + (k : Nat) * c), fun _ => True⟩ M1
  | _ => False
def iSt (te : TEt) : TIt := fun τ M Q => te τ M fun d M1 => match d with
  | .str z => Q ⟨z.cps.toList.map fun c => .str ⟨#[c]⟩, fun _ => True⟩ M1
  | _ => False
def iRv (ta : TAt) : TIt := fun τ M Q => ta τ M fun ds M1 => match ds with
  | [d] => match lstOf M1 d with
    | some xs => Q ⟨xs.reverse, fun M => lstOf M d = some xs⟩ M1
    | none => False
  | _ => False
section
variable {X : Cx} {E : XK} {Et : XT} {pos p tpos : Pos} {elts : List Expr} {kk : Nat} {tg e e2 : Expr} {ta : TAt} {te : TEt}
theorem zipD_get {xs ys : List D} {i : Nat} {x : D} (h : (zipD xs ys)[i]? = some x) : ∃ y z, xs[i]? = some y ∧ ys[i]? = some z ∧ x = .tup [y, z] := by
  unfold zipD at h
  rw [List.getElem?_zipWith] at h
  cases e : xs[i]? with
  | none => rw [e] at h; cases h
  | some y =>
    cases e2 : ys[i]? with
    | none => rw [e, e2] at h; cases h
    | some z => rw [e, e2] at h; exact ⟨y, z, rfl, rfl, (Option.some.inj h).symm⟩
theorem itOk_zip {K : PySem.W.Frag} {F0 : Hp} {a b : Addr} {d d2 : D} {ds ds2 : List D} (p : Rp K F0 (.ref a) d) (p2 : Rp K F0 (.ref b) d2) : ItOk K F0 (Itz K a b) ⟨zipD ds ds2, fun M => lstOf M d = some ds ∧ lstOf M d2 = some ds2⟩ where
  go := fun i G F H M x s R h hx => by
    obtain ⟨a', vs, e, hs, r⟩ := lst_of R (p.mono s) h.1
    cases e
    obtain ⟨b', ws, e, hs2, r2⟩ := lst_of R (p2.mono s) h.2
    cases e
    obtain ⟨y, z, hy, hz, _⟩ := zipD_get hx
    obtain ⟨v, hv, _⟩ := r.getD hy
    obtain ⟨w, hw, _⟩ := r2.getD hz
    exact ⟨vs, ws, v, w, hs, hs2, hv, hw⟩
  yld := fun i G F H M x v H' s R h hx y => by
    obtain ⟨a', vs, e, hs, r⟩ := lst_of R (p.mono s) h.1
    cases e
    obtain ⟨b', ws, e, hs2, r2⟩ := lst_of R (p2.mono s) h.2
    cases e
    obtain ⟨y1, z1, hy, hz, rfl⟩ := zipD_get hx
    obtain ⟨v', hv, rv⟩ := r.getD hy
    obtain ⟨w', hw, rw'⟩ := r2.getD hz
    obtain ⟨T, c1, c2, rfl, nT, rfl, f1, f2⟩ := y
    have e1 := SqL_get hs hv f1
    subst e1
    have e2 := SqL_get hs2 hw f2
    subst e2
    obtain ⟨s2, r2⟩ := R.newF (o := .tup [c1, c2]) nT
    exact ⟨_, s2, r2, .tup upd_same (.cons (rv.mono s2) (.cons (rw'.mono s2) .nil))⟩
  stop := fun i G F H M s R h hl => by
    obtain ⟨a', vs, e, hs, r⟩ := lst_of R (p.mono s) h.1
    cases e
    obtain ⟨b', ws, e, hs2, r2⟩ := lst_of R (p2.mono s) h.2
    cases e
    have hl : (zipD ds ds2).length ≤ i := hl
    unfold zipD at hl
    rw [List.length_zipWith] at hl
    exact ⟨vs, ws, hs, hs2, by rw [r.length, r2.length]; omega⟩
theorem qi_zip (hm : X.mg "zip" = none) (ha : QA X E Et [e, e2] ta) (hg : Gl X "zip" := by rfl)
    (hs : starEach [e, e2] X.env = (false, eval e X.env) :: starEach [e2] X.env := by rfl) (hpl : (backTo pos (starEach [e2] X.env)).any (·.1) = false := by rfl) : QI X E Et (.Tuple elts kk tpos) (.Call (.Name "zip" p) [e, e2] [] pos) (iZi ta) := by
  refine ⟨fun pins s σ H R I h => (pi_zip hg hm ha hs hpl).run pins s σ H R I ?_⟩
  obtain ⟨G, F, M, τ, Qt, a, h, k⟩ := h
  refine ⟨G, F, M, τ, _, a, h, fun vs F1 H1 M1 ds s1 r1 p1 q1 => ?_⟩
  match ds, p1, q1 with
  | [d, d2], .cons h1 (.cons h2 .nil), q1 =>
    have q1 : (match lstOf M1 d with | some xs => (match lstOf M1 d2 with | some ys => Qt ⟨zipD xs ys, fun M => lstOf M d = some xs ∧ lstOf M d2 = some ys⟩ M1 | none => False) | none => False) := q1
    cases q : lstOf M1 d with
    | none => rw [q] at q1; exact q1.elim
    | some xs =>
      rw [q] at q1
      have q1 : (match lstOf M1 d2 with | some ys => Qt ⟨zipD xs ys, fun M => lstOf M d = some xs ∧ lstOf M d2 = some ys⟩ M1 | none => False) := q1
      cases qq : lstOf M1 d2 with
      | none => rw [qq] at q1; exact q1.elim
      | some ys =>
        rw [qq] at q1
        obtain ⟨b, vs, rfl, hs, r⟩ := lst_of r1 h1 q
        obtain ⟨c, ws, rfl, hs2, r2⟩ := lst_of r1 h2 qq
        exact ⟨b, c, vs, ws, rfl, hs, hs2, k _ _ F1 H1 M1 s1 r1 (itOk_zip h1 h2) q1⟩
end
/-! ### list methods, stores -/
/-- a list of the program's own, frozen or not -/
def trkOf (M : MH) : D → Option (List D)
  | .lst ds => some ds
  | .ref a => match M a with
    | some (.lst ds) => some ds
    | _ => none
  | _ => none
def mExtend : RMt := fun x xs M Q => match x, xs with
  | .ref l, [y] => match M l with
    | some (.lst ds) => match trkOf M y with
      | some es => ds.length + es.length ≤ sizeLine ∧ Q .non (mup M l (.lst (ds ++ es)))
      | none => False
    | _ => False
  | _, _ => False
def mPop : RMt := fun x xs M Q => match x, xs with
  | .ref l, [] => match M l with
    | some (.lst ds) => match ds.getLast? with
      | some y => Q y (mup M l (.lst ds.dropLast))
      | none => False
    | _ => False
  | _, _ => False
section
variable {X : Cx} {E : XK} {Et : XT} {o e : Expr} {es : List Expr} {to : TEt} {t : TAt} {apos cpos : Pos}
theorem chg_lst {K : PySem.W.Frag} {G F H : Hp} {M : MH} {l : Addr} {ds : List D} (R : Rel K G F H M) (q : M l = some (.lst ds)) : ∃ vs, H l = some (.lst vs) ∧ Rps K F vs ds := by
  obtain ⟨_, u, hu, r⟩ := R.chg l _ q
  cases u with
  | lst vs => exact ⟨vs, hu, r⟩
  | _ => exact (r : False).elim
theorem q_pop (ho : QE X E Et o to) (hbase : attributeBase o "pop" X.env (eval o X.env) = eval o X.env := by rfl) (hline : (apos.endLine == cpos.line) = true := by rfl) : QE X E Et (.Call (.Attribute o "pop" apos) [] [] cpos) (tMt0 mPop to) :=
  PEimp (pe_bm0 PySem.F.plainAttrs_list PySem.F.slot_list_pop PySem.F.type_list_pop mt_pop ho hbase hline) (lv_bm0 (by
    rintro x xs H Q ⟨G, F, M, dx, ds, Qt, R, p, ps, h, k⟩
    match dx, ds, p, ps, h with
    | .ref l, [], .ref _, .nil, h =>
      have h : (match M l with | some (.lst ds) => (match ds.getLast? with | some y => Qt y (mup M l (.lst ds.dropLast)) | none => False) | _ => False) := h
      cases q : M l with
      | none => simp only [q] at h
      | some mo =>
        cases mo with
        | lst ds =>
          simp only [q] at h
          obtain ⟨vs, hu, r⟩ := chg_lst R q
          cases q2 : ds.getLast? with
          | none => rw [q2] at h; exact h.elim
          | some y =>
            rw [q2] at h
            rw [List.getLast?_eq_getElem?] at q2
            obtain ⟨v, hv, rv⟩ := r.getD q2
            refine ⟨l, vs, v, rfl, rfl, hu, by rw [r.length]; exact hv, ?_⟩
            exact k v F _ _ y (Same.refl _) (R.put (u := .lst vs.dropLast) (o := .lst ds.dropLast) q r.dropLast) rv h
        | _ => simp only [q] at h))
/-- l[i] = v -/
def zList : TSett := fun o i v M Q => match o, i with
  | .ref l, .int k => match M l with
    | some (.lst ds) => match ixN ds.length k with
      | some j => Q (mup M l (.lst (ds.set j v)))
      | none => False
    | _ => False
  | _, _ => False
theorem sq_list : PSet X (lSet X.K zList) := by
  intro pins s σ H o i v ov iv u Q I ro ri rv h
  obtain ⟨G, F, M, od, idd, vd, Qt, R, po, pi, pv, h, k⟩ := h
  match od, idd, po, pi, h with
  | .ref l, .int z, .ref _, .int _, h =>
    have h : (match M l with | some (.lst ds) => (match ixN ds.length z with | some j => Qt (mup M l (.lst (ds.set j vd))) | none => False) | _ => False) := h
    cases q : M l with
    | none => simp only [q] at h
    | some mo =>
      cases mo with
      | lst ds =>
        simp only [q] at h
        obtain ⟨vs, hu, r⟩ := chg_lst R q
        cases q2 : ixN ds.length z with
        | none => rw [q2] at h; exact h.elim
        | some j =>
          rw [q2] at h
          refine set_list pins s σ H _ _ v ov iv u Q I ro ri rv ⟨l, vs, z, j, rfl, rfl, hu, by rw [r.length]; exact q2, ?_⟩
          exact k F _ _ (Same.refl _) (R.put (u := .lst (vs.set j v)) (o := .lst (ds.set j vd)) q (r.set pv j)) h
      | _ => simp only [q] at h
end
end Tl
namespace Tl
open PySem PySem.Spec PyProof.Rows L2
/-! ### the readings, unfolded as far as the values are known -/
def oBl (x : D) (k : Bool → Prop) : Prop := match x with
  | .bl c => k c
  | _ => False
def oInt (x : D) (k : Int → Prop) : Prop := match x with
  | .int c => k c
  | _ => False
def oStr (x : D) (k : Str → Prop) : Prop := match x with
  | .str c => k c
  | _ => False
def oTup (x : D) (k : List D → Prop) : Prop := match x with
  | .tup c => k c
  | _ => False
def oSome {α : Type} (x : Option α) (k : α → Prop) : Prop := match x with
  | some c => k c
  | none => False
theorem oBl_i {c : Bool} {k : Bool → Prop} : oBl (.bl c) k = k c := propext Iff.rfl
theorem oInt_i {c : Int} {k : Int → Prop} : oInt (.int c) k = k c := propext Iff.rfl
theorem oStr_i {c : Str} {k : Str → Prop} : oStr (.str c) k = k c := propext Iff.rfl
theorem oTup_i {c : List D} {k : List D → Prop} : oTup (.tup c) k = k c := propext Iff.rfl
theorem oSome_i {α : Type} {c : α} {k : α → Prop} : oSome (some c) k = k c := propext Iff.rfl
theorem oBl_if {p : Prop} [Decidable p] {a b : D} {k : Bool → Prop} : oBl (if p then a else b) k = if p then oBl a k else oBl b k := by split <;> rfl
section
variable {τ : Sg} {M : MH} {Q : VD} {D0 : En} {t u : TSt} {te ta tb : TEt} {tt : TTt} {x y : D} {ds : List D} {n i : Nat} {k : Int} {g : TGt} {gs : TGst} {Qg : Sg → MH → Prop} {QI : Its → MH → Prop} {QO : Option Int → MH → Prop} {QB : Bool → MH → Prop} {tA : TAt} {lo hi : Option Int}
theorem uV : tV i τ M Q = oSome (nth τ i) fun d => Q d M := by unfold tV oSome; cases nth τ i <;> rfl
theorem uBo : tBo te τ M QB = te τ M fun x M1 => oBl x fun c => QB c M1 := by
  unfold tBo oBl
  first | rfl | (congr; first | rfl | (funext x M1; cases x <;> rfl))
theorem uAnV : tAnV ta tb τ M Q = ta τ M fun x M1 => oBl x fun c => if c = true then tb τ M1 Q else Q (.bl false) M1 := by
  unfold tAnV oBl
  first | rfl | (congr; first | rfl | (funext x M1; cases x <;> rfl))
theorem uOrV : tOrV' ta tb τ M Q = ta τ M fun x M1 => oBl x fun c => if c = true then Q (.bl true) M1 else tb τ M1 Q := by
  unfold tOrV' oBl
  first | rfl | (congr; first | rfl | (funext x M1; cases x <;> rfl))
theorem uNoV : tNoV ta τ M Q = ta τ M fun x M1 => oBl x fun c => Q (.bl (!c)) M1 := by
  unfold tNoV oBl
  first | rfl | (congr; first | rfl | (funext x M1; cases x <;> rfl))
theorem uCh {r r' : R2t} {tc : TEt} : tCh r r' ta tb tc τ M Q = ta τ M fun x M1 => tb τ M1 fun y M2 => r x y M2 fun z M3 => oBl z fun k => if k = true then tc τ M3 fun w M4 => r' y w M4 Q else Q (.bl false) M3 := by
  unfold tCh oBl
  first | rfl | (congr; funext x M1; congr; funext y M2; congr; funext z M3; cases z <;> rfl)
theorem uNl0 : gNl [] τ M Qg = Qg τ M := propext Iff.rfl
theorem uCs1 : gCs g gs (x :: ds) τ M Qg = g x τ M fun τ' M' => gs ds τ' M' Qg := propext Iff.rfl
theorem uTp : gTp n gs x τ M Qg = oTup x fun ds => ds.length = n ∧ gs ds τ M Qg := by unfold gTp oTup; cases x <;> rfl
theorem uAg {r : R2t} : sAg i te r D0 τ M = oSome (nth τ i) fun x => te τ M fun y M1 => r x y M1 fun z M2 => D0.nx (τ.set i (some z)) M2 := by unfold sAg oSome; cases nth τ i <;> rfl
theorem uInt {C : Int → Int → Prop} {h : Int → Int → D} : bInt C h x y M Q = oInt x fun i => oInt y fun j => C i j ∧ Q (h i j) M := by unfold bInt oInt; cases x <;> cases y <;> rfl
theorem uInt0 {h : Int → Int → D} : bInt0 h x y M Q = oInt x fun i => oInt y fun j => Q (h i j) M := by unfold bInt0 oInt; cases x <;> cases y <;> rfl
theorem uNegI : uNeg x M Q = oInt x fun i => Q (.int (-i)) M := by unfold uNeg oInt; cases x <;> rfl
theorem uEq : bEq x y M Q = oSome (dScal x y) fun b => Q (.bl b) M := by unfold bEq oSome; cases dScal x y <;> rfl
theorem uNe : bNe x y M Q = oSome (dScal x y) fun b => Q (.bl (!b)) M := by unfold bNe oSome; cases dScal x y <;> rfl
theorem dScal_ii {a b : Int} : dScal (.int a) (.int b) = some (decide (a = b)) := rfl
theorem dScal_ss {a b : Str} : dScal (.str a) (.str b) = some (decide (a = b)) := rfl
theorem dScal_bb {a b : Bool} : dScal (.bl a) (.bl b) = some (decide (a = b)) := rfl
theorem dScal_nn : dScal .non .non = some true := rfl
theorem dScal_ni {a : Int} : dScal .non (.int a) = some false := rfl
theorem dScal_in {a : Int} : dScal (.int a) .non = some false := rfl
theorem dScal_is {a : Int} {s : Str} : dScal (.int a) (.str s) = some false := rfl
theorem dScal_si {a : Int} {s : Str} : dScal (.str s) (.int a) = some false := rfl
theorem uIsN : bIsN x .non M Q = Q (.bl (isNonD x)) M := propext Iff.rfl
theorem uNotN : bNotN x .non M Q = Q (.bl (!isNonD x)) M := propext Iff.rfl
theorem nonD_n : isNonD .non = true := rfl
theorem nonD_i {a : Int} : isNonD (.int a) = false := rfl
theorem nonD_s {a : Str} : isNonD (.str a) = false := rfl
theorem nonD_t {a : List D} : isNonD (.tup a) = false := rfl
theorem nonD_l {a : List D} : isNonD (.lst a) = false := rfl
theorem nonD_b {a : Bool} : isNonD (.bl a) = false := rfl
theorem nonD_r {a : Addr} : isNonD (.ref a) = false := rfl
theorem uCatS : bCatS x y M Q = oStr x fun a => oStr y fun b => a.length + b.length ≤ 16777216 ∧ Q (.str (a ++ b)) M := by unfold bCatS oStr; rw [sizeLine_eq]; cases x <;> cases y <;> rfl
theorem uCatL : bCatL x y M Q = oSome (lstOf M x) fun a => oSome (lstOf M y) fun b => a.length + b.length ≤ 16777216 ∧ Q (.lst (a ++ b)) M := by unfold bCatL oSome; rw [sizeLine_eq]; cases lstOf M x <;> cases lstOf M y <;> rfl
theorem uCatM : bCatM x y M Q = oSome (lstOf M x) fun a => oSome (lstOf M y) fun b => a.length + b.length ≤ 16777216 ∧ ∀ p, M p = none → Q (.ref p) (mup M p (.lst (a ++ b))) := by unfold bCatM oSome; rw [sizeLine_eq]; cases lstOf M x <;> cases lstOf M y <;> rfl
theorem lstOf_l : lstOf M (.lst ds) = some ds := rfl
theorem lstOf_c : lstOf M (.scr ds) = some ds := rfl
theorem lstOf_m {a : Addr} : lstOf (mup M a (.lst ds)) (.ref a) = some ds := by simp only [lstOf, mup_same]
theorem lstOf_at {a : Addr} (h : M a = some (.lst ds)) : lstOf M (.ref a) = some ds := by simp only [lstOf, h]
theorem trkOf_l : trkOf M (.lst ds) = some ds := rfl
theorem trkOf_m {a : Addr} : trkOf (mup M a (.lst ds)) (.ref a) = some ds := by simp only [trkOf, mup_same]
theorem tupOf_t : tupOf (.tup ds) = some ds := rfl
theorem tupOf_b : tupOf (.tab ds) = some ds := rfl
theorem seqOf_t : seqOf M (.tup ds) = some ds := rfl
theorem seqOf_b : seqOf M (.tab ds) = some ds := rfl
theorem seqOf_l : seqOf M (.lst ds) = some ds := rfl
theorem seqOf_c : seqOf M (.scr ds) = some ds := rfl
theorem seqOf_r {a : Addr} : seqOf M (.ref a) = lstOf M (.ref a) := rfl
theorem uIx_t : bIx (.tup ds) (.int k) M Q = oSome (atI ds k) fun d => Q d M := by
  show (match atI ds k with | some d => Q d M | none => False) = _
  unfold oSome; cases atI ds k <;> rfl
theorem uIx_b : bIx (.tab ds) (.int k) M Q = oSome (atI ds k) fun d => Q d M := by
  show (match atI ds k with | some d => Q d M | none => False) = _
  unfold oSome; cases atI ds k <;> rfl
theorem uIx_l : bIx (.lst ds) (.int k) M Q = oSome (atI ds k) fun d => Q d M := by
  show (match atI ds k with | some d => Q d M | none => False) = _
  unfold oSome; cases atI ds k <;> rfl
theorem uIx_c : bIx (.scr ds) (.int k) M Q = oSome (atI ds k) fun d => Q d M := by
  show (match atI ds k with | some d => Q d M | none => False) = _
  unfold oSome; cases atI ds k <;> rfl
theorem uIx_s {z : Str} : bIx (.str z) (.int k) M Q = (z.length ≤ 16777216 ∧ oSome (atI z.cps.toList k) fun c => Q (.str ⟨#[c]⟩) M) := by
  show (z.length ≤ sizeLine ∧ match atI z.cps.toList k with | some c => Q (.str ⟨#[c]⟩) M | none => False) = _
  unfold oSome; rw [sizeLine_eq]; cases atI z.cps.toList k <;> rfl
theorem uIx_r {a : Addr} : bIx (.ref a) (.int k) M Q = oSome (lstOf M (.ref a)) fun ds => oSome (atI ds k) fun d => Q d M := by
  show (match lstOf M (.ref a) with | some ds => (match atI ds k with | some d => Q d M | none => False) | none => False) = _
  unfold oSome
  cases lstOf M (.ref a) with
  | none => rfl
  | some ds => cases h : atI ds k <;> simp [h]
theorem uYes : oYes te τ M QO = te τ M fun d M1 => oInt d fun i => QO (some i) M1 := by
  unfold oYes oInt
  first | rfl | (congr; first | rfl | (funext x M1; cases x <;> rfl))
theorem uSlL : cSlL x lo hi M Q = oSome (lstOf M x) fun ds => Q (.lst (cutD ds lo hi)) M := by unfold cSlL oSome; cases lstOf M x <;> rfl
theorem uSlM : cSlM x lo hi M Q = oSome (lstOf M x) fun ds => ∀ p, M p = none → Q (.ref p) (mup M p (.lst (cutD ds lo hi))) := by unfold cSlM oSome; cases lstOf M x <;> rfl
theorem uSlS : cSlS x lo hi M Q = oStr x fun z => z.length ≤ 16777216 ∧ Q (.str (cutS z lo hi)) M := by unfold cSlS oStr; rw [sizeLine_eq] <;> (cases x <;> rfl)
theorem uIsi {T : String} : cIsi [x, .ty T] M Q = oSome (dTy M x) fun t => oSome (kitB t T) fun b => Q (.bl b) M := by
  show (match dTy M x with | some t => (match kitB t T with | some b => Q (.bl b) M | none => False) | none => False) = _
  unfold oSome
  cases dTy M x with
  | none => rfl
  | some t => cases h : kitB t T <;> simp [h]
theorem dTy_n : dTy M .non = some "NoneType" := rfl
theorem dTy_b {b : Bool} : dTy M (.bl b) = some "bool" := rfl
theorem dTy_i {i : Int} : dTy M (.int i) = some "int" := rfl
theorem dTy_s {s : Str} : dTy M (.str s) = some "str" := rfl
theorem dTy_t : dTy M (.tup ds) = some "tuple" := rfl
theorem dTy_l : dTy M (.lst ds) = some "list" := rfl
theorem uLen : cLen [x] M Q = oSome (lenOf M x) fun n => Q (.int (n : Int)) M := by
  show (match lenOf M x with | some n => Q (.int (n : Int)) M | none => False) = _
  unfold oSome; cases lenOf M x <;> rfl
theorem lenOf_t : lenOf M (.tup ds) = some ds.length := rfl
theorem lenOf_b : lenOf M (.tab ds) = some ds.length := rfl
theorem lenOf_l : lenOf M (.lst ds) = some ds.length := rfl
theorem lenOf_c : lenOf M (.scr ds) = some ds.length := rfl
theorem lenOf_m {a : Addr} : lenOf (mup M a (.lst ds)) (.ref a) = some ds.length := by simp only [lenOf, mup_same]
theorem lenOf_at {a : Addr} (h : M a = some (.lst ds)) : lenOf M (.ref a) = some ds.length := by simp only [lenOf, h]
theorem uIntI {i : Int} : cInt [.int i] M Q = Q (.int i) M := propext Iff.rfl
theorem uIntB {b : Bool} : cInt [.bl b] M Q = Q (.int (if b then 1 else 0)) M := propext Iff.rfl
theorem uLs : iLs te τ M QI = te τ M fun d M1 => oSome (lstOf M1 d) fun ds => QI ⟨ds, fun M => lstOf M d = some ds⟩ M1 := by
  unfold iLs oSome
  first | rfl | (congr; funext d M1; cases lstOf M1 d <;> rfl)
theorem uTu : iTu te τ M QI = te τ M fun d M1 => oSome (tupOf d) fun ds => QI ⟨ds, fun _ => True⟩ M1 := by
  unfold iTu oSome
  first | rfl | (congr; funext d M1; cases tupOf d <;> rfl)
def oL1 (ds : List D) (k : D → Prop) : Prop := match ds with
  | [x] => k x
  | _ => False
def oL2 (ds : List D) (k : D → D → Prop) : Prop := match ds with
  | [x, y] => k x y
  | _ => False
def oL3 (ds : List D) (k : D → D → D → Prop) : Prop := match ds with
  | [x, y, z] => k x y z
  | _ => False
theorem oL1_i {x : D} {k : D → Prop} : oL1 [x] k = k x := propext Iff.rfl
theorem oL2_i {x y : D} {k : D → D → Prop} : oL2 [x, y] k = k x y := propext Iff.rfl
theorem oL3_i {x y z : D} {k : D → D → D → Prop} : oL3 [x, y, z] k = k x y z := propext Iff.rfl
theorem uR1 : iR1 tA τ M QI = tA τ M fun ds M1 => oL1 ds fun d => oInt d fun j => (-4611686018427387904 ≤ j ∧ j < 4611686018427387904) ∧ QI ⟨(List.range j.toNat).map fun i => .int (i : Nat), fun _ => True⟩ M1 := by
  unfold iR1
  congr; funext ds M1
  rcases ds with _ | ⟨d, _ | ⟨e, r⟩⟩
  · rfl
  · cases d <;> rfl
  · cases d <;> rfl
theorem uR2 : iR2 tA τ M QI = tA τ M fun ds M1 => oL2 ds fun d e => oInt d fun i => oInt e fun j => (-4611686018427387904 ≤ i ∧ i < 4611686018427387904 ∧ -4611686018427387904 ≤ j ∧ j < 4611686018427387904) ∧ QI ⟨(List.range (j - i).toNat).map fun k => .int (i + (k : Nat)), fun _ => True⟩ M1 := by
  unfold iR2
  congr; funext ds M1
  rcases ds with _ | ⟨d, _ | ⟨e, _ | ⟨f, r⟩⟩⟩
  · rfl
  · cases d <;> rfl
  · cases d <;> cases e <;> rfl
  · cases d <;> cases e <;> rfl
theorem uR3 : iR3 tA τ M QI = tA τ M fun ds M1 => oL3 ds fun d e f => oInt d fun i => oInt e fun j => oInt f fun c => ∃ n, RgC i j c n ∧ QI ⟨(List.range n).map fun k => .int (i + (k : Nat) * c), fun _ => True⟩ M1 := by
  unfold iR3
  congr; funext ds M1
  rcases ds with _ | ⟨d, _ | ⟨e, _ | ⟨f, _ | ⟨f2, r⟩⟩⟩⟩
  · rfl
  · cases d <;> rfl
  · cases d <;> cases e <;> rfl
  · cases d <;> cases e <;> cases f <;> rfl
  · cases d <;> cases e <;> cases f <;> rfl
theorem uEn : iEn tA τ M QI = tA τ M fun ds M1 => oL1 ds fun d => oSome (lstOf M1 d) fun xs => QI ⟨enumD xs, fun M => lstOf M d = some xs⟩ M1 := by
  unfold iEn
  congr; funext ds M1
  rcases ds with _ | ⟨d, _ | ⟨e, r⟩⟩
  · rfl
  · simp only [oL1, oSome]; cases lstOf M1 d <;> rfl
  · rfl
theorem uZi : iZi tA τ M QI = tA τ M fun ds M1 => oL2 ds fun d e => oSome (lstOf M1 d) fun xs => oSome (lstOf M1 e) fun ys => QI ⟨zipD xs ys, fun M => lstOf M d = some xs ∧ lstOf M e = some ys⟩ M1 := by
  unfold iZi
  congr; funext ds M1
  rcases ds with _ | ⟨d, _ | ⟨e, _ | ⟨f, r⟩⟩⟩
  · rfl
  · rfl
  · simp only [oL2, oSome]; cases lstOf M1 d <;> cases lstOf M1 e <;> rfl
  · rfl
theorem uSt : iSt te τ M QI = te τ M fun d M1 => oStr d fun z => QI ⟨z.cps.toList.map fun c => .str ⟨#[c]⟩, fun _ => True⟩ M1 := by
  unfold iSt oStr
  first | rfl | (congr; first | rfl | (funext x M1; cases x <;> rfl))
theorem uRv : iRv tA τ M QI = tA τ M fun ds M1 => oL1 ds fun d => oSome (lstOf M1 d) fun xs => QI ⟨xs.reverse, fun M => lstOf M d = some xs⟩ M1 := by
  unfold iRv
  congr; funext ds M1
  rcases ds with _ | ⟨d, _ | ⟨e, r⟩⟩
  · rfl
  · simp only [oL1, oSome]; cases lstOf M1 d <;> rfl
  · rfl
theorem uDivmod : cDivmod [x, y] M Q = oInt x fun i => oInt y fun j => CDivZ i j ∧ Q (.tup [.int (i.fdiv j), .int (i.fmod j)]) M := by unfold oInt; cases x <;> cases y <;> rfl
theorem uList : cList [x] M Q = oSome (seqOf M x) fun es => Q (.lst es) M := by
  show (match seqOf M x with | some es => Q (.lst es) M | none => False) = _
  unfold oSome; cases seqOf M x <;> rfl
theorem uListM : cListM [x] M Q = oSome (seqOf M x) fun es => ∀ p, M p = none → Q (.ref p) (mup M p (.lst es)) := by
  show (match seqOf M x with | some es => ∀ p, M p = none → Q (.ref p) (mup M p (.lst es)) | none => False) = _
  unfold oSome; cases seqOf M x <;> rfl
theorem uSum : cSum [x] M Q = oSome (intLst M x) fun is => Q (.int is.sum) M := by
  show (match intLst M x with | some is => Q (.int is.sum) M | none => False) = _
  unfold oSome; cases intLst M x <;> rfl
theorem uMax : cMax [x] M Q = oSome (intLst M x) fun is => 0 < is.length ∧ ∀ m, m ∈ is → (∀ y, y ∈ is → y ≤ m) → Q (.int m) M := by
  show (match intLst M x with | some is => 0 < is.length ∧ ∀ m, m ∈ is → (∀ y, y ∈ is → y ≤ m) → Q (.int m) M | none => False) = _
  unfold oSome; cases intLst M x <;> rfl
theorem uMin : cMin [x] M Q = oSome (intLst M x) fun is => 0 < is.length ∧ ∀ m, m ∈ is → (∀ y, y ∈ is → m ≤ y) → Q (.int m) M := by
  show (match intLst M x with | some is => 0 < is.length ∧ ∀ m, m ∈ is → (∀ y, y ∈ is → m ≤ y) → Q (.int m) M | none => False) = _
  unfold oSome; cases intLst M x <;> rfl
theorem intLst_l {is : List Int} : intLst M (.lst (is.map D.int)) = some is := intsD_map is
theorem intLst_c {is : List Int} : intLst M (.scr (is.map D.int)) = some is := intsD_map is
theorem blLst_l {is : List Bool} : blLst M (.lst (is.map D.bl)) = some is := blsD_map is
theorem uMax2 : cMax2 [x, y] M Q = oInt x fun i => oInt y fun j => Q (.int (if j > i then j else i)) M := by unfold oInt; cases x <;> cases y <;> rfl
theorem uMin2 : cMin2 [x, y] M Q = oInt x fun i => oInt y fun j => Q (.int (if j < i then j else i)) M := by unfold oInt; cases x <;> cases y <;> rfl
theorem uAbs : cAbs [x] M Q = oInt x fun i => Q (.int (if i < 0 then -i else i)) M := by unfold oInt; cases x <;> rfl
theorem uAny : cAny [x] M Q = oSome (blLst M x) fun is => Q (.bl (is.any id)) M := by
  show (match blLst M x with | some is => Q (.bl (is.any id)) M | none => False) = _
  unfold oSome; cases blLst M x <;> rfl
theorem uAll : cAll [x] M Q = oSome (blLst M x) fun is => Q (.bl (is.all id)) M := by
  show (match blLst M x with | some is => Q (.bl (is.all id)) M | none => False) = _
  unfold oSome; cases blLst M x <;> rfl
def mLst (M : MH) (a : Addr) : Option (List D) := match M a with
  | some (.lst ds) => some ds
  | _ => none
theorem mLst_m {a : Addr} : mLst (mup M a (.lst ds)) a = some ds := by unfold mLst; rw [mup_same]
theorem mLst_at {a : Addr} (h : M a = some (.lst ds)) : mLst M a = some ds := by unfold mLst; rw [h]
theorem uAppend {l : Addr} : mAppend (.ref l) [y] M Q = oSome (mLst M l) fun ds => ds.length < 16777216 ∧ Q .non (mup M l (.lst (ds ++ [y]))) := by
  show (match M l with | some (.lst ds) => ds.length < sizeLine ∧ Q .non (mup M l (.lst (ds ++ [y]))) | _ => False) = _
  unfold oSome mLst; rw [sizeLine_eq]
  cases M l with
  | none => rfl
  | some o => cases o <;> rfl
theorem uExtend {l : Addr} : mExtend (.ref l) [y] M Q = oSome (mLst M l) fun ds => oSome (trkOf M y) fun es => ds.length + es.length ≤ 16777216 ∧ Q .non (mup M l (.lst (ds ++ es))) := by
  show (match M l with | some (.lst ds) => (match trkOf M y with | some es => ds.length + es.length ≤ sizeLine ∧ Q .non (mup M l (.lst (ds ++ es))) | none => False) | _ => False) = _
  unfold oSome mLst; rw [sizeLine_eq]
  cases M l with
  | none => rfl
  | some o => cases o <;> first | rfl | (cases h : trkOf M y <;> simp [h])
theorem uPop {l : Addr} : mPop (.ref l) [] M Q = oSome (mLst M l) fun ds => oSome ds.getLast? fun y => Q y (mup M l (.lst ds.dropLast)) := by
  show (match M l with | some (.lst ds) => (match ds.getLast? with | some y => Q y (mup M l (.lst ds.dropLast)) | none => False) | _ => False) = _
  unfold oSome mLst
  cases M l with
  | none => rfl
  | some o =>
    cases o with
    | lst ds => cases h : ds.getLast? <;> simp [h]
    | _ => rfl
theorem uSet {l : Addr} {Qm : MH → Prop} : zList (.ref l) (.int k) y M Qm = oSome (mLst M l) fun ds => oSome (ixN ds.length k) fun j => Qm (mup M l (.lst (ds.set j y))) := by
  show (match M l with | some (.lst ds) => (match ixN ds.length k with | some j => Qm (mup M l (.lst (ds.set j y))) | none => False) | _ => False) = _
  unfold oSome mLst
  cases M l with
  | none => rfl
  | some o =>
    cases o with
    | lst ds => cases h : ixN ds.length k <;> simp [h]
    | _ => rfl
theorem lMt_l : (lstOf M (.lst ds)).isSome = true := rfl
theorem isS_m {a : Addr} : (lstOf (mup M a (.lst ds)) (.ref a)).isSome = true := by rw [lstOf_m]; rfl
theorem atI_0 {α : Type} {x : α} {r : List α} : atI (x :: r) 0 = some x := atI_nat (j := 0) rfl
theorem atI_1 {α : Type} {x y : α} {r : List α} : atI (x :: y :: r) 1 = some y := atI_nat (j := 1) rfl
theorem atI_2 {α : Type} {x y z : α} {r : List α} : atI (x :: y :: z :: r) 2 = some z := atI_nat (j := 2) rfl
theorem atI_3 {α : Type} {x y z a : α} {r : List α} : atI (x :: y :: z :: a :: r) 3 = some a := atI_nat (j := 3) rfl
theorem atI_4 {α : Type} {x y z a b : α} {r : List α} : atI (x :: y :: z :: a :: b :: r) 4 = some b := atI_nat (j := 4) rfl
theorem atI_5 {α : Type} {x y z a b c : α} {r : List α} : atI (x :: y :: z :: a :: b :: c :: r) 5 = some c := atI_nat (j := 5) rfl
end
end Tl
namespace Tl
open PySem PySem.Spec PyProof.Rows L2
/-! ### comprehensions whose turns change nothing -/
/-- what is kept and what it comes to; what is left out -/
inductive Sel {α β : Type} (P : α → β → Prop) (N : α → Prop) : List α → List β → Prop
  | nil : Sel P N [] []
  | keep {x : α} {y : β} {xs : List α} {ys : List β} (h : P x y) (t : Sel P N xs ys) : Sel P N (x :: xs) (y :: ys)
  | drop {x : α} {xs : List α} {ys : List β} (h : N x) (t : Sel P N xs ys) : Sel P N (x :: xs) ys
section
variable {α β : Type} {P : α → β → Prop} {N : α → Prop}
theorem Sel.snoc_keep {xs : List α} {ys : List β} {x : α} {y : β} (h : Sel P N xs ys) (p : P x y) : Sel P N (xs ++ [x]) (ys ++ [y]) := by
  induction h with
  | nil => exact .keep p .nil
  | keep h t ih => exact .keep h ih
  | drop h t ih => exact .drop h ih
theorem Sel.snoc_drop {xs : List α} {ys : List β} {x : α} (h : Sel P N xs ys) (p : N x) : Sel P N (xs ++ [x]) ys := by
  induction h with
  | nil => exact .drop p .nil
  | keep h t ih => exact .keep h ih
  | drop h t ih => exact .drop h ih
theorem Sel.len {xs : List α} {ys : List β} (h : Sel P N xs ys) : ys.length ≤ xs.length := by
  induction h with
  | nil => exact Nat.le_refl _
  | keep h t ih => exact Nat.succ_le_succ ih
  | drop h t ih => exact Nat.le_succ_of_le ih
theorem Sel.map {f : α → β} {xs : List α} {ys : List β} (h : Sel (fun x y => y = f x) (fun _ => False) xs ys) : ys = xs.map f := by
  induction h with
  | nil => rfl
  | keep h t ih => rw [h, ih]; rfl
  | drop h t ih => exact h.elim
theorem Sel.filter {f : α → β} {p : α → Bool} {xs : List α} {ys : List β} (h : Sel (fun x y => p x = true ∧ y = f x) (fun x => p x = false) xs ys) : ys = (xs.filter p).map f := by
  induction h with
  | nil => rfl
  | keep h t ih => rw [List.filter_cons, if_pos h.1, h.2, ih]; rfl
  | drop h t ih => rw [List.filter_cons, if_neg (by rw [h]; decide), ih]
theorem Sel.ex {α β γ : Type} {Pz : α → γ → Prop} {Nz : α → Prop} {a : γ → β} {xs : List α} {ys : List β} (h : Sel (fun x y => ∃ b, y = a b ∧ Pz x b) Nz xs ys) : ∃ bs : List γ, ys = bs.map a ∧ ∀ b ∈ bs, ∃ x ∈ xs, Pz x b := by
  induction h with
  | nil => exact ⟨[], rfl, by simp⟩
  | @keep x y xs ys h t ih =>
    obtain ⟨ms, rfl, h2⟩ := ih
    obtain ⟨n, rfl, hn⟩ := h
    refine ⟨n :: ms, rfl, fun b hb => ?_⟩
    rcases List.mem_cons.mp hb with rfl | hm
    · exact ⟨x, List.mem_cons_self .., hn⟩
    · obtain ⟨x', hx, hp⟩ := h2 b hm
      exact ⟨x', List.mem_cons_of_mem _ hx, hp⟩
  | drop h t ih =>
    obtain ⟨ms, rfl, h2⟩ := ih
    refine ⟨ms, rfl, fun b hb => ?_⟩
    obtain ⟨x', hx, hp⟩ := h2 b hb
    exact ⟨x', List.mem_cons_of_mem _ hx, hp⟩
theorem Sel.all {Z : β → Prop} {xs : List α} {ys : List β} (h : Sel P N xs ys) (hz : ∀ x y, x ∈ xs → P x y → Z y) : ∀ y ∈ ys, Z y := by
  induction h with
  | nil => intro y hy; cases hy
  | keep h t ih =>
    intro y hy
    rcases List.mem_cons.mp hy with e | hy
    · rw [e]; exact hz _ _ (List.mem_cons_self ..) h
    · exact ih (fun x y hx => hz x y (List.mem_cons_of_mem _ hx)) y hy
  | drop h t ih => exact ih (fun x y hx => hz x y (List.mem_cons_of_mem _ hx))
end
section
variable {ti : TIt} {g : TGt} {tt : TTt} {te : TEt} {vs : List Nat} {τ : Sg} {M : MH} {Q : VD}
/-- the rest of a comprehension when its source is known -/
def LcGo (g : TGt) (tt : TTt) (te : TEt) (vs : List Nat) (τ : Sg) (Q : VD) (I : Its) (M1 : MH) : Prop := I.items.length < sizeLine ∧ ∃ W : Nat → List D → MH → Prop, W 0 [] M1 ∧ (∀ i acc M, W i acc M → I.src M ∧ acc.length ≤ i) ∧
  (∀ i x acc M, I.items[i]? = some x → W i acc M → g x (wip τ vs) M fun τ2 M2 => tt τ2 M2 fun b M3 => if b = true then te τ2 M3 fun y M4 => W (i + 1) (acc ++ [y]) M4 else W (i + 1) acc M3) ∧ ∀ acc M, W I.items.length acc M → Q (.lst acc) M
theorem uLcF : tLcF ti g tt te vs τ M Q = ti τ M (LcGo g tt te vs τ Q) := propext Iff.rfl
def asRef (Q : VD) : VD := fun d M1 => match d with
  | .lst acc => ∀ p, M1 p = none → Q (.ref p) (mup M1 p (.lst acc))
  | _ => False
theorem uLcV' : tLcV ti g tt te vs τ M Q = ti τ M (LcGo g tt te vs τ (asRef Q)) := rfl
theorem uAsRef {acc : List D} : asRef Q (.lst acc) M = ∀ p, M p = none → Q (.ref p) (mup M p (.lst acc)) := propext Iff.rfl
theorem lc_sel {I : Its} (P : D → D → Prop) (N : D → Prop) (hz : I.items.length < sizeLine) (hs : I.src M)
    (h : ∀ (i : Nat) (x : D) (R1 : VD) (R0 : MH → Prop), I.items[i]? = some x → (∀ y, P x y → R1 y M) → (N x → R0 M) → g x (wip τ vs) M fun τ2 M2 => tt τ2 M2 fun b M3 => if b = true then te τ2 M3 R1 else R0 M3)
    (k : ∀ acc, Sel P N I.items acc → Q (.lst acc) M) : LcGo g tt te vs τ Q I M := by
  have tk : ∀ {i : Nat} {x : D}, I.items[i]? = some x → I.items.take (i + 1) = I.items.take i ++ [x] := fun {i x} e => by
    rw [List.take_add_one, e]; rfl
  refine ⟨hz, fun i acc M' => M' = M ∧ i ≤ I.items.length ∧ Sel P N (I.items.take i) acc, ⟨rfl, Nat.zero_le _, .nil⟩, ?_, ?_, ?_⟩
  · rintro i acc _ ⟨rfl, hi, s⟩
    have := s.len
    rw [List.length_take] at this
    exact ⟨hs, by omega⟩
  · rintro i x acc _ hx ⟨rfl, hi, s⟩
    have hi' := (List.getElem?_eq_some_iff.mp hx).1
    refine h i x _ _ hx (fun y p => ⟨rfl, hi', ?_⟩) (fun n => ⟨rfl, hi', ?_⟩)
    · rw [tk hx]; exact s.snoc_keep p
    · rw [tk hx]; exact s.snoc_drop n
  · rintro acc _ ⟨rfl, _, s⟩
    rw [List.take_length] at s
    exact k acc s
/-- a comprehension that computes f of each item, and keeps the memory -/
theorem lc_map {I : Its} (xs : List α) (a : α → D) (f : α → D) (hi : I.items = xs.map a) (hz : xs.length < sizeLine) (hs : I.src M)
    (h : ∀ (x : α) (R1 : VD) (R0 : MH → Prop), x ∈ xs → R1 (f x) M → g (a x) (wip τ vs) M fun τ2 M2 => tt τ2 M2 fun b M3 => if b = true then te τ2 M3 R1 else R0 M3)
    (k : Q (.lst (xs.map f)) M) : LcGo g tt te vs τ Q I M := by
  refine ⟨by rw [hi, List.length_map]; exact hz, fun i acc M' => M' = M ∧ acc = (xs.take i).map f, ⟨rfl, by simp⟩, ?_, ?_, ?_⟩
  · rintro i acc _ ⟨rfl, rfl⟩
    exact ⟨hs, by simp only [List.length_map, List.length_take]; omega⟩
  · rintro i x acc _ hx ⟨rfl, rfl⟩
    rw [hi, List.getElem?_map] at hx
    obtain ⟨y, hy, rfl⟩ := Option.map_eq_some_iff.mp hx
    refine h y _ _ (List.mem_of_getElem? hy) ⟨rfl, ?_⟩
    rw [List.take_add_one, hy]; simp
  · rintro acc _ ⟨rfl, rfl⟩
    rw [hi, List.length_map, List.take_length]
    exact k
/-- a comprehension that keeps the items that answer p, and computes f of them -/
theorem lc_filter {I : Its} (xs : List α) (a : α → D) (p : α → Bool) (f : α → D) (hi : I.items = xs.map a) (hz : xs.length < sizeLine) (hs : I.src M)
    (h : ∀ (x : α) (R1 : VD) (R0 : MH → Prop), x ∈ xs → (p x = true → R1 (f x) M) → (p x = false → R0 M) → g (a x) (wip τ vs) M fun τ2 M2 => tt τ2 M2 fun b M3 => if b = true then te τ2 M3 R1 else R0 M3)
    (k : Q (.lst ((xs.filter p).map f)) M) : LcGo g tt te vs τ Q I M := by
  refine ⟨by rw [hi, List.length_map]; exact hz, fun i acc M' => M' = M ∧ acc = ((xs.take i).filter p).map f, ⟨rfl, by simp⟩, ?_, ?_, ?_⟩
  · rintro i acc _ ⟨rfl, rfl⟩
    refine ⟨hs, ?_⟩
    simp only [List.length_map]
    have := List.length_filter_le p (xs.take i)
    rw [List.length_take] at this
    omega
  · rintro i x acc _ hx ⟨rfl, rfl⟩
    rw [hi, List.getElem?_map] at hx
    obtain ⟨y, hy, rfl⟩ := Option.map_eq_some_iff.mp hx
    refine h y _ _ (List.mem_of_getElem? hy) (fun e => ⟨rfl, ?_⟩) fun e => ⟨rfl, ?_⟩
    · rw [List.take_add_one, hy]; simp [List.filter_append, e]
    · rw [List.take_add_one, hy]; simp [List.filter_append, e]
  · rintro acc _ ⟨rfl, rfl⟩
    rw [hi, List.length_map, List.take_length]
    exact k
end
/-- the rest of a loop when its source is known -/
def ForGo (g : TGt) (tb : TSt) (D0 : En) (τ : Sg) (I : Its) (M1 : MH) : Prop := ∃ W : Nat → Sg → MH → Prop, W 0 τ M1 ∧ (∀ i τ M, W i τ M → I.src M) ∧
  (∀ i x τ M, I.items[i]? = some x → W i τ M → g x τ M fun τ2 M2 => tb { D0 with nx := W (i + 1), ct := W (i + 1), bk := D0.nx } τ2 M2) ∧ ∀ τ M, W I.items.length τ M → D0.nx τ M
theorem uFo {ti : TIt} {g : TGt} {tb : TSt} {D0 : En} {τ : Sg} {M : MH} : sFo ti g tb D0 τ M = ti τ M (ForGo g tb D0 τ) := propext Iff.rfl
/-- a loop whose turns keep a word of the slots, from the left; a return on the way ends it -/
theorem for_any {I : Its} {g : TGt} {tb : TSt} {D0 : En} {τ : Sg} {M : MH} (W : Nat → Sg → MH → Prop) (w0 : W 0 τ M) (ws : ∀ i τ M, W i τ M → I.src M)
    (hs : ∀ i x τ M, I.items[i]? = some x → W i τ M → g x τ M fun τ2 M2 => tb { D0 with nx := W (i + 1), ct := W (i + 1), bk := D0.nx } τ2 M2) (hd : ∀ τ M, W I.items.length τ M → D0.nx τ M) :
    ForGo g tb D0 τ I M := ⟨W, w0, ws, hs, hd⟩
/-- the same over a mapped list, the invariant told of what is done -/
theorem for_map {I : Its} {g : TGt} {tb : TSt} {D0 : En} {τ : Sg} {M : MH} (xs : List α) (a : α → D) (hi : I.items = xs.map a) (W : List α → Sg → MH → Prop) (w0 : W [] τ M) (ws : ∀ ys τ M, W ys τ M → I.src M)
    (hs : ∀ ys x zs τ M (Nx : Sg → MH → Prop), xs = ys ++ x :: zs → W ys τ M → (∀ τ' M', W (ys ++ [x]) τ' M' → Nx τ' M') → g (a x) τ M fun τ2 M2 => tb { D0 with nx := Nx, ct := Nx, bk := D0.nx } τ2 M2) (hd : ∀ τ M, W xs τ M → D0.nx τ M) :
    ForGo g tb D0 τ I M := by
  refine ⟨fun i => W (xs.take i), by simpa using w0, fun i τ M w => ws _ τ M w, ?_, ?_⟩
  · intro i x τ M hx w
    rw [hi, List.getElem?_map] at hx
    obtain ⟨y, hy, rfl⟩ := Option.map_eq_some_iff.mp hx
    have hl := (List.getElem?_eq_some_iff.mp hy)
    obtain ⟨h1, h2⟩ := hl
    refine hs (xs.take i) y (xs.drop (i + 1)) τ M _ ?_ w fun τ' M' w' => ?_
    · rw [← h2, List.getElem_cons_drop, List.take_append_drop]
    · show W (xs.take (i + 1)) τ' M'
      rw [List.take_add_one, hy]; exact w'
  · intro τ M w
    refine hd τ M ?_
    rw [hi, List.length_map, List.take_length] at w
    exact w
/-- a while loop with a measure -/
theorem wh_any {c : TTt} {tb : TSt} {D0 : En} {τ : Sg} {M : MH} (W : Nat → Sg → MH → Prop) (m : Nat) (w0 : W m τ M)
    (hs : ∀ m τ M, W m τ M → c τ M fun b M1 => if b = true then tb { D0 with nx := fun τ' M' => ∃ m', m' < m ∧ W m' τ' M', ct := fun τ' M' => ∃ m', m' < m ∧ W m' τ' M', bk := D0.nx } τ M1 else D0.nx τ M1) : sWh c tb D0 τ M := ⟨W, ⟨m, w0⟩, hs⟩
end Tl
namespace Tl
open PySem PySem.Spec PyProof.Rows L2
/-! ### instances -/
def oObj (M : MH) (x : D) (k : Addr → Addr → Addr → List Str → List D → Prop) : Prop := match x with
  | .ref a => match M a with
    | some (.obj C dx fl ds) => k a C dx fl ds
    | _ => False
  | _ => False
theorem oObj_e {M : MH} {x : D} {k : Addr → Addr → Addr → List Str → List D → Prop} (h : oObj M x k) : ∃ a C dx fl ds, x = .ref a ∧ M a = some (.obj C dx fl ds) ∧ k a C dx fl ds := by
  unfold oObj at h
  cases x with
  | ref a =>
    cases e : M a with
    | none => simp only [e] at h
    | some o =>
      cases o with
      | obj C dx fl ds => simp only [e] at h; exact ⟨a, C, dx, fl, ds, rfl, e, h⟩
      | _ => simp only [e] at h
  | _ => exact h.elim
theorem RpO_obj {K : PySem.W.Frag} {F : Hp} {u : HO} {C dx : Addr} {fl : List Str} {ds : List D} (r : RpO K F u (.obj C dx fl ds)) : ∃ fs, u = .ins C dx fs ∧ fl.Nodup ∧ fs.map (·.1) = fl.take ds.length ∧ Rps K F (fs.map (·.2)) ds := by
  cases u with
  | ins C1 dx1 fs =>
    obtain ⟨rfl, rfl, nd, hn, rr⟩ := r
    exact ⟨fs, rfl, nd, hn, rr⟩
  | _ => exact (r : False).elim
def nthD : List D → Nat → Option D
  | [], _ => none
  | x :: _, 0 => some x
  | _ :: t, n + 1 => nthD t n
def putD : List D → Nat → D → List D
  | [], _, d => [d]
  | _ :: t, 0, d => d :: t
  | x :: t, n + 1, d => x :: putD t n d
theorem nthD_get : ∀ {l : List D} {i : Nat} {d : D}, nthD l i = some d → l[i]? = some d
  | [], _, _, h => by cases h
  | x :: _, 0, d, h => by rw [List.getElem?_cons_zero]; exact h
  | _ :: t, n + 1, d, h => by rw [List.getElem?_cons_succ]; exact nthD_get (l := t) h
theorem look_at {f : Str} {v : V} : ∀ {fs : List (Str × V)} {i : Nat}, (fs.map (·.1)).Nodup → fs[i]? = some (f, v) → fs.lookup f = some v
  | [], _, _, h => by rw [List.getElem?_nil] at h; cases h
  | (g, x) :: r, 0, _, h => by
    rw [List.getElem?_cons_zero] at h
    cases h
    show (match f == f with | true => some v | false => r.lookup f) = some v
    rw [show (f == f) = true from beq_iff_eq.mpr rfl]
  | (g, x) :: r, n + 1, nd, h => by
    rw [List.getElem?_cons_succ] at h
    have hm : f ∈ r.map (·.1) := List.mem_map.mpr ⟨(f, v), List.mem_of_getElem? h, rfl⟩
    have nd2 := List.nodup_cons.mp (show (g :: r.map (·.1)).Nodup from nd)
    have ne : (f == g) = false := beq_eq_false_iff_ne.mpr fun e => nd2.1 (e ▸ hm)
    show (match f == g with | true => some x | false => r.lookup f) = some v
    rw [ne]
    exact look_at nd2.2 h
theorem look_not {f : Str} : ∀ {fs : List (Str × V)}, f ∉ fs.map (·.1) → fs.lookup f = none
  | [], _ => rfl
  | (g, x) :: r, h => by
    have h2 : f ∉ g :: r.map (·.1) := h
    rw [List.mem_cons, not_or] at h2
    show (match f == g with | true => some x | false => r.lookup f) = none
    rw [show (f == g) = false from beq_eq_false_iff_ne.mpr h2.1]
    exact look_not h2.2
theorem putF_at {f : Str} {v v0 : V} : ∀ {fs : List (Str × V)} {i : Nat}, (fs.map (·.1)).Nodup → fs[i]? = some (f, v0) → putF f v fs = fs.set i (f, v)
  | [], _, _, h => by rw [List.getElem?_nil] at h; cases h
  | (g, x) :: r, 0, _, h => by
    rw [List.getElem?_cons_zero] at h
    cases h
    show (if f = f then (f, v) :: r else (f, v0) :: putF f v r) = (f, v) :: r
    rw [if_pos rfl]
  | (g, x) :: r, n + 1, nd, h => by
    rw [List.getElem?_cons_succ] at h
    have hm : f ∈ r.map (·.1) := List.mem_map.mpr ⟨(f, v0), List.mem_of_getElem? h, rfl⟩
    have nd2 := List.nodup_cons.mp (show (g :: r.map (·.1)).Nodup from nd)
    show (if g = f then (g, v) :: r else (g, x) :: putF f v r) = (g, x) :: r.set n (f, v)
    rw [if_neg fun e : g = f => nd2.1 (e ▸ hm), putF_at nd2.2 h]
theorem putF_new {f : Str} {v : V} : ∀ {fs : List (Str × V)}, f ∉ fs.map (·.1) → putF f v fs = fs ++ [(f, v)]
  | [], _ => rfl
  | (g, x) :: r, h => by
    have h2 : f ∉ g :: r.map (·.1) := h
    rw [List.mem_cons, not_or] at h2
    show (if g = f then (g, v) :: r else (g, x) :: putF f v r) = (g, x) :: (r ++ [(f, v)])
    rw [if_neg fun e : g = f => h2.1 e.symm, putF_new h2.2]
theorem putD_lt : ∀ {ds : List D} {i : Nat} {d : D}, i < ds.length → putD ds i d = ds.set i d
  | [], _, _, h => absurd h (Nat.not_lt_zero _)
  | _ :: _, 0, _, _ => rfl
  | x :: t, n + 1, d, h => by
    show x :: putD t n d = x :: t.set n d
    rw [putD_lt (Nat.lt_of_succ_lt_succ h)]
theorem putD_eq : ∀ {ds : List D} {d : D}, putD ds ds.length d = ds ++ [d]
  | [], _ => rfl
  | x :: t, d => by
    show x :: putD t t.length d = x :: (t ++ [d])
    rw [putD_eq]
theorem take_not {α : Type} {fl : List α} (nd : fl.Nodup) {n i : Nat} {f : α} (h : fl[i]? = some f) (hi : n ≤ i) : f ∉ fl.take n := by
  intro hm
  obtain ⟨j, hj⟩ := List.mem_iff_getElem?.mp hm
  have hj2 : j < n := by
    have := (List.getElem?_eq_some_iff.mp hj).1
    rw [List.length_take] at this; omega
  rw [List.getElem?_take_of_lt hj2] at hj
  obtain ⟨h1, e1⟩ := List.getElem?_eq_some_iff.mp h
  obtain ⟨h2, e2⟩ := List.getElem?_eq_some_iff.mp hj
  have := (List.getElem?_inj h2 nd).mp (hj.trans h.symm)
  omega
section
variable {K : PySem.W.Frag} {F : Hp} {fs : List (Str × V)} {fl : List Str} {ds : List D}
theorem fs_get (nd : fl.Nodup) (hn : fs.map (·.1) = fl.take ds.length) (r : Rps K F (fs.map (·.2)) ds) {i : Nat} {f : Str} {d : D} (hf : fl[i]? = some f) (hd : ds[i]? = some d) : ∃ v, fs.lookup f = some v ∧ fs[i]? = some (f, v) ∧ Rp K F v d := by
  obtain ⟨v, hv, rv⟩ := r.getD hd
  rw [List.getElem?_map] at hv
  obtain ⟨⟨g, v'⟩, e, rfl⟩ := Option.map_eq_some_iff.mp hv
  have hl := (List.getElem?_eq_some_iff.mp hd).1
  have h1 : (fs.map (·.1))[i]? = some g := by rw [List.getElem?_map, e]; rfl
  rw [hn, List.getElem?_take_of_lt hl, hf] at h1
  cases h1
  exact ⟨v', look_at (by rw [hn]; exact (List.take_sublist _ _).nodup nd) e, e, rv⟩
theorem fs_put (nd : fl.Nodup) (hn : fs.map (·.1) = fl.take ds.length) (r : Rps K F (fs.map (·.2)) ds) {i : Nat} {f : Str} {v : V} {d : D} (hf : fl[i]? = some f) (hi : i ≤ ds.length) (rv : Rp K F v d) :
    (putF f v fs).map (·.1) = fl.take (putD ds i d).length ∧ Rps K F ((putF f v fs).map (·.2)) (putD ds i d) := by
  have hlen : fs.length = ds.length := by rw [← r.length, List.length_map]
  have nd2 : (fs.map (·.1)).Nodup := by rw [hn]; exact (List.take_sublist _ _).nodup nd
  by_cases hlt : i < ds.length
  · obtain ⟨v0, _, e, _⟩ := fs_get nd hn r hf (List.getElem?_eq_getElem hlt)
    rw [putF_at nd2 e, putD_lt hlt]
    constructor
    · rw [List.map_set, List.length_set, ← hn]
      apply List.ext_getElem?
      intro j
      by_cases hj : i = j
      · subst hj
        rw [List.getElem?_set_self (by rw [List.length_map, hlen]; exact hlt), List.getElem?_map, e]; rfl
      · rw [List.getElem?_set_ne hj]
    · rw [List.map_set]
      exact r.set rv i
  · obtain rfl : i = ds.length := by omega
    have hnot : f ∉ fs.map (·.1) := by rw [hn]; exact take_not nd hf (Nat.le_refl _)
    rw [putF_new hnot, putD_eq]
    constructor
    · rw [List.map_append, List.length_append, hn]
      rw [show ds.length + [d].length = ds.length + 1 from rfl, List.take_add_one, hf]; rfl
    · rw [List.map_append]
      exact r.append (.cons rv .nil)
end
/-- e.f of an instance -/
def tFd (P : Addr → Prop) (fl : List Str) (i : Nat) (te : TEt) : TEt := fun τ M Q => te τ M fun x M1 => oObj M1 x fun _ C _ fl' ds => P C ∧ fl' = fl ∧ oSome (nthD ds i) fun d => Q d M1
/-- e.f = v -/
def sFd (P : Addr → Prop) (fl : List Str) (i : Nat) (te tv : TEt) : TSt := fun D τ M => tv τ M fun y M1 => te τ M1 fun x M2 => oObj M2 x fun a C dx fl' ds => P C ∧ fl' = fl ∧ i ≤ ds.length ∧ D.nx τ (mup M2 a (.obj C dx fl (putD ds i y)))
/-- e.f op= v -/
def sFa (P : Addr → Prop) (fl : List Str) (i : Nat) (te tv : TEt) (r : R2t) : TSt := fun D τ M => te τ M fun x M1 => oObj M1 x fun _ C _ fl' ds => P C ∧ fl' = fl ∧ oSome (nthD ds i) fun d =>
  tv τ M1 fun y M2 => r d y M2 fun z M3 => oObj M3 x fun a C' dx fl' ds => C' = C ∧ fl' = fl ∧ i ≤ ds.length ∧ D.nx τ (mup M3 a (.obj C dx fl (putD ds i z)))
section
variable {X : Cx} {E : XK} {Et : XT} {e value : Expr} {pos pos' : Pos} {te tv : TEt} {P : Addr → Prop} {fl : List Str} {i : Nat} {f : Str}
theorem oSome_e {α : Type} {o : Option α} {k : α → Prop} (h : oSome o k) : ∃ d, o = some d ∧ k d := by
  cases o with
  | none => exact h.elim
  | some d => exact ⟨d, rfl, h⟩
theorem q_fld (i : Nat) (fl : List Str) (c : ∀ C, P C → Cls X.K C ∧ NoAttr X.K C f) (he : QE X E Et e te) (hf : fl[i]? = some f := by rfl) (hb : attributeBase e f X.env (eval e X.env) = eval e X.env := by rfl) : QE X E Et (.Attribute e f pos) (tFd P fl i te) := PEimp (pe_fld he hb) (by
  rintro σ H Q ⟨G, F, M, τ, Qt, a, h, k⟩
  refine ⟨G, F, M, τ, _, a, h, fun v F1 H1 M1 d s1 r1 p1 q1 => ?_⟩
  obtain ⟨b, C, dx, fl', ds, rfl, hM, hP, rfl, q5⟩ := oObj_e q1
  obtain ⟨d', hd, q6⟩ := oSome_e q5
  cases p1
  obtain ⟨_, u, hu, r⟩ := r1.chg b _ hM
  · obtain ⟨fs, rfl, nd, hn, rr⟩ := RpO_obj r
    obtain ⟨v', e1, _, rv⟩ := fs_get nd hn rr hf (nthD_get hd)
    exact ⟨b, C, dx, fs, v', rfl, hu, (c _ hP).1, (c _ hP).2, e1, k v' F1 H1 M1 d' s1 r1 rv q6⟩)
theorem qs_fld (i : Nat) (fl : List Str) (c : ∀ C, P C → Cls X.K C ∧ NoAttr X.K C f) (he : QE X E Et e te) (hv : QE X E Et value tv) (hf : fl[i]? = some f := by rfl) (hl : fl.length < 1000 := by decide)
    (hs : swapsWith value (some (.Attribute e f pos')) pos.line X.env = pure false := by rfl) : QS X E Et (.Assign [.Attribute e f pos'] value pos) (sFd P fl i te tv) := PSimp (ps_fld he hv hs) (by
  rintro D σ H ⟨G, F, M, τ, Dt, a, en, h⟩
  refine ⟨G, F, M, τ, _, a, h, fun v F1 H1 M1 d s1 r1 p1 q1 => ?_⟩
  refine ⟨G, F1, M1, τ, _, a.step s1 r1, q1, fun x F2 H2 M2 xd s2 r2 p2 q2 => ?_⟩
  obtain ⟨b, C, dx, fl', ds, rfl, hM, hP, rfl, hi, q5⟩ := oObj_e q2
  cases p2
  obtain ⟨_, u, hu, r⟩ := r2.chg b _ hM
  · obtain ⟨fs, rfl, nd, hn, rr⟩ := RpO_obj r
    have z := fs_put nd hn rr hf hi (p1.mono s2)
    have z2 : RpO X.K F2 (.ins C dx (putF f v fs)) (.obj C dx _ (putD ds i d)) := ⟨rfl, rfl, nd, z.1, z.2⟩
    have hlen : fs.length < 1000 := by
      have := congrArg List.length hn
      rw [List.length_map, List.length_take] at this; omega
    exact ⟨b, C, dx, fs, rfl, hu, (c _ hP).1, (c _ hP).2, hlen, en.nx F2 _ _ _ _ (s1.trans s2) ⟨r2.put hM z2, (a.sg.mono s1).mono s2, (a.el.mono s1).mono s2⟩ q5⟩)
theorem qs_fldaug (i : Nat) (fl : List Str) {op : Operator} {r : R2t} (c : ∀ C, P C → Cls X.K C ∧ NoAttr X.K C f) (ho : OpQ X (inplaceOp op) r) (he : QE X E Et e te) (hv : QE X E Et value tv) (hf : fl[i]? = some f := by rfl) (hl : fl.length < 1000 := by decide) :
    QS X E Et (.AugAssign (.Attribute e f pos') op value pos) (sFa P fl i te tv r) := PSimp (ps_fldaug he hv (fun pins s σ H x y u v Q I rx ry h => ho pins s σ H x y u v Q I rx ry h)) (by
  rintro D σ H ⟨G, F, M, τ, Dt, a, en, h⟩
  refine ⟨G, F, M, τ, _, a, h, fun x F1 H1 M1 d s1 r1 p1 q1 => ?_⟩
  obtain ⟨b, C, dx, fl', ds, rfl, hM, hP, rfl, q5⟩ := oObj_e q1
  obtain ⟨d', hd, q6⟩ := oSome_e q5
  cases p1
  obtain ⟨_, u, hu, r⟩ := r1.chg b _ hM
  · obtain ⟨fs, rfl, nd, hn, rr⟩ := RpO_obj r
    obtain ⟨v', e1, _, rv⟩ := fs_get nd hn rr hf (nthD_get hd)
    refine ⟨b, C, dx, fs, v', rfl, hu, (c _ hP).1, (c _ hP).2, e1, G, F1, M1, τ, _, a.step s1 r1, q6, fun y F2 H2 M2 yd s2 r2 p2 q2 => ?_⟩
    refine ⟨G, F2, M2, d', yd, _, r2, rv.mono s2, p2, q2, fun z F3 H3 M3 zd s3 r3 p3 q3 => ?_⟩
    obtain ⟨b', C', dx', fl'', ds', eb, hM', rfl, rfl, hi, q5⟩ := oObj_e q3
    cases eb
    obtain ⟨_, u', hu', r'⟩ := r3.chg b _ hM'
    · obtain ⟨fs2, rfl, nd', hn', rr'⟩ := RpO_obj r'
      have z := fs_put nd' hn' rr' hf hi p3
      have z2 : RpO X.K F3 (.ins C' dx' (putF f _ fs2)) (.obj C' dx' _ (putD ds' i zd)) := ⟨rfl, rfl, nd', z.1, z.2⟩
      have hlen : fs2.length < 1000 := by
        have := congrArg List.length hn'
        rw [List.length_map, List.length_take] at this; omega
      exact ⟨dx', fs2, hu', hlen, en.nx F3 _ _ _ _ ((s1.trans s2).trans s3) ⟨r3.put hM' z2, ((a.sg.mono s1).mono s2).mono s3, ((a.el.mono s1).mono s2).mono s3⟩ q5⟩)
end
/-! ### methods -/
/-- a method of the class c -/
structure Fm (P : Program) (w : World) (K : PySem.W.Frag) (mg : Str → Option Value) (base : Heap) (CX : CXT) (k : Nat) (c m : Str) (sp : SpT) : Prop where
  ok : ∃ fd ps, FnOk P w K mg base CX k (He.ma K (He.ga K c) m) fd ps (lSp K sp) ∧ Binds K fd ps []
  me : Meth K (He.ga K c) m (He.ma K (He.ga K c) m)
  cl : Cls K (He.ga K c)
/-- a class that is made -/
structure Fi (P : Program) (w : World) (K : PySem.W.Frag) (mg : Str → Option Value) (base : Heap) (CX : CXT) (k : Nat) (c : Str) (sp : SpT) : Prop where
  ok : ∃ fd ps, FnOk P w K mg base CX k (He.ma K (He.ga K c) "__init__") fd ps (lSp K sp) ∧ Binds K fd ps []
  mkr : Mk K (He.ga K c) (He.ma K (He.ga K c) "__init__")
  m : mg c = some (.ref (He.ga K c))
def tMe (C : Addr) (fl : List Str) (sp : SpT) (te : TEt) (ta : TAt) : TEt := fun τ M Q => te τ M fun x M1 => oObj M1 x fun _ C' _ fl' _ => C' = C ∧ fl' = fl ∧ ta τ M1 fun ys M2 => sp (x :: ys) M2 Q Et0
def tMk (C : Addr) (fl : List Str) (sp : SpT) (ta : TAt) : TEt := fun τ M Q => ta τ M fun ys M1 => ∀ x dx, M1 x = none → sp (.ref x :: ys) (mup M1 x (.obj C dx fl [])) (fun v M2 => v = .non ∧ Q (.ref x) M2) Et0
def tAlt (t u : TEt) : TEt := fun τ M Q => t τ M Q ∨ u τ M Q
section
variable {X : Cx} {E : XK} {Et : XT} {e : Expr} {es : List Expr} {pos apos p : Pos} {te : TEt} {ta : TAt} {fl : List Str} {c m : Str} {sp : SpT} {k : Nat} {o : Expr}
theorem q_alt {t u : TEt} (h : QE X E Et e t) (h2 : QE X E Et e u) : QE X E Et e (tAlt t u) := ⟨fun pins s σ H Q I w => by
  obtain ⟨G, F, M, τ, Qt, a, h3, k⟩ := w
  rcases h3 with h3 | h3
  · exact h.run pins s σ H Q I ⟨G, F, M, τ, Qt, a, h3, k⟩
  · exact h2.run pins s σ H Q I ⟨G, F, M, τ, Qt, a, h3, k⟩⟩
theorem lv_meth {E' : XK} {to : TEt} (hm : m ∉ fl) : ∀ σ H Q, liftE X.K E Et (tMe (He.ga X.K c) fl sp to ta) σ H Q → tMeth (He.ga X.K c) m (lSp X.K sp) [] E' (liftE X.K E Et to) (liftA X.K E Et ta) σ H Q := by
  rintro σ H Q ⟨G, F, M, τ, Qt, a, h, k⟩
  refine ⟨G, F, M, τ, _, a, h, fun x F1 H1 M1 d s1 r1 p1 q1 => ?_⟩
  obtain ⟨b, C, dx, fl', ds, rfl, hM, rfl, rfl, q5⟩ := oObj_e q1
  cases p1
  obtain ⟨_, u, hu, r⟩ := r1.chg b _ hM
  · obtain ⟨fs, rfl, nd, hn, rr⟩ := RpO_obj r
    refine ⟨b, dx, fs, rfl, hu, look_not (by rw [hn]; exact fun z => hm (List.mem_of_mem_take z)), G, F1, M1, τ, _, a.step s1 r1, q5, fun vs F2 H2 M2 ys s2 r2 p2 q2 => ?_⟩
    show lSp X.K sp (.ref b :: (vs ++ [])) H2 Q E'
    rw [List.append_nil]
    exact ⟨G, F2, M2, .ref b :: ys, Qt, Et0, r2, .cons (.ref b) p2, .never, q2, fun v F' H' M' d s => k v F' H' M' d ((s1.trans s2).trans s)⟩
theorem q_meth (fl : List Str) (Fo : Fm X.prog X.w X.K X.mg X.base CX0 k c m sp) (hr : Room k X.A) {to : TEt} (he : QE X E Et o to) (ha : QA X E Et (e :: es) ta) (hm : m ∉ fl := by decide)
    (hst : starEach (e :: es) X.env = (false, eval e X.env) :: starEach es X.env := by rfl) (hpl : (backTo pos (starEach es X.env)).any (·.1) = false := by rfl)
    {pl : Sem Bool} (ht : eval (.Call (.Attribute o m apos) (e :: es) [] pos) X.env = (do
      let ov ← eval o X.env
      standAt apos.atName
      let (f, first) ← holding [ov] (getMethod ov m pl)
      callWith pos f first (backTo pos (starEach (e :: es) X.env)) (backToKw pos (keywordEach [] X.env))) := by rfl) :
    QE X E Et (.Call (.Attribute o m apos) (e :: es) [] pos) (tMe (He.ga X.K c) fl sp to ta) := by
  obtain ⟨⟨fd, ps, F1, b⟩, me, cl⟩ := Fo
  exact PEimp (pe_meth he cl me F1 hr b .nil pass0 ha hst hpl ht) (lv_meth hm)
theorem q_meth0 (fl : List Str) (Fo : Fm X.prog X.w X.K X.mg X.base CX0 k c m sp) (hr : Room k X.A) {to : TEt} (he : QE X E Et o to) (hm : m ∉ fl := by decide)
    {pl : Sem Bool} (ht : eval (.Call (.Attribute o m apos) [] [] pos) X.env = (do
      let ov ← eval o X.env
      standAt apos.atName
      let (f, first) ← holding [ov] (getMethod ov m pl)
      callWith pos f first (backTo pos (starEach [] X.env)) (backToKw pos (keywordEach [] X.env))) := by rfl) :
    QE X E Et (.Call (.Attribute o m apos) [] [] pos) (tMe (He.ga X.K c) fl sp to tN) := by
  obtain ⟨⟨fd, ps, F1, b⟩, me, cl⟩ := Fo
  refine PEimp (pe_meth0 he cl me F1 hr b .nil pass0 ht) ?_
  rintro σ H Q h
  obtain ⟨hx⟩ : Nonempty Unit := ⟨()⟩
  obtain ⟨G, F, M, τ, Qt, a, h, k⟩ := h
  refine ⟨G, F, M, τ, _, a, h, fun x F1 H1 M1 d s1 r1 p1 q1 => ?_⟩
  obtain ⟨b', C, dx, fl', ds, rfl, hM, rfl, rfl, q5⟩ := oObj_e q1
  cases p1
  obtain ⟨_, u, hu, r⟩ := r1.chg b' _ hM
  · obtain ⟨fs, rfl, nd, hn, rr⟩ := RpO_obj r
    refine ⟨b', dx, fs, rfl, hu, look_not (by rw [hn]; exact fun z => hm (List.mem_of_mem_take z)), ?_⟩
    exact ⟨G, F1, M1, [.ref b'], Qt, Et0, r1, .cons (.ref b') .nil, .never, q5, fun v F' H' M' d s => k v F' H' M' d (s1.trans s)⟩
theorem lv_make1 {E' : XK} {H1 : Hp} {F1 G : Hp} {M1 : MH} {ys : List D} {vs : List V} {Q : VK} {Qt : VD} (nd : fl.Nodup) (r1 : Rel X.K G F1 H1 M1) (p1 : Rps X.K F1 vs ys)
    (h : ∀ x dx, M1 x = none → sp (.ref x :: ys) (mup M1 x (.obj (He.ga X.K c) dx fl [])) (fun v M2 => v = .non ∧ Qt (.ref x) M2) Et0)
    (k : ∀ v F' H' M' d, Same F1 F' → Rel X.K G F' H' M' → Rp X.K F' v d → Qt d M' → Q v H') :
    ∀ x dx, H1 x = none → H1 dx = none → dx ≠ x → lSp X.K sp (.ref x :: vs) (upd (upd H1 dx (.own x)) x (.ins (He.ga X.K c) dx [])) (fun v H2 => v = .non ∧ Q (.ref x) H2) E' := by
  intro x dx nx ndx ne
  obtain ⟨s2, r2⟩ := r1.newF (o := .own x) ndx
  have r3 := r2.newM (p := x) (u := .ins (He.ga X.K c) dx []) (o := .obj (He.ga X.K c) dx fl []) (by rw [upd_ne (Ne.symm ne)]; exact nx) ⟨rfl, rfl, nd, rfl, .nil⟩
  refine ⟨G, _, _, .ref x :: ys, _, Et0, r3, .cons (.ref x) (p1.mono s2), .never, h x dx (r1.free nx).2, fun v F' H' M' d s r p q => ?_⟩
  obtain ⟨rfl, q⟩ := q
  cases p
  exact ⟨rfl, k _ F' H' M' (.ref x) (s2.trans s) r (.ref x) q⟩
theorem q_make (fl : List Str) (Fo : Fi X.prog X.w X.K X.mg X.base CX0 k c sp) (hr : Room (k + 1) X.A) (ha : QA X E Et (e :: es) ta) (hg : Gl X c := by rfl) (nd : fl.Nodup := by decide) (hdb : (c == ("__debug__" : Str)) = false := by decide)
    (he : starEach (e :: es) X.env = (false, eval e X.env) :: starEach es X.env := by rfl) (hpl : (backTo pos (starEach es X.env)).any (·.1) = false := by rfl) : QE X E Et (.Call (.Name c p) (e :: es) [] pos) (tMk (He.ga X.K c) fl sp ta) := by
  obtain ⟨⟨fd, ps, F1, b⟩, mk, m⟩ := Fo
  refine PEimp (pe_make mk F1 hr hg m b .nil pass0 ha hdb he hpl) ?_
  rintro σ H Q ⟨G, F, M, τ, Qt, a, h, k⟩
  refine ⟨G, F, M, τ, _, a, h, fun vs F1 H1 M1 ys s1 r1 p1 q1 => ?_⟩
  intro x dx nx ndx ne
  show lSp X.K sp (.ref x :: (vs ++ [])) _ _ E0
  rw [List.append_nil]
  exact lv_make1 nd r1 p1 q1 (fun v F' H' M' d s => k v F' H' M' d (s1.trans s)) x dx nx ndx ne
theorem q_make0 (fl : List Str) (Fo : Fi X.prog X.w X.K X.mg X.base CX0 k c sp) (hr : Room (k + 1) X.A) (hg : Gl X c := by rfl) (nd : fl.Nodup := by decide) (hdb : (c == ("__debug__" : Str)) = false := by decide) :
    QE X E Et (.Call (.Name c p) [] [] pos) (tMk (He.ga X.K c) fl sp tN) := by
  obtain ⟨⟨fd, ps, F1, b⟩, mk, m⟩ := Fo
  refine PEimp (pe_make0 mk F1 hr hg m b .nil pass0 hdb) ?_
  rintro σ H Q ⟨G, F, M, τ, Qt, a, h, k⟩
  intro x dx nx ndx ne
  exact lv_make1 nd a.rel .nil h k x dx nx ndx ne
end
section
variable {P : Program} {w : World} {K : PySem.W.Frag} {mg : Str → Option Value} {base : Heap} {c m : Str} {N ps : List Str} {k : Nat} {sp : SpT} {fa : List He.Fa} {fn : List He.DefD}
theorem Top.cls (T : Top fa fn K mg) (i : Nat) {x : Str} (h : fa[i]? = some (.cls x) := by rfl) : Cls K (He.ga K x) := He.cls_ok (T.says.fact i h)
theorem Top.noat (T : Top fa fn K mg) (i : Nat) {x f : Str} (h : fa[i]? = some (.noat x f) := by rfl) : NoAttr K (He.ga K x) f := He.noat_ok (T.says.fact i h)
theorem Top.meth (T : Top fa fn K mg) (i : Nat) {x f : Str} (h : fa[i]? = some (.meth x f) := by rfl) : Meth K (He.ga K x) f (He.ma K (He.ga K x) f) := He.meth_ok (T.says.fact i h)
theorem Top.mkr (T : Top fa fn K mg) (i : Nat) {x : Str} (h : fa[i]? = some (.mkr x) := by rfl) : Mk K (He.ga K x) (He.ma K (He.ga K x) "__init__") := He.mkr_ok (T.says.fact i h)
/-- THE RULE of a method's code, at whatever place -/
theorem fa_top (T : Top fa fn K mg) (d : He.DefD) (i : Nat) (S : FnScope N ps d.scope) (len : ∀ ds M Q Et, sp ds M Q Et → ds.length = ps.length)
    (hb : ∀ (cdv : Value) (A : Around) (outer : List Env) (s : Shared) (H : Hp) (E : XK), Room k (A.deeper (envOfC d.qual d.scope s.heap.objs.size (He.fAd K d.at_) cdv)) →
      ∃ t, QSs (cxOf CX0 P w K mg base N d.qual d.scope (He.fAd K d.at_) cdv A outer s H E).nox E0 Et0 d.body t ∧ ∀ ds M Q Et, sp ds M Q Et → t { nx := fun _ M' => Q .non M', rt := Q } (begin_ N ds) M)
    (bd : ∀ (kV doc pm : Value) (an : Option Addr) (cdv ct : Value) (us : List Value), us.length = ps.length → bindArgs (PySem.W.fnOf d.name d.qual d.params d.body d.scope .none kV doc pm an cdv ct) ⟨us, []⟩ = pure (ps.zip us))
    (h : fn[i]? = some d := by rfl) (h0 : d.dfl = [] := by rfl) (h1 : d.kwd = [] := by rfl) : ∃ fd ps, FnOk P w K mg base CX0 (k + 1) (He.fAd K d.at_) fd ps (lSp K sp) ∧ Binds K fd ps [] := by
  obtain ⟨fd, F⟩ := T.says.def_ i h
  have e0 : d.dvs K = [] := by unfold He.DefD.dvs; rw [h0]; rfl
  have e1 : d.kws K = [] := by unfold He.DefD.kws; rw [h1]; rfl
  rw [e0, e1] at F
  exact ⟨fd, ps, fn_ok d fd F S len hb, F.bindsN bd⟩
theorem fm_top (T : Top fa fn K mg) (d : He.DefD) (i : Nat) (S : FnScope N ps d.scope) (me : Meth K (He.ga K c) m (He.ma K (He.ga K c) m)) (cl : Cls K (He.ga K c)) (len : ∀ ds M Q Et, sp ds M Q Et → ds.length = ps.length)
    (hb : ∀ (cdv : Value) (A : Around) (outer : List Env) (s : Shared) (H : Hp) (E : XK), Room k (A.deeper (envOfC d.qual d.scope s.heap.objs.size (He.fAd K d.at_) cdv)) →
      ∃ t, QSs (cxOf CX0 P w K mg base N d.qual d.scope (He.fAd K d.at_) cdv A outer s H E).nox E0 Et0 d.body t ∧ ∀ ds M Q Et, sp ds M Q Et → t { nx := fun _ M' => Q .non M', rt := Q } (begin_ N ds) M)
    (bd : ∀ (kV doc pm : Value) (an : Option Addr) (cdv ct : Value) (us : List Value), us.length = ps.length → bindArgs (PySem.W.fnOf d.name d.qual d.params d.body d.scope .none kV doc pm an cdv ct) ⟨us, []⟩ = pure (ps.zip us))
    (h : fn[i]? = some d := by rfl) (h0 : d.dfl = [] := by rfl) (h1 : d.kwd = [] := by rfl) (hx : d.at_ = (c, some m) := by rfl) : Fm P w K mg base CX0 (k + 1) c m sp := by
  have z := fa_top (P := P) (w := w) (base := base) T d i S len hb bd h h0 h1
  rw [hx] at z
  exact ⟨z, me, cl⟩
theorem fi_top (T : Top fa fn K mg) (d : He.DefD) (i : Nat) (S : FnScope N ps d.scope) (mk : Mk K (He.ga K c) (He.ma K (He.ga K c) "__init__")) (hm : mg c = some (.ref (He.ga K c))) (len : ∀ ds M Q Et, sp ds M Q Et → ds.length = ps.length)
    (hb : ∀ (cdv : Value) (A : Around) (outer : List Env) (s : Shared) (H : Hp) (E : XK), Room k (A.deeper (envOfC d.qual d.scope s.heap.objs.size (He.fAd K d.at_) cdv)) →
      ∃ t, QSs (cxOf CX0 P w K mg base N d.qual d.scope (He.fAd K d.at_) cdv A outer s H E).nox E0 Et0 d.body t ∧ ∀ ds M Q Et, sp ds M Q Et → t { nx := fun _ M' => Q .non M', rt := Q } (begin_ N ds) M)
    (bd : ∀ (kV doc pm : Value) (an : Option Addr) (cdv ct : Value) (us : List Value), us.length = ps.length → bindArgs (PySem.W.fnOf d.name d.qual d.params d.body d.scope .none kV doc pm an cdv ct) ⟨us, []⟩ = pure (ps.zip us))
    (h : fn[i]? = some d := by rfl) (h0 : d.dfl = [] := by rfl) (h1 : d.kwd = [] := by rfl) (hx : d.at_ = (c, some ("__init__" : Str)) := by rfl) : Fi P w K mg base CX0 (k + 1) c sp := by
  have z := fa_top (P := P) (w := w) (base := base) T d i S len hb bd h h0 h1
  rw [hx] at z
  exact ⟨z, mk, hm⟩
end
/-! ### readings, for simp -/
section
variable {τ : Sg} {M : MH} {Q : VD} {te tv : TEt} {ta : TAt} {P : Addr → Prop} {fl : List Str} {i : Nat} {a C dx : Addr} {ds : List D} {sp : SpT}
def oAt (o : Option MO) (k : Addr → Addr → List Str → List D → Prop) : Prop := match o with
  | some (.obj C dx fl ds) => k C dx fl ds
  | _ => False
theorem uObj {k : Addr → Addr → Addr → List Str → List D → Prop} : oObj M (.ref a) k = oAt (M a) (k a) := by
  show (match M a with | some (.obj C dx fl ds) => k a C dx fl ds | _ => False) = oAt (M a) (k a)
  cases M a with
  | none => rfl
  | some o => cases o <;> rfl
theorem oAt_i {k : Addr → Addr → List Str → List D → Prop} : oAt (some (.obj C dx fl ds)) k = k C dx fl ds := propext Iff.rfl
theorem cxK {CX : CXT} {P : Program} {w : World} {K : PySem.W.Frag} {mg : Str → Option Value} {base : Heap} {N : List Str} {qual : Str} {scope : Scope} {f : Addr} {cdv : Value} {A : Around} {outer : List Env} {s : Shared} {H : Hp} {E : XK} : (cxOf CX P w K mg base N qual scope f cdv A outer s H E).K = K := rfl
theorem cxKn {CX : CXT} {P : Program} {w : World} {K : PySem.W.Frag} {mg : Str → Option Value} {base : Heap} {N : List Str} {qual : Str} {scope : Scope} {f : Addr} {cdv : Value} {A : Around} {outer : List Env} {s : Shared} {H : Hp} {E : XK} : (cxOf CX P w K mg base N qual scope f cdv A outer s H E).nox.K = K := rfl
theorem uAlt {t u : TEt} : tAlt t u τ M Q = (t τ M Q ∨ u τ M Q) := propext Iff.rfl
end
end Tl
namespace Tl
open PySem PySem.Spec PyProof.Rows L2
/-! ### == of nested data -/
mutual
def pyD : D → Option PyData
  | .non => some .none
  | .bl b => some (.bool b)
  | .int i => some (.int i)
  | .str s => some (.str s)
  | .tup l => (pyDs l).map .tuple
  | .tab l => (pyDs l).map .tuple
  | .lst l => (pyDs l).map .list
  | .scr l => (pyDs l).map .list
  | .ref _ => none
  | .ty _ => none
def pyDs : List D → Option (List PyData)
  | [] => some []
  | x :: t => match pyD x, pyDs t with
    | some a, some b => some (a :: b)
    | _, _ => none
end
def pyM (M : MH) (d : D) : Option PyData := match d with
  | .ref a => match M a with
    | some (.lst ds) => (pyDs ds).map .list
    | _ => none
  | d => pyD d
section
variable {K : PySem.W.Frag} {F H : Hp}
mutual
theorem Rp.dp (s : Same F H) : ∀ {v : V} {d : D} {y : PyData}, Rp K F v d → pyD d = some y → Dp K H v y
  | _, _, _, .non, e => by unfold pyD at e; cases e; exact .non
  | _, _, _, .bl b, e => by unfold pyD at e; cases e; exact .bl b
  | _, _, _, .int i, e => by unfold pyD at e; cases e; exact .int i
  | _, _, _, .str x, e => by unfold pyD at e; cases e; exact .str x
  | _, _, _, .ty n, e => by unfold pyD at e; cases e
  | _, _, _, .ref a, e => by unfold pyD at e; cases e
  | _, _, _, .tup h r, e => by
    unfold pyD at e
    obtain ⟨ys, e2, rfl⟩ := Option.map_eq_some_iff.mp e
    exact .tup (SqT.of (s _ _ h)) (Rps.dp s r e2)
  | _, _, _, .tab h r, e => by
    unfold pyD at e
    obtain ⟨ys, e2, rfl⟩ := Option.map_eq_some_iff.mp e
    exact .tup (SameT s h) (Rps.dp s r e2)
  | _, _, _, .lst h r, e => by
    unfold pyD at e
    obtain ⟨ys, e2, rfl⟩ := Option.map_eq_some_iff.mp e
    exact .lst (SqL.of (s _ _ h)) (Rps.dp s r e2)
  | _, _, _, .scr h r, e => by
    unfold pyD at e
    obtain ⟨ys, e2, rfl⟩ := Option.map_eq_some_iff.mp e
    exact .lst (s.seq h) (Rps.dp s r e2)
theorem Rps.dp (s : Same F H) : ∀ {vs : List V} {ds : List D} {ys : List PyData}, Rps K F vs ds → pyDs ds = some ys → DpAll K H vs ys
  | _, _, _, .nil, e => by unfold pyDs at e; cases e; exact .nil
  | _, _, _, .cons (d := d) (ds := ds) h t, e => by
    unfold pyDs at e
    cases q : pyD d with
    | none => simp only [q] at e; cases e
    | some a =>
      cases q2 : pyDs ds with
      | none => simp only [q, q2] at e; cases e
      | some b =>
        simp only [q, q2] at e
        cases e
        exact .cons (Rp.dp s h q) (Rps.dp s t q2)
end
theorem dp_of {G : Hp} {M : MH} {v : V} {d : D} {y : PyData} (R : Rel K G F H M) (p : Rp K F v d) (e : pyM M d = some y) : Dp K H v y := by
  cases d with
  | ref a =>
    cases p
    unfold pyM at e
    cases q : M a with
    | none => simp only [q] at e; cases e
    | some o =>
      simp only [q] at e
      obtain ⟨_, u, hu, r⟩ := R.chg a o q
      cases o with
      | lst ds =>
        obtain ⟨ys, e2, rfl⟩ := Option.map_eq_some_iff.mp e
        cases u with
        | lst vs => exact .lst (SqL.of hu) (Rps.dp R.sub r e2)
        | _ => exact (r : False).elim
      | _ => cases e
  | _ => exact Rp.dp R.sub p e
end
def bEqD : R2t := fun x y M Q => match pyM M x, pyM M y with
  | some d, some e => SeqAt.shaped d = true ∧ SeqAt.shaped e = true ∧ Q (.bl (PyData.eqv d e)) M
  | _, _ => False
def bNeD : R2t := fun x y M Q => match pyM M x, pyM M y with
  | some d, some e => SeqAt.shaped d = true ∧ SeqAt.shaped e = true ∧ Q (.bl (!PyData.eqv d e)) M
  | _, _ => False
section
variable {X : Cx}
theorem oq_eqD (hu : X.A.units + 64 < cLine) : OpQ X (compareOp .Eq) bEqD := OpRimp (op_eqD hu) (by
  rintro x y H Q ⟨G, F, M, dx, dy, Qt, R, px, py, h, k⟩
  unfold bEqD at h
  cases e1 : pyM M dx with
  | none => simp only [e1] at h
  | some d =>
    cases e2 : pyM M dy with
    | none => simp only [e1, e2] at h
    | some e =>
      simp only [e1, e2] at h
      exact ⟨d, e, dp_of R px e1, dp_of R py e2, h.1, h.2.1, k _ F H M _ (Same.refl _) R (.bl _) h.2.2⟩)
theorem oq_neD (hu : X.A.units + 64 < cLine) : OpQ X (compareOp .NotEq) bNeD := OpRimp (op_neD hu) (by
  rintro x y H Q ⟨G, F, M, dx, dy, Qt, R, px, py, h, k⟩
  unfold bNeD at h
  cases e1 : pyM M dx with
  | none => simp only [e1] at h
  | some d =>
    cases e2 : pyM M dy with
    | none => simp only [e1, e2] at h
    | some e =>
      simp only [e1, e2] at h
      exact ⟨d, e, dp_of R px e1, dp_of R py e2, h.1, h.2.1, k _ F H M _ (Same.refl _) R (.bl _) h.2.2⟩)
end
/-! data whose == is sameness: its texts are texts, its nesting is below n -/
mutual
def okD : Nat → D → Prop
  | _, .non => True
  | _, .int _ => True
  | _, .bl _ => True
  | _, .str s => PyData.strOk s = true
  | n + 1, .tup l => okDs n l
  | n + 1, .lst l => okDs n l
  | n + 1, .scr l => okDs n l
  | n + 1, .tab l => okDs n l
  | _, _ => False
def okDs : Nat → List D → Prop
  | _, [] => True
  | n, x :: t => okD n x ∧ okDs n t
end
mutual
theorem okD_py : ∀ (n : Nat) (d : D), okD n d → ∃ y, pyD d = some y ∧ y.canLay0 = true ∧ y.depth ≤ n
  | n, .non, _ => ⟨.none, by unfold pyD; rfl, by unfold PyData.canLay0; rfl, by unfold PyData.depth; omega⟩
  | n, .int i, _ => ⟨.int i, by unfold pyD; rfl, by unfold PyData.canLay0; rfl, by unfold PyData.depth; omega⟩
  | n, .bl b, _ => ⟨.bool b, by unfold pyD; rfl, by unfold PyData.canLay0; rfl, by unfold PyData.depth; omega⟩
  | n, .str s, h => ⟨.str s, by unfold pyD; rfl, by unfold PyData.canLay0; unfold okD at h; exact h, by unfold PyData.depth; omega⟩
  | n + 1, .tup l, h => by
    unfold okD at h
    obtain ⟨ys, e, c, dp⟩ := okDs_py n l h
    exact ⟨.tuple ys, by unfold pyD; rw [e]; rfl, by unfold PyData.canLay0; exact c, by unfold PyData.depth; omega⟩
  | n + 1, .tab l, h => by
    unfold okD at h
    obtain ⟨ys, e, c, dp⟩ := okDs_py n l h
    exact ⟨.tuple ys, by unfold pyD; rw [e]; rfl, by unfold PyData.canLay0; exact c, by unfold PyData.depth; omega⟩
  | n + 1, .lst l, h => by
    unfold okD at h
    obtain ⟨ys, e, c, dp⟩ := okDs_py n l h
    exact ⟨.list ys, by unfold pyD; rw [e]; rfl, by unfold PyData.canLay0; exact c, by unfold PyData.depth; omega⟩
  | n + 1, .scr l, h => by
    unfold okD at h
    obtain ⟨ys, e, c, dp⟩ := okDs_py n l h
    exact ⟨.list ys, by unfold pyD; rw [e]; rfl, by unfold PyData.canLay0; exact c, by unfold PyData.depth; omega⟩
  | 0, .tup l, h => by unfold okD at h; exact h.elim
  | 0, .tab l, h => by unfold okD at h; exact h.elim
  | 0, .lst l, h => by unfold okD at h; exact h.elim
  | 0, .scr l, h => by unfold okD at h; exact h.elim
  | _, .ref _, h => by unfold okD at h; exact h.elim
  | _, .ty _, h => by unfold okD at h; exact h.elim
theorem okDs_py : ∀ (n : Nat) (l : List D), okDs n l → ∃ ys, pyDs l = some ys ∧ PyData.canLayAll0 ys = true ∧ PyData.depthAll ys ≤ n
  | n, [], _ => ⟨[], by unfold pyDs; rfl, by unfold PyData.canLayAll0; rfl, by unfold PyData.depthAll; omega⟩
  | n, x :: t, h => by
    unfold okDs at h
    obtain ⟨y, e1, c1, d1⟩ := okD_py n x h.1
    obtain ⟨ys, e2, c2, d2⟩ := okDs_py n t h.2
    exact ⟨y :: ys, by unfold pyDs; rw [e1, e2], by unfold PyData.canLayAll0; rw [c1, c2]; rfl, by unfold PyData.depthAll; omega⟩
end
theorem okDs_of {n : Nat} : ∀ {l : List D}, (∀ x ∈ l, okD n x) → okDs n l
  | [], _ => by unfold okDs; trivial
  | x :: t, h => by unfold okDs; exact ⟨h x (List.mem_cons_self ..), okDs_of fun y hy => h y (List.mem_cons_of_mem _ hy)⟩
/-- a frozen thing, or a changing list of frozen things -/
def asD (M : MH) (d : D) : Option D := match d with
  | .ref a => match M a with
    | some (.lst ds) => some (.lst ds)
    | _ => none
  | d => some d
theorem pyM_asD {M : MH} {d e : D} (h : asD M d = some e) : pyM M d = pyD e := by
  cases d with
  | ref a =>
    unfold asD at h
    unfold pyM
    cases q : M a with
    | none => simp only [q] at h; cases h
    | some o => cases o <;> simp only [q] at h ⊢ <;> cases h; unfold pyD; rfl
  | _ => cases h; rfl
theorem eqD_same {M : MH} {x y z : D} {Q : VD} (n : Nat) (hx : asD M x = some z) (hy : asD M y = some z) (ok : okD n z) (h : Q (.bl true) M) (hn : n ≤ 64 := by decide) : bEqD x y M Q := by
  obtain ⟨d, e, c, dp⟩ := okD_py n z ok
  unfold bEqD
  simp only [pyM_asD hx, pyM_asD hy, e]
  have sh : SeqAt.shaped d = true := Bool.and_eq_true_iff.mpr ⟨c, decide_eq_true (by omega)⟩
  exact ⟨sh, sh, by rw [SeqAt.eqv_refl d c]; exact h⟩
theorem neD_same {M : MH} {x y z : D} {Q : VD} (n : Nat) (hx : asD M x = some z) (hy : asD M y = some z) (ok : okD n z) (h : Q (.bl false) M) (hn : n ≤ 64 := by decide) : bNeD x y M Q := by
  obtain ⟨d, e, c, dp⟩ := okD_py n z ok
  unfold bNeD
  simp only [pyM_asD hx, pyM_asD hy, e]
  have sh : SeqAt.shaped d = true := Bool.and_eq_true_iff.mpr ⟨c, decide_eq_true (by omega)⟩
  exact ⟨sh, sh, by rw [SeqAt.eqv_refl d c]; exact h⟩
/-- what was made and is needed no more -/
theorem ReR.new {K : PySem.W.Frag} {d : D} {M : MH} {a : Addr} {o : MO} (h : M a = none) : ReR K d (mup M a o) d M := ReR.drop fun b o' e => by
  rw [mup_ne (by rintro rfl; rw [h] at e; cases e)]; exact e
theorem wm60 {i j : Int} (hi : -(2 ^ 60) < i ∧ i < 2 ^ 60) (hj : -(2 ^ 60) < j ∧ j < 2 ^ 60) : CMulW i j := wide_mul (a := 60) (b := 60) (by omega) (by omega) (by decide) (by decide) (by decide)
theorem wd60 {i j : Int} (h : 0 < j) (hj : j < 2 ^ 60) : CDivW i j := wide_div (b := 60) h (by omega) (by decide) (by decide)
theorem modB {a b : Int} (h : 0 < b) : 0 ≤ a % b ∧ a % b < b := ⟨Int.emod_nonneg _ (by omega), Int.emod_lt_of_pos _ h⟩
theorem rng_get {f : Nat → D} {n i : Nat} {x : D} (h : ((List.range n).map f)[i]? = some x) : i < n ∧ x = f i := by
  rw [List.getElem?_map] at h
  obtain ⟨y, hy, rfl⟩ := Option.map_eq_some_iff.mp h
  obtain ⟨h1, h2⟩ := List.getElem?_eq_some_iff.mp hy
  rw [List.getElem_range] at h2
  rw [List.length_range] at h1
  exact ⟨h1, by rw [h2]⟩
theorem cut_len {xs : List D} {lo hi : Option Int} : (Tl.cutD xs lo hi).length ≤ xs.length := by
  unfold Tl.cutD
  rw [List.length_take, List.length_drop]
  omega
theorem cut_tail {x : D} {t : List D} : Tl.cutD (x :: t) (some 1) none = t := by
  unfold Tl.cutD
  rw [show (1 : Int) = ((1 : Nat) : Int) from rfl, HT.sIx_nat, HT.sIx_none]
  simp
def cutA {α : Type} (xs : List α) (lo hi : Option Int) : List α := (xs.drop (HT.sIx xs.length 0 lo)).take (HT.sIx xs.length xs.length hi - HT.sIx xs.length 0 lo)
theorem cut_map {α : Type} {a : α → D} {xs : List α} {lo hi : Option Int} : Tl.cutD (xs.map a) lo hi = (cutA xs lo hi).map a := by
  unfold Tl.cutD cutA
  rw [List.length_map, List.map_take, List.map_drop]
theorem un64 {k : Nat} {A : Around} (hr : Room k A) : A.units + 64 < cLine := hr.units
end Tl
namespace Tl
open PySem PySem.Spec PyProof.Rows L2
/-! ### dicts -/
section
variable {κ : Type} [DecidableEq κ]
def valD (kvs : List (κ × D)) (k : κ) : Option D := (kvs.find? fun kv => decide (kv.1 = k)).map (·.2)
def putM (kvs : List (κ × D)) (k : κ) (v : D) : List (κ × D) :=
  if (kvs.any fun kv => decide (kv.1 = k)) = true then kvs.map (fun kv => if kv.1 = k then (kv.1, v) else kv) else kvs ++ [(k, v)]
theorem valD_pos {p : κ × D} {r : List (κ × D)} {k : κ} (e : p.1 = k) : valD (p :: r) k = some p.2 := by simp [valD, List.find?_cons, e]
theorem valD_neg {p : κ × D} {r : List (κ × D)} {k : κ} (e : ¬ p.1 = k) : valD (p :: r) k = valD r k := by simp [valD, List.find?_cons, e]
abbrev KP (K : PySem.W.Frag) (F : Hp) (vs : List (κ × V)) (ds : List (κ × D)) : Prop := Paired (fun (p : κ × V) (q : κ × D) => p.1 = q.1 ∧ Rp K F p.2 q.2) vs ds
variable {K : PySem.W.Frag} {F : Hp}
theorem kp_val {k : κ} : ∀ {vs : List (κ × V)} {ds : List (κ × D)}, KP K F vs ds → (valD ds k = none → valV vs k = none) ∧ ∀ d, valD ds k = some d → ∃ v, valV vs k = some v ∧ Rp K F v d
  | _, _, .nil => ⟨fun _ => rfl, fun _ h => by cases h⟩
  | _, _, .cons (a := p) (b := q) r t => by
    have ih := kp_val (k := k) t
    by_cases e : q.1 = k
    · rw [valD_pos e, valV_pos (r.1.trans e)]
      exact ⟨fun h => (by cases h), fun d h => (by cases h; exact ⟨_, rfl, r.2⟩)⟩
    · rw [valD_neg e, valV_neg (fun h => e (r.1.symm.trans h))]
      exact ih
theorem kp_any {k : κ} : ∀ {vs : List (κ × V)} {ds : List (κ × D)}, KP K F vs ds → (vs.any fun kv => decide (kv.1 = k)) = (ds.any fun kv => decide (kv.1 = k))
  | _, _, .nil => rfl
  | _, _, .cons r t => by rw [List.any_cons, List.any_cons, r.1, kp_any t]
theorem kp_map {k : κ} {v : V} {d : D} (rv : Rp K F v d) : ∀ {vs : List (κ × V)} {ds : List (κ × D)}, KP K F vs ds → KP K F (vs.map fun kv => if kv.1 = k then (kv.1, v) else kv) (ds.map fun kv => if kv.1 = k then (kv.1, d) else kv)
  | _, _, .nil => .nil
  | _, _, .cons (a := p) (b := q) r t => by
    refine .cons ?_ (kp_map rv t)
    dsimp only
    by_cases e : q.1 = k
    · rw [if_pos e, if_pos (r.1.trans e)]; exact ⟨r.1, rv⟩
    · rw [if_neg e, if_neg (fun h => e (r.1.symm.trans h))]; exact r
theorem kp_app {vs ws : List (κ × V)} {ds es : List (κ × D)} (h : KP K F vs ds) (h2 : KP K F ws es) : KP K F (vs ++ ws) (ds ++ es) := by
  induction h with
  | nil => exact h2
  | cons r t ih => exact .cons r ih
theorem kp_put {k : κ} {v : V} {d : D} (rv : Rp K F v d) {vs : List (κ × V)} {ds : List (κ × D)} (h : KP K F vs ds) : KP K F (putK vs k v) (putM ds k d) := by
  unfold putK putM
  rw [kp_any h]
  split
  · exact kp_map rv h
  · exact kp_app h (.cons ⟨rfl, rv⟩ .nil)
theorem kp_len {vs : List (κ × V)} {ds : List (κ × D)} (h : KP K F vs ds) : vs.length = ds.length := by
  induction h with
  | nil => rfl
  | cons r t ih => rw [List.length_cons, List.length_cons, ih]
end
def kD : Key → D
  | .inl i => .int i
  | .inr s => .str s
def k1 : D → Option Key
  | .int i => some (.inl i)
  | .str s => some (.inr s)
  | _ => none
def kT : List D → Option (List Key)
  | [] => some []
  | x :: t => match k1 x, kT t with
    | some a, some b => some (a :: b)
    | _, _ => none
section
variable {K : PySem.W.Frag} {F : Hp}
theorem k1_of {v : V} {d : D} {k : Key} (p : Rp K F v d) (e : k1 d = some k) : v = kV k := by
  cases p <;> first | (cases e; rfl) | cases e
theorem kT_of : ∀ {vs : List V} {ds : List D} {ks : List Key}, Rps K F vs ds → kT ds = some ks → vs = ks.map kV
  | _, _, _, .nil, e => by cases e; rfl
  | _, _, _, .cons (d := d) (ds := ds) h t, e => by
    unfold kT at e
    cases q : k1 d with
    | none => simp only [q] at e; cases e
    | some a =>
      cases q2 : kT ds with
      | none => simp only [q, q2] at e; cases e
      | some b =>
        simp only [q, q2] at e
        cases e
        rw [k1_of h q, kT_of t q2]; rfl
end
/-- what the dict o holds at the key k -/
def oDA (o : Option MO) (k : D) (f : Option D → Prop) : Prop := match o with
  | some (.dK kvs) => match k1 k with
    | some c => f (valD kvs c)
    | none => False
  | some (.lk _ _ kvs) => match k1 k with
    | some c => f (valD kvs c)
    | none => False
  | some (.dT kvs) => match k with
    | .tup ds => match kT ds with
      | some c => f (valD kvs c)
      | none => False
    | _ => False
  | _ => False
def oDic (M : MH) (x k : D) (f : Option D → Prop) : Prop := match x with
  | .ref a => oDA (M a) k f
  | _ => False
def oPA (o : Option MO) (k d : D) (f : MO → Prop) : Prop := match o with
  | some (.dK kvs) => match k1 k with
    | some c => kvs.length < sizeLine ∧ f (.dK (putM kvs c d))
    | none => False
  | some (.dT kvs) => match k with
    | .tup ds => match kT ds with
      | some c => kvs.length < sizeLine ∧ f (.dT (putM kvs c d))
      | none => False
    | _ => False
  | _ => False
def isDic : MO → Prop
  | .dK _ => True
  | .dT _ => True
  | _ => False
theorem dic_of {K : PySem.W.Frag} {G F H : Hp} {M : MH} {a : Addr} {k : D} {y : V} {f : Option D → Prop} (R : Rel K G F H M) (p : Rp K F y k) (h : oDA (M a) k f) : ∃ o r, DGet H a y o ∧ f r ∧ (r = none → o = none) ∧ ∀ d, r = some d → ∃ v, o = some v ∧ Rp K F v d := by
  cases q : M a with
  | none => rw [q] at h; exact h.elim
  | some mo =>
    rw [q] at h
    obtain ⟨_, u, hu, r⟩ := R.chg a mo q
    cases mo with
    | dK kvs =>
      unfold oDA at h
      dsimp only at h
      cases q2 : k1 k with
      | none => simp only [q2] at h
      | some c =>
        simp only [q2] at h
        cases u with
        | dK vs =>
          have e := k1_of p q2
          subst e
          exact ⟨_, _, DGet.k hu, h, (kp_val r).1, (kp_val r).2⟩
        | _ => exact (r : False).elim
    | lk ob0 ks kvs =>
      unfold oDA at h
      dsimp only at h
      cases q2 : k1 k with
      | none => simp only [q2] at h
      | some c =>
        simp only [q2] at h
        cases u with
        | frz ob u =>
          obtain ⟨_, rfl, r2⟩ := (show ob = ob0 ∧ RpLk K F u ks kvs from r)
          have e := k1_of p q2
          subst e
          exact ⟨_, _, .inl ⟨ks, _, .inr ⟨ob, hu⟩, rfl, rfl⟩, h, (kp_val r2).1, (kp_val r2).2⟩
        | _ => exact (r : False).elim
    | dT kvs =>
      cases k with
      | tup ds =>
        unfold oDA at h
        dsimp only at h
        cases q2 : kT ds with
        | none => simp only [q2] at h
        | some c =>
          simp only [q2] at h
          cases u with
          | dT vs =>
            cases p with
            | tup hb rs =>
              have e := kT_of rs q2
              subst e
              exact ⟨_, _, DGet.t hu (R.sub _ _ hb), h, (kp_val r).1, (kp_val r).2⟩
          | _ => exact (r : False).elim
      | _ => exact h.elim
    | _ => exact h.elim
theorem put_of {K : PySem.W.Frag} {G F H : Hp} {M : MH} {a : Addr} {k d : D} {y v : V} {f : MO → Prop} (R : Rel K G F H M) (p : Rp K F y k) (pv : Rp K F v d) (h : oPA (M a) k d f) : ∃ o u, DPut H a y v (upd H a u) ∧ f o ∧ Rel K G F (upd H a u) (mup M a o) := by
  cases q : M a with
  | none => rw [q] at h; exact h.elim
  | some mo =>
    rw [q] at h
    obtain ⟨_, u, hu, r⟩ := R.chg a mo q
    cases mo with
    | dK kvs =>
      unfold oPA at h
      dsimp only at h
      cases q2 : k1 k with
      | none => simp only [q2] at h
      | some c =>
        simp only [q2] at h
        cases u with
        | dK vs =>
          have e := k1_of p q2
          subst e
          have r2 : RpO K F (.dK vs) (.dK kvs) := r
          exact ⟨_, _, DPut.k hu (by rw [kp_len (show KP K F vs kvs from r2)]; exact h.1), h.2, R.put q (show RpO K F (.dK (putK vs c v)) (.dK (putM kvs c d)) from kp_put pv r2)⟩
        | _ => exact (r : False).elim
    | dT kvs =>
      cases k with
      | tup ds =>
        unfold oPA at h
        dsimp only at h
        cases q2 : kT ds with
        | none => simp only [q2] at h
        | some c =>
          simp only [q2] at h
          cases u with
          | dT vs =>
            cases p with
            | tup hb rs =>
              have e := kT_of rs q2
              subst e
              have r2 : RpO K F (.dT vs) (.dT kvs) := r
              exact ⟨_, _, DPut.t hu (R.sub _ _ hb) (by rw [kp_len (show KP K F vs kvs from r2)]; exact h.1), h.2, R.put q (show RpO K F (.dT (putK vs c v)) (.dT (putM kvs c d)) from kp_put pv r2)⟩
          | _ => exact (r : False).elim
      | _ => exact h.elim
    | _ => exact h.elim
def tDnK : TEt := fun _ M Q => ∀ p, M p = none → Q (.ref p) (mup M p (.dK []))
def tDnT : TEt := fun _ M Q => ∀ p, M p = none → Q (.ref p) (mup M p (.dT []))
def tDg (to ti : TEt) : TEt := fun τ M Q => to τ M fun x M1 => ti τ M1 fun k M2 => oDic M2 x k fun r => oSome r fun d => Q d M2
def tDi (neg : Bool) (ti to : TEt) : TEt := fun τ M Q => ti τ M fun k M1 => to τ M1 fun x M2 => oDic M2 x k fun r => Q (.bl (if neg = true then !r.isSome else r.isSome)) M2
def tDg2 (to ti tz : TEt) : TEt := fun τ M Q => to τ M fun x M1 => (∃ a o, x = .ref a ∧ M1 a = some o ∧ isDic o) ∧ ti τ M1 fun k M2 => tz τ M2 fun z M3 => oDic M3 x k fun r => Q (r.getD z) M3
def zDict : TSett := fun o i v M Q => match o with
  | .ref a => oPA (M a) i v fun mo => Q (mup M a mo)
  | _ => False
section
variable {X : Cx} {E : XK} {Et : XT} {o i z : Expr} {pos apos cpos : Pos} {to ti tz : TEt}
theorem q_dnewK : QE X E Et (.Dict [] [] pos) tDnK := PEimp pe_dnewK (by
  rintro σ H Q ⟨G, F, M, τ, Qt, a, h, k⟩ p np
  exact k _ F _ _ _ (Same.refl _) (a.rel.newM (u := .dK []) (o := .dK []) np .nil) (.ref p) (h p (a.rel.free np).2))
theorem dic_ref {M : MH} {x k : D} {f : Option D → Prop} (h : oDic M x k f) : ∃ a, x = .ref a ∧ oDA (M a) k f := by
  cases x with
  | ref a => exact ⟨a, rfl, h⟩
  | _ => exact h.elim
theorem q_dget (hu : X.A.units + 1 < cLine) (ho : QE X E Et o to) (hi : QE X E Et i ti) (hs : NoSl i := by intro _ _; rfl) : QE X E Et (.Subscript o i pos) (tDg to ti) := PEimp (pe_dget hu ho hi hs) (by
  rintro σ H Q ⟨G, F, M, τ, Qt, a, h, k⟩
  refine ⟨G, F, M, τ, _, a, h, fun x F1 H1 M1 d s1 r1 p1 q1 => ?_⟩
  refine ⟨G, F1, M1, τ, _, a.step s1 r1, q1, fun y F2 H2 M2 e s2 r2 p2 q2 => ?_⟩
  obtain ⟨b, rfl, q3⟩ := dic_ref q2
  obtain ⟨ov, r, g, hf, h0, h1⟩ := dic_of r2 p2 q3
  obtain ⟨d, rfl, q4⟩ := oSome_e hf
  obtain ⟨v, rfl, pv⟩ := h1 d rfl
  cases p1
  exact ⟨b, v, rfl, g, k v F2 H2 M2 d (s1.trans s2) r2 pv q4⟩)
theorem lv_din {neg : Bool} : ∀ σ H Q, liftE X.K E Et (tDi neg ti to) σ H Q → (liftE X.K E Et ti σ H fun y H1 => liftE X.K E Et to σ H1 fun x H2 => ∃ a o, x = .ref a ∧ DGet H2 a y o ∧ Q (.bl (if neg = true then !o.isSome else o.isSome)) H2) := by
  rintro σ H Q ⟨G, F, M, τ, Qt, a, h, k⟩
  refine ⟨G, F, M, τ, _, a, h, fun y F1 H1 M1 e s1 r1 p1 q1 => ?_⟩
  refine ⟨G, F1, M1, τ, _, a.step s1 r1, q1, fun x F2 H2 M2 d s2 r2 p2 q2 => ?_⟩
  obtain ⟨b, rfl, q3⟩ := dic_ref q2
  obtain ⟨ov, r, g, hf, h0, h1⟩ := dic_of r2 (p1.mono s2) q3
  have e : ov.isSome = r.isSome := by
    cases r with
    | none => rw [h0 rfl]; rfl
    | some d => obtain ⟨v, rfl, _⟩ := h1 d rfl; rfl
  cases p2
  exact ⟨b, ov, rfl, g, by rw [e]; exact k _ F2 H2 M2 _ (s1.trans s2) r2 (.bl _) hf⟩
theorem lv_boP {te : TEt} {t : TE} (h : ∀ σ H Q, liftE X.K E Et te σ H Q → t σ H Q) : ∀ σ H Q, liftT X.K E Et (tBo te) σ H Q → tB t σ H Q := by
  rintro σ H Q ⟨G, F, M, τ, Qt, a, w, k⟩
  unfold tB
  refine h σ H _ ⟨G, F, M, τ, _, a, w, fun v F1 H1 M1 d s1 r1 p1 q1 => ?_⟩
  cases p1 <;> first | exact (show False from q1).elim | exact ⟨_, rfl, k _ F1 H1 M1 s1 r1 q1⟩
theorem qt_dnotin (hu : X.A.units + 1 < cLine) (hi : QE X E Et i ti) (ho : QE X E Et o to) (hm : behindInMarks .NotIn o = false := by rfl) : QT X E Et (.Compare i [.NotIn] [o] pos) (tBo (tDi true ti to)) := PTimp (pt_cmp (pc_dnotin hu hi ho) hm) (lv_boP lv_din)
theorem q_dget2 (hu : X.A.units + 1 < cLine) (ho : QE X E Et o to) (hi : QE X E Et i ti) (hz : QE X E Et z tz) (m : M2 X o "get" apos i z cpos := by exact ⟨rfl, rfl, rfl, rfl⟩) : QE X E Et (.Call (.Attribute o "get" apos) [i, z] [] cpos) (tDg2 to ti tz) := PEimp (pe_dget2 hu ho hi hz m) (by
  rintro σ H Q ⟨G, F, M, τ, Qt, a, h, k⟩
  refine ⟨G, F, M, τ, _, a, h, fun x F1 H1 M1 d s1 r1 p1 q1 => ?_⟩
  obtain ⟨⟨b, mo, rfl, hb, hd⟩, q1⟩ := q1
  cases p1
  have isd : IsD H1 b := by
    obtain ⟨_, u, hu, r⟩ := r1.chg b _ hb
    cases mo with
    | dK kvs =>
      cases u with
      | dK vs => exact .inl ⟨vs, .inl hu⟩
      | _ => exact (r : False).elim
    | dT kvs =>
      cases u with
      | dT vs => exact .inr ⟨vs, .inl hu⟩
      | _ => exact (r : False).elim
    | _ => exact hd.elim
  refine ⟨b, rfl, isd, G, F1, M1, τ, _, a.step s1 r1, q1, fun y F2 H2 M2 e s2 r2 p2 q2 => ?_⟩
  refine ⟨G, F2, M2, τ, _, a.step (s1.trans s2) r2, q2, fun w F3 H3 M3 zd s3 r3 p3 q3 => ?_⟩
  obtain ⟨ov, r, g, hf, h0, h1⟩ := dic_of (f := fun r => Qt (r.getD zd) M3) r3 (p2.mono s3) q3
  refine ⟨ov, g, ?_⟩
  cases r with
  | none => rw [h0 rfl]; exact k _ F3 H3 M3 _ ((s1.trans s2).trans s3) r3 p3 hf
  | some d =>
    obtain ⟨v, rfl, pv⟩ := h1 d rfl
    exact k _ F3 H3 M3 _ ((s1.trans s2).trans s3) r3 pv hf)
theorem sq_dict (hu : X.A.units + 1 < cLine) : PSet X (lSet X.K zDict) := by
  intro pins s σ H o i v ov iv u Q I ro ri rv h
  obtain ⟨G, F, M, od, idd, vd, Qt, R, po, pi, pv, h, k⟩ := h
  cases po with
  | ref a =>
    have h : oPA (M a) idd vd fun mo => Qt (mup M a mo) := h
    obtain ⟨mo, u', g, hq, R2⟩ := put_of R pi pv h
    obtain rfl : ov = Value.ref a := ro
    refine d_setItem hu I g ri rv fun s4 I4 => ?_
    exact ⟨_, I4, k F _ _ (Same.refl _) R2 hq⟩
  | _ => exact h.elim
end
/-! ### len of a dict, of anything -/
def cLenD : RLt := fun ds M Q => match ds with
  | [.ref a] => match M a with
    | some (.dK kvs) => Q (.int (kvs.length : Nat)) M
    | some (.dT kvs) => Q (.int (kvs.length : Nat)) M
    | _ => False
  | _ => False
section
variable {X : Cx} {E : XK} {Et : XT}
/-! ### x in a row of plain values -/
def flatD : D → Bool
  | .non => true
  | .bl _ => true
  | .int _ => true
  | .str _ => true
  | _ => false
def eqD : D → D → Bool
  | .non, .non => true
  | .bl a, .bl b => a == b
  | .bl a, .int b => (if a then 1 else 0) == b
  | .int a, .bl b => a == (if b then 1 else 0)
  | .int a, .int b => a == b
  | .str a, .str b => a == b
  | _, _ => false
theorem flat_of {K : PySem.W.Frag} {F : Hp} {v : V} {d : D} (p : Rp K F v d) (h : flatD d = true) : flatV v = true := by
  cases p <;> first | rfl | cases h
theorem flats_of {K : PySem.W.Frag} {F : Hp} : ∀ {vs : List V} {ds : List D}, Rps K F vs ds → ds.all flatD = true → vs.all flatV = true
  | _, _, .nil, _ => rfl
  | _, _, .cons h t, e => by
    rw [List.all_cons, Bool.and_eq_true] at e ⊢
    exact ⟨flat_of h e.1, flats_of t e.2⟩
theorem eqD_of {K : PySem.W.Frag} {F : Hp} {v w : V} {x y : D} (p : Rp K F v x) (q : Rp K F w y) (hx : flatD x = true) (hy : flatD y = true) : eqV v w = eqD x y := by
  cases p <;> first | (cases hx; done) | (cases q <;> first | rfl | (cases hy; done))
theorem in_of {K : PySem.W.Frag} {F : Hp} {v : V} {x : D} (p : Rp K F v x) (hx : flatD x = true) : ∀ {vs : List V} {ds : List D}, Rps K F vs ds → ds.all flatD = true → (vs.any fun y => eqV y v) = (ds.any fun y => eqD y x)
  | _, _, .nil, _ => rfl
  | _, _, .cons h t, e => by
    rw [List.all_cons, Bool.and_eq_true] at e
    rw [List.any_cons, List.any_cons, eqD_of h p e.1 hx, in_of p hx t e.2]
def bIn (neg : Bool) : R2t := fun x y M Q => match seqOf M y with
  | some ds => flatD x = true ∧ ds.all flatD = true ∧ Q (.bl (if neg = true then !(ds.any fun z => eqD z x) else ds.any fun z => eqD z x)) M
  | none => False
theorem lv_in {neg : Bool} : ∀ x y H Q, lr2 X.K (bIn neg) x y H Q → rIn X.K neg x y H Q := by
  rintro x y H Q ⟨G, F, M, dx, dy, Qt, R, px, py, h, k⟩
  unfold bIn at h
  cases e : seqOf M dy with
  | none => simp only [e] at h
  | some ds =>
    simp only [e] at h
    obtain ⟨a, vs, rfl, hs, r⟩ := seq_of R py e
    refine ⟨a, vs, rfl, hs, flat_of px h.1, flats_of r h.2.1, ?_⟩
    unfold inV
    rw [in_of px h.1 r h.2.1]
    exact k _ F H M _ (Same.refl _) R (.bl _) h.2.2
theorem oq_inQ : OpQ X (compareOp .In) (bIn false) := OpRimp op_in_seq lv_in
theorem oq_inQN : OpQ X (compareOp .NotIn) (bIn true) := OpRimp op_notIn_seq lv_in
/-! ### text * n -/
def repS (z : Str) (n : Int) : Str := if n < 1 then Str.empty else if (n == 1 || z.length == 0) = true then z else ⟨(List.replicate n.toNat z.cps).foldl (· ++ ·) #[]⟩
def bRepS : R2t := fun x y M Q => match x, y with
  | .str z, .int n => (0 ≤ n ∧ n ≤ 1000 ∧ z.length ≤ 1000) ∧ Q (.str (repS z n)) M
  | _, _ => False
theorem foldl_rep' (its : List Nat) : ∀ (m : Nat) (acc : List Nat), (List.foldl (fun x1 x2 => x1 ++ x2) acc.toArray (List.replicate m its.toArray)) = (acc ++ (List.replicate m its).flatten).toArray
  | 0, acc => by simp
  | m + 1, acc => by
    rw [List.replicate_succ, List.foldl_cons, List.append_toArray, foldl_rep' its m (acc ++ its), List.replicate_succ, List.flatten_cons, List.append_assoc]
theorem size_rep' (its : List Nat) (m : Nat) : (List.foldl (fun x1 x2 => x1 ++ x2) #[] (List.replicate m its.toArray)) = (List.replicate m its).flatten.toArray := by
  have := foldl_rep' its m []
  rw [List.nil_append] at this
  exact this
theorem len_rep {α : Type} (its : List α) : ∀ m : Nat, (List.replicate m its).flatten.length = m * its.length
  | 0 => by simp
  | m + 1 => by rw [List.replicate_succ, List.flatten_cons, List.length_append, len_rep its m, Nat.succ_mul]; omega
theorem op_repS : OpR X (binaryOp .Mult) (fun x y H Q => ∃ (z : Str) (n : Int), x = .str z ∧ y = .int n ∧ (0 ≤ n ∧ n ≤ 1000 ∧ z.length ≤ 1000) ∧ Q (.str (repS z n)) H) := by
  intro pins s σ H x y v u Q I rx ry h
  obtain ⟨z, n, rfl, rfl, hb, q⟩ := h
  obtain ⟨t, rfl⟩ := rx
  obtain ⟨t2, rfl⟩ := ry
  have hm : z.length * n.toNat ≤ 1000000 := Nat.le_trans (Nat.mul_le_mul hb.2.2 (show n.toNat ≤ 1000 by omega)) (by decide)
  have hz : (⟨(List.replicate n.toNat z.cps).foldl (· ++ ·) #[]⟩ : Str).length ≤ sizeLine := by
    have e := size_rep' z.cps.toList n.toNat
    rw [Array.toArray_toList] at e
    show ((List.replicate n.toNat z.cps).foldl (· ++ ·) #[]).size ≤ sizeLine
    rw [e, sizeLine_eq, List.size_toArray, len_rep]
    have : z.length = z.cps.toList.length := by rw [Array.length_toList]; rfl
    rw [← this, Nat.mul_comm]
    omega
  refine P.mul_str (by simp only [Bool.or_eq_false_iff, decide_eq_false_iff_not]; omega) (fun h1 _ => ?_) (fun h1 _ => ?_) ?_
  · have h3 : (z.length : Int) ≤ 1000 := by omega
    have h2 : (1000 : Int) ≤ (2 ^ 63 - 1) / n := by
      rw [Int.le_ediv_iff_mul_le (by omega)]
      omega
    omega
  · unfold Builtin.Str.tooLong
    simp only [decide_eq_false_iff_not]
    rw [sizeLine_eq]
    omega
  · unfold repS at q
    split
    · rename_i h1
      rw [if_pos h1] at q
      exact ⟨Nat.zero_le _, .str Str.empty, H, I.tok _, ⟨_, rfl⟩, q⟩
    · rename_i h1
      rw [if_neg h1] at q
      split
      · rename_i h2
        rw [if_pos h2] at q
        exact ⟨.str z, H, I, ⟨_, rfl⟩, q⟩
      · rename_i h2
        rw [if_neg h2] at q
        exact ⟨hz, .str _, H, I.tok _, ⟨_, rfl⟩, q⟩
theorem oq_repS : OpQ X (binaryOp .Mult) bRepS := OpRimp op_repS (by
  rintro x y H Q ⟨G, F, M, dx, dy, Qt, R, px, py, h, k⟩
  cases px <;> first
    | exact (show False from h).elim
    | (cases py <;> first | exact (show False from h).elim | exact ⟨_, _, rfl, rfl, h.1, k _ F H M _ (Same.refl _) R (.str _) h.2⟩))
/-! ### list * n -/
def bRep : R2t := fun x y M Q => match x, y with
  | .lst ds, .int n => (0 ≤ n ∧ n ≤ 1000 ∧ ds.length ≤ 1000) ∧ Q (.lst (List.replicate n.toNat ds).flatten) M
  | _, _ => False
theorem rps_rep {K : PySem.W.Frag} {F : Hp} {vs : List V} {ds : List D} (r : Rps K F vs ds) : ∀ n : Nat, Rps K F (List.replicate n vs).flatten (List.replicate n ds).flatten
  | 0 => .nil
  | n + 1 => by
    rw [List.replicate_succ, List.replicate_succ, List.flatten_cons, List.flatten_cons]
    exact r.append (rps_rep r n)
theorem oq_rep : OpQ X (binaryOp .Mult) bRep := OpRimp L2.op_rep (by
  rintro x y H Q ⟨G, F, M, dx, dy, Qt, R, px, py, h, k⟩
  match dx, dy, px, py, h with
  | .lst ds, .int n, .lst (a := a) (vs := vs) ha r, .int _, h =>
    have hm : vs.length * n.toNat ≤ 1000000 := by
      rw [r.length]
      exact Nat.le_trans (Nat.mul_le_mul h.1.2.2 (show n.toNat ≤ 1000 by have := h.1; omega)) (by decide)
    refine ⟨a, n, vs, rfl, rfl, R.sub _ _ ha, by have := h.1; omega, by have := h.1; omega, by rw [sizeLine_eq]; omega, fun p np => ?_⟩
    obtain ⟨s, r1⟩ := R.newF (o := .lst (List.replicate n.toNat vs).flatten) np
    exact k _ _ _ M _ s r1 (.lst upd_same ((rps_rep r _).mono s)) h.2)
def bRepM : R2t := fun x y M Q => match x, y with
  | .lst ds, .int n => (0 ≤ n ∧ n ≤ 1000 ∧ ds.length ≤ 1000) ∧ ∀ p, M p = none → Q (.ref p) (mup M p (.lst (List.replicate n.toNat ds).flatten))
  | _, _ => False
/-! ### tuples: + and slices -/
def bCatT : R2t := fun x y M Q => match x, y with
  | .tup a, .tup b => a.length + b.length ≤ sizeLine ∧ Q (.tup (a ++ b)) M
  | _, _ => False
theorem oq_catT : OpQ X (binaryOp .Add) bCatT := OpRimp op_catA (by
  rintro x y H Q ⟨G, F, M, dx, dy, Qt, R, px, py, h, k⟩
  match dx, dy, px, py, h with
  | .tup ds, .tup es, .tup (a := a) (vs := vs) ha r, .tup (a := b) (vs := ws) hb r2, h =>
    refine ⟨a, b, vs, ws, rfl, rfl, SqT.of (R.sub _ _ ha), SqT.of (R.sub _ _ hb), by rw [r.length, r2.length]; exact h.1, fun e => ?_, fun _ e => ?_, fun _ _ p np => ?_⟩
    · subst e
      cases r
      exact k _ F H M _ (Same.refl _) R (.tup hb r2) h.2
    · subst e
      cases r2
      have h2 := h.2
      rw [List.append_nil] at h2
      exact k _ F H M _ (Same.refl _) R (.tup ha r) h2
    · obtain ⟨s, r1⟩ := R.newF (o := .tup (vs ++ ws)) np
      exact k _ _ _ M _ s r1 (.tup upd_same ((r.append r2).mono s)) h.2)
def cSlT : D → Option Int → Option Int → MH → VD → Prop := fun x lo hi M Q => match x with
  | .tup ds => Q (.tup (cutD ds lo hi)) M
  | _ => False
theorem cut_whole {α : Type} {xs : List α} {i j : Nat} (h1 : i = 0) (h2 : j = xs.length) : (xs.drop i).take (j - i) = xs := by
  subst h1; subst h2; simp
variable {e : Expr} {lo hi : Option Expr} {te : TEt} {tl th : TOt} {pos p2 : Pos}
theorem q_sliceT (he : QE X E Et e te) (hl : QO X E Et lo tl) (hu : QO X E Et hi th) : QE X E Et (.Subscript e (.Slice lo hi none p2) pos) (tSc cSlT te tl th) := q_slice sl_tupA (by
  rintro x lo hi H Q ⟨G, F, M, dx, Qt, R, p, h, k⟩
  match dx, p, h with
  | .tup ds, .tup (a := a) (vs := vs) ha r, h =>
    refine ⟨a, vs, rfl, SqT.of (R.sub _ _ ha), fun hw => ?_, fun hw p np => ?_⟩
    · have e : Tl.cutD ds lo hi = ds := by
        unfold Tl.cutD
        rw [← r.length]
        exact cut_whole hw.1 (by rw [hw.2, r.length])
      rw [show cSlT (.tup ds) lo hi M Qt = Qt (.tup (Tl.cutD ds lo hi)) M from rfl, e] at h
      exact k _ F H M _ (Same.refl _) R (.tup ha r) h
    · obtain ⟨s, r1⟩ := R.newF (o := .tup (cutV vs lo hi)) np
      exact k _ _ _ M _ s r1 (.tup upd_same (r.cut.mono s)) h) he hl hu
/-! ### sorted(d), d a dict of ints -/
def oSD (o : Option MO) (f : List Int → Prop) : Prop := match o with
  | some (.dK kvs) => ∃ ks : List Int, kvs.map (fun p : Key × D => p.1) = ks.map Sum.inl ∧ ks.length < 64 ∧ ∀ ys : List Int, ys.Perm ks → ys.Pairwise (· ≤ ·) → f ys
  | _ => False
def cSortDI : RLt := fun ds M Q => match ds with
  | [.ref a] => oSD (M a) fun ys => Q (.lst (ys.map D.int)) M
  | _ => False
end
/-! ### texts written out -/
theorem map_inj' {α β : Type} {f : α → β} (hf : ∀ a b, f a = f b → a = b) : ∀ {l m : List α}, l.map f = m.map f → l = m
  | [], [], _ => rfl
  | [], _ :: _, h => by simp at h
  | _ :: _, [], h => by simp at h
  | a :: l, b :: m, h => by
    simp only [List.map_cons, List.cons.injEq] at h
    rw [hf _ _ h.1, map_inj' hf h.2]
theorem ofS_inj {s t : String} : (Str.ofString s = Str.ofString t) = (s = t) := by
  apply propext
  constructor
  · intro h
    rw [Str.ofString_eq_toList, Str.ofString_eq_toList] at h
    have h2 : (s.toList.map Char.toNat) = (t.toList.map Char.toNat) := by
      have := congrArg (fun z : Str => z.cps.toList) h
      simpa using this
    have h3 : s.toList = t.toList := map_inj' (fun a b e => Char.toNat_inj.mp e) h2
    exact String.toList_inj.mp h3
  · intro h; rw [h]
/-! ### a cut between two statements -/
def sCut (t u : TSt) : TSt := fun D τ M => ∃ W : Sg → MH → Prop, t { D with nx := W } τ M ∧ ∀ τ' M', W τ' M' → u D τ' M'
theorem qss_cut {X : Cx} {E : XK} {Et : XT} {st : Stmt} {rest : List Stmt} {t u : TSt} (h1 : QS X E Et st t) (h2 : QSs X E Et rest u) : QSs X E Et (st :: rest) (sCut t u) := PSsimp (pss_cons h1 h2) (by
  rintro D σ H ⟨G, F, M, τ, Dt, a, en, W, h, hW⟩
  exact ⟨G, F, M, τ, { Dt with nx := W }, a, ⟨fun F' H' M' σ' τ' s a' h' => ⟨G, F', M', τ', Dt, a', en.mono s, hW τ' M' h'⟩, en.rt, en.bk, en.ct⟩, h⟩)
theorem cut_by {t u : TSt} {D0 : En} {τ : Sg} {M : MH} (W : Sg → MH → Prop) (h : t { D0 with nx := W } τ M) (h2 : ∀ τ' M', W τ' M' → u D0 τ' M') : sCut t u D0 τ M := ⟨W, h, h2⟩
/-! ### a branch that is not taken -/
theorem qss_never {X : Cx} {E : XK} {Et : XT} {st : List Stmt} : QSs X E Et st (fun _ _ _ => False) := ⟨fun pins s σ H D I w => by
  obtain ⟨G, F, M, τ, Dt, a, en, h⟩ := w
  exact h.elim⟩
/-! ### readings, for simp -/
section
variable {M : MH} {Q : VD} {a : Addr} {k x y d : D} {f : Option D → Prop} {g : MO → Prop} {ds es : List D} {i n : Int} {s z : Str}
theorem uDic : oDic M (.ref a) k f = oDA (M a) k f := propext Iff.rfl
theorem oDA_ki {kvs : List (Key × D)} : oDA (some (.dK kvs)) (.int i) f = f (valD kvs (.inl i)) := propext Iff.rfl
theorem oDA_ks {kvs : List (Key × D)} : oDA (some (.dK kvs)) (.str s) f = f (valD kvs (.inr s)) := propext Iff.rfl
theorem oDA_t {kvs : List (List Key × D)} : oDA (some (.dT kvs)) (.tup ds) f = oSome (kT ds) fun c => f (valD kvs c) := by
  unfold oDA oSome; cases h : kT ds <;> simp [h]
theorem oPA_ki {kvs : List (Key × D)} : oPA (some (.dK kvs)) (.int i) d g = (kvs.length < 16777216 ∧ g (.dK (putM kvs (.inl i) d))) := by rw [← sizeLine_eq]; rfl
theorem oPA_ks {kvs : List (Key × D)} : oPA (some (.dK kvs)) (.str s) d g = (kvs.length < 16777216 ∧ g (.dK (putM kvs (.inr s) d))) := by rw [← sizeLine_eq]; rfl
theorem oPA_t {kvs : List (List Key × D)} : oPA (some (.dT kvs)) (.tup ds) d g = oSome (kT ds) fun c => kvs.length < 16777216 ∧ g (.dT (putM kvs c d)) := by
  rw [← sizeLine_eq]; unfold oPA oSome; cases h : kT ds <;> simp [h]
def consK (a : Key) (o : Option (List Key)) : Option (List Key) := match o with
  | some l => some (a :: l)
  | none => none
theorem consK_s {a : Key} {l : List Key} : consK a (some l) = some (a :: l) := rfl
theorem kT_nil : kT [] = some [] := rfl
theorem kT_i {t : List D} : kT (.int i :: t) = consK (.inl i) (kT t) := by
  show (match k1 (.int i), kT t with | some a, some b => some (a :: b) | _, _ => none) = _
  cases kT t <;> rfl
theorem kT_s {t : List D} : kT (.str s :: t) = consK (.inr s) (kT t) := by
  show (match k1 (.str s), kT t with | some a, some b => some (a :: b) | _, _ => none) = _
  cases kT t <;> rfl
theorem uzDict {Qm : MH → Prop} : zDict (.ref a) k d M Qm = oPA (M a) k d fun mo => Qm (mup M a mo) := rfl
theorem uIn {neg : Bool} : bIn neg x y M Q = oSome (seqOf M y) fun ds => flatD x = true ∧ ds.all flatD = true ∧ Q (.bl (if neg = true then !(ds.any fun z => eqD z x) else ds.any fun z => eqD z x)) M := by
  unfold bIn oSome; cases seqOf M y <;> rfl
theorem uRepS : bRepS (.str z) (.int n) M Q = ((0 ≤ n ∧ n ≤ 1000 ∧ z.length ≤ 1000) ∧ Q (.str (repS z n)) M) := propext Iff.rfl
theorem uRep : bRep (.lst ds) (.int n) M Q = ((0 ≤ n ∧ n ≤ 1000 ∧ ds.length ≤ 1000) ∧ Q (.lst (List.replicate n.toNat ds).flatten) M) := propext Iff.rfl
theorem uRepM : bRepM (.lst ds) (.int n) M Q = ((0 ≤ n ∧ n ≤ 1000 ∧ ds.length ≤ 1000) ∧ ∀ p, M p = none → Q (.ref p) (mup M p (.lst (List.replicate n.toNat ds).flatten))) := propext Iff.rfl
theorem uCatT : bCatT (.tup ds) (.tup es) M Q = (ds.length + es.length ≤ 16777216 ∧ Q (.tup (ds ++ es)) M) := by rw [← sizeLine_eq]; rfl
theorem uSlT {lo hi : Option Int} : cSlT (.tup ds) lo hi M Q = Q (.tup (cutD ds lo hi)) M := propext Iff.rfl
def oLD (o : Option MO) (f : Nat → Prop) : Prop := match o with
  | some (.dK kvs) => f kvs.length
  | some (.dT kvs) => f kvs.length
  | _ => False
theorem oLD_k {kvs : List (Key × D)} {f : Nat → Prop} : oLD (some (.dK kvs)) f = f kvs.length := propext Iff.rfl
theorem oLD_t {kvs : List (List Key × D)} {f : Nat → Prop} : oLD (some (.dT kvs)) f = f kvs.length := propext Iff.rfl
theorem uLenD : cLenD [.ref a] M Q = oLD (M a) fun n => Q (.int (n : Nat)) M := by
  show (match M a with | some (.dK kvs) => Q (.int (kvs.length : Nat)) M | some (.dT kvs) => Q (.int (kvs.length : Nat)) M | _ => False) = _
  unfold oLD
  cases M a with
  | none => rfl
  | some o => cases o <;> rfl
theorem uSortDI : cSortDI [.ref a] M Q = oSD (M a) fun ys => Q (.lst (ys.map D.int)) M := propext Iff.rfl
end
end Tl
namespace Tl
open PySem PySem.Spec PyProof.Rows L2
/-! ### widelanes: expressions, statements, programs -/
inductive Op7 where
  | add | sub | mul | div | rem | lt | eq
deriving DecidableEq
def Op7.s : Op7 → Str
  | .add => "+" | .sub => "-" | .mul => "*" | .div => "div" | .rem => "rem" | .lt => "<" | .eq => "="
theorem op_lane {o : Op7} : (o.s = Str.ofString "lane") = False := by cases o <;> simp only [Op7.s, ofS_inj, String.reduceEq]
theorem op_lanes {o : Op7} : (o.s = Str.ofString "lanes") = False := by cases o <;> simp only [Op7.s, ofS_inj, String.reduceEq]
theorem op_mine {o : Op7} : (o.s = Str.ofString "mine") = False := by cases o <;> simp only [Op7.s, ofS_inj, String.reduceEq]
theorem op_num {o : Op7} : (o.s = Str.ofString "num") = False := by cases o <;> simp only [Op7.s, ofS_inj, String.reduceEq]
theorem op_name {o : Op7} : (o.s = Str.ofString "name") = False := by cases o <;> simp only [Op7.s, ofS_inj, String.reduceEq]
theorem op_box {o : Op7} : (o.s = Str.ofString "box") = False := by cases o <;> simp only [Op7.s, ofS_inj, String.reduceEq]
inductive Ex where
  | num (i : Int) | nam (x : Str) | lane | lanes | mine | box (e : Ex) | op (w : Op7) (a b : Ex)
def Ex.d : Ex → D
  | .num i => .tup [.str "num", .int i]
  | .nam x => .tup [.str "name", .str x]
  | .lane => .tup [.str "lane"]
  | .lanes => .tup [.str "lanes"]
  | .mine => .tup [.str "mine"]
  | .box e => .tup [.str "box", e.d]
  | .op w a b => .tup [.str w.s, a.d, b.d]
def Ex.deep : Ex → Nat
  | .box e => e.deep + 1
  | .op _ a b => max a.deep b.deep + 1
  | _ => 1
inductive Sm where
  | set (l : Int) (x : Str) (e : Ex) | put (l : Int) (a b : Ex) | tell (l : Int) (e : Ex) | ret (l : Int) (e : Ex) | stop (l : Int) | brk (l : Int) | agn (l : Int) | meet (l : Int)
  | join (l : Int) (x w : Str) (e : Ex) | call (l : Int) (x f : Str) (es : List Ex) | if1 (l : Int) (e : Ex) (b : List Sm) | if2 (l : Int) (e : Ex) (b c : List Sm) | whl (l : Int) (e : Ex) (b : List Sm)
mutual
def Sm.d : Sm → D
  | .set l x e => .tup [.str "set", .int l, .str x, e.d]
  | .put l a b => .tup [.str "put", .int l, a.d, b.d]
  | .tell l e => .tup [.str "tell", .int l, e.d]
  | .ret l e => .tup [.str "return", .int l, e.d]
  | .stop l => .tup [.str "stop", .int l]
  | .brk l => .tup [.str "break", .int l]
  | .agn l => .tup [.str "again", .int l]
  | .meet l => .tup [.str "meet", .int l]
  | .join l x w e => .tup [.str "join", .int l, .str x, .str w, e.d]
  | .call l x f es => .tup [.str "call", .int l, .str x, .str f, .lst (es.map Ex.d)]
  | .if1 l e b => .tup [.str "if", .int l, e.d, .lst (stD b), .non]
  | .if2 l e b c => .tup [.str "if", .int l, e.d, .lst (stD b), .lst (stD c)]
  | .whl l e b => .tup [.str "while", .int l, e.d, .lst (stD b)]
def stD : List Sm → List D
  | [] => []
  | s :: t => s.d :: stD t
end
theorem stD_map : ∀ b : List Sm, stD b = b.map Sm.d
  | [] => by unfold stD; rfl
  | s :: t => by unfold stD; rw [stD_map t]; rfl
theorem stD_len (b : List Sm) : (stD b).length = b.length := by rw [stD_map, List.length_map]
mutual
def Sm.deep : Sm → Nat
  | .if1 _ _ b => deeps b + 1
  | .if2 _ _ b c => max (deeps b) (deeps c) + 1
  | .whl _ _ b => deeps b + 1
  | _ => 1
def deeps : List Sm → Nat
  | [] => 0
  | s :: t => max s.deep (deeps t)
end
theorem deeps_mem : ∀ {b : List Sm} {s : Sm}, s ∈ b → s.deep ≤ deeps b
  | x :: t, s, h => by
    unfold deeps
    rcases List.mem_cons.mp h with rfl | h
    · omega
    · have := deeps_mem h; omega
def Sm.line : Sm → Int
  | .set l _ _ => l | .put l _ _ => l | .tell l _ => l | .ret l _ => l | .stop l => l | .brk l => l | .agn l => l | .meet l => l | .join l _ _ _ => l | .call l _ _ _ => l | .if1 l _ _ => l | .if2 l _ _ _ => l | .whl l _ _ => l
def Sm.word : Sm → Str
  | .set .. => "set" | .put .. => "put" | .tell .. => "tell" | .ret .. => "return" | .stop .. => "stop" | .brk .. => "break" | .agn .. => "again" | .meet .. => "meet" | .join .. => "join" | .call .. => "call" | .if1 .. => "if" | .if2 .. => "if" | .whl .. => "while"
def Sm.given : Sm → Option Str
  | .set _ x _ => some x | .join _ x _ _ => some x | .call _ x _ _ => some x | _ => none
def Sm.blocks : Sm → List (List Sm)
  | .if1 _ _ b => [b] | .if2 _ _ b c => [b, c] | .whl _ _ b => [b] | _ => []
def Sm.rest : Sm → List D
  | .set _ x e => [.str x, e.d] | .put _ a b => [a.d, b.d] | .tell _ e => [e.d] | .ret _ e => [e.d] | .join _ x w e => [.str x, .str w, e.d] | .call _ x f es => [.str x, .str f, .lst (es.map Ex.d)]
  | .if1 _ e b => [e.d, .lst (stD b), .non] | .if2 _ e b c => [e.d, .lst (stD b), .lst (stD c)] | .whl _ e b => [e.d, .lst (stD b)] | _ => []
theorem sm_d (s : Sm) : s.d = .tup (.str s.word :: .int s.line :: s.rest) := by cases s <;> (unfold Sm.d; rfl)
structure Df where
  name : Str
  ps : List Str
  body : List Sm
  first : Int
  last : Int
def Df.d (f : Df) : D := .tup [.str f.name, .lst (f.ps.map .str), .lst (stD f.body), .int f.first, .int f.last]
abbrev Pg := List Df
def pgD (p : Pg) : List D := p.map Df.d
/-! ### marks -/
inductive MK where
  | name (f x : Str) | row (l : Int) | dfn (f : Str) | back (f : Str)
deriving DecidableEq
def MK.k : MK → List Key
  | .name f x => [.inr "name", .inr f, .inr x]
  | .row l => [.inr "row", .inl l]
  | .dfn f => [.inr "def", .inr f]
  | .back f => [.inr "back", .inr f]
def MK.d : MK → D
  | .name f x => .tup [.str "name", .str f, .str x]
  | .row l => .tup [.str "row", .int l]
  | .dfn f => .tup [.str "def", .str f]
  | .back f => .tup [.str "back", .str f]
theorem MK.k_inj {a b : MK} (h : a.k = b.k) : a = b := by
  have n1 : ("def" : Str) ≠ "back" := by decide
  cases a <;> cases b <;> simp only [MK.k, List.cons.injEq, Sum.inr.injEq, Sum.inl.injEq, and_true, true_and, reduceCtorEq, and_false, false_and] at h <;> first | exact h.elim | (subst h; rfl) | (obtain ⟨rfl, rfl⟩ := h; rfl) | exact absurd h.1 n1 | exact absurd h.1.symm n1
abbrev Why := List (Option MK)
def oD : Option MK → D
  | none => .non
  | some k => k.d
def whyD (w : Why) : D := .lst (w.map oD)
abbrev FM := List (MK × Int × Option MK)
def fmD (fd : FM) : List (List Key × D) := fd.map fun p => (p.1.k, .tup [.int p.2.1, oD p.2.2])
def hasK (fd : FM) (k : MK) : Bool := fd.any fun p => decide (p.1 = k)
theorem val_fm (fd : FM) (k : MK) : (valD (fmD fd) k.k).isSome = hasK fd k := by
  induction fd with
  | nil => rfl
  | cons p t ih =>
    unfold fmD hasK
    rw [List.map_cons, List.any_cons]
    by_cases e : p.1 = k
    · rw [valD_pos (by rw [e]), decide_eq_true e]; rfl
    · rw [valD_neg (fun h => e (MK.k_inj h)), decide_eq_false e]; exact ih
theorem val_name (fd : FM) (f x : Str) : (valD (fmD fd) [.inr "name", .inr f, .inr x]).isSome = hasK fd (.name f x) := val_fm fd (.name f x)
theorem val_row (fd : FM) (l : Int) : (valD (fmD fd) [.inr "row", .inl l]).isSome = hasK fd (.row l) := val_fm fd (.row l)
theorem val_def (fd : FM) (f : Str) : (valD (fmD fd) [.inr "def", .inr f]).isSome = hasK fd (.dfn f) := val_fm fd (.dfn f)
theorem val_back (fd : FM) (f : Str) : (valD (fmD fd) [.inr "back", .inr f]).isSome = hasK fd (.back f) := val_fm fd (.back f)
structure Spot where
  deed : Sm
  way : Why
  loop : Option Int
def loopD : Option Int → D
  | none => .non
  | some l => .int l
def Spot.d (s : Spot) : D := .tup [s.deed.d, whyD s.way, loopD s.loop]
/-! ### what is placed, without the ways -/
mutual
def plnS (loop : Option Int) : Sm → List (Sm × Option Int)
  | .if1 l e b => (.if1 l e b, loop) :: pln loop b
  | .if2 l e b c => (.if2 l e b c, loop) :: (pln loop b ++ pln loop c)
  | .whl l e b => (.whl l e b, loop) :: pln (some l) b
  | s => [(s, loop)]
def pln (loop : Option Int) : List Sm → List (Sm × Option Int)
  | [] => []
  | s :: t => plnS loop s ++ pln loop t
end
abbrev Spot.dl (s : Spot) : Sm × Option Int := (s.deed, s.loop)
/-! ### waits -/
end Tl
namespace Tl
open PySem PySem.Spec PyProof.Rows L2
/-! ### cells: what stands where, beside what stood before -/
structure Cel (M0 M : MH) (cs : List (Addr × MO)) : Prop where
  nd : (cs.map (·.1)).Nodup
  at_ : ∀ c ∈ cs, M c.1 = some c.2
  old : ∀ a o, M0 a = some o → M a = some o
  new : ∀ c ∈ cs, M0 c.1 = none
section
variable {M0 M : MH} {cs pre post : List (Addr × MO)} {a p : Addr} {o o' : MO}
theorem Cel.nil : Cel M M [] := ⟨List.nodup_nil, fun _ h => (by cases h), fun _ _ h => h, fun _ h => (by cases h)⟩
theorem Cel.fresh (h : Cel M0 M cs) (hp : M p = none) : Cel M0 (mup M p o) ((p, o) :: cs) := by
  have hne : ∀ c ∈ cs, c.1 ≠ p := fun c hc e => by have := h.at_ c hc; rw [e, hp] at this; cases this
  refine ⟨?_, ?_, ?_, ?_⟩
  · rw [List.map_cons, List.nodup_cons]
    refine ⟨fun hm => ?_, h.nd⟩
    obtain ⟨c, hc, e⟩ := List.mem_map.mp hm
    exact hne c hc e
  · intro c hc
    rcases List.mem_cons.mp hc with rfl | hc
    · exact mup_same
    · rw [mup_ne (hne c hc)]; exact h.at_ c hc
  · intro b u e
    have := h.old b u e
    rw [mup_ne (by rintro rfl; rw [hp] at this; cases this)]; exact this
  · intro c hc
    rcases List.mem_cons.mp hc with rfl | hc
    · cases e : M0 p with
      | none => rfl
      | some u => have := h.old p u e; rw [hp] at this; cases this
    · exact h.new c hc
theorem Cel.here (h : Cel M0 M (pre ++ (a, o) :: post)) : M a = some o := h.at_ (a, o) (by simp)
theorem Cel.ne_mid (h : (List.map (fun x : Addr × MO => x.1) (pre ++ (a, o) :: post)).Nodup) : (∀ c ∈ pre, c.1 ≠ a) ∧ ∀ c ∈ post, c.1 ≠ a := by
  rw [List.map_append, List.map_cons] at h
  obtain ⟨h1, h2, h3⟩ := List.nodup_append.mp h
  obtain ⟨h4, h5⟩ := List.nodup_cons.mp h2
  exact ⟨fun c hc e => h3 c.1 (List.mem_map.mpr ⟨c, hc, rfl⟩) a (List.mem_cons_self ..) e, fun c hc e => h4 (List.mem_map.mpr ⟨c, hc, e⟩)⟩
theorem Cel.put (h : Cel M0 M (pre ++ (a, o) :: post)) : Cel M0 (mup M a o') (pre ++ (a, o') :: post) := by
  obtain ⟨n1, n2⟩ := Cel.ne_mid h.nd
  refine ⟨?_, ?_, ?_, ?_⟩
  · have := h.nd
    rw [List.map_append, List.map_cons] at this ⊢
    exact this
  · intro c hc
    rcases List.mem_append.mp hc with hc | hc
    · rw [mup_ne (n1 c hc)]; exact h.at_ c (List.mem_append_left _ hc)
    · rcases List.mem_cons.mp hc with rfl | hc
      · exact mup_same
      · rw [mup_ne (n2 c hc)]; exact h.at_ c (List.mem_append_right _ (List.mem_cons_of_mem _ hc))
  · intro b u e
    have hn := h.new (a, o) (by simp)
    rw [mup_ne (by rintro rfl; rw [hn] at e; cases e)]
    exact h.old b u e
  · intro c hc
    rcases List.mem_append.mp hc with hc | hc
    · exact h.new c (List.mem_append_left _ hc)
    · rcases List.mem_cons.mp hc with rfl | hc
      · exact h.new (a, o) (by simp)
      · exact h.new c (List.mem_append_right _ (List.mem_cons_of_mem _ hc))
theorem Cel.del (h : Cel M0 M (pre ++ (a, o) :: post)) : Cel M0 (mdel M a) (pre ++ post) := by
  obtain ⟨n1, n2⟩ := Cel.ne_mid h.nd
  have md : ∀ b, b ≠ a → mdel M a b = M b := fun b hb => by unfold mdel; rw [if_neg hb]
  refine ⟨?_, ?_, ?_, ?_⟩
  · have := h.nd
    rw [List.map_append, List.map_cons] at this
    rw [List.map_append]
    obtain ⟨h1, h2, h3⟩ := List.nodup_append.mp this
    exact List.nodup_append.mpr ⟨h1, (List.nodup_cons.mp h2).2, fun x hx y hy => h3 x hx y (List.mem_cons_of_mem _ hy)⟩
  · intro c hc
    rcases List.mem_append.mp hc with hc | hc
    · rw [md _ (n1 c hc)]; exact h.at_ c (List.mem_append_left _ hc)
    · rw [md _ (n2 c hc)]; exact h.at_ c (List.mem_append_right _ (List.mem_cons_of_mem _ hc))
  · intro b u e
    have hn := h.new (a, o) (by simp)
    rw [md _ (by rintro rfl; rw [hn] at e; cases e)]
    exact h.old b u e
  · intro c hc
    rcases List.mem_append.mp hc with hc | hc
    · exact h.new c (List.mem_append_left _ hc)
    · exact h.new c (List.mem_append_right _ (List.mem_cons_of_mem _ hc))
theorem Cel.forget (h : Cel M0 M (pre ++ (a, o) :: post)) : Cel M0 M (pre ++ post) := by
  refine ⟨?_, fun c hc => ?_, h.old, fun c hc => ?_⟩
  · have := h.nd
    rw [List.map_append, List.map_cons] at this
    rw [List.map_append]
    obtain ⟨h1, h2, h3⟩ := List.nodup_append.mp this
    exact List.nodup_append.mpr ⟨h1, (List.nodup_cons.mp h2).2, fun x hx y hy => h3 x hx y (List.mem_cons_of_mem _ hy)⟩
  · rcases List.mem_append.mp hc with hc | hc
    · exact h.at_ c (List.mem_append_left _ hc)
    · exact h.at_ c (List.mem_append_right _ (List.mem_cons_of_mem _ hc))
  · rcases List.mem_append.mp hc with hc | hc
    · exact h.new c (List.mem_append_left _ hc)
    · exact h.new c (List.mem_append_right _ (List.mem_cons_of_mem _ hc))
theorem Cel.re {K : PySem.W.Frag} {d : D} (h : Cel M0 M cs) : ReR K d M d M0 := ReR.drop h.old
end
/-! ### freezing what a tuple holds -/
theorem rps_mid {K : PySem.W.Frag} {F : Hp} {x : D} {post : List D} : ∀ {pre : List D} {vs : List V}, Rps K F vs (pre ++ x :: post) → ∃ v1 v v2, vs = v1 ++ v :: v2 ∧ Rps K F v1 pre ∧ Rp K F v x ∧ Rps K F v2 post
  | [], _, .cons h t => ⟨[], _, _, rfl, .nil, h, t⟩
  | _ :: pre, _, .cons h t => by
    obtain ⟨v1, v, v2, rfl, r1, r2, r3⟩ := rps_mid (pre := pre) t
    exact ⟨_ :: v1, v, v2, rfl, .cons h r1, r2, r3⟩
theorem ReR.tup_freeze {K : PySem.W.Frag} {M : MH} {b : Addr} {ds : List D} (pre post : List D) (h : M b = some (.lst ds)) : ReR K (.tup (pre ++ .ref b :: post)) M (.tup (pre ++ .lst ds :: post)) (mdel M b) := fun G F H v R p => by
  obtain ⟨F', s, R', pb⟩ := R.freeze h
  cases p with
  | tup ha r =>
    obtain ⟨v1, v, v2, rfl, r1, r2, r3⟩ := rps_mid r
    cases r2
    exact ⟨F', s, R', .tup (s _ _ ha) ((r1.mono s).append (.cons pb (r3.mono s)))⟩
/-! ### picking out of a written row -/
theorem len_app (a b : Str) : (a ++ b).length = a.length + b.length := Str.length_append a b
theorem len_repS {z : Str} {n : Int} (h : 0 ≤ n) : (repS z n).length ≤ z.length * n.toNat + z.length := by
  unfold repS
  split
  · exact Nat.zero_le _
  · split
    · omega
    · have e := size_rep' z.cps.toList n.toNat
      rw [Array.toArray_toList] at e
      show ((List.replicate n.toNat z.cps).foldl (· ++ ·) #[]).size ≤ _
      rw [e, List.size_toArray, len_rep]
      have : z.length = z.cps.toList.length := by rw [Array.length_toList]; rfl
      rw [← this, Nat.mul_comm]
      omega
/-! ### xs == [], xs != [], whatever stands in xs -/
/-! ### texts that are texts -/
theorem strOk_iff {x : Str} : PyData.strOk x = true ↔ ∀ c ∈ x.cps.toList, c < 1114112 := by
  unfold PyData.strOk
  rw [← Array.all_toList, List.all_eq_true]
  exact ⟨fun h c hc => of_decide_eq_true (h c hc), fun h c hc => decide_eq_true (h c hc)⟩
theorem strOk_app {a b : Str} (ha : PyData.strOk a = true) (hb : PyData.strOk b = true) : PyData.strOk (a ++ b) = true := by
  rw [strOk_iff] at *
  intro c hc
  have : c ∈ (a.cps ++ b.cps).toList := hc
  rw [Array.toList_append, List.mem_append] at this
  rcases this with h | h
  · exact ha c h
  · exact hb c h
theorem strOk_rep {z : Str} {n : Int} (h : PyData.strOk z = true) : PyData.strOk (repS z n) = true := by
  unfold repS
  split
  · exact strOk_iff.mpr fun c hc => (by cases hc)
  · split
    · exact h
    · rw [strOk_iff] at *
      have e := size_rep' z.cps.toList n.toNat
      rw [Array.toArray_toList] at e
      rw [e]
      intro c hc
      rw [List.toList_toArray, List.mem_flatten] at hc
      obtain ⟨l, hl, hc⟩ := hc
      rw [List.mem_replicate] at hl
      exact h c (hl.2 ▸ hc)
/-! ### what the builders of the laws lay: deeds without lines -/
inductive Od where
  | set (x : Str) (e : Ex) | ifo (e : Ex) | whl (e : Ex) | fin | els | brk | agn | meet | stop | tell (e : Ex) | ret (e : Ex) | put (a b : Ex) | join (x w : Str) (e : Ex) | call (x f : Str) (es : List Ex)
def Od.word : Od → Str
  | .set .. => "set" | .ifo .. => "if" | .whl .. => "while" | .fin => "end" | .els => "else" | .brk => "break" | .agn => "again" | .meet => "meet" | .stop => "stop" | .tell .. => "tell" | .ret .. => "return" | .put .. => "put" | .join .. => "join" | .call .. => "call"
def Od.rest : Od → List D
  | .set x e => [.str x, e.d] | .ifo e => [e.d] | .whl e => [e.d] | .tell e => [e.d] | .ret e => [e.d] | .put a b => [a.d, b.d] | .join x w e => [.str x, .str w, e.d] | .call x f es => [.str x, .str f, .lst (es.map Ex.d)] | _ => []
def Od.d (o : Od) : D := .tup (.str o.word :: o.rest)
/-- the statement that a plain deed becomes at a line -/
def Od.at_ (o : Od) (l : Int) : Option Sm := match o with
  | .set x e => some (.set l x e) | .brk => some (.brk l) | .agn => some (.agn l) | .meet => some (.meet l) | .stop => some (.stop l) | .tell e => some (.tell l e) | .ret e => some (.ret l e) | .put a b => some (.put l a b) | .join x w e => some (.join l x w e) | .call x f es => some (.call l x f es)
  | _ => none
end Tl
namespace Tl
open PySem PySem.Spec PyProof.Rows L2
/-! ### what a builder's frames hold (pure) -/
structure Fr where
  at_ : Addr
  wh : Bool
  l : Int
  e : Ex
  body : Addr
  bs : List Sm
  els : Option (Addr × List Sm)
def Fr.word (f : Fr) : Str := if f.wh = true then "while" else "if"
def Fr.here (f : Fr) : Addr := match f.els with
  | none => f.body
  | some x => x.1
def elsD : Option (Addr × List Sm) → D
  | none => .non
  | some x => .ref x.1
def Fr.row (f : Fr) (outer : Addr) : MO := .lst [.str f.word, .int f.l, f.e.d, .ref outer, .ref f.body, elsD f.els]
def Fr.cells (f : Fr) (outer : Addr) : List (Addr × MO) :=
  (f.at_, f.row outer) :: (f.body, .lst (stD f.bs)) :: match f.els with
  | none => []
  | some x => [(x.1, .lst (stD x.2))]
def Fr.close (f : Fr) : Sm := if f.wh = true then .whl f.l f.e f.bs else match f.els with
  | none => .if1 f.l f.e f.bs
  | some x => .if2 f.l f.e f.bs x.2
theorem Cel.perm {M0 M : MH} {cs ds : List (Addr × MO)} (h : Cel M0 M cs) (p : cs.Perm ds) : Cel M0 M ds :=
  ⟨(p.map _).nodup_iff.mp h.nd, fun c hc => h.at_ c (p.mem_iff.mpr hc), h.old, fun c hc => h.new c (p.mem_iff.mpr hc)⟩
end Tl
namespace Tl
open PySem PySem.Spec PyProof.Rows L2
/-! ### mirrors of the builder of the laws k12 .. k17, k31 .. k37 -/
theorem atI_getD {α : Type} {ds : List α} {k : Int} (d : α) (h0 : 0 ≤ k) (h : k < ds.length) : atI ds k = some (ds.getD k.toNat d) := by
  obtain ⟨j, rfl⟩ := Int.eq_ofNat_of_zero_le h0
  have hj : j < ds.length := by omega
  rw [atI_nat (List.getElem?_eq_getElem hj)]
  simp [List.getD, hj]
theorem atI_mapD {α β : Type} {f : α → β} {xs : List α} {k : Int} (d : α) (h0 : 0 ≤ k) (h : k < xs.length) : atI (xs.map f) k = some (f (xs.getD k.toNat d)) := by
  obtain ⟨j, rfl⟩ := Int.eq_ofNat_of_zero_le h0
  have hj : j < xs.length := by omega
  rw [atI_nat (v := f xs[j]) (by rw [List.getElem?_map, List.getElem?_eq_getElem hj]; rfl)]
  simp [List.getD, hj]
theorem getD_mem {α : Type} {xs : List α} {n : Nat} (d : α) (h : n < xs.length) : xs.getD n d ∈ xs := by
  rw [List.getD_eq_getElem?_getD, List.getElem?_eq_getElem h]
  exact List.getElem_mem h
def letters : Str := "abcdefghijklmnopqrstuvwxyz"
def signF (r : Int) : Nat := letters.cps.toList.getD (r % 26).toNat 0
theorem sign_get (r : Int) : atI letters.cps.toList (r % 26) = some (signF r) := by
  have hL : letters.cps.toList.length = 26 := by decide +kernel
  have b := modB (a := r) (b := 26) (by decide)
  exact atI_getD 0 b.1 (by rw [hL]; exact b.2)
theorem sign_ok (r : Int) : PyData.strOk ⟨#[signF r]⟩ = true := by
  have hL : letters.cps.toList.length = 26 := by decide +kernel
  have hLs : PyData.strOk letters = true := by decide +kernel
  have b := modB (a := r) (b := 26) (by decide)
  refine strOk_iff.mpr fun c' hc' => ?_
  have : c' ∈ [signF r] := hc'
  rw [List.mem_singleton.mp this]
  exact strOk_iff.mp hLs _ (getD_mem 0 (by rw [hL]; omega))
/-! expressions -/
/-! deeds -/
abbrev Rm := List (Str × List Str)
end Tl
namespace Tl
open PySem PySem.Spec PyProof.Rows L2
/-! ### mirrors: lines laid in one another -/
structure Fp where
  wh : Bool
  l : Int
  e : Ex
  bs : List Sm
  els : Option (List Sm)
def Fr.p (f : Fr) : Fp := ⟨f.wh, f.l, f.e, f.bs, f.els.map (·.2)⟩
def Fp.close (f : Fp) : Sm := if f.wh = true then .whl f.l f.e f.bs else match f.els with
  | none => .if1 f.l f.e f.bs
  | some x => .if2 f.l f.e f.bs x
def addP (s : Sm) (b0 : List Sm) : List Fp → List Sm × List Fp
  | [] => (b0 ++ [s], [])
  | f :: r => (b0, (match f.els with
    | none => { f with bs := f.bs ++ [s] }
    | some x => { f with els := some (x ++ [s]) }) :: r)
def standF (o : Od) (stk : List Fp) (main : Bool) : Bool := match o with
  | .brk => stk.any (·.wh)
  | .agn => stk.any (·.wh)
  | .els => match stk with
    | [] => false
    | f :: _ => !f.wh && f.els.isNone
  | .fin => !stk.isEmpty
  | .ifo _ => decide (stk.length < 5)
  | .whl _ => decide (stk.length < 5)
  | .ret _ => !main
  | _ => true
structure LS where
  b0 : List Sm
  stk : List Fp
  line : Int
def laidGo (s : LS) : Od → LS
  | .fin => match s.stk with
    | [] => s
    | f :: r => ⟨(addP f.close s.b0 r).1, (addP f.close s.b0 r).2, s.line + 1⟩
  | .els => match s.stk with
    | [] => s
    | f :: r => ⟨s.b0, { f with els := some [] } :: r, s.line + 1⟩
  | .ifo e => ⟨s.b0, ⟨false, s.line + 1, e, [], none⟩ :: s.stk, s.line + 1⟩
  | .whl e => ⟨s.b0, ⟨true, s.line + 1, e, [], none⟩ :: s.stk, s.line + 1⟩
  | o => match o.at_ (s.line + 1) with
    | some st => ⟨(addP st s.b0 s.stk).1, (addP st s.b0 s.stk).2, s.line + 1⟩
    | none => s
def laidStep (main : Bool) (s : LS) (o : Od) : LS := if standF o s.stk main = true then laidGo s o else s
def laidS (main : Bool) (os : List Od) (l : Int) : LS := os.foldl (laidStep main) ⟨[], [], l⟩
def laidF (main : Bool) (os : List Od) (l : Int) : List Sm × Int := ((laidS main (os ++ List.replicate 5 .fin) l).b0, (laidS main (os ++ List.replicate 5 .fin) l).line + 1)
/-! what is asked holds -/
/-! rooms, variables, programs -/
theorem cut_both {xs : List D} (lo hi : Nat) : cutD xs (some (lo : Int)) (some (hi : Int)) = (xs.take hi).drop lo := by
  unfold cutD
  rw [HT.sIx_nat, HT.sIx_nat]
  by_cases h : lo ≤ xs.length
  · rw [Nat.min_eq_left h]
    rw [List.drop_take]
    by_cases h2 : hi ≤ xs.length
    · rw [Nat.min_eq_left h2]
    · rw [Nat.min_eq_right (show xs.length ≤ hi by omega), List.take_of_length_le (by rw [List.length_drop]; omega), List.take_of_length_le (by rw [List.length_drop]; omega)]
  · have a : xs.drop xs.length = [] := List.drop_of_length_le (Nat.le_refl _)
    have b : (xs.take hi).drop lo = [] := List.drop_of_length_le (by rw [List.length_take]; omega)
    rw [Nat.min_eq_right (show xs.length ≤ lo by omega), a, b, List.take_nil]
theorem cut_take {xs : List D} (n : Nat) : cutD xs none (some (n : Int)) = xs.take n := by
  have := cut_both (xs := xs) 0 n
  unfold cutD at this ⊢
  rw [HT.sIx_none]
  rw [HT.sIx_nat xs.length 0 0, Nat.zero_min, List.drop_zero] at this
  exact this
theorem ix_nat {n k : Nat} (h : k < n) : ixN n (k : Int) = some k := by
  unfold ixN
  rw [if_pos (by omega), if_pos (by omega)]
  simp
def isMain (x : Str) : Bool := decide (x = ("main" : Str))
end Tl
namespace Tl
open PySem PySem.Spec PyProof.Rows L2
/-! ### changing lists that stand in a frozen list -/
theorem ReS.at_ {K : PySem.W.Frag} {τ : Sg} {M M' : MH} {i : Nat} {d d' : D} (h : nth τ i = some d) (r : ReR K d M d' M') : ReS K τ M (τ.set i (some d')) M' := fun G F H σ R sg => by
  obtain ⟨v, h1, h2⟩ := sg.2 i _ (nth_get h)
  obtain ⟨F', s, R', p⟩ := r G F H v R h2
  refine ⟨F', s, R', ?_⟩
  have g := sg.mono s
  have e : σ = σ.set i (some v) := by
    apply List.ext_getElem?
    intro j
    by_cases hij : i = j
    · subst hij
      rw [h1, List.getElem?_set_self (List.getElem?_eq_some_iff.mp h1).1]
    · rw [List.getElem?_set_ne hij]
  rw [e]
  exact g.set p
theorem ReR.lst_freeze {K : PySem.W.Frag} {M : MH} {b : Addr} {ds : List D} (pre post : List D) (h : M b = some (.lst ds)) : ReR K (.lst (pre ++ .ref b :: post)) M (.lst (pre ++ .lst ds :: post)) (mdel M b) := fun G F H v R p => by
  obtain ⟨F', s, R', pb⟩ := R.freeze h
  cases p with
  | lst ha r =>
    obtain ⟨v1, v, v2, rfl, r1, r2, r3⟩ := rps_mid r
    cases r2
    exact ⟨F', s, R', .lst (s _ _ ha) ((r1.mono s).append (.cons pb (r3.mono s)))⟩
section
variable {α : Type} {f : α → D} {M0 M : MH}
def celsL (f : α → D) (cs : List (Addr × List α)) : List (Addr × MO) := cs.map fun c => (c.1, .lst (c.2.map f))
def refsL (cs : List (Addr × List α)) : List D := cs.map fun c => .ref c.1
def lstsL (f : α → D) (xss : List (List α)) : List D := xss.map fun xs => .lst (xs.map f)
theorem ReR.all {K : PySem.W.Frag} : ∀ (cs : List (Addr × List α)) (pre : List D) {M : MH}, Cel M0 M (celsL f cs) → ReR K (.lst (pre ++ refsL cs)) M (.lst (pre ++ lstsL f (cs.map (·.2)))) M0
  | [], pre, M, h => h.re
  | c :: cs, pre, M, h => by
    have h1 : Cel M0 M ([] ++ (c.1, .lst (c.2.map f)) :: celsL f cs) := h
    have a := ReR.lst_freeze (K := K) pre (refsL cs) h1.here
    have b := ReR.all (K := K) cs (pre ++ [.lst (c.2.map f)]) h1.del
    rw [List.append_assoc, List.append_assoc] at b
    exact a.trans b
end
theorem Cel.lift {M0 M : MH} {cs : List (Addr × MO)} {p : Addr} {o : MO} (h : Cel M0 M cs) (hp : M p = none) : Cel (mup M0 p o) (mup M p o) cs := by
  have hne : ∀ c ∈ cs, c.1 ≠ p := fun c hc e => by have := h.at_ c hc; rw [e, hp] at this; cases this
  refine ⟨h.nd, fun c hc => by rw [mup_ne (hne c hc)]; exact h.at_ c hc, fun a u e => ?_, fun c hc => by rw [mup_ne (hne c hc)]; exact h.new c hc⟩
  by_cases q : a = p
  · subst q; rw [mup_same] at e ⊢; exact e
  · rw [mup_ne q] at e ⊢; exact h.old a u e
theorem Cel.free {M0 M : MH} {cs : List (Addr × MO)} {p : Addr} (h : Cel M0 M cs) (hp : M p = none) : M0 p = none := by
  cases e : M0 p with
  | none => rfl
  | some u => rw [h.old p u e] at hp; cases hp
/-! ### x is True -/
def bIsB : R2t := fun x y M Q => match x, y with
  | .bl a, .bl b => Q (.bl (a == b)) M
  | _, _ => False
theorem uIsB {a b : Bool} {M : MH} {Q : VD} : bIsB (.bl a) (.bl b) M Q = Q (.bl (a == b)) M := propext Iff.rfl
end Tl
namespace Tl
open PySem PySem.Spec PyProof.Rows L2
/-! ### lines, in their order -/
mutual
def lnS : Sm → List Int
  | .if1 l _ b => l :: ln b
  | .if2 l _ b c => l :: (ln b ++ ln c)
  | .whl l _ b => l :: ln b
  | s => [s.line]
def ln : List Sm → List Int
  | [] => []
  | s :: t => lnS s ++ ln t
end
def Fp.seq (f : Fp) : List Int := f.l :: (ln f.bs ++ match f.els with
  | none => []
  | some x => ln x)
def LS.seq (b0 : List Sm) : List Fp → List Int
  | [] => ln b0
  | f :: r => LS.seq b0 r ++ f.seq
structure LI (l : Int) (k : Nat) (s : LS) : Prop where
  wf : ∀ f ∈ s.stk, f.wh = true → f.els = none
  inc : (LS.seq s.b0 s.stk).Pairwise (· < ·)
  rng : ∀ x ∈ LS.seq s.b0 s.stk, l < x ∧ x ≤ s.line
  len : (LS.seq s.b0 s.stk).length ≤ k
  low : l ≤ s.line
theorem LI.add {l : Int} {k : Nat} {s : LS} {b : List Sm} {st : List Fp} (h : LI l k s) (wf : ∀ f ∈ st, f.wh = true → f.els = none) (e : LS.seq b st = LS.seq s.b0 s.stk ++ [s.line + 1]) : LI l (k + 1) ⟨b, st, s.line + 1⟩ := by
  refine ⟨wf, ?_, ?_, ?_, ?_⟩
  · show (LS.seq b st).Pairwise _
    rw [e, List.pairwise_append]
    refine ⟨h.inc, List.pairwise_singleton _ _, fun x hx y hy => ?_⟩
    rw [List.mem_singleton.mp hy]
    have := (h.rng x hx).2
    omega
  · intro x hx
    have hx : x ∈ LS.seq b st := hx
    rw [e] at hx
    show l < x ∧ x ≤ s.line + 1
    rcases List.mem_append.mp hx with hx | hx
    · have := h.rng x hx; omega
    · rw [List.mem_singleton.mp hx]; have := h.low; omega
  · show (LS.seq b st).length ≤ _
    rw [e, List.length_append]
    have := h.len
    simp only [List.length_singleton]; omega
  · show l ≤ s.line + 1
    have := h.low; omega
theorem LI.same {l : Int} {k : Nat} {s : LS} {b : List Sm} {st : List Fp} (h : LI l k s) (wf : ∀ f ∈ st, f.wh = true → f.els = none) (e : LS.seq b st = LS.seq s.b0 s.stk) : LI l k ⟨b, st, s.line + 1⟩ := by
  refine ⟨wf, ?_, ?_, ?_, ?_⟩
  · show (LS.seq b st).Pairwise _
    rw [e]; exact h.inc
  · intro x hx
    have hx : x ∈ LS.seq b st := hx
    rw [e] at hx
    show l < x ∧ x ≤ s.line + 1
    have := h.rng x hx; omega
  · show (LS.seq b st).length ≤ _
    rw [e]; exact h.len
  · show l ≤ s.line + 1
    have := h.low; omega
theorem LI.mono {l : Int} {k m : Nat} {s : LS} (h : LI l k s) (hk : k ≤ m) : LI l m s := ⟨h.wf, h.inc, h.rng, Nat.le_trans h.len hk, h.low⟩
/-! ### what is asked of each statement -/
/-! ### the program whole -/
def dfLn (o : Df) : List Int := o.first :: ln o.body
def pgLn (pg : Pg) : List Int := (pg.map dfLn).flatten
/-- a def as the builder lays it -/
def laidDf (oss : List (List Od)) (rs : Rm) (o : Df) : Prop := ∃ os ∈ oss, (o.name, o.ps) ∈ rs ∧ o.body = (laidF (isMain o.name) os o.first).1 ∧ o.last = (laidF (isMain o.name) os o.first).2
structure PI (oss : List (List Od)) (rs : Rm) (n : Nat) (s : Pg × Int) : Prop where
  names : s.1.map (fun o => (o.name, o.ps)) = rs.take n
  defs : ∀ o ∈ s.1, laidDf oss rs o
  inc : (pgLn s.1).Pairwise (· < ·)
  rng : ∀ x ∈ pgLn s.1, 0 < x ∧ x ≤ s.2
  low : 0 ≤ s.2
  len : ((s.1.map fun o => (ln o.body).length)).sum ≤ ((oss.take n).map List.length).sum
/-! ### no own word -/
end Tl
namespace Tl
open PySem PySem.Spec PyProof.Rows L2
/-! ### the laws' own going over a body -/
structure Rd where
  deed : Sm
  rounds : List Int
  loop : Option Int
def Rd.d (s : Rd) : D := .tup [s.deed.d, .lst (s.rounds.map .int), loopD s.loop]
/-- without the rounds -/
abbrev Rd.dl (s : Rd) : Sm × Option Int := (s.deed, s.loop)
end Tl
namespace Tl
open PySem PySem.Spec PyProof.Rows L2
/-! ### ways by keys -/
end Tl
namespace Tl
open PySem PySem.Spec PyProof.Rows L2
/-! ### programs as data -/
mutual
theorem okD_mono : ∀ {n m : Nat} {d : D}, okD n d → n ≤ m → okD m d
  | n, m, .non, h, _ => by unfold okD; trivial
  | n, m, .int _, h, _ => by unfold okD; trivial
  | n, m, .bl _, h, _ => by unfold okD; trivial
  | n, m, .str _, h, _ => by unfold okD at h ⊢; exact h
  | n + 1, m + 1, .tup l, h, e => by unfold okD at h ⊢; exact okDs_mono h (by omega)
  | n + 1, m + 1, .lst l, h, e => by unfold okD at h ⊢; exact okDs_mono h (by omega)
  | n + 1, m + 1, .scr l, h, e => by unfold okD at h ⊢; exact okDs_mono h (by omega)
  | n + 1, m + 1, .tab l, h, e => by unfold okD at h ⊢; exact okDs_mono h (by omega)
  | n + 1, 0, .tup l, h, e => by omega
  | n + 1, 0, .lst l, h, e => by omega
  | n + 1, 0, .scr l, h, e => by omega
  | n + 1, 0, .tab l, h, e => by omega
  | 0, _, .tup l, h, _ => by unfold okD at h; exact h.elim
  | 0, _, .tab l, h, _ => by unfold okD at h; exact h.elim
  | 0, _, .lst l, h, _ => by unfold okD at h; exact h.elim
  | 0, _, .scr l, h, _ => by unfold okD at h; exact h.elim
  | _, _, .ref _, h, _ => by unfold okD at h; exact h.elim
  | _, _, .ty _, h, _ => by unfold okD at h; exact h.elim
theorem okDs_mono : ∀ {n m : Nat} {l : List D}, okDs n l → n ≤ m → okDs m l
  | n, m, [], h, _ => by unfold okDs; trivial
  | n, m, x :: t, h, e => by unfold okDs at h ⊢; exact ⟨okD_mono h.1 e, okDs_mono h.2 e⟩
end
theorem okD_str {n : Nat} {s : Str} (h : PyData.strOk s = true) : okD n (.str s) := by unfold okD; exact h
theorem okD_int {n : Nat} {i : Int} : okD n (.int i) := by unfold okD; trivial
theorem okD_non {n : Nat} : okD n .non := by unfold okD; trivial
theorem okDs_nil {n : Nat} : okDs n [] := by unfold okDs; trivial
theorem okDs_cons {n : Nat} {x : D} {t : List D} (h : okD n x) (ht : okDs n t) : okDs n (x :: t) := by unfold okDs; exact ⟨h, ht⟩
theorem okD_tup {n : Nat} {l : List D} (h : okDs n l) : okD (n + 1) (.tup l) := by unfold okD; exact h
theorem okD_lst {n : Nat} {l : List D} (h : okDs n l) : okD (n + 1) (.lst l) := by unfold okD; exact h
/-! ### which meetings wait -/
/-! by the laws' own ways -/
end Tl
namespace Tl
open PySem PySem.Spec PyProof.Rows L2
/-! ### what the laws call own -/
/-! what each statement, by the marks told, makes own -/
/-! a fixpoint is closed -/
end Tl
namespace Tl
open PySem PySem.Spec PyProof.Rows L2
/-! ### list(d), d a dict by tuples or by plain keys -/
theorem rp_kV {K : PySem.W.Frag} {F : Hp} (k : Key) : Rp K F (kV k) (kD k) := by cases k <;> constructor
/-! ### {"x": e} -/
def tDisp1 (k : Str) (t : TEt) : TEt := fun τ M Q => t τ M fun v M1 => ∀ p, M1 p = none → Q (.ref p) (mup M1 p (.dK [(.inr k, v)]))
end Tl
namespace Tl
open PySem PySem.Spec PyProof.Rows L2
/-! ### other names -/
end Tl
namespace Tl
open PySem PySem.Spec PyProof.Rows L2
/-! ### the builder with other names -/
/-! lines laid -/
end Tl
namespace Tl
open PySem PySem.Spec PyProof.Rows L2
/-! ### the names that are drawn are unlike -/
/-! ### names exchanged -/
end Tl
namespace Tl
open PySem PySem.Spec PyProof.Rows L2
theorem uDisp1 {k : Str} {t : TEt} {τ : Sg} {M : MH} {Q : VD} : tDisp1 k t τ M Q = t τ M fun v M1 => ∀ p, M1 p = none → Q (.ref p) (mup M1 p (.dK [(.inr k, v)])) := propext Iff.rfl
/-! ### the names in a program's marks are those that were drawn -/
end Tl
namespace Tl
open PySem PySem.Spec PyProof.Rows L2
/-! ### forms of places -/
inductive Fo where
  | fixed (n : Int) | lane (n : Int) | any
def Fo.d : Fo → D
  | .fixed n => .tup [.str "fixed", .int n]
  | .lane n => .tup [.str "lane", .int n]
  | .any => .tup [.str "any", .int 0]
end Tl
namespace Tl
open PySem PySem.Spec PyProof.Rows L2
/-! ### readings unfolded, by proofs that are told (no check by unfolding is left to the kernel) -/
theorem z_tDnK {w0 : Sg} {M : MH} {Q : VD} : tDnK w0 M Q = ∀ p, M p = none → Q (.ref p) (mup M p (.dK [])) := propext Iff.rfl
theorem z_tDnT {w0 : Sg} {M : MH} {Q : VD} : tDnT w0 M Q = ∀ p, M p = none → Q (.ref p) (mup M p (.dT [])) := propext Iff.rfl
theorem z_tDg {to ti : TEt} {τ : Sg} {M : MH} {Q : VD} : tDg to ti τ M Q = to τ M fun x M1 => ti τ M1 fun k M2 => oDic M2 x k fun r => oSome r fun d => Q d M2 := propext Iff.rfl
theorem z_tDi {neg : Bool} {ti to : TEt} {τ : Sg} {M : MH} {Q : VD} : tDi neg ti to τ M Q = ti τ M fun k M1 => to τ M1 fun x M2 => oDic M2 x k fun r => Q (.bl (if neg = true then !r.isSome else r.isSome)) M2 := propext Iff.rfl
theorem z_tDg2 {to ti tz : TEt} {τ : Sg} {M : MH} {Q : VD} : tDg2 to ti tz τ M Q = to τ M fun x M1 => (∃ a o, x = .ref a ∧ M1 a = some o ∧ isDic o) ∧ ti τ M1 fun k M2 => tz τ M2 fun z M3 => oDic M3 x k fun r => Q (r.getD z) M3 := propext Iff.rfl
theorem z_tRe {K : PySem.W.Frag} {t : TEt} {τ : Sg} {M : MH} {Q : VD} : tRe K t τ M Q = t τ M fun d M1 => ∃ d' M2, ReR K d M1 d' M2 ∧ Q d' M2 := propext Iff.rfl
theorem z_sRe {K : PySem.W.Frag} {u : TSt} {D0 : En} {τ : Sg} {M : MH} : sRe K u D0 τ M = ∃ τ' M', ReS K τ M τ' M' ∧ u D0 τ' M' := propext Iff.rfl
theorem z_tFd {P : Addr → Prop} {fl : List Str} {i : Nat} {te : TEt} {τ : Sg} {M : MH} {Q : VD} : tFd P fl i te τ M Q = te τ M fun x M1 => oObj M1 x fun _ C _ fl' ds => P C ∧ fl' = fl ∧ oSome (nthD ds i) fun d => Q d M1 := propext Iff.rfl
theorem z_sFd {P : Addr → Prop} {fl : List Str} {i : Nat} {te tv : TEt} {D0 : En} {τ : Sg} {M : MH} : sFd P fl i te tv D0 τ M = tv τ M fun y M1 => te τ M1 fun x M2 => oObj M2 x fun a C dx fl' ds => P C ∧ fl' = fl ∧ i ≤ ds.length ∧ D0.nx τ (mup M2 a (.obj C dx fl (putD ds i y))) := propext Iff.rfl
theorem z_sFa {P : Addr → Prop} {fl : List Str} {i : Nat} {te tv : TEt} {r : R2t} {D0 : En} {τ : Sg} {M : MH} : sFa P fl i te tv r D0 τ M = te τ M fun x M1 => oObj M1 x fun _ C _ fl' ds => P C ∧ fl' = fl ∧ oSome (nthD ds i) fun d =>
  tv τ M1 fun y M2 => r d y M2 fun z M3 => oObj M3 x fun a C' dx fl' ds => C' = C ∧ fl' = fl ∧ i ≤ ds.length ∧ D0.nx τ (mup M3 a (.obj C dx fl (putD ds i z))) := propext Iff.rfl
theorem z_tMe {C : Addr} {fl : List Str} {sp : SpT} {te : TEt} {ta : TAt} {τ : Sg} {M : MH} {Q : VD} : tMe C fl sp te ta τ M Q = te τ M fun x M1 => oObj M1 x fun _ C' _ fl' _ => C' = C ∧ fl' = fl ∧ ta τ M1 fun ys M2 => sp (x :: ys) M2 Q Et0 := propext Iff.rfl
theorem z_tMk {C : Addr} {fl : List Str} {sp : SpT} {ta : TAt} {τ : Sg} {M : MH} {Q : VD} : tMk C fl sp ta τ M Q = ta τ M fun ys M1 => ∀ x dx, M1 x = none → sp (.ref x :: ys) (mup M1 x (.obj C dx fl [])) (fun v M2 => v = .non ∧ Q (.ref x) M2) Et0 := propext Iff.rfl
theorem z_sNx {D0 : En} {τ : Sg} {M : MH} : sNx D0 τ M = D0.nx τ M := propext Iff.rfl
theorem z_sSq {t u : TSt} {D0 : En} {τ : Sg} {M : MH} : sSq t u D0 τ M = t { D0 with nx := u D0 } τ M := propext Iff.rfl
theorem z_sBk {D0 : En} {τ : Sg} {M : MH} : sBk D0 τ M = D0.bk τ M := propext Iff.rfl
theorem z_sCt {D0 : En} {τ : Sg} {M : MH} : sCt D0 τ M = D0.ct τ M := propext Iff.rfl
theorem z_sDr {t : TEt} {D0 : En} {τ : Sg} {M : MH} : sDr t D0 τ M = t τ M fun _ M1 => D0.nx τ M1 := propext Iff.rfl
theorem z_sRt {t : TEt} {D0 : En} {τ : Sg} {M : MH} : sRt t D0 τ M = t τ M D0.rt := propext Iff.rfl
theorem z_sRtN {D0 : En} {w1 : Sg} {M : MH} : sRtN D0 w1 M = D0.rt .non M := propext Iff.rfl
theorem z_sIf {c : TTt} {t u : TSt} {D0 : En} {τ : Sg} {M : MH} : sIf c t u D0 τ M = c τ M fun b M1 => if b = true then t D0 τ M1 else u D0 τ M1 := propext Iff.rfl
theorem z_sAs {te : TEt} {g : TGt} {D0 : En} {τ : Sg} {M : MH} : sAs te g D0 τ M = te τ M fun x M1 => g x τ M1 D0.nx := propext Iff.rfl
theorem z_gN {i : Nat} {d : D} {τ : Sg} {M : MH} {Q : Sg → MH → Prop} : gN i d τ M Q = Q (τ.set i (some d)) M := propext Iff.rfl
theorem z_gSb {to ti : TEt} {t : TSett} {v : D} {τ : Sg} {M : MH} {Q : Sg → MH → Prop} : gSb to ti t v τ M Q = to τ M fun o M1 => ti τ M1 fun i M2 => t o i v M2 fun M3 => Q τ M3 := propext Iff.rfl
theorem z_tK {d : D} {w0 : Sg} {M : MH} {Q : VD} : tK d w0 M Q = Q d M := propext Iff.rfl
theorem z_tO {r : R2t} {ta tb : TEt} {τ : Sg} {M : MH} {Q : VD} : tO r ta tb τ M Q = ta τ M fun x M1 => tb τ M1 fun y M2 => r x y M2 Q := propext Iff.rfl
theorem z_tU {r : R1t} {ta : TEt} {τ : Sg} {M : MH} {Q : VD} : tU r ta τ M Q = ta τ M fun x M1 => r x M1 Q := propext Iff.rfl
theorem z_tCa {r : RLt} {ta : TAt} {τ : Sg} {M : MH} {Q : VD} : tCa r ta τ M Q = ta τ M fun xs M1 => r xs M1 Q := propext Iff.rfl
theorem z_tN {w0 : Sg} {M : MH} {Q : List D → MH → Prop} : tN w0 M Q = Q [] M := propext Iff.rfl
theorem z_tCs {ta : TEt} {tr : TAt} {τ : Sg} {M : MH} {Q : List D → MH → Prop} : tCs ta tr τ M Q = ta τ M fun x M1 => tr τ M1 fun xs M2 => Q (x :: xs) M2 := propext Iff.rfl
theorem z_tAn {t u : TTt} {τ : Sg} {M : MH} {Q : Bool → MH → Prop} : tAn t u τ M Q = t τ M fun c M1 => if c = true then u τ M1 Q else Q false M1 := propext Iff.rfl
theorem z_tNo {t : TTt} {τ : Sg} {M : MH} {Q : Bool → MH → Prop} : tNo t τ M Q = t τ M fun c M1 => Q (!c) M1 := propext Iff.rfl
theorem z_tIfE {t : TTt} {ta tb : TEt} {τ : Sg} {M : MH} {Q : VD} : tIfE t ta tb τ M Q = t τ M fun c M1 => if c = true then ta τ M1 Q else tb τ M1 Q := propext Iff.rfl
theorem z_tCl {sp : SpT} {Et : XT} {t : TAt} {τ : Sg} {M : MH} {Q : VD} : tCl sp Et t τ M Q = t τ M fun ds M1 => sp ds M1 Q Et := propext Iff.rfl
theorem z_tTu {t : TAt} {τ : Sg} {M : MH} {Q : VD} : tTu t τ M Q = t τ M fun ds M1 => ds.length ≤ sizeLine ∧ Q (.tup ds) M1 := propext Iff.rfl
theorem z_tLi {t : TAt} {τ : Sg} {M : MH} {Q : VD} : tLi t τ M Q = t τ M fun ds M1 => ds.length ≤ sizeLine ∧ Q (.lst ds) M1 := propext Iff.rfl
theorem z_tLm {t : TAt} {τ : Sg} {M : MH} {Q : VD} : tLm t τ M Q = t τ M fun ds M1 => ds.length ≤ sizeLine ∧ ∀ p, M1 p = none → Q (.ref p) (mup M1 p (.lst ds)) := propext Iff.rfl
theorem z_tSc {r : D → Option Int → Option Int → MH → VD → Prop} {te : TEt} {tl th : TOt} {τ : Sg} {M : MH} {Q : VD} : tSc r te tl th τ M Q = te τ M fun x M1 => tl τ M1 fun l M2 => th τ M2 fun u M3 => r x l u M3 Q := propext Iff.rfl
theorem z_oNo {w0 : Sg} {M : MH} {Q : Option Int → MH → Prop} : oNo w0 M Q = Q none M := propext Iff.rfl
theorem z_tMt {r : RMt} {to : TEt} {t : TAt} {τ : Sg} {M : MH} {Q : VD} : tMt r to t τ M Q = to τ M fun x M1 => (lstOf M1 x).isSome = true ∧ t τ M1 fun xs M2 => r x xs M2 Q := propext Iff.rfl
theorem z_tMt0 {r : RMt} {to : TEt} {τ : Sg} {M : MH} {Q : VD} : tMt0 r to τ M Q = to τ M fun x M1 => (lstOf M1 x).isSome = true ∧ r x [] M1 Q := propext Iff.rfl
theorem z_tYe {w0 : Sg} {M : MH} {Q : Bool → MH → Prop} : tYe w0 M Q = Q true M := propext Iff.rfl
theorem z_tLt {ds : List D} {w0 : Sg} {M : MH} {Q : List D → MH → Prop} : tLt ds w0 M Q = Q ds M := propext Iff.rfl
end Tl
namespace Tl
open PySem PySem.Spec PyProof.Rows L2
/-! ### == of plain data is sameness -/
mutual
def plD : D → Prop
  | .non => True
  | .int _ => True
  | .str _ => True
  | .tup l => plDs l
  | .lst l => plDs l
  | _ => False
def plDs : List D → Prop
  | [] => True
  | x :: t => plD x ∧ plDs t
end
mutual
theorem pl_eqv : ∀ (x y : D) (d e : PyData), plD x → plD y → pyD x = some d → pyD y = some e → (PyData.eqv d e = true ↔ x = y)
  | .non, y, d, e, hx, hy, h1, h2 => by
    unfold pyD at h1; cases h1
    cases y with
    | non => unfold pyD at h2; cases h2; unfold PyData.eqv; simp
    | int j => unfold pyD at h2; cases h2; unfold PyData.eqv; simp
    | str j => unfold pyD at h2; cases h2; unfold PyData.eqv; simp
    | tup l => unfold pyD at h2; obtain ⟨ys, _, rfl⟩ := Option.map_eq_some_iff.mp h2; unfold PyData.eqv; simp
    | lst l => unfold pyD at h2; obtain ⟨ys, _, rfl⟩ := Option.map_eq_some_iff.mp h2; unfold PyData.eqv; simp
    | _ => unfold plD at hy; exact hy.elim
  | .int i, y, d, e, hx, hy, h1, h2 => by
    unfold pyD at h1; cases h1
    cases y with
    | non => unfold pyD at h2; cases h2; unfold PyData.eqv; simp
    | int j => unfold pyD at h2; cases h2; unfold PyData.eqv; simp
    | str j => unfold pyD at h2; cases h2; unfold PyData.eqv; simp
    | tup l => unfold pyD at h2; obtain ⟨ys, _, rfl⟩ := Option.map_eq_some_iff.mp h2; unfold PyData.eqv; simp
    | lst l => unfold pyD at h2; obtain ⟨ys, _, rfl⟩ := Option.map_eq_some_iff.mp h2; unfold PyData.eqv; simp
    | _ => unfold plD at hy; exact hy.elim
  | .str i, y, d, e, hx, hy, h1, h2 => by
    unfold pyD at h1; cases h1
    cases y with
    | non => unfold pyD at h2; cases h2; unfold PyData.eqv; simp
    | int j => unfold pyD at h2; cases h2; unfold PyData.eqv; simp
    | str j => unfold pyD at h2; cases h2; unfold PyData.eqv; simp
    | tup l => unfold pyD at h2; obtain ⟨ys, _, rfl⟩ := Option.map_eq_some_iff.mp h2; unfold PyData.eqv; simp
    | lst l => unfold pyD at h2; obtain ⟨ys, _, rfl⟩ := Option.map_eq_some_iff.mp h2; unfold PyData.eqv; simp
    | _ => unfold plD at hy; exact hy.elim
  | .tup l, y, d, e, hx, hy, h1, h2 => by
    unfold pyD at h1
    obtain ⟨xs, e1, rfl⟩ := Option.map_eq_some_iff.mp h1
    cases y with
    | non => unfold pyD at h2; cases h2; unfold PyData.eqv; simp
    | int j => unfold pyD at h2; cases h2; unfold PyData.eqv; simp
    | str j => unfold pyD at h2; cases h2; unfold PyData.eqv; simp
    | tup m =>
      unfold pyD at h2
      obtain ⟨ys, e2, rfl⟩ := Option.map_eq_some_iff.mp h2
      unfold plD at hx hy
      have := pl_eqvs l m xs ys hx hy e1 e2
      unfold PyData.eqv
      rw [this, D.tup.injEq]
    | lst m => unfold pyD at h2; obtain ⟨ys, _, rfl⟩ := Option.map_eq_some_iff.mp h2; unfold PyData.eqv; simp
    | _ => unfold plD at hy; exact hy.elim
  | .lst l, y, d, e, hx, hy, h1, h2 => by
    unfold pyD at h1
    obtain ⟨xs, e1, rfl⟩ := Option.map_eq_some_iff.mp h1
    cases y with
    | non => unfold pyD at h2; cases h2; unfold PyData.eqv; simp
    | int j => unfold pyD at h2; cases h2; unfold PyData.eqv; simp
    | str j => unfold pyD at h2; cases h2; unfold PyData.eqv; simp
    | lst m =>
      unfold pyD at h2
      obtain ⟨ys, e2, rfl⟩ := Option.map_eq_some_iff.mp h2
      unfold plD at hx hy
      have := pl_eqvs l m xs ys hx hy e1 e2
      unfold PyData.eqv
      rw [this, D.lst.injEq]
    | tup m => unfold pyD at h2; obtain ⟨ys, _, rfl⟩ := Option.map_eq_some_iff.mp h2; unfold PyData.eqv; simp
    | _ => unfold plD at hy; exact hy.elim
  | .bl _, _, _, _, hx, _, _, _ => by unfold plD at hx; exact hx.elim
  | .tab _, _, _, _, hx, _, _, _ => by unfold plD at hx; exact hx.elim
  | .scr _, _, _, _, hx, _, _, _ => by unfold plD at hx; exact hx.elim
  | .ref _, _, _, _, hx, _, _, _ => by unfold plD at hx; exact hx.elim
  | .ty _, _, _, _, hx, _, _, _ => by unfold plD at hx; exact hx.elim
theorem pl_eqvs : ∀ (x y : List D) (d e : List PyData), plDs x → plDs y → pyDs x = some d → pyDs y = some e → (PyData.eqvAll d e = true ↔ x = y)
  | [], [], d, e, _, _, h1, h2 => by unfold pyDs at h1 h2; cases h1; cases h2; unfold PyData.eqvAll; simp
  | [], y :: t, d, e, _, _, h1, h2 => by
    unfold pyDs at h1 h2; cases h1
    cases q : pyD y with
    | none => simp only [q] at h2; cases h2
    | some a => cases q2 : pyDs t with
      | none => simp only [q, q2] at h2; cases h2
      | some b => simp only [q, q2] at h2; cases h2; unfold PyData.eqvAll; simp
  | x :: t, [], d, e, _, _, h1, h2 => by
    unfold pyDs at h1 h2; cases h2
    cases q : pyD x with
    | none => simp only [q] at h1; cases h1
    | some a => cases q2 : pyDs t with
      | none => simp only [q, q2] at h1; cases h1
      | some b => simp only [q, q2] at h1; cases h1; unfold PyData.eqvAll; simp
  | x :: t, y :: u, d, e, hx, hy, h1, h2 => by
    unfold pyDs at h1 h2
    unfold plDs at hx hy
    cases q : pyD x with
    | none => simp only [q] at h1; cases h1
    | some a => cases q2 : pyDs t with
      | none => simp only [q, q2] at h1; cases h1
      | some b => cases q3 : pyD y with
        | none => simp only [q3] at h2; cases h2
        | some a2 => cases q4 : pyDs u with
          | none => simp only [q3, q4] at h2; cases h2
          | some b2 =>
            simp only [q, q2] at h1
            simp only [q3, q4] at h2
            cases h1; cases h2
            unfold PyData.eqvAll
            rw [Bool.and_eq_true, pl_eqv x y a a2 hx.1 hy.1 q q3, pl_eqvs t u b b2 hx.2 hy.2 q2 q4, List.cons.injEq]
end
theorem eqD_pl {M : MH} {x y z w : D} {Q : VD} (n : Nat) (hx : asD M x = some z) (hy : asD M y = some w) (ok : okD n z) (ok2 : okD n w) (p : plD z) (p2 : plD w) (h : ∀ b : Bool, (b = true ↔ z = w) → Q (.bl b) M) (hn : n ≤ 64 := by decide) : bEqD x y M Q := by
  obtain ⟨d, e, c, dp⟩ := okD_py n z ok
  obtain ⟨d2, e2, c2, dp2⟩ := okD_py n w ok2
  unfold bEqD
  simp only [pyM_asD hx, pyM_asD hy, e, e2]
  have sh : SeqAt.shaped d = true := Bool.and_eq_true_iff.mpr ⟨c, decide_eq_true (by omega)⟩
  have sh2 : SeqAt.shaped d2 = true := Bool.and_eq_true_iff.mpr ⟨c2, decide_eq_true (by omega)⟩
  exact ⟨sh, sh2, h _ (pl_eqv z w d d2 p p2 e e2)⟩
theorem neD_pl {M : MH} {x y z w : D} {Q : VD} (n : Nat) (hx : asD M x = some z) (hy : asD M y = some w) (ok : okD n z) (ok2 : okD n w) (p : plD z) (p2 : plD w) (h : ∀ b : Bool, (b = true ↔ z = w) → Q (.bl (!b)) M) (hn : n ≤ 64 := by decide) : bNeD x y M Q := by
  obtain ⟨d, e, c, dp⟩ := okD_py n z ok
  obtain ⟨d2, e2, c2, dp2⟩ := okD_py n w ok2
  unfold bNeD
  simp only [pyM_asD hx, pyM_asD hy, e, e2]
  have sh : SeqAt.shaped d = true := Bool.and_eq_true_iff.mpr ⟨c, decide_eq_true (by omega)⟩
  have sh2 : SeqAt.shaped d2 = true := Bool.and_eq_true_iff.mpr ⟨c2, decide_eq_true (by omega)⟩
  exact ⟨sh, sh2, h _ (pl_eqv z w d d2 p p2 e e2)⟩
end Tl
namespace Tl
open PySem PySem.Spec PyProof.Rows L2
/-! ### rows: a mirror of how a program is made into rows -/
inductive Sn where
  | lane | lanes | mine
deriving DecidableEq
def Sn.s : Sn → Str
  | .lane => "lane" | .lanes => "lanes" | .mine => "mine"
inductive Rw where
  | tick (l : Int) | num (l at_ n : Int) | copy (l at_ from_ : Int) | sign (l at_ : Int) (w : Sn) | op (l at_ : Int) (w : Op7) (one other : Int) | get (l at_ pl : Int) | put (l pl from_ : Int) | tell (l from_ : Int)
  | split (l from_ row : Int) | jump (l row : Int) | call (l at_ first many row : Int) | back (l : Int) | join (l at_ : Int) (w : Str) (from_ : Int) | meet (l : Int) | stop (l : Int)
def Rw.d : Rw → D
  | .tick l => .tup [.str "tick", .int l]
  | .num l a n => .tup [.str "num", .int l, .int a, .int n]
  | .copy l a f => .tup [.str "copy", .int l, .int a, .int f]
  | .sign l a w => .tup [.str "sign", .int l, .int a, .str w.s]
  | .op l a w o p => .tup [.str "op", .int l, .int a, .str w.s, .int o, .int p]
  | .get l a p => .tup [.str "get", .int l, .int a, .int p]
  | .put l p f => .tup [.str "put", .int l, .int p, .int f]
  | .tell l f => .tup [.str "tell", .int l, .int f]
  | .split l f r => .tup [.str "split", .int l, .int f, .int r]
  | .jump l r => .tup [.str "jump", .int l, .int r]
  | .call l a f m r => .tup [.str "call", .int l, .int a, .int f, .int m, .int r]
  | .back l => .tup [.str "back", .int l]
  | .join l a w f => .tup [.str "join", .int l, .int a, .str w, .int f]
  | .meet l => .tup [.str "meet", .int l]
  | .stop l => .tup [.str "stop", .int l]
/-! expressions and statements of a body, in their order -/
def Sm.exprs : Sm → List Ex
  | .put _ a b => [a, b] | .tell _ e => [e] | .ret _ e => [e] | .if1 _ e _ => [e] | .if2 _ e _ _ => [e] | .whl _ e _ => [e] | .set _ _ e => [e] | .call _ _ _ es => es | .join _ _ _ e => [e] | _ => []
mutual
def allSt : Sm → List Sm
  | .if1 l e b => .if1 l e b :: allBd b
  | .if2 l e b c => .if2 l e b c :: (allBd b ++ allBd c)
  | .whl l e b => .whl l e b :: allBd b
  | s => [s]
def allBd : List Sm → List Sm
  | [] => []
  | s :: t => allSt s ++ allBd t
end
/-! slots of names -/
def slotFrom : Nat → List Str → List (Key × D)
  | _, [] => []
  | i, x :: t => (.inr x, .int ((i + 1 : Nat) : Int)) :: slotFrom (i + 1) t
def slotD (ss : List Str) : List (Key × D) := slotFrom 0 ss
/-! rows of an expression -/
/-! the maker -/
structure Mk where
  rows : List Rw
  calls : List (Nat × Str)
  leaves : List Nat
  loops : List (Nat × List Nat)
def Mk.add (m : Mk) (rs : List Rw) : Mk := { m with rows := m.rows ++ rs }
theorem allSt_eq (s : Sm) : allSt s = s :: (s.blocks.map allBd).flatten := by
  cases s <;> (unfold allSt Sm.blocks; simp)
end Tl
namespace Tl
open PySem PySem.Spec PyProof.Rows L2
/-! ### setdefault of a dict by numbers and texts -/
def isDK : MO → Prop
  | .dK _ => True
  | _ => False
def oSdk (o : Option MO) (k : D) (z : D) (f : D → Option MO → Prop) : Prop := match o with
  | some (.dK kvs) => match k1 k with
    | some c => kvs.length < sizeLine ∧ match valD kvs c with
      | some d => f d none
      | none => f z (some (.dK (putM kvs c z)))
    | none => False
  | _ => False
def sSdk (x k z : D) (M : MH) (Q : VD) : Prop := match x with
  | .ref a => oSdk (M a) k z fun d u => Q d (match u with
    | some o => mup M a o
    | none => M)
  | _ => False
def tSdk (to ti tz : TEt) : TEt := fun τ M Q => to τ M fun x M1 => (∃ a o, x = .ref a ∧ M1 a = some o ∧ isDK o) ∧ ti τ M1 fun k M2 => tz τ M2 fun z M3 => sSdk x k z M3 Q
theorem utSdk {to ti tz : TEt} {τ : Sg} {M : MH} {Q : VD} : tSdk to ti tz τ M Q = to τ M fun x M1 => (∃ a o, x = .ref a ∧ M1 a = some o ∧ isDK o) ∧ ti τ M1 fun k M2 => tz τ M2 fun z M3 => sSdk x k z M3 Q := propext Iff.rfl
/-! ### slots -/
theorem mup_idem {M : MH} {a : Addr} {o : MO} (h : M a = some o) : mup M a o = M := by
  funext b
  unfold mup
  split
  · rename_i e; subst e; exact h.symm
  · rfl
def Ex.inS (ss : List Str) : Ex → Prop
  | .nam x => x ∈ ss
  | .box e => e.inS ss
  | .op _ a b => a.inS ss ∧ b.inS ss
  | _ => True
theorem is_m {M : MH} {r : Addr} {ds : List D} (h : M r = some (.lst ds)) : (lstOf M (.ref r)).isSome = true := by
  unfold lstOf; dsimp only; rw [h]; rfl
theorem ap_m {M : MH} {r : Addr} {ds : List D} {F : List D → Prop} (h : M r = some (.lst ds)) (q : F ds) : oSome (mLst M r) F := by
  unfold oSome mLst; rw [h]; exact q
end Tl
namespace Tl
open PySem PySem.Spec PyProof.Rows L2
/-! ### the maker of rows, as cells -/
structure MkA where
  s : Addr
  r : Addr
  p : Addr
  c : Addr
  v : Addr
  o : Addr
  C : Addr
  dx : Addr
  fl : List Str
def natD (n : Nat) : D := .int (n : Int)
def calD (c : Nat × Str) : D := .tup [natD c.1, .str c.2]
abbrev Lps := List (Addr × Nat × List Nat)
def lpD (l : Addr × Nat × List Nat) : D := .tup [natD l.2.1, .ref l.1]
def lpC (l : Addr × Nat × List Nat) : Addr × MO := (l.1, .lst (l.2.2.map natD))
def MkA.obj (A : MkA) (fr : Int) : MO := .obj A.C A.dx A.fl [.ref A.r, .ref A.p, .int fr, .ref A.c, .ref A.v, .ref A.o]
/-- the cells of a maker; the last loop first -/
def MkA.cells (A : MkA) (ss : List Str) (fr : Int) (m : Mk) (L : Lps) : List (Addr × MO) :=
  (A.r, .lst (m.rows.map Rw.d)) :: (A.p, .dK (slotD ss)) :: (A.s, A.obj fr) :: (A.c, .lst (m.calls.map calD)) :: (A.v, .lst (m.leaves.map natD)) :: (A.o, .lst (L.reverse.map lpD)) :: L.map lpC
structure MkS (A : MkA) (M0 M : MH) (ss : List Str) (fr : Int) (m : Mk) (L : Lps) : Prop where
  cel : Cel M0 M (A.cells ss fr m L)
  lps : m.loops = L.map (·.2)
section
variable {A : MkA} {M0 M : MH} {ss : List Str} {fr : Int} {m : Mk} {L : Lps}
theorem MkS.s_ (h : MkS A M0 M ss fr m L) : M A.s = some (A.obj fr) := h.cel.at_ (A.s, A.obj fr) (by unfold MkA.cells; simp)
theorem MkS.rows (h : MkS A M0 M ss fr m L) {rs : List Rw} : MkS A M0 (mup M A.r (.lst (rs.map Rw.d))) ss fr { m with rows := rs } L :=
  ⟨Cel.put (pre := []) h.cel, h.lps⟩
theorem MkS.calls (h : MkS A M0 M ss fr m L) {cs : List (Nat × Str)} : MkS A M0 (mup M A.c (.lst (cs.map calD))) ss fr { m with calls := cs } L :=
  ⟨Cel.put (pre := [(A.r, .lst (m.rows.map Rw.d)), (A.p, .dK (slotD ss)), (A.s, A.obj fr)]) h.cel, h.lps⟩
theorem MkS.leaves (h : MkS A M0 M ss fr m L) {vs : List Nat} : MkS A M0 (mup M A.v (.lst (vs.map natD))) ss fr { m with leaves := vs } L :=
  ⟨Cel.put (pre := [(A.r, .lst (m.rows.map Rw.d)), (A.p, .dK (slotD ss)), (A.s, A.obj fr), (A.c, .lst (m.calls.map calD))]) h.cel, h.lps⟩
/-- a loop ends -/
theorem MkS.end_ {q : Addr} {b : Nat} {lv : List Nat} {R : Lps} (h : MkS A M0 M ss fr m ((q, b, lv) :: R)) : MkS A M0 (mup M A.o (.lst (R.reverse.map lpD))) ss fr { m with loops := R.map (·.2) } R := by
  refine ⟨?_, rfl⟩
  have h1 : Cel M0 (mup M A.o (.lst (R.reverse.map lpD))) ([(A.r, .lst (m.rows.map Rw.d)), (A.p, .dK (slotD ss)), (A.s, A.obj fr), (A.c, .lst (m.calls.map calD)), (A.v, .lst (m.leaves.map natD)), (A.o, .lst (R.reverse.map lpD))] ++ (q, .lst (lv.map natD)) :: R.map lpC) :=
    Cel.put (pre := [(A.r, .lst (m.rows.map Rw.d)), (A.p, .dK (slotD ss)), (A.s, A.obj fr), (A.c, .lst (m.calls.map calD)), (A.v, .lst (m.leaves.map natD))]) h.cel
  exact h1.forget
end
end Tl
namespace Tl
open PySem PySem.Spec PyProof.Rows L2
def Rw.isLead : Rw → Prop
  | .split _ _ _ => True | .jump _ _ => True | .call _ _ _ _ _ => True | _ => False
/-- the row k is one that leads -/
def ledAt (rows : List Rw) (k : Nat) : Prop := ∃ x, rows[k]? = some x ∧ Rw.isLead x
theorem ledAt_app {rows rs : List Rw} {j : Nat} (h : ledAt rows j) : ledAt (rows ++ rs) j := by
  obtain ⟨x, hx, h2⟩ := h
  exact ⟨x, by rw [List.getElem?_append_left (List.getElem?_eq_some_iff.mp hx).1]; exact hx, h2⟩
end Tl
namespace Tl
open PySem PySem.Spec PyProof.Rows L2
/-- what a maker keeps: its lists are no longer than its rows, and the rows that wait lead -/
structure Mk.ok (m : Mk) : Prop where
  lv : m.leaves.length ≤ m.rows.length
  cs : m.calls.length ≤ m.rows.length
  lp : m.loops.length ≤ m.rows.length
  ls : ∀ l ∈ m.loops, l.2.length ≤ m.rows.length
  lvd : ∀ k ∈ m.leaves, ledAt m.rows k
  csd : ∀ c ∈ m.calls, ledAt m.rows c.1
  lsd : ∀ l ∈ m.loops, ∀ k ∈ l.2, ledAt m.rows k
theorem atI_lst1 {α : Type} {xs : List α} {x : α} : atI (xs ++ [x]) (-1) = some x := by
  unfold atI ixN
  rw [if_neg (by omega), if_pos (by rw [List.length_append]; simp only [List.length_cons, List.length_nil]; omega)]
  show (xs ++ [x])[((-1 : Int) + ((xs ++ [x]).length : Nat)).toNat]? = some x
  rw [show ((-1 : Int) + ((xs ++ [x]).length : Nat)).toNat = xs.length by rw [List.length_append]; simp only [List.length_cons, List.length_nil]; omega]
  simp
end Tl
namespace Tl
open PySem PySem.Spec PyProof.Rows L2
/-! ### what a maker keeps, through a block -/
structure Mk.ext (m m' : Mk) : Prop where
  len : m.rows.length ≤ m'.rows.length
  led : ∀ k, ledAt m.rows k → ledAt m'.rows k
theorem Mk.ext.refl {m : Mk} : Mk.ext m m := ⟨Nat.le_refl _, fun _ h => h⟩
theorem Mk.ext.trans {a b c : Mk} (h : Mk.ext a b) (g : Mk.ext b c) : Mk.ext a c := ⟨Nat.le_trans h.len g.len, fun k i => g.led k (h.led k i)⟩
theorem Mk.ext.add {m : Mk} {rs : List Rw} : Mk.ext m (m.add rs) := ⟨by unfold Mk.add; simp, fun k h => by unfold Mk.add; exact ledAt_app h⟩
/-- the same waits, in more rows -/
theorem Mk.ok.same {m m' : Mk} (h : m.ok) (e : Mk.ext m m') (h1 : m'.calls = m.calls) (h2 : m'.leaves = m.leaves) (h3 : m'.loops = m.loops) : m'.ok := by
  refine ⟨?_, ?_, ?_, ?_, ?_, ?_, ?_⟩
  · rw [h2]; exact Nat.le_trans h.lv e.len
  · rw [h1]; exact Nat.le_trans h.cs e.len
  · rw [h3]; exact Nat.le_trans h.lp e.len
  · rw [h3]; exact fun l hl => Nat.le_trans (h.ls l hl) e.len
  · rw [h2]; exact fun k hk => e.led k (h.lvd k hk)
  · rw [h1]; exact fun c hc => e.led _ (h.csd c hc)
  · rw [h3]; exact fun l hl k hk => e.led k (h.lsd l hl k hk)
theorem Mk.ok.add {m : Mk} {rs : List Rw} (h : m.ok) : (m.add rs).ok := h.same Mk.ext.add rfl rfl rfl
/-- how a block leaves the loops -/
def lpsLike (a b : List (Nat × List Nat)) : Prop := match a with
  | [] => b = []
  | (x, lv) :: r => ∃ z, b = (x, lv ++ z) :: r
theorem lpsLike.refl {a : List (Nat × List Nat)} : lpsLike a a := by
  cases a with
  | nil => rfl
  | cons p r => exact ⟨[], by rw [List.append_nil]⟩
theorem lpsLike.trans {a b c : List (Nat × List Nat)} (h : lpsLike a b) (g : lpsLike b c) : lpsLike a c := by
  cases a with
  | nil =>
    have h : b = [] := h
    subst h; exact g
  | cons p r =>
    obtain ⟨z, rfl⟩ := h
    obtain ⟨z', rfl⟩ := g
    exact ⟨z ++ z', by rw [List.append_assoc]⟩
theorem lpsLike.ne {a b : List (Nat × List Nat)} (h : lpsLike a b) (n : a ≠ []) : b ≠ [] := by
  cases a with
  | nil => exact (n rfl).elim
  | cons p r => obtain ⟨z, rfl⟩ := h; exact fun e => by cases e
structure Mk.keeps (m m' : Mk) : Prop where
  ok : m.ok → m'.ok
  ext : Mk.ext m m'
  lps : lpsLike m.loops m'.loops
theorem Mk.keeps.refl {m : Mk} : Mk.keeps m m := ⟨id, Mk.ext.refl, lpsLike.refl⟩
theorem Mk.keeps.trans {a b c : Mk} (h : Mk.keeps a b) (g : Mk.keeps b c) : Mk.keeps a c := ⟨fun o => g.ok (h.ok o), h.ext.trans g.ext, h.lps.trans g.lps⟩
theorem Mk.keeps.add {m : Mk} {rs : List Rw} : Mk.keeps m (m.add rs) := ⟨fun o => o.add, Mk.ext.add, lpsLike.refl⟩
/-! what a block must be for its rows to be made -/
mutual
def inLp (lp : Prop) : Sm → Prop
  | .brk _ => lp | .agn _ => lp
  | .if1 _ _ b => inLps lp b
  | .if2 _ _ b c => inLps lp b ∧ inLps lp c
  | .whl _ _ b => inLps True b
  | _ => True
def inLps (lp : Prop) : List Sm → Prop
  | [] => True
  | s :: t => inLp lp s ∧ inLps lp t
end
structure okRs (ss : List Str) (s : Sm) : Prop where
  len : s.exprs.length ≤ 1000
  ex : ∀ e ∈ s.exprs, e.deep < 12 ∧ e.inS ss
  gv : ∀ x, s.given = some x → x ∈ ss
structure okRb (ss : List Str) (lp : Prop) (b : List Sm) : Prop where
  st : ∀ s ∈ allBd b, okRs ss s
  lp : inLps lp b
theorem inLps_mem {lp : Prop} : ∀ {b : List Sm}, inLps lp b → ∀ s ∈ b, inLp lp s
  | _ :: _, h, s, hs => by
    unfold inLps at h
    rcases List.mem_cons.mp hs with rfl | hs
    · exact h.1
    · exact inLps_mem h.2 s hs
theorem allBd_mem : ∀ {b : List Sm} {s : Sm}, s ∈ b → ∀ t ∈ allSt s, t ∈ allBd b
  | x :: r, s, hs, t, ht => by
    rw [allBd]
    rcases List.mem_cons.mp hs with rfl | hs
    · exact List.mem_append_left _ ht
    · exact List.mem_append_right _ (allBd_mem hs t ht)
theorem okRb.at_ {ss : List Str} {lp : Prop} {b : List Sm} (h : okRb ss lp b) {s : Sm} (hs : s ∈ b) : okRs ss s ∧ inLp lp s ∧ ∀ t ∈ allSt s, okRs ss t := by
  refine ⟨h.st s (allBd_mem hs s ?_), inLps_mem h.lp s hs, fun t ht => h.st t (allBd_mem hs t ht)⟩
  rw [allSt_eq]; simp
/-! a cell more or less -/
theorem Cel.base {M0 M : MH} {cs : List (Addr × MO)} {b : Addr} {o o' : MO} (h : Cel M0 M cs) (hb : M0 b = some o) : Cel (mup M0 b o') (mup M b o') cs := by
  have n2 : ∀ c ∈ cs, c.1 ≠ b := fun c hc e => by have := h.new c hc; rw [e, hb] at this; cases this
  refine ⟨h.nd, fun c hc => by rw [mup_ne (n2 c hc)]; exact h.at_ c hc, fun a u e => ?_, fun c hc => by rw [mup_ne (n2 c hc)]; exact h.new c hc⟩
  unfold mup at e ⊢
  split
  · rename_i q; rw [if_pos q] at e; exact e
  · rename_i q; rw [if_neg q] at e; exact h.old a u e
def Mk.into (m : Mk) (b : Nat) (lv : List Nat) : Mk := ⟨m.rows, m.calls, m.leaves, (b, lv) :: m.loops⟩
def Mk.out (m : Mk) (r : List (Nat × List Nat)) : Mk := ⟨m.rows, m.calls, m.leaves, r⟩
theorem Mk.ok.loop {m : Mk} (o : m.ok) (h : m.loops.length + 1 ≤ m.rows.length) {k b : Nat} (hl : ledAt m.rows k) : (m.into b [k]).ok := by
  refine ⟨o.lv, o.cs, by unfold Mk.into; simpa using h, ?_, o.lvd, o.csd, ?_⟩
  · intro q hq
    rcases List.mem_cons.mp hq with rfl | hq
    · show 1 ≤ m.rows.length
      omega
    · exact o.ls q hq
  · intro q hq k' hk
    rcases List.mem_cons.mp hq with rfl | hq
    · rw [List.mem_singleton.mp hk]; exact hl
    · exact o.lsd q hq k' hk
section
variable {A : MkA} {M0 M : MH} {ss : List Str} {fr : Int} {m : Mk} {L : Lps}
theorem MkS.lift {b : Addr} {o : MO} (h : MkS A M0 M ss fr m L) (hb : M b = none) : MkS A (mup M0 b o) (mup M b o) ss fr m L := ⟨h.cel.lift hb, h.lps⟩
theorem MkS.base {b : Addr} {o o' : MO} (h : MkS A (mup M0 b o) M ss fr m L) : MkS A (mup M0 b o') (mup M b o') ss fr m L := ⟨by have := h.cel.base (o' := o') mup_same; rw [mup_mup] at this; exact this, h.lps⟩
end
/-! ### all defs -/
end Tl
namespace Tl
open PySem PySem.Spec PyProof.Rows L2
/-! ### what a program must be for its rows to be made -/
/-! rows of expressions, how many -/
theorem two_le {a b : Nat} (h : a ≤ b) : 2 ^ a ≤ 2 ^ b := Nat.pow_le_pow_right (by decide) h
/-! rows of statements, how many: C for each -/
end Tl
namespace Tl
open PySem PySem.Spec PyProof.Rows L2
/-! ### a dict that is locked while an expression runs -/
/-- the same for a statement -/
def sLk (t : TSt) : TSt := fun D τ M => ∃ a kvs, M a = some (.dK kvs) ∧ ∀ o ks, t ⟨fun τ' M' => M' a = some (.lk o ks kvs) ∧ D.nx τ' (mup M' a (.dK kvs)), fun d M' => M' a = some (.lk o ks kvs) ∧ D.rt d (mup M' a (.dK kvs)), fun τ' M' => M' a = some (.lk o ks kvs) ∧ D.bk τ' (mup M' a (.dK kvs)), fun τ' M' => M' a = some (.lk o ks kvs) ∧ D.ct τ' (mup M' a (.dK kvs))⟩ τ (mup M a (.lk o ks kvs))
theorem unlk {K : PySem.W.Frag} {G F H : Hp} {M : MH} {a : Addr} {o : Obj} {ks : List (Key × V)} {kvs : List (Key × D)} (R : Rel K G F H M) (h : M a = some (.lk o ks kvs)) : H a = some (.frz o (.dK ks)) ∧ Rel K G F (upd H a (.dK ks)) (mup M a (.dK kvs)) := by
  obtain ⟨_, u1, hu1, rr⟩ := R.chg a _ h
  cases u1 with
  | frz ob u2 =>
    obtain ⟨rfl, rfl, r3⟩ := (show ob = o ∧ RpLk K F u2 ks kvs from rr)
    exact ⟨hu1, R.put h (show RpO K F (.dK ks) (.dK kvs) from r3)⟩
  | _ => exact (rr : False).elim
theorem qs_lock {X : Cx} {E : XK} {Et : XT} {st : Stmt} {t : TSt} (h : QS X E Et st t) : QS X E Et st (sLk t) := PSimp (ps_lock h) (by
  rintro D σ H ⟨G, F, M, τ, Dt, a, en, ⟨d, kvs, hm, ht⟩⟩
  obtain ⟨f0, u, hu, r⟩ := a.rel.chg d _ hm
  cases u with
  | dK ks =>
    refine ⟨d, .dK ks, hu, trivial, fun od => ?_⟩
    have R1 := a.rel.put (u := .frz od (.dK ks)) (o := .lk od ks kvs) hm ⟨rfl, rfl, r⟩
    refine ⟨G, F, _, τ, _, a.step (Same.refl _) R1, ⟨fun F' H' M' σ' τ' s1 a1 q1 => ?_, fun F' H' M' v x s1 r1 p1 q1 => ?_, fun F' H' M' σ' τ' s1 a1 q1 => ?_, fun F' H' M' σ' τ' s1 a1 q1 => ?_⟩, ht od ks⟩
    · obtain ⟨e1, R2⟩ := unlk a1.rel q1.1
      exact ⟨e1, en.nx F' _ _ σ' τ' s1 (a1.step (Same.refl _) R2) q1.2⟩
    · obtain ⟨e1, R2⟩ := unlk r1 q1.1
      exact ⟨e1, en.rt F' _ _ v x s1 R2 p1 q1.2⟩
    · obtain ⟨e1, R2⟩ := unlk a1.rel q1.1
      exact ⟨e1, en.bk F' _ _ σ' τ' s1 (a1.step (Same.refl _) R2) q1.2⟩
    · obtain ⟨e1, R2⟩ := unlk a1.rel q1.1
      exact ⟨e1, en.ct F' _ _ σ' τ' s1 (a1.step (Same.refl _) R2) q1.2⟩
  | _ => exact (r : False).elim)
theorem lkp_len {K : PySem.W.Frag} {F : Hp} {ks : List (Key × V)} {kvs : List (Key × D)} (h : KP K F ks kvs) : ks.length = kvs.length := Paired.length h
theorem lk_of {K : PySem.W.Frag} {G F H : Hp} {M : MH} {a : Addr} {o : Obj} {ks : List (Key × V)} {kvs : List (Key × D)} (R : Rel K G F H M) (h : M a = some (.lk o ks kvs)) : H a = some (.frz o (.dK ks)) ∧ KP K F ks kvs := by
  obtain ⟨_, u1, hu1, rr⟩ := R.chg a _ h
  cases u1 with
  | frz ob u2 =>
    obtain ⟨rfl, rfl, r3⟩ := (show ob = o ∧ RpLk K F u2 ks kvs from rr)
    exact ⟨hu1, r3⟩
  | _ => exact (rr : False).elim
/-! ### x in xs, the things being data of any depth -/
end Tl
namespace Tl
open PySem PySem.Spec PyProof.Rows L2
/-! ### texts: split, join, startswith, str(int), int(text) -/
abbrev RSt := Str → D → MH → VD → Prop
def mSplit : RSt := fun a y M Q => match y with
  | .str b => (b.length == 0) = false ∧ a.length + 2 ≤ sizeLine ∧ Q (.lst ((Txt.split a b).map .str)) M
  | _ => False
def mStarts : RSt := fun a y M Q => match y with
  | .str b => Q (.bl (Txt.startswith a b)) M
  | _ => False
def mJoin : RSt := fun a y M Q => ∃ ys : List Str, lstOf M y = some (ys.map D.str) ∧ (ys.map (·.length)).sum + ys.length * a.length ≤ 16777216 ∧ Q (.str (Txt.join a ys)) M
/-- a method of a text, one argument -/
def tSm (r : RSt) (to te : TEt) : TEt := fun τ M Q => to τ M fun x M1 => match x with
  | .str a => te τ M1 fun y M2 => r a y M2 Q
  | _ => False
section
variable {X : Cx} {E : XK} {Et : XT} {o e : Expr} {to te : TEt} {apos pos : Pos}
def cStr : RLt := fun ds M Q => match ds with
  | [.int i] => i.natAbs.log2 < 1920 ∧ Q (.str (toString i : String)) M
  | _ => False
def cIntS : RLt := fun ds M Q => match ds with
  | [.str a] => ∃ n, PySem.intText? a = some n ∧ a.length ≤ 640 ∧ Q (.int n) M
  | _ => False
/-- * where one factor is short -/
theorem oq_mulS : OpQ X (binaryOp .Mult) (bInt CMul fun i j => .int (i * j)) := OpRimp op_mul (lr2_int (fun _ _ _ => .int _) bInt_inv)
theorem ms_r {i j : Int} (h : -(2 ^ 64) < j ∧ j < 2 ^ 64) : CMul i j := .inr h
theorem ms_l {i j : Int} (h : -(2 ^ 64) < i ∧ i < 2 ^ 64) : CMul i j := .inl h
/-- a sign in a text -/
def bInS : R2t := fun x y M Q => match x, y with
  | .str a, .str z => ∃ c, a = ⟨#[c]⟩ ∧ Q (.bl (decide (c ∈ z.cps.toList))) M
  | _, _ => False
end
/-! ### zip of two tuples -/
def iZiT (ta : TAt) : TIt := fun τ M Q => ta τ M fun ds M1 => match ds with
  | [d, d2] => match tupOf d, tupOf d2 with
    | some xs, some ys => Q ⟨zipD xs ys, fun _ => True⟩ M1
    | _, _ => False
  | _ => False
/-! readings -/
theorem uZiT {ta : TAt} {τ : Sg} {M : MH} {Q : Its → MH → Prop} : iZiT ta τ M Q = ta τ M fun ds M1 => oL2 ds fun d d2 => oSome (tupOf d) fun xs => oSome (tupOf d2) fun ys => Q ⟨zipD xs ys, fun _ => True⟩ M1 := by
  unfold iZiT
  congr 1
  funext ds M1
  match ds with
  | [] => rfl
  | [_] => rfl
  | [d, d2] =>
    show (match tupOf d, tupOf d2 with | some xs, some ys => Q ⟨zipD xs ys, fun _ => True⟩ M1 | _, _ => False) = oSome (tupOf d) fun xs => oSome (tupOf d2) fun ys => Q ⟨zipD xs ys, fun _ => True⟩ M1
    cases tupOf d with
    | none => rfl
    | some xs => cases tupOf d2 <;> rfl
  | _ :: _ :: _ :: _ => rfl
section
variable {τ : Sg} {M : MH} {Q : VD} {a b : Str} {i : Int} {y : D} {r : RSt} {to te : TEt}
theorem utSm : tSm r to te τ M Q = to τ M fun x M1 => oStr x fun a => te τ M1 fun y M2 => r a y M2 Q := propext Iff.rfl
theorem umSplit : mSplit a (.str b) M Q = ((b.length == 0) = false ∧ a.length + 2 ≤ 16777216 ∧ Q (.lst ((Txt.split a b).map .str)) M) := by rw [← sizeLine_eq]; rfl
theorem umStarts : mStarts a (.str b) M Q = Q (.bl (Txt.startswith a b)) M := propext Iff.rfl
theorem umJoin : mJoin a y M Q = ∃ ys : List Str, lstOf M y = some (ys.map D.str) ∧ (ys.map (·.length)).sum + ys.length * a.length ≤ 16777216 ∧ Q (.str (Txt.join a ys)) M := propext Iff.rfl
theorem ucStr : cStr [.int i] M Q = (i.natAbs.log2 < 1920 ∧ Q (.str (toString i : String)) M) := propext Iff.rfl
theorem ucIntS : cIntS [.str a] M Q = ∃ n, PySem.intText? a = some n ∧ a.length ≤ 640 ∧ Q (.int n) M := propext Iff.rfl
theorem ubInS : bInS (.str a) (.str b) M Q = ∃ c, a = ⟨#[c]⟩ ∧ Q (.bl (decide (c ∈ b.cps.toList))) M := propext Iff.rfl
end
end Tl
namespace Tl
open PySem PySem.Spec PyProof.Rows L2
/-! ### a, b = a list -/
def gLs (n : Nat) (t : TGst) : TGt := fun d τ M Q => match lstOf M d with
  | some ds => ds.length = n ∧ t ds τ M Q
  | none => False
theorem ugLs {n : Nat} {t : TGst} {d : D} {τ : Sg} {M : MH} {Q : Sg → MH → Prop} : gLs n t d τ M Q = oSome (lstOf M d) fun ds => ds.length = n ∧ t ds τ M Q := by
  unfold gLs oSome
  cases lstOf M d <;> rfl
/-! ### enumerate(a list, start=k) -/
end Tl
namespace Tl
open PySem PySem.Spec PyProof.Rows L2
/-! ### min and max of two pairs whose first numbers are unlike -/
section
variable {X : Cx}
def cPr (mx : Bool) : RLt := fun ds M Q => match ds with
  | [.tup [.int i, .int j], .tup [.int k, .int l]] => i ≠ k ∧ Q (if (if mx = true then i < k else k < i) then .tup [.int k, .int l] else .tup [.int i, .int j]) M
  | _ => False
theorem ucPr {mx : Bool} {i j k l : Int} {M : MH} {Q : VD} : cPr mx [.tup [.int i, .int j], .tup [.int k, .int l]] M Q = (i ≠ k ∧ Q (if (if mx = true then i < k else k < i) then .tup [.int k, .int l] else .tup [.int i, .int j]) M) := propext Iff.rfl
end
/-! ### xs.clear() -/
def mClear : RMt := fun x xs M Q => match x, xs with
  | .ref l, [] => (match M l with
    | some (.lst _) => Q .non (mup M l (.lst []))
    | _ => False)
  | _, _ => False
section
variable {X : Cx} {E : XK} {Et : XT} {o : Expr} {apos cpos : Pos} {to : TEt}
theorem umClear {l : Addr} {M : MH} {Q : VD} : mClear (.ref l) [] M Q = oSome (mLst M l) fun _ => Q .non (mup M l (.lst [])) := by
  show (match M l with | some (.lst _) => Q .non (mup M l (.lst [])) | _ => False) = _
  unfold oSome mLst
  cases M l with
  | none => rfl
  | some m => cases m <;> rfl
end
/-! ### a, b = a list, in a comprehension -/
/-! ### x.m(..) in a comprehension -/
/-! ### == of a list of changing lists -/
theorem dps_of {K : PySem.W.Frag} {G F H : Hp} {M : MH} (R : Rel K G F H M) : ∀ {vs : List V} {ds : List D} {ys : List PyData}, Rps K F vs ds → ds.mapM (pyM M) = some ys → DpAll K H vs ys
  | _, _, _, .nil, e => by cases e; exact .nil
  | _, _, _, .cons (d := d) (ds := ds) h t, e => by
    rw [List.mapM_cons] at e
    cases q : pyM M d with
    | none => rw [q] at e; cases e
    | some a =>
      cases q2 : ds.mapM (pyM M) with
      | none => rw [q, q2] at e; cases e
      | some b =>
        rw [q, q2] at e
        cases e
        exact .cons (dp_of R h q) (dps_of R t q2)
end Tl
set_option maxHeartbeats 2000000
namespace Tl
open PySem PySem.Spec PyProof.Rows L2
/-! ### cells apart and together -/
section
variable {M0 M1 M2 M M' : MH} {cs ds : List (Addr × MO)}
theorem Cel.glue (h : Cel M0 M1 cs) (g : Cel M1 M2 ds) : Cel M0 M2 (ds ++ cs) := by
  refine ⟨?_, fun c hc => ?_, fun a o e => g.old a o (h.old a o e), fun c hc => ?_⟩
  · rw [List.map_append, List.nodup_append]
    refine ⟨g.nd, h.nd, fun a ha b hb e => ?_⟩
    obtain ⟨c, hc, rfl⟩ := List.mem_map.mp ha
    obtain ⟨d, hd, e2⟩ := List.mem_map.mp hb
    have h1 := g.new c hc
    have h2 := h.at_ d hd
    rw [← show c.1 = d.1 from e.trans e2.symm, h1] at h2
    cases h2
  · rcases List.mem_append.mp hc with hc | hc
    · exact g.at_ c hc
    · exact g.old _ _ (h.at_ c hc)
  · rcases List.mem_append.mp hc with hc | hc
    · cases e : M0 c.1 with
      | none => rfl
      | some o => have := h.old _ _ e; rw [g.new c hc] at this; cases this
    · exact h.new c hc
end
/-! ### shared boxes -/
structure Tch where
  put : Bool
  lane : Int
  place : Int
  line : Int
def wS : Bool → Str
  | true => "put"
  | false => "get"
abbrev C5 := Int × Int × Int × Int × Int
def c5D (c : C5) : List D := [.int c.1, .int c.2.1, .int c.2.2.1, .int c.2.2.2.1, .int c.2.2.2.2]
def clD : Option C5 → D
  | none => .non
  | some c => .tup (c5D c)
def Tch.d (t : Tch) : D := .tup [.int t.lane, .int t.line, .str (wS t.put)]
def Tch.deed (t : Tch) : D := .lst [.str (wS t.put), .int t.lane, .int t.place, .int t.line]
theorem okD_ints (n : Nat) : ∀ ns : List Int, okDs n (ns.map D.int)
  | [] => by unfold List.map okDs; trivial
  | i :: t => by rw [List.map_cons]; unfold okDs; exact ⟨by unfold okD; trivial, okD_ints n t⟩
structure Sh where
  s : Addr
  n : Addr
  k : Addr
  dx : Addr
abbrev Kvs := List (Key × D)
def Sh.cells (C : Addr) (fl : List Str) (A : Sh) (ns : List Int) (kvs : Kvs) (cl : Option C5) : List (Addr × MO) := [(A.s, .obj C A.dx fl [.ref A.n, .ref A.k, clD cl]), (A.n, .lst (ns.map .int)), (A.k, .dK kvs)]
section
variable {C : Addr} {fl : List Str} {A : Sh} {M0 M : MH} {ns : List Int} {kvs : Kvs} {cl : Option C5}
theorem Sh.s_ (h : Cel M0 M (A.cells C fl ns kvs cl)) : M A.s = some (.obj C A.dx fl [.ref A.n, .ref A.k, clD cl]) := h.at_ (A.s, _) (by unfold Sh.cells; simp)
theorem Sh.k_ (h : Cel M0 M (A.cells C fl ns kvs cl)) : M A.k = some (.dK kvs) := h.at_ (A.k, .dK kvs) (by unfold Sh.cells; simp)
end
end Tl
set_option maxHeartbeats 2000000
namespace Tl
open PySem PySem.Spec PyProof.Rows L2
/-! ### a lane alone: mirrors -/
def wrapF (n : Int) : Int := (n + 2147483648) % 4294967296 - 2147483648
def inR (n : Int) : Prop := -2147483648 ≤ n ∧ n ≤ 2147483647
theorem wrap_in (n : Int) : inR (wrapF n) := by unfold wrapF inR; omega
theorem inR_div {i j : Int} (h : j ≠ 0) (hj : inR j) : CDivZ i j := divz_40 h (by obtain ⟨h1, h2⟩ := hj; omega)
theorem inR_mul {i j : Int} (h : inR i) (hj : inR j) : CMulW i j := by
  obtain ⟨h1, h2⟩ := h
  obtain ⟨h3, h4⟩ := hj
  exact wide_mul (a := 40) (b := 40) (by omega) (by omega) (by decide) (by decide) (by decide)
def workF : Op7 → Int → Int → Option Int
  | .add, a, b => some (wrapF (a + b))
  | .sub, a, b => some (wrapF (a - b))
  | .mul, a, b => some (wrapF (a * b))
  | .div, a, b => if b = 0 then none else some (wrapF (a.fdiv b))
  | .rem, a, b => if b = 0 then none else some (wrapF (a.fmod b))
  | .lt, a, b => some (if a < b then 1 else 0)
  | .eq, a, b => some (if a = b then 1 else 0)
theorem work_in {o : Op7} {a b v : Int} (h : workF o a b = some v) : inR v := by
  cases o
  case add => cases h; exact wrap_in _
  case sub => cases h; exact wrap_in _
  case mul => cases h; exact wrap_in _
  case div =>
    by_cases q : b = 0
    · rw [show workF .div a b = none from if_pos q] at h; cases h
    · rw [show workF .div a b = some (wrapF (a.fdiv b)) from if_neg q] at h; cases h; exact wrap_in _
  case rem =>
    by_cases q : b = 0
    · rw [show workF .rem a b = none from if_pos q] at h; cases h
    · rw [show workF .rem a b = some (wrapF (a.fmod b)) from if_neg q] at h; cases h; exact wrap_in _
  case lt => cases h; unfold inR; split <;> omega
  case eq => cases h; unfold inR; split <;> omega
inductive Ew where
  | done | outside | nought | tired | deep
deriving DecidableEq
def Ew.s : Ew → Str
  | .done => "done" | .outside => "outside" | .nought => "nought" | .tired => "tired" | .deep => "deep"
structure Th where
  put : Bool
  place : Int
  line : Int
def Th.d (t : Th) : D := .tup [.str (wS t.put), .int t.place, .int t.line]
abbrev Nms := List (Str × Int)
def nmsD (ns : Nms) : List (Key × D) := ns.map fun p => (.inr p.1, .int p.2)
def getN (ns : Nms) (x : Str) : Int := ((ns.find? fun p => decide (p.1 = x)).map (·.2)).getD 0
def putN (ns : Nms) (x : Str) (v : Int) : Nms := if (ns.any fun p => decide (p.1 = x)) = true then ns.map (fun p => if p.1 = x then (p.1, v) else p) else ns ++ [(x, v)]
abbrev Pus := List (Int × Int)
def pusD (ns : Pus) : List (Key × D) := ns.map fun p => (.inl p.1, .int p.2)
def putI (ns : Pus) (x : Int) (v : Int) : Pus := if (ns.any fun p => decide (p.1 = x)) = true then ns.map (fun p => if p.1 = x then (p.1, v) else p) else ns ++ [(x, v)]
theorem nms_put {ns : Nms} {x : Str} {v : Int} : putM (nmsD ns) (.inr x) (.int v) = nmsD (putN ns x v) := by
  unfold putM putN nmsD
  rw [List.any_map]
  have e : ((fun kv : Key × D => decide (kv.1 = (Sum.inr x : Key))) ∘ fun p : Str × Int => ((Sum.inr p.1 : Key), D.int p.2)) = fun p : Str × Int => decide (p.1 = x) := by
    funext p
    simp
  rw [e]
  split
  · rw [List.map_map, List.map_map]
    apply List.map_congr_left
    intro p _
    dsimp only [Function.comp]
    by_cases c : p.1 = x
    · rw [if_pos c, if_pos (by rw [c])]
    · rw [if_neg c, if_neg (by simpa using c)]
  · rw [List.map_append]; rfl
theorem pus_put {ns : Pus} {x : Int} {v : Int} : putM (pusD ns) (.inl x) (.int v) = pusD (putI ns x v) := by
  unfold putM putI pusD
  rw [List.any_map]
  have e : ((fun kv : Key × D => decide (kv.1 = (Sum.inl x : Key))) ∘ fun p : Int × Int => ((Sum.inl p.1 : Key), D.int p.2)) = fun p : Int × Int => decide (p.1 = x) := by
    funext p
    simp
  rw [e]
  split
  · rw [List.map_map, List.map_map]
    apply List.map_congr_left
    intro p _
    dsimp only [Function.comp]
    by_cases c : p.1 = x
    · rw [if_pos c, if_pos (by rw [c])]
    · rw [if_neg c, if_neg (by simpa using c)]
  · rw [List.map_append]; rfl
theorem nms_val {ns : Nms} {x : Str} : valD (nmsD ns) (.inr x) = ((ns.find? fun p => decide (p.1 = x)).map fun p => D.int p.2) := by
  unfold valD nmsD
  rw [List.find?_map]
  have e : ((fun kv : Key × D => decide (kv.1 = (Sum.inr x : Key))) ∘ fun p : Str × Int => ((Sum.inr p.1 : Key), D.int p.2)) = fun p : Str × Int => decide (p.1 = x) := by
    funext p
    simp
  rw [e]
  cases ns.find? fun p => decide (p.1 = x) <;> rfl
theorem putN_len (ns : Nms) (x : Str) (v : Int) : (putN ns x v).length ≤ ns.length + 1 := by
  unfold putN
  split
  · rw [List.length_map]; omega
  · rw [List.length_append]; exact Nat.le_refl _
theorem putI_len (ns : Pus) (x : Int) (v : Int) : (putI ns x v).length ≤ ns.length + 1 := by
  unfold putI
  split
  · rw [List.length_map]; omega
  · rw [List.length_append]; exact Nat.le_refl _
/-! an expression's number: the places read, and the number or how the lane ends -/
structure Lc where
  lane : Int
  lanes : Int
  mine : Int
  most : Nat
  pg : Pg
def evE (c : Lc) (ns : Nms) (bx : List Int) : Ex → List Int × (Ew ⊕ Int)
  | .num i => ([], .inr i)
  | .nam x => ([], .inr (getN ns x))
  | .lane => ([], .inr c.lane)
  | .lanes => ([], .inr c.lanes)
  | .mine => ([], .inr c.mine)
  | .box e => match evE c ns bx e with
    | (rs, .inl f) => (rs, .inl f)
    | (rs, .inr p) => if p < 0 ∨ (bx.length : Int) ≤ p then (rs, .inl .outside) else (rs ++ [p], .inr (bx.getD p.toNat 0))
  | .op o a b => match evE c ns bx a with
    | (rs, .inl f) => (rs, .inl f)
    | (rs, .inr x) => match evE c ns bx b with
      | (qs, .inl f) => (rs ++ qs, .inl f)
      | (qs, .inr y) => match workF o x y with
        | none => (rs ++ qs, .inl .nought)
        | some v => (rs ++ qs, .inr v)
def evEs (c : Lc) (ns : Nms) (bx : List Int) : List Ex → List Int × (Ew ⊕ List Int)
  | [] => ([], .inr [])
  | e :: t => match evE c ns bx e with
    | (rs, .inl f) => (rs, .inl f)
    | (rs, .inr v) => match evEs c ns bx t with
      | (qs, .inl f) => (rs ++ qs, .inl f)
      | (qs, .inr vs) => (rs ++ qs, .inr (v :: vs))
/-! the walker's state -/
structure Fa where
  names : Nms
  last : Int
  taker : Str
inductive Wy where
  | df | wh | iff
deriving DecidableEq
def Wy.s : Wy → Str
  | .df => "def" | .wh => "while" | .iff => "if"
structure Ba where
  body : List Sm
  at_ : Nat
  why : Wy
/-- stacks: the newest first -/
structure Ws where
  told : List Int
  steps : Nat
  fin : Option (Ew × Int)
  brought : List (Int × Int)
  tcs : List (List Th)
  pus : List Pus
  lines : List Int
  boxes : List Int
  wait : Option Sm
  frs : List Fa
  bks : List Ba
def Ws.end_ (s : Ws) (f : Ew) (l : Int) : Ws := { s with fin := some (f, l) }
def Ws.touch (s : Ws) (t : List Th) : Ws := match s.tcs with
  | [] => s
  | c :: r => { s with tcs := (c ++ t) :: r }
def rdT (l : Int) (rs : List Int) : List Th := rs.map fun p => ⟨false, p, l⟩
/-- what the reckoning of expressions leaves -/
def Ws.read {α : Type} (s : Ws) (l : Int) (x : List Int × (Ew ⊕ α)) : Ws := match x.2 with
  | .inl f => (s.touch (rdT l x.1)).end_ f l
  | .inr _ => s.touch (rdT l x.1)
def Ws.names (s : Ws) : Nms := match s.frs with
  | [] => []
  | f :: _ => f.names
def Ws.give (s : Ws) (x : Str) (v : Int) : Ws := match s.frs with
  | [] => s
  | f :: r => { s with frs := { f with names := putN f.names x v } :: r }
def Ws.next (s : Ws) : Ws := match s.bks with
  | [] => s
  | b :: r => { s with bks := { b with at_ := b.at_ + 1 } :: r }
def Ws.push (s : Ws) (b : List Sm) (y : Wy) : Ws := { s with bks := ⟨b, 0, y⟩ :: s.bks }
def leaveF (y : Wy) : List Ba → List Ba
  | [] => []
  | b :: r => if b.why = y then r else leaveF y r
def Ws.leave (s : Ws) (y : Wy) : Ws := { s with bks := leaveF y s.bks }
def Ws.out (s : Ws) (v : Int) : Ws := match s.frs with
  | [] => s.leave .df
  | f :: r => if r = [] then { (s.leave .df) with frs := r, fin := some (.done, f.last) } else ({ (s.leave .df) with frs := r }).give f.taker v
end Tl
set_option maxHeartbeats 2000000
namespace Tl
open PySem PySem.Spec PyProof.Rows L2
/-! ### a lane alone: its steps -/
def Ws.putB (s : Ws) (l p v : Int) : Ws :=
  if p < 0 ∨ (s.boxes.length : Int) ≤ p then s.end_ .outside l
  else { (s.touch [⟨true, p, l⟩]) with boxes := s.boxes.set p.toNat v, pus := match s.pus with | [] => [] | q :: r => putI q p v :: r }
def zipN (ps : List Str) (vs : List Int) : Nms := (ps.zip vs).foldl (fun ns p => putN ns p.1 p.2) []
def defOf (pg : Pg) (f : Str) : Df := (pg.find? fun o => decide (o.name = f)).getD ⟨f, [], [], 0, 0⟩
def Ws.callD (c : Lc) (s : Ws) (l : Int) (x f : Str) (vs : List Int) : Ws :=
  if 6 ≤ s.frs.length then s.end_ .deep l
  else { s with frs := ⟨zipN (defOf c.pg f).ps vs, (defOf c.pg f).last, x⟩ :: s.frs, bks := ⟨(defOf c.pg f).body, 0, .df⟩ :: s.bks }
def hd (vs : List Int) : Int := vs.getD 0 0
def Ws.onward (c : Lc) (s : Ws) (d : Sm) (vs : List Int) : Ws := match d with
  | .set _ x _ => s.next.give x (hd vs)
  | .put l _ _ => s.next.putB l (hd vs) (vs.getD 1 0)
  | .tell _ _ => { s.next with told := s.told ++ [hd vs] }
  | .call l x f _ => s.next.callD c l x f vs
  | .ret _ _ => s.next.out (hd vs)
  | .stop l => s.next.end_ .done l
  | .brk _ => (s.next.leave .wh).next
  | .agn _ => s.next.leave .wh
  | .meet l => { s.next with brought := s.brought ++ [(l, 0)], wait := some d }
  | .join l _ _ _ => { s.next with brought := s.brought ++ [(l, hd vs)], wait := some d }
  | .if1 _ _ b => if hd vs = 0 then s.next else s.next.push b .iff
  | .if2 _ _ b e => if hd vs = 0 then s.next.push e .iff else s.next.push b .iff
  | .whl _ _ b => if hd vs = 0 then s.next else s.push b .wh
def Ws.count (s : Ws) (l : Int) : Ws := { s with steps := s.steps + 1, lines := s.lines ++ [l] }
def Ws.deed (c : Lc) (s : Ws) (d : Sm) : Ws :=
  if c.most ≤ s.steps then s.end_ .tired d.line
  else match evEs c s.names s.boxes d.exprs with
    | (rs, .inl f) => ((s.count d.line).touch (rdT d.line rs)).end_ f d.line
    | (rs, .inr vs) => ((s.count d.line).touch (rdT d.line rs)).onward c d vs
def Ws.turn (c : Lc) (s : Ws) : Ws := match s.bks with
  | [] => s
  | b :: r => match b.body[b.at_]? with
    | some d => s.deed c d
    | none => if b.why = .df then s.out 0 else { s with bks := r }
def Ws.run (s : Ws) : Prop := s.wait = none ∧ s.fin = none
instance (s : Ws) : Decidable s.run := by unfold Ws.run; exact inferInstanceAs (Decidable (_ ∧ _))
def Ws.on (c : Lc) : Nat → Ws → Ws
  | 0, s => s
  | n + 1, s => if s.wait.isNone && s.fin.isNone then Ws.on c n (s.turn c) else s
def Ws.mu (c : Lc) (s : Ws) : Nat := 2 * (c.most - s.steps) + s.bks.length
def Ws.go (c : Lc) (s : Ws) : Ws := s.on c (s.mu c + 1)
/-! what a lane keeps -/
def Ex.okv : Ex → Prop
  | .num i => inR i
  | .box e => e.okv
  | .op _ a b => a.okv ∧ b.okv
  | _ => True
def Ex.bxs : Ex → Nat
  | .box e => e.bxs + 1
  | .op _ a b => a.bxs + b.bxs
  | _ => 0
def bxsL (es : List Ex) : Nat := (es.map Ex.bxs).sum
structure okWd (pg : Pg) (d : Sm) : Prop where
  len : d.exprs.length ≤ 1000
  ex : ∀ e ∈ d.exprs, e.deep < 12 ∧ e.okv
  bx : bxsL d.exprs ≤ 10000
  fnd : ∀ l x f es, d = .call l x f es → ∃ o ∈ pg, o.name = f
structure okWb (pg : Pg) (lp : Prop) (b : List Sm) : Prop where
  st : ∀ s ∈ allBd b, okWd pg s
  lp : inLps lp b
structure okLc (c : Lc) : Prop where
  lane : inR c.lane
  lanes : inR c.lanes
  mine : inR c.mine
  most : c.most ≤ 1000
  nd : (c.pg.map (·.name)).Nodup
  df : ∀ o ∈ c.pg, o.ps.length ≤ 1000 ∧ okWb c.pg False o.body
  few : c.pg.length ≤ 1000
def inW : List Ba → Prop
  | [] => False
  | b :: r => b.why = .wh ∨ (b.why = .iff ∧ inW r)
def okBk (pg : Pg) : List Ba → Prop
  | [] => True
  | b :: r => (∃ lp, (lp → inW (b :: r)) ∧ okWb pg lp b.body) ∧ (r = [] → b.why = .df) ∧ okBk pg r
def nDf : List Ba → Nat
  | [] => 0
  | b :: r => (if b.why = .df then 1 else 0) + nDf r
def okN (k n b t : Nat) (ns : Nms) : Prop := (∀ p ∈ ns, inR p.2) ∧ ns.length + b + k ≤ 1000 + t + 2 * n
/-- k: so much room is left in the bounds -/
structure okWn (c : Lc) (k : Nat) (s : Ws) : Prop where
  bk : okBk c.pg s.bks
  nd : nDf s.bks = s.frs.length
  fr6 : s.frs.length ≤ 6
  run : s.fin = none → s.frs ≠ []
  nms : ∀ f ∈ s.frs, okN k s.steps s.bks.length s.tcs.length f.names
  bx : ∀ v ∈ s.boxes, inR v
  bxl : s.boxes.length ≤ 1000
  st : s.steps ≤ c.most
  told : s.told.length + k ≤ s.steps
  lines : s.lines.length = s.steps
  brt : s.brought.length + k ≤ s.steps
  tcl : ∀ t ∈ s.tcs, t.length + k ≤ s.steps * 10001
  pul : ∀ p ∈ s.pus, p.length + k ≤ s.steps
  tcn : s.tcs.length = s.pus.length ∧ s.tcs ≠ []
  bkl : s.bks.length + k ≤ s.steps + 1
  tcb : s.tcs.length + (if s.wait.isSome then 1 else 0) ≤ s.brought.length + 1
  wf : s.wait.isSome → s.fin = none
  wd : ∀ d, s.wait = some d → okWd c.pg d
abbrev okWs (c : Lc) (s : Ws) : Prop := okWn c 0 s
theorem getN_in {ns : Nms} {x : Str} (h : ∀ p ∈ ns, inR p.2) : inR (getN ns x) := by
  unfold getN
  cases e : ns.find? fun p => decide (p.1 = x) with
  | none => exact ⟨by decide, by decide⟩
  | some p => exact h p (List.mem_of_find?_eq_some e)
theorem putN_in {ns : Nms} {x : Str} {v : Int} (h : ∀ p ∈ ns, inR p.2) (hv : inR v) : ∀ p ∈ putN ns x v, inR p.2 := by
  unfold putN
  split
  · intro p hp
    obtain ⟨q, hq, rfl⟩ := List.mem_map.mp hp
    try dsimp only
    split
    · exact hv
    · exact h q hq
  · intro p hp
    rcases List.mem_append.mp hp with hp | hp
    · exact h p hp
    · rw [List.mem_singleton.mp hp]; exact hv
theorem getD_in {bx : List Int} {k : Nat} (h : ∀ v ∈ bx, inR v) : inR (bx.getD k 0) := by
  rw [List.getD_eq_getElem?_getD]
  cases e : bx[k]? with
  | none => exact ⟨by decide, by decide⟩
  | some v => exact h v (List.mem_of_getElem? e)
section
variable {c : Lc} {ns : Nms} {bx : List Int}
theorem evE_box {e : Ex} : evE c ns bx (.box e) = (match evE c ns bx e with
    | (rs, .inl f) => (rs, .inl f)
    | (rs, .inr p) => if p < 0 ∨ (bx.length : Int) ≤ p then (rs, .inl .outside) else (rs ++ [p], .inr (bx.getD p.toNat 0))) := rfl
theorem evE_op {o : Op7} {a b : Ex} : evE c ns bx (.op o a b) = (match evE c ns bx a with
    | (rs, .inl f) => (rs, .inl f)
    | (rs, .inr x) => match evE c ns bx b with
      | (qs, .inl f) => (rs ++ qs, .inl f)
      | (qs, .inr y) => match workF o x y with
        | none => (rs ++ qs, .inl .nought)
        | some v => (rs ++ qs, .inr v)) := rfl
theorem evEs_cons {e : Ex} {t : List Ex} : evEs c ns bx (e :: t) = (match evE c ns bx e with
    | (rs, .inl f) => (rs, .inl f)
    | (rs, .inr v) => match evEs c ns bx t with
      | (qs, .inl f) => (rs ++ qs, .inl f)
      | (qs, .inr vs) => (rs ++ qs, .inr (v :: vs))) := rfl
theorem ev_ok (hc : okLc c) (hn : ∀ p ∈ ns, inR p.2) (hb : ∀ v ∈ bx, inR v) : ∀ e : Ex, e.okv → (evE c ns bx e).1.length ≤ e.bxs ∧ ∀ v, (evE c ns bx e).2 = .inr v → inR v
  | .num i, h => ⟨Nat.le_refl _, fun v e => by cases e; exact h⟩
  | .nam x, h => ⟨Nat.le_refl _, fun v e => by cases e; exact getN_in hn⟩
  | .lane, h => ⟨Nat.le_refl _, fun v e => by cases e; exact hc.lane⟩
  | .lanes, h => ⟨Nat.le_refl _, fun v e => by cases e; exact hc.lanes⟩
  | .mine, h => ⟨Nat.le_refl _, fun v e => by cases e; exact hc.mine⟩
  | .box e, h => by
    have ih := ev_ok hc hn hb e h
    rw [evE_box]
    unfold Ex.bxs
    generalize evE c ns bx e = r0 at ih ⊢
    rcases r0 with ⟨rs, f | p⟩
    · exact ⟨by have := ih.1; simp only at this ⊢; omega, fun v e => by cases e⟩
    · dsimp only at ih ⊢
      split
      · exact ⟨by have := ih.1; simp only; omega, fun v e => by cases e⟩
      · exact ⟨by have := ih.1; simp only [List.length_append, List.length_cons, List.length_nil]; omega, fun v e => by cases e; exact getD_in hb⟩
  | .op o a b, h => by
    have ia := ev_ok hc hn hb a h.1
    have ib := ev_ok hc hn hb b h.2
    rw [evE_op]
    unfold Ex.bxs
    generalize evE c ns bx a = r0 at ia ⊢
    rcases r0 with ⟨rs, f | x⟩
    · exact ⟨by have := ia.1; simp only at this ⊢; omega, fun v e => by cases e⟩
    · dsimp only at ia ⊢
      generalize evE c ns bx b = r1 at ib ⊢
      rcases r1 with ⟨qs, f | y⟩
      · exact ⟨by have := ia.1; have := ib.1; simp only [List.length_append] at *; omega, fun v e => by cases e⟩
      · dsimp only at ib ⊢
        cases hw : workF o x y with
        | none => exact ⟨by have := ia.1; have := ib.1; simp only [List.length_append] at *; omega, fun v e => by cases e⟩
        | some v => exact ⟨by have := ia.1; have := ib.1; simp only [List.length_append] at *; omega, fun v' e => by cases e; exact work_in hw⟩
theorem evs_ok (hc : okLc c) (hn : ∀ p ∈ ns, inR p.2) (hb : ∀ v ∈ bx, inR v) : ∀ es : List Ex, (∀ e ∈ es, e.okv) → (evEs c ns bx es).1.length ≤ bxsL es ∧ ∀ vs, (evEs c ns bx es).2 = .inr vs → vs.length = es.length ∧ ∀ v ∈ vs, inR v
  | [], h => ⟨Nat.le_refl _, fun v e => by cases e; exact ⟨rfl, fun v hv => by cases hv⟩⟩
  | e :: t, h => by
    have ia := ev_ok hc hn hb e (h e (List.mem_cons_self ..))
    have ib := evs_ok hc hn hb t fun x hx => h x (List.mem_cons_of_mem _ hx)
    have hs : bxsL (e :: t) = e.bxs + bxsL t := by unfold bxsL; rw [List.map_cons, List.sum_cons]
    rw [evEs_cons, hs]
    generalize evE c ns bx e = r0 at ia ⊢
    rcases r0 with ⟨rs, f | x⟩
    · exact ⟨by have := ia.1; simp only at this ⊢; omega, fun v e => by cases e⟩
    · dsimp only at ia ⊢
      generalize evEs c ns bx t = r1 at ib ⊢
      rcases r1 with ⟨qs, f | ys⟩
      · exact ⟨by have := ia.1; have := ib.1; simp only [List.length_append] at *; omega, fun v e => by cases e⟩
      · dsimp only at ib ⊢
        refine ⟨by have := ia.1; have := ib.1; simp only [List.length_append] at *; omega, fun vs e => ?_⟩
        cases e
        have h2 := ib.2 ys rfl
        refine ⟨by rw [List.length_cons, List.length_cons, h2.1], fun v hv => ?_⟩
        rcases List.mem_cons.mp hv with rfl | hv
        · exact ia.2 _ rfl
        · exact h2.2 v hv
end
end Tl
set_option maxHeartbeats 2000000
namespace Tl
open PySem PySem.Spec PyProof.Rows L2
/-! ### a lane alone: what it keeps -/
theorem leave_wh {pg : Pg} : ∀ {bs : List Ba}, okBk pg bs → inW bs → leaveF .wh bs ≠ [] ∧ okBk pg (leaveF .wh bs) ∧ nDf (leaveF .wh bs) = nDf bs ∧ (leaveF .wh bs).length < bs.length
  | b :: r, h, hw => by
    unfold leaveF
    split
    · rename_i e
      refine ⟨fun er => ?_, h.2.2, ?_, Nat.lt_succ_self _⟩
      · have := h.2.1 er
        rw [this] at e; cases e
      · rw [show nDf (b :: r) = (if b.why = .df then 1 else 0) + nDf r from rfl, if_neg (by rw [e]; decide), Nat.zero_add]
    · rename_i e
      have hw2 : b.why = .iff ∧ inW r := hw.resolve_left e
      have ih := leave_wh h.2.2 hw2.2
      refine ⟨ih.1, ih.2.1, ?_, by rw [List.length_cons]; exact Nat.lt_succ_of_lt ih.2.2.2⟩
      rw [ih.2.2.1]
      rw [show nDf (b :: r) = (if b.why = .df then 1 else 0) + nDf r from rfl, if_neg (by rw [hw2.1]; decide), Nat.zero_add]
theorem leave_df {pg : Pg} {n : Nat} : ∀ {bs : List Ba}, okBk pg bs → nDf bs = n + 1 → okBk pg (leaveF .df bs) ∧ nDf (leaveF .df bs) = n ∧ (leaveF .df bs).length < bs.length
  | [], h, hn => by cases hn
  | b :: r, h, hn => by
    unfold leaveF
    rw [show nDf (b :: r) = (if b.why = .df then 1 else 0) + nDf r from rfl] at hn
    split
    · rename_i e
      rw [if_pos e] at hn
      exact ⟨h.2.2, by omega, Nat.lt_succ_self _⟩
    · rename_i e
      rw [if_neg e] at hn
      have ih := leave_df (n := n) h.2.2 (by omega)
      exact ⟨ih.1, ih.2.1, by rw [List.length_cons]; exact Nat.lt_succ_of_lt ih.2.2⟩
section
variable {c : Lc} {k : Nat} {s : Ws}
theorem okWn.less (h : okWn c 1 s) : okWn c 0 s :=
  { h with nms := fun f hf => ⟨(h.nms f hf).1, by have := (h.nms f hf).2; omega⟩, told := by have := h.told; omega, brt := by have := h.brt; omega
           tcl := fun t ht => by have := h.tcl t ht; omega, pul := fun t ht => by have := h.pul t ht; omega, bkl := by have := h.bkl; omega }
theorem okWn.end_ (h : okWn c k s) (hw : s.wait = none) {f : Ew} {l : Int} : okWn c k (s.end_ f l) :=
  { h with run := fun e => by cases e
           wf := fun e => by rw [show (s.end_ f l).wait = s.wait from rfl, hw] at e; cases e }
theorem okWn.next (h : okWn c k s) : okWn c k s.next := by
  obtain ⟨told, steps, fin, brought, tcs, pus, lines, boxes, wait, frs, bks⟩ := s
  cases bks with
  | nil => exact h
  | cons b r => exact { h with bk := h.bk, nd := h.nd, bkl := h.bkl }
theorem okWn.count (h : okWn c 0 s) (hs : s.steps < c.most) {l : Int} {rs : List Th} (hr : rs.length ≤ 10000) : okWn c 1 ((s.count l).touch rs) := by
  obtain ⟨told, steps, fin, brought, tcs, pus, lines, boxes, wait, frs, bks⟩ := s
  cases tcs with
  | nil => exact absurd rfl h.tcn.2
  | cons t tr =>
    have e1 := h.told; have e2 := h.lines; have e3 := h.brt; have e4 := h.bkl
    dsimp only at e1 e2 e3 e4 hs
    exact { h with
      nms := fun f hf => ⟨(h.nms f hf).1, by have := (h.nms f hf).2; simp only [Ws.count, Ws.touch, List.length_cons] at this ⊢; omega⟩
      st := hs
      told := by dsimp only [Ws.count, Ws.touch]; omega
      lines := by dsimp only [Ws.count, Ws.touch]; rw [List.length_append, e2]; rfl
      brt := by dsimp only [Ws.count, Ws.touch]; omega
      tcl := fun x hx => by
        dsimp only [Ws.count, Ws.touch] at hx ⊢
        rcases List.mem_cons.mp hx with rfl | hx
        · have := h.tcl t (List.mem_cons_self ..)
          dsimp only at this
          rw [List.length_append]; omega
        · have := h.tcl x (List.mem_cons_of_mem _ hx)
          dsimp only at this
          omega
      pul := fun x hx => by have := h.pul x hx; dsimp only [Ws.count, Ws.touch] at this ⊢; omega
      tcn := ⟨by have := h.tcn.1; exact this, by intro e; cases e⟩
      bkl := by dsimp only [Ws.count, Ws.touch]; omega
      tcb := h.tcb }
theorem okWn.giveN (h0 : okWn c 0 s) {x : Str} {v : Int} (hv : inR v) (hn : ∀ f r, s.frs = f :: r → f.names.length + s.bks.length + 1 ≤ 1000 + s.tcs.length + 2 * s.steps) : okWn c 0 (s.give x v) := by
  obtain ⟨told, steps, fin, brought, tcs, pus, lines, boxes, wait, frs, bks⟩ := s
  cases frs with
  | nil => exact h0
  | cons f r =>
    exact { h0 with
      nd := h0.nd
      fr6 := h0.fr6
      run := fun _ e => by cases e
      nms := fun g hg => by
        rcases List.mem_cons.mp hg with rfl | hg
        · have := h0.nms f (List.mem_cons_self ..)
          refine ⟨putN_in this.1 hv, ?_⟩
          have h2 := putN_len f.names x v
          have h3 := hn f r rfl
          dsimp only [Ws.give] at h3 ⊢
          omega
        · exact h0.nms g (List.mem_cons_of_mem _ hg) }
theorem okWn.give (h : okWn c 1 s) {x : Str} {v : Int} (hv : inR v) : okWn c 0 (s.give x v) :=
  h.less.giveN hv fun f r e => (h.nms f (by rw [e]; exact List.mem_cons_self ..)).2
theorem okWn.push (h : okWn c 1 s) {b : List Sm} {y : Wy} (hy : y ≠ .df) (hn : s.bks ≠ []) (hb : ∃ lp, (lp → inW (⟨b, 0, y⟩ :: s.bks)) ∧ okWb c.pg lp b) : okWn c 0 (s.push b y) :=
  { h.less with
    bk := ⟨hb, fun e => absurd e hn, h.bk⟩
    nd := by
      show (if y = .df then 1 else 0) + nDf s.bks = _
      rw [if_neg hy, Nat.zero_add]
      exact h.nd
    nms := fun f hf => ⟨(h.nms f hf).1, by have := (h.nms f hf).2; show f.names.length + (s.bks.length + 1) + 0 ≤ 1000 + s.tcs.length + 2 * s.steps; omega⟩
    bkl := by have := h.bkl; show s.bks.length + 1 + 0 ≤ _; show _ ≤ s.steps + 1; omega }
theorem okWn.leave (h : okWn c k s) (hw : inW s.bks) : okWn c k (s.leave .wh) ∧ (s.leave .wh).bks ≠ [] := by
  have h2 := leave_wh h.bk hw
  exact ⟨{ h with bk := h2.2.1, nd := by rw [show (s.leave .wh).bks = leaveF .wh s.bks from rfl, h2.2.2.1]; exact h.nd, nms := fun f hf => ⟨(h.nms f hf).1, by have := (h.nms f hf).2; have := h2.2.2.2; show f.names.length + (leaveF .wh s.bks).length + k ≤ 1000 + s.tcs.length + 2 * s.steps; omega⟩, bkl := by have := h.bkl; have := h2.2.2.2; show (leaveF .wh s.bks).length + k ≤ s.steps + 1; omega }, h2.1⟩
theorem okWn.out (h : okWn c 0 s) (hw : s.wait = none) (hf : s.fin = none) {v : Int} (hv : inR v) : okWn c 0 (s.out v) := by
  obtain ⟨told, steps, fin, brought, tcs, pus, lines, boxes, wait, frs, bks⟩ := s
  cases frs with
  | nil => exact absurd rfl (h.run hf)
  | cons f r =>
    have h2 := leave_df h.bk (n := r.length) h.nd
    dsimp only at hw hf h2
    subst hw
    have hb := h.bkl
    have hm := h.nms
    dsimp only at hb hm
    have base : okWn c 0 ⟨told, steps, some (.done, f.last), brought, tcs, pus, lines, boxes, none, r, leaveF .df bks⟩ :=
      { h with bk := h2.1, nd := h2.2.1, fr6 := by have := h.fr6; rw [List.length_cons] at this; show r.length ≤ 6; omega
               run := fun e => by cases e
               nms := fun g hg => ⟨(hm g (List.mem_cons_of_mem _ hg)).1, by have := (hm g (List.mem_cons_of_mem _ hg)).2; dsimp only; omega⟩
               bkl := by dsimp only; omega
               wf := fun e => by cases e }
    by_cases er : r = []
    · rw [show Ws.out (⟨told, steps, fin, brought, tcs, pus, lines, boxes, none, f :: r, bks⟩ : Ws) v = ⟨told, steps, some (.done, f.last), brought, tcs, pus, lines, boxes, none, r, leaveF .df bks⟩ from if_pos er]
      exact base
    · rw [show Ws.out (⟨told, steps, fin, brought, tcs, pus, lines, boxes, none, f :: r, bks⟩ : Ws) v = Ws.give ⟨told, steps, fin, brought, tcs, pus, lines, boxes, none, r, leaveF .df bks⟩ f.taker v from if_neg er]
      refine okWn.giveN (s := ⟨told, steps, fin, brought, tcs, pus, lines, boxes, none, r, leaveF .df bks⟩) ?_ hv fun g r2 e => ?_
      · exact { base with run := fun _ => er, wf := fun e => by cases e }
      · dsimp only at e ⊢
        have := (hm g (by rw [e]; simp)).2
        omega
theorem okWn.putB (h : okWn c 1 s) (hw : s.wait = none) {l p v : Int} (hv : inR v) : okWn c 0 (s.putB l p v) := by
  unfold Ws.putB
  split
  · exact h.less.end_ hw
  · obtain ⟨told, steps, fin, brought, tcs, pus, lines, boxes, wait, frs, bks⟩ := s
    have h0 := h.less
    cases tcs with
    | nil => exact absurd rfl h.tcn.2
    | cons t tr =>
      cases pus with
      | nil => exact absurd h.tcn.1 (by intro e; cases e)
      | cons q qr =>
        exact { h0 with
          bx := fun x hx => by
            rcases List.mem_or_eq_of_mem_set hx with hx | rfl
            · exact h.bx x hx
            · exact hv
          bxl := by show (boxes.set _ _).length ≤ 1000; rw [List.length_set]; exact h.bxl
          tcl := fun x hx => by
            rcases List.mem_cons.mp hx with rfl | hx
            · have := h.tcl t (List.mem_cons_self ..)
              rw [List.length_append]
              exact this
            · exact h0.tcl x (List.mem_cons_of_mem _ hx)
          pul := fun x hx => by
            rcases List.mem_cons.mp hx with rfl | hx
            · have := h.pul q (List.mem_cons_self ..)
              exact Nat.le_trans (putI_len q p v) this
            · exact h0.pul x (List.mem_cons_of_mem _ hx)
          tcn := ⟨h.tcn.1, by intro e; cases e⟩
          tcb := h.tcb }
theorem zipN_ok {ps : List Str} {vs : List Int} (hv : ∀ v ∈ vs, inR v) : (∀ p ∈ zipN ps vs, inR p.2) ∧ (zipN ps vs).length ≤ ps.length := by
  have key : ∀ (l : List (Str × Int)) (ns : Nms), (∀ p ∈ l, inR p.2) → (∀ p ∈ ns, inR p.2) → (∀ p ∈ l.foldl (fun ns p => putN ns p.1 p.2) ns, inR p.2) ∧ (l.foldl (fun ns p => putN ns p.1 p.2) ns).length ≤ ns.length + l.length := by
    intro l
    induction l with
    | nil => exact fun ns _ h => ⟨h, Nat.le_refl _⟩
    | cons x t ih =>
      intro ns h1 h2
      have h3 := ih (putN ns x.1 x.2) (fun p hp => h1 p (List.mem_cons_of_mem _ hp)) (putN_in h2 (h1 x (List.mem_cons_self ..)))
      refine ⟨h3.1, Nat.le_trans h3.2 ?_⟩
      have := putN_len ns x.1 x.2
      rw [List.length_cons]; omega
  have h := key (ps.zip vs) [] (fun p hp => hv p.2 (List.of_mem_zip hp).2) (fun p hp => by cases hp)
  refine ⟨h.1, Nat.le_trans h.2 ?_⟩
  rw [List.length_zip, List.length_nil]; omega
theorem defOf_mem {pg : Pg} {f : Str} (h : ∃ o ∈ pg, o.name = f) : defOf pg f ∈ pg ∧ (defOf pg f).name = f := by
  unfold defOf
  cases e : pg.find? fun o => decide (o.name = f) with
  | none =>
    obtain ⟨o, ho, hf⟩ := h
    have := List.find?_eq_none.mp e o ho
    simp [hf] at this
  | some o =>
    exact ⟨List.mem_of_find?_eq_some e, by have := List.find?_some e; simpa using this⟩
theorem okWn.callD (hc : okLc c) (h : okWn c 1 s) (hw : s.wait = none) (hf : s.fin = none) {l : Int} {x f : Str} {vs : List Int} (hv : ∀ v ∈ vs, inR v) (hd : ∃ o ∈ c.pg, o.name = f) : okWn c 0 (s.callD c l x f vs) := by
  unfold Ws.callD
  split
  · exact h.less.end_ hw
  · rename_i hlt
    have ho := hc.df _ (defOf_mem hd).1
    have hz := zipN_ok (ps := (defOf c.pg f).ps) hv
    have hn : s.bks ≠ [] := by
      intro e
      have h1 := h.nd
      rw [e] at h1
      exact h.run hf (List.length_eq_zero_iff.mp h1.symm)
    exact { h.less with
      bk := ⟨⟨False, False.elim, ho.2⟩, fun _ => rfl, h.bk⟩
      nd := by show 1 + nDf s.bks = s.frs.length + 1; rw [h.nd]; omega
      fr6 := by show s.frs.length + 1 ≤ 6; omega
      run := fun _ e => by cases e
      nms := fun g hg => by
        rcases List.mem_cons.mp hg with rfl | hg
        · exact ⟨hz.1, by have := ho.1; have := h.bkl; have := List.length_pos_iff.mpr h.tcn.2; show (zipN _ _).length + (s.bks.length + 1) + 0 ≤ 1000 + s.tcs.length + 2 * s.steps; omega⟩
        · exact ⟨(h.nms g hg).1, by have := (h.nms g hg).2; show g.names.length + (s.bks.length + 1) + 0 ≤ 1000 + s.tcs.length + 2 * s.steps; omega⟩
      bkl := by have := h.bkl; show s.bks.length + 1 + 0 ≤ s.steps + 1; omega }
theorem inLps_at {lp : Prop} {pg : Pg} {b : List Sm} (h : okWb pg lp b) {d : Sm} (hd : d ∈ b) : okWd pg d ∧ inLp lp d ∧ ∀ t ∈ allSt d, okWd pg t :=
  ⟨h.st d (allBd_mem hd d (by cases d <;> (unfold allSt; simp))), inLps_mem h.lp d hd, fun t ht => h.st t (allBd_mem hd t ht)⟩
theorem inW_next : inW s.next.bks = inW s.bks := by
  obtain ⟨told, steps, fin, brought, tcs, pus, lines, boxes, wait, frs, bks⟩ := s
  cases bks <;> rfl
theorem next_ne : s.next.bks = [] → s.bks = [] := by
  obtain ⟨told, steps, fin, brought, tcs, pus, lines, boxes, wait, frs, bks⟩ := s
  cases bks with
  | nil => exact fun e => e
  | cons b r => exact fun e => nomatch e
theorem next_wait : s.next.wait = s.wait := by
  obtain ⟨told, steps, fin, brought, tcs, pus, lines, boxes, wait, frs, bks⟩ := s
  cases bks <;> rfl
theorem next_fin : s.next.fin = s.fin := by
  obtain ⟨told, steps, fin, brought, tcs, pus, lines, boxes, wait, frs, bks⟩ := s
  cases bks <;> rfl
theorem next_steps : s.next.steps = s.steps := by
  obtain ⟨told, steps, fin, brought, tcs, pus, lines, boxes, wait, frs, bks⟩ := s
  cases bks <;> rfl
theorem next_told : s.next.told = s.told := by
  obtain ⟨told, steps, fin, brought, tcs, pus, lines, boxes, wait, frs, bks⟩ := s
  cases bks <;> rfl
theorem next_brt : s.next.brought = s.brought := by
  obtain ⟨told, steps, fin, brought, tcs, pus, lines, boxes, wait, frs, bks⟩ := s
  cases bks <;> rfl
theorem okWb.blk {pg : Pg} {lp' : Prop} {d : Sm} {b : List Sm} (h : ∀ t ∈ allSt d, okWd pg t) (hb : ∀ t ∈ allBd b, t ∈ allSt d) (hl : inLps lp' b) : okWb pg lp' b := ⟨fun t ht => h t (hb t ht), hl⟩
theorem okWn.onward (hc : okLc c) (h : okWn c 1 s) (hw : s.wait = none) (hf : s.fin = none) (hn : s.bks ≠ []) {d : Sm} {lp : Prop} (hlp : lp → inW s.bks) (hd : okWd c.pg d ∧ inLp lp d ∧ ∀ t ∈ allSt d, okWd c.pg t)
    {vs : List Int} (hv : ∀ v ∈ vs, inR v) : okWn c 0 (s.onward c d vs) := by
  have hv0 : inR (Tl.hd vs) := getD_in hv
  have hx := h.next
  have xw : s.next.wait = none := next_wait.trans hw
  have xf : s.next.fin = none := next_fin.trans hf
  have xn : s.next.bks ≠ [] := fun e => hn (next_ne e)
  obtain ⟨h1, h2, h3⟩ := hd
  have brt : ∀ l v, okWn c 0 { s.next with brought := s.brought ++ [(l, v)], wait := some d } := fun l v =>
    { hx.less with
      brt := by have := h.brt; show (s.brought ++ _).length + 0 ≤ s.next.steps; rw [List.length_append, next_steps]; exact this
      tcb := by
        have := hx.tcb
        rw [xw, next_brt] at this
        show s.next.tcs.length + 1 ≤ (s.brought ++ _).length + 1
        rw [List.length_append]
        simpa using this
      wf := fun _ => xf
      wd := fun e he => by cases he; exact h1 }
  cases d with
  | set l x e => exact hx.give hv0
  | put l a b => exact hx.putB xw (getD_in hv)
  | tell l e => exact { hx.less with told := by have := h.told; show (s.told ++ _).length + 0 ≤ s.next.steps; rw [List.length_append, next_steps]; exact this }
  | call l x f es => exact hx.callD hc xw xf hv (h1.fnd _ _ _ _ rfl)
  | ret l e => exact hx.less.out xw xf hv0
  | stop l => exact hx.less.end_ xw
  | brk l => exact (hx.leave (by rw [inW_next]; exact hlp h2)).1.next.less
  | agn l => exact (hx.leave (by rw [inW_next]; exact hlp h2)).1.less
  | meet l => exact brt _ _
  | join l x w e => exact brt _ _
  | if1 l e b =>
    show okWn c 0 (if Tl.hd vs = 0 then s.next else s.next.push b .iff)
    split
    · exact hx.less
    · refine hx.push (by decide) xn ⟨lp, fun hl => Or.inr ⟨rfl, by rw [inW_next]; exact hlp hl⟩, okWb.blk h3 (fun t ht => by unfold allSt; exact List.mem_cons_of_mem _ ht) h2⟩
  | if2 l e b b2 =>
    show okWn c 0 (if Tl.hd vs = 0 then s.next.push b2 .iff else s.next.push b .iff)
    split
    · refine hx.push (by decide) xn ⟨lp, fun hl => Or.inr ⟨rfl, by rw [inW_next]; exact hlp hl⟩, okWb.blk h3 (fun t ht => by unfold allSt; exact List.mem_cons_of_mem _ (List.mem_append_right _ ht)) h2.2⟩
    · refine hx.push (by decide) xn ⟨lp, fun hl => Or.inr ⟨rfl, by rw [inW_next]; exact hlp hl⟩, okWb.blk h3 (fun t ht => by unfold allSt; exact List.mem_cons_of_mem _ (List.mem_append_left _ ht)) h2.1⟩
  | whl l e b =>
    show okWn c 0 (if Tl.hd vs = 0 then s.next else s.push b .wh)
    split
    · exact hx.less
    · exact h.push (by decide) hn ⟨True, fun _ => Or.inl rfl, okWb.blk h3 (fun t ht => by unfold allSt; exact List.mem_cons_of_mem _ ht) h2⟩
theorem okWn.names (h : okWn c k s) : ∀ p ∈ s.names, inR p.2 := by
  unfold Ws.names
  split
  · intro p hp; cases hp
  · rename_i f r e
    exact (h.nms f (by rw [e]; exact List.mem_cons_self ..)).1
theorem touch_nil : s.touch [] = s := by
  obtain ⟨told, steps, fin, brought, tcs, pus, lines, boxes, wait, frs, bks⟩ := s
  cases tcs with
  | nil => rfl
  | cons t r => show Ws.mk _ _ _ _ ((t ++ []) :: r) _ _ _ _ _ _ = _; rw [List.append_nil]
theorem touch_touch {a b : List Th} : (s.touch a).touch b = s.touch (a ++ b) := by
  obtain ⟨told, steps, fin, brought, tcs, pus, lines, boxes, wait, frs, bks⟩ := s
  cases tcs with
  | nil => rfl
  | cons t r => show Ws.mk _ _ _ _ ((t ++ a ++ b) :: r) _ _ _ _ _ _ = _; rw [List.append_assoc]; rfl
theorem touch_bks {a : List Th} : (s.touch a).bks = s.bks := by
  obtain ⟨told, steps, fin, brought, tcs, pus, lines, boxes, wait, frs, bks⟩ := s
  cases tcs <;> rfl
theorem touch_wait {a : List Th} : (s.touch a).wait = s.wait := by
  obtain ⟨told, steps, fin, brought, tcs, pus, lines, boxes, wait, frs, bks⟩ := s
  cases tcs <;> rfl
theorem touch_fin {a : List Th} : (s.touch a).fin = s.fin := by
  obtain ⟨told, steps, fin, brought, tcs, pus, lines, boxes, wait, frs, bks⟩ := s
  cases tcs <;> rfl
theorem okWn.deed (hc : okLc c) (h : okWn c 0 s) (hr : s.run) (hn : s.bks ≠ []) {d : Sm} {lp : Prop} (hlp : lp → inW s.bks) (hd : okWd c.pg d ∧ inLp lp d ∧ ∀ t ∈ allSt d, okWd c.pg t) : okWn c 0 (s.deed c d) := by
  unfold Ws.deed
  split
  · exact h.end_ hr.1
  · rename_i hs
    have he := evs_ok hc h.names h.bx d.exprs fun e he => (hd.1.ex e he).2
    have hbx := hd.1.bx
    generalize evEs c s.names s.boxes d.exprs = r at he ⊢
    obtain ⟨rs, f | vs⟩ := r
    · dsimp only at he ⊢
      refine (okWn.end_ (h.count (by omega) (by unfold rdT; rw [List.length_map]; omega)) ?_).less
      rw [touch_wait]; exact hr.1
    · dsimp only at he ⊢
      have h1 := h.count (l := d.line) (rs := rdT d.line rs) (by omega) (by unfold rdT; rw [List.length_map]; omega)
      refine h1.onward hc (by rw [touch_wait]; exact hr.1) (by rw [touch_fin]; exact hr.2) (by rw [touch_bks]; exact hn) (lp := lp) (by rw [touch_bks]; exact hlp) hd (he.2 vs rfl).2
theorem okWn.turn (hc : okLc c) (h : okWn c 0 s) (hr : s.run) : okWn c 0 (s.turn c) := by
  unfold Ws.turn
  split
  · exact h
  · rename_i b r e
    have hb := h.bk
    rw [e] at hb
    obtain ⟨⟨lp, hlp, hwb⟩, hbot, hrest⟩ := hb
    split
    · rename_i d hd
      exact h.deed hc hr (by rw [e]; intro x; cases x) (lp := lp) (by rw [e]; exact hlp) (inLps_at hwb (List.mem_of_getElem? hd))
    · split
      · exact h.out hr.1 hr.2 ⟨by decide, by decide⟩
      · rename_i hdf
        exact { h with bk := hrest, nd := by
                        have := h.nd
                        rw [e, show nDf (b :: r) = (if b.why = .df then 1 else 0) + nDf r from rfl, if_neg hdf, Nat.zero_add] at this
                        exact this
                       nms := fun f hf => ⟨(h.nms f hf).1, by have := (h.nms f hf).2; rw [e, List.length_cons] at this; show f.names.length + r.length + 0 ≤ 1000 + s.tcs.length + 2 * s.steps; omega⟩
                       bkl := by have := h.bkl; rw [e, List.length_cons] at this; show r.length + 0 ≤ s.steps + 1; omega }
/-! the measure -/
def lowB (n b : Nat) (t : Ws) : Prop := t.steps = n ∧ t.bks.length ≤ b
theorem low_next : lowB s.steps s.bks.length s.next := by
  obtain ⟨told, steps, fin, brought, tcs, pus, lines, boxes, wait, frs, bks⟩ := s
  cases bks with
  | nil => exact ⟨rfl, Nat.le_refl _⟩
  | cons b r => exact ⟨rfl, Nat.le_refl _⟩
theorem low_give {n b : Nat} {x : Str} {v : Int} (h : lowB n b s) : lowB n b (s.give x v) := by
  obtain ⟨told, steps, fin, brought, tcs, pus, lines, boxes, wait, frs, bks⟩ := s
  cases frs <;> exact h
theorem leave_len {y : Wy} : ∀ bs : List Ba, (leaveF y bs).length ≤ bs.length - 1
  | [] => Nat.le_refl _
  | b :: r => by
    unfold leaveF
    split
    · exact Nat.le_refl _
    · have := leave_len (y := y) r
      rw [List.length_cons]; omega
theorem low_leave {n b : Nat} {y : Wy} (h : lowB n b s) : lowB n (b - 1) (s.leave y) := ⟨h.1, by have := leave_len (y := y) s.bks; have := h.2; show (leaveF y s.bks).length ≤ b - 1; omega⟩
theorem low_out {n b : Nat} {v : Int} (h : lowB n b s) : lowB n (b - 1) (s.out v) := by
  have h1 := low_leave (y := .df) h
  obtain ⟨told, steps, fin, brought, tcs, pus, lines, boxes, wait, frs, bks⟩ := s
  cases frs with
  | nil => exact h1
  | cons f r =>
    by_cases er : r = []
    · rw [show Ws.out (⟨told, steps, fin, brought, tcs, pus, lines, boxes, wait, f :: r, bks⟩ : Ws) v = ⟨told, steps, some (.done, f.last), brought, tcs, pus, lines, boxes, wait, r, leaveF .df bks⟩ from if_pos er]
      exact h1
    · rw [show Ws.out (⟨told, steps, fin, brought, tcs, pus, lines, boxes, wait, f :: r, bks⟩ : Ws) v = Ws.give ⟨told, steps, fin, brought, tcs, pus, lines, boxes, wait, r, leaveF .df bks⟩ f.taker v from if_neg er]
      exact low_give h1
theorem low_touch {n b : Nat} {t : List Th} (h : lowB n b s) : lowB n b (s.touch t) := by
  obtain ⟨told, steps, fin, brought, tcs, pus, lines, boxes, wait, frs, bks⟩ := s
  cases tcs <;> exact h
theorem low_mono {n b b' : Nat} (h : lowB n b s) (hb : b ≤ b') : lowB n b' s := ⟨h.1, Nat.le_trans h.2 hb⟩
theorem low_onward {d : Sm} {vs : List Int} : lowB s.steps (s.bks.length + 1) (s.onward c d vs) := by
  have h := low_next (s := s)
  have h1 := low_mono h (Nat.le_succ _)
  cases d with
  | set l x e => exact low_give h1
  | put l a b =>
    show lowB _ _ (if _ then _ else _)
    split
    · exact h1
    · exact low_touch h1
  | tell l e => exact h1
  | call l x f es =>
    show lowB _ _ (if _ then _ else _)
    split
    · exact h1
    · exact ⟨h.1, Nat.succ_le_succ h.2⟩
  | ret l e => exact low_mono (low_out h) (by omega)
  | stop l => exact h1
  | brk l =>
    have h2 := low_next (s := s.next.leave .wh)
    exact ⟨h2.1.trans h.1, Nat.le_trans h2.2 (Nat.le_trans (low_leave h).2 (by omega))⟩
  | agn l => exact low_mono (low_leave h) (by omega)
  | meet l => exact h1
  | join l x w e => exact h1
  | if1 l e b =>
    show lowB _ _ (if Tl.hd vs = 0 then s.next else s.next.push b .iff)
    split
    · exact h1
    · exact ⟨h.1, Nat.succ_le_succ h.2⟩
  | if2 l e b b2 =>
    show lowB _ _ (if Tl.hd vs = 0 then s.next.push b2 .iff else s.next.push b .iff)
    split <;> exact ⟨h.1, Nat.succ_le_succ h.2⟩
  | whl l e b =>
    show lowB _ _ (if Tl.hd vs = 0 then s.next else s.push b .wh)
    split
    · exact h1
    · exact ⟨rfl, Nat.le_refl _⟩
theorem mu_turn (hr : s.run) (hn : s.bks ≠ []) (hr2 : (s.turn c).run) : (s.turn c).mu c < s.mu c := by
  have hp : 0 < s.bks.length := List.length_pos_iff.mpr hn
  revert hr2
  unfold Ws.turn
  split
  · rename_i e; exact absurd e hn
  · rename_i b r e
    split
    · rename_i d hd
      unfold Ws.deed
      split
      · intro h2; exact nomatch h2.2
      · rename_i hs
        generalize evEs c s.names s.boxes d.exprs = r0
        obtain ⟨rs, f | vs⟩ := r0
        · intro h2; exact nomatch h2.2
        · intro _
          have h0 : lowB (s.steps + 1) s.bks.length ((s.count d.line).touch (rdT d.line rs)) := low_touch ⟨rfl, Nat.le_refl _⟩
          have h2 := low_onward (c := c) (s := (s.count d.line).touch (rdT d.line rs)) (d := d) (vs := vs)
          unfold Ws.mu
          have h3 := h2.1
          have h4 := h2.2
          have h5 := h0.1
          have h6 := h0.2
          dsimp only
          omega
    · split
      · intro _
        have h2 := low_out (v := 0) (s := s) ⟨rfl, Nat.le_refl _⟩
        have h3 := h2.1
        have h4 := h2.2
        unfold Ws.mu
        omega
      · intro _
        unfold Ws.mu
        rw [e, List.length_cons]
        show 2 * (c.most - s.steps) + r.length < _
        omega
theorem okWn.tcs_len (h : okWn c k s) : s.tcs.length ≤ s.steps + 1 := by
  have h1 := h.tcb
  have h2 := h.brt
  split at h1 <;> omega
theorem okWn.ne (h : okWn c k s) (hf : s.fin = none) : s.bks ≠ [] := by
  intro e
  have h1 := h.nd
  rw [e] at h1
  exact h.run hf (List.length_eq_zero_iff.mp h1.symm)
theorem on_succ (n : Nat) : Ws.on c (n + 1) s = if s.wait.isNone && s.fin.isNone then Ws.on c n (s.turn c) else s := rfl
theorem run_iff : (s.wait.isNone && s.fin.isNone) = true ↔ s.run := by
  unfold Ws.run
  rw [Bool.and_eq_true, Option.isNone_iff_eq_none, Option.isNone_iff_eq_none]
theorem on_run {n : Nat} (hr : s.run) : Ws.on c (n + 1) s = Ws.on c n (s.turn c) := by rw [on_succ, if_pos (run_iff.mpr hr)]
theorem on_stop {n : Nat} (hr : ¬ s.run) : Ws.on c n s = s := by
  cases n with
  | zero => rfl
  | succ n => rw [on_succ, if_neg (fun h => hr (run_iff.mp h))]
theorem on_ok (hc : okLc c) : ∀ (n : Nat) (s : Ws), okWs c s → okWs c (s.on c n) ∧ ((s.run → s.mu c < n) → ¬ (s.on c n).run)
  | 0, s, h => ⟨h, fun hm hr => absurd (hm hr) (Nat.not_lt_zero _)⟩
  | n + 1, s, h => by
    by_cases hr : s.run
    · rw [on_run hr]
      have ih := on_ok hc n (s.turn c) (h.turn hc hr)
      refine ⟨ih.1, fun hm => ih.2 fun hr2 => ?_⟩
      have h1 := mu_turn (c := c) hr (h.ne hr.2) hr2
      have h2 := hm hr
      omega
    · rw [on_stop hr]
      exact ⟨h, fun _ => hr⟩
theorem go_ok (hc : okLc c) (h : okWs c s) : okWs c (s.go c) ∧ ¬ (s.go c).run :=
  ⟨(on_ok hc _ s h).1, (on_ok hc _ s h).2 fun _ => Nat.lt_succ_self _⟩
/-- one turn more -/
theorem go_turn (hc : okLc c) (h : okWs c s) (hr : s.run) : (s.turn c).go c = s.go c := by
  have key : ∀ (n m : Nat) (s : Ws), okWs c s → (s.run → s.mu c < n) → (s.run → s.mu c < m) → s.on c n = s.on c m := by
    intro n
    induction n with
    | zero =>
      intro m s h h1 h2
      have hr : ¬ s.run := fun hr => absurd (h1 hr) (Nat.not_lt_zero _)
      rw [on_stop hr, on_stop hr]
    | succ n ih =>
      intro m s h h1 h2
      by_cases hr : s.run
      · cases m with
        | zero => exact absurd (h2 hr) (Nat.not_lt_zero _)
        | succ m =>
          rw [on_run hr, on_run hr]
          have a1 := h1 hr
          have a2 := h2 hr
          refine ih m _ (h.turn hc hr) (fun hr2 => ?_) (fun hr2 => ?_) <;>
          · have := mu_turn (c := c) hr (h.ne hr.2) hr2
            omega
      · rw [on_stop hr, on_stop hr]
  unfold Ws.go
  rw [on_run (n := s.mu c) hr]
  exact key _ _ _ (h.turn hc hr) (fun _ => Nat.lt_succ_self _) (fun hr2 => mu_turn hr (h.ne hr.2) hr2)
theorem go_stop (hr : ¬ s.run) : s.go c = s := on_stop hr
end
end Tl
set_option maxHeartbeats 2000000
namespace Tl
open PySem PySem.Spec PyProof.Rows L2
/-! ### the walker, as cells -/
theorem Cel.set_ {M0 M : MH} {cs : List (Addr × MO)} {a : Addr} {o o' : MO} (i : Nat) (h : Cel M0 M cs) (hi : cs[i]? = some (a, o)) : Cel M0 (mup M a o') (cs.set i (a, o')) := by
  obtain ⟨hl, he⟩ := List.getElem?_eq_some_iff.mp hi
  have e1 : cs = cs.take i ++ (a, o) :: cs.drop (i + 1) := by
    rw [← he, List.getElem_cons_drop, List.take_append_drop]
  have e2 : cs.set i (a, o') = cs.take i ++ (a, o') :: cs.drop (i + 1) := by
    rw [List.set_eq_take_append_cons_drop, if_pos hl]
  rw [e2]
  rw [e1] at h
  exact Cel.put h
/-- the fixed addresses, and classes with their fields -/
structure WkA where
  w : Addr
  s : Addr
  d : Addr
  t : Addr
  b : Addr
  l : Addr
  T : Addr
  P : Addr
  f : Addr
  k : Addr
  wx : Addr
  sx : Addr
structure WkC where
  W : Addr
  S : Addr
  F : Addr
  B : Addr
  fW : List Str
  fS : List Str
  fF : List Str
  fB : List Str
/-- the others, with what stands there: the newest first -/
structure WkX where
  x : Addr
  tc : List (Addr × List Th)
  pu : List (Addr × Pus)
  fr : List (Addr × Addr × Addr × Fa)
  bk : List (Addr × Addr × Ba)
def waitD : Option Sm → D
  | none => .non
  | some d => d.d
def finD : Option (Ew × Int) → D
  | none => .non
  | some f => .tup [.str f.1.s, .int f.2]
def brD (b : Int × Int) : D := .tup [.int b.1, .int b.2]
def defsD (pg : Pg) : List (Key × D) := pg.map fun o => (.inr o.name, o.d)
def tcC (q : Addr × List Th) : Addr × MO := (q.1, .lst (q.2.map Th.d))
def puC (q : Addr × Pus) : Addr × MO := (q.1, .dK (pusD q.2))
def frO (C : WkC) (f : Addr × Addr × Addr × Fa) : MO := .obj C.F f.2.1 C.fF [.ref f.2.2.1, .int f.2.2.2.last, .str f.2.2.2.taker]
def frC (C : WkC) (f : Addr × Addr × Addr × Fa) : List (Addr × MO) := [(f.1, frO C f), (f.2.2.1, .dK (nmsD f.2.2.2.names))]
def bkO (C : WkC) (b : Addr × Addr × Ba) : MO := .obj C.B b.2.1 C.fB [.lst (stD b.2.2.body), .int b.2.2.at_, .str b.2.2.why.s]
def bkC (C : WkC) (b : Addr × Addr × Ba) : Addr × MO := (b.1, bkO C b)
def WkA.wO (A : WkA) (C : WkC) (c : Lc) (x : Addr) (s : Ws) : MO := .obj C.W A.wx C.fW [.ref A.d, .int c.lane, .int c.lanes, .int c.mine, .ref x, .int c.most, .ref A.s, waitD s.wait, .ref A.f, .ref A.k]
def WkA.sO (A : WkA) (C : WkC) (s : Ws) : MO := .obj C.S A.sx C.fS [.ref A.t, .int s.steps, finD s.fin, .ref A.b, .ref A.T, .ref A.P, .ref A.l]
def WkX.TL (X : WkX) : List D := (X.tc.map fun q => D.ref q.1).reverse
def WkX.PL (X : WkX) : List D := (X.pu.map fun q => D.ref q.1).reverse
def WkX.FL (X : WkX) : List D := (X.fr.map fun q => D.ref q.1).reverse
def WkX.KL (X : WkX) : List D := (X.bk.map fun q => D.ref q.1).reverse
def WkA.fix (A : WkA) (C : WkC) (c : Lc) (X : WkX) (s : Ws) : List (Addr × MO) :=
  [(A.w, A.wO C c X.x s), (A.s, A.sO C s), (A.d, .dK (defsD c.pg)), (A.t, .lst (s.told.map .int)), (A.b, .lst (s.brought.map brD)), (A.l, .lst (s.lines.map .int)), (A.T, .lst X.TL), (A.P, .lst X.PL), (X.x, .lst (s.boxes.map .int)), (A.f, .lst X.FL), (A.k, .lst X.KL)]
def WkA.cells (A : WkA) (C : WkC) (c : Lc) (X : WkX) (s : Ws) : List (Addr × MO) :=
  A.fix C c X s ++ (X.tc.map tcC ++ (X.pu.map puC ++ (X.fr.flatMap (frC C) ++ X.bk.map (bkC C))))
structure WkS (A : WkA) (C : WkC) (c : Lc) (M0 M : MH) (X : WkX) (s : Ws) : Prop where
  cel : Cel M0 M (A.cells C c X s)
  tcs : s.tcs = X.tc.map (·.2)
  pus : s.pus = X.pu.map (·.2)
  frs : s.frs = X.fr.map (·.2.2.2)
  bks : s.bks = X.bk.map (·.2.2)
def WkE (A : WkA) (C : WkC) (c : Lc) (M0 M : MH) (s : Ws) : Prop := ∃ X, WkS A C c M0 M X s
section
variable {A : WkA} {C : WkC} {c : Lc} {M0 M : MH} {X : WkX} {s : Ws}
theorem WkS.at_ (h : WkS A C c M0 M X s) (i : Nat) {a : Addr} {o : MO} (hi : (A.fix C c X s)[i]? = some (a, o)) : M a = some o :=
  h.cel.at_ (a, o) (List.mem_append_left _ (List.mem_of_getElem? hi))
theorem WkS.w_ (h : WkS A C c M0 M X s) : M A.w = some (.obj C.W A.wx C.fW [.ref A.d, .int c.lane, .int c.lanes, .int c.mine, .ref X.x, .int c.most, .ref A.s, waitD s.wait, .ref A.f, .ref A.k]) := h.at_ 0 rfl
theorem WkS.s_ (h : WkS A C c M0 M X s) : M A.s = some (.obj C.S A.sx C.fS [.ref A.t, .int s.steps, finD s.fin, .ref A.b, .ref A.T, .ref A.P, .ref A.l]) := h.at_ 1 rfl
theorem WkS.d_ (h : WkS A C c M0 M X s) : M A.d = some (.dK (defsD c.pg)) := h.at_ 2 rfl
theorem WkS.t_ (h : WkS A C c M0 M X s) : M A.t = some (.lst (s.told.map .int)) := h.at_ 3 rfl
theorem WkS.b_ (h : WkS A C c M0 M X s) : M A.b = some (.lst (s.brought.map brD)) := h.at_ 4 rfl
theorem WkS.l_ (h : WkS A C c M0 M X s) : M A.l = some (.lst (s.lines.map .int)) := h.at_ 5 rfl
theorem WkS.T_ (h : WkS A C c M0 M X s) : M A.T = some (.lst X.TL) := h.at_ 6 rfl
theorem WkS.P_ (h : WkS A C c M0 M X s) : M A.P = some (.lst X.PL) := h.at_ 7 rfl
theorem WkS.x_ (h : WkS A C c M0 M X s) : M X.x = some (.lst (s.boxes.map .int)) := h.at_ 8 rfl
theorem WkS.f_ (h : WkS A C c M0 M X s) : M A.f = some (.lst X.FL) := h.at_ 9 rfl
theorem WkS.k_ (h : WkS A C c M0 M X s) : M A.k = some (.lst X.KL) := h.at_ 10 rfl
theorem WkS.tc_ (h : WkS A C c M0 M X s) {q : Addr × List Th} (hq : q ∈ X.tc) : M q.1 = some (.lst (q.2.map Th.d)) :=
  h.cel.at_ (tcC q) (List.mem_append_right _ (List.mem_append_left _ (List.mem_map_of_mem hq)))
theorem WkS.pu_ (h : WkS A C c M0 M X s) {q : Addr × Pus} (hq : q ∈ X.pu) : M q.1 = some (.dK (pusD q.2)) :=
  h.cel.at_ (puC q) (List.mem_append_right _ (List.mem_append_right _ (List.mem_append_left _ (List.mem_map_of_mem hq))))
theorem WkS.fr_ (h : WkS A C c M0 M X s) {f : Addr × Addr × Addr × Fa} (hf : f ∈ X.fr) : M f.1 = some (frO C f) ∧ M f.2.2.1 = some (.dK (nmsD f.2.2.2.names)) :=
  have key : ∀ x ∈ frC C f, M x.1 = some x.2 := fun x hx => h.cel.at_ x (List.mem_append_right _ (List.mem_append_right _ (List.mem_append_right _ (List.mem_append_left _ (List.mem_flatMap.mpr ⟨f, hf, hx⟩)))))
  ⟨key (f.1, frO C f) (by unfold frC; simp), key (f.2.2.1, _) (by unfold frC; simp)⟩
theorem WkS.bk_ (h : WkS A C c M0 M X s) {b : Addr × Addr × Ba} (hb : b ∈ X.bk) : M b.1 = some (bkO C b) :=
  h.cel.at_ (bkC C b) (List.mem_append_right _ (List.mem_append_right _ (List.mem_append_right _ (List.mem_append_right _ (List.mem_map_of_mem hb)))))
theorem WkS.fo_ {x : Addr} {o dx n : Addr} {f : Fa} {tc : List (Addr × List Th)} {pu : List (Addr × Pus)} {r : List (Addr × Addr × Addr × Fa)} {bk : List (Addr × Addr × Ba)} (h : WkS A C c M0 M ⟨x, tc, pu, (o, dx, n, f) :: r, bk⟩ s) :
    M o = some (.obj C.F dx C.fF [.ref n, .int f.last, .str f.taker]) := (h.fr_ (List.mem_cons_self ..)).1
theorem WkS.fn_ {x : Addr} {o dx n : Addr} {f : Fa} {tc : List (Addr × List Th)} {pu : List (Addr × Pus)} {r : List (Addr × Addr × Addr × Fa)} {bk : List (Addr × Addr × Ba)} (h : WkS A C c M0 M ⟨x, tc, pu, (o, dx, n, f) :: r, bk⟩ s) :
    M n = some (.dK (nmsD f.names)) := (h.fr_ (List.mem_cons_self ..)).2
theorem WkS.bo_ {x : Addr} {o dx : Addr} {b : Ba} {tc : List (Addr × List Th)} {pu : List (Addr × Pus)} {fr : List (Addr × Addr × Addr × Fa)} {r : List (Addr × Addr × Ba)} (h : WkS A C c M0 M ⟨x, tc, pu, fr, (o, dx, b) :: r⟩ s) :
    M o = some (.obj C.B dx C.fB [.lst (stD b.body), .int b.at_, .str b.why.s]) := h.bk_ (b := (o, dx, b)) (List.mem_cons_self ..)
/-! stores -/
theorem WkS.fin_ (h : WkS A C c M0 M X s) {f : Option (Ew × Int)} : WkS A C c M0 (mup M A.s (.obj C.S A.sx C.fS [.ref A.t, .int s.steps, finD f, .ref A.b, .ref A.T, .ref A.P, .ref A.l])) X { s with fin := f } :=
  ⟨h.cel.set_ 1 rfl, h.tcs, h.pus, h.frs, h.bks⟩
theorem WkS.steps_ (h : WkS A C c M0 M X s) {n : Nat} : WkS A C c M0 (mup M A.s (.obj C.S A.sx C.fS [.ref A.t, .int n, finD s.fin, .ref A.b, .ref A.T, .ref A.P, .ref A.l])) X { s with steps := n } :=
  ⟨h.cel.set_ 1 rfl, h.tcs, h.pus, h.frs, h.bks⟩
theorem WkS.told_ (h : WkS A C c M0 M X s) {l : List Int} : WkS A C c M0 (mup M A.t (.lst (l.map .int))) X { s with told := l } :=
  ⟨h.cel.set_ 3 rfl, h.tcs, h.pus, h.frs, h.bks⟩
theorem WkS.brought_ (h : WkS A C c M0 M X s) {l : List (Int × Int)} : WkS A C c M0 (mup M A.b (.lst (l.map brD))) X { s with brought := l } :=
  ⟨h.cel.set_ 4 rfl, h.tcs, h.pus, h.frs, h.bks⟩
theorem WkS.lines_ (h : WkS A C c M0 M X s) {l : List Int} : WkS A C c M0 (mup M A.l (.lst (l.map .int))) X { s with lines := l } :=
  ⟨h.cel.set_ 5 rfl, h.tcs, h.pus, h.frs, h.bks⟩
theorem WkS.boxes_ (h : WkS A C c M0 M X s) {l : List Int} : WkS A C c M0 (mup M X.x (.lst (l.map .int))) X { s with boxes := l } :=
  ⟨h.cel.set_ 8 rfl, h.tcs, h.pus, h.frs, h.bks⟩
theorem WkS.wait_ (h : WkS A C c M0 M X s) {d : Option Sm} : WkS A C c M0 (mup M A.w (.obj C.W A.wx C.fW [.ref A.d, .int c.lane, .int c.lanes, .int c.mine, .ref X.x, .int c.most, .ref A.s, waitD d, .ref A.f, .ref A.k])) X { s with wait := d } :=
  ⟨h.cel.set_ 0 rfl, h.tcs, h.pus, h.frs, h.bks⟩
theorem WkS.touch_ {x : Addr} {q : Addr} {t t' : List Th} {r : List (Addr × List Th)} {pu : List (Addr × Pus)} {fr : List (Addr × Addr × Addr × Fa)} {bk : List (Addr × Addr × Ba)} (h : WkS A C c M0 M ⟨x, (q, t) :: r, pu, fr, bk⟩ s) :
    WkS A C c M0 (mup M q (.lst (t'.map Th.d))) ⟨x, (q, t') :: r, pu, fr, bk⟩ { s with tcs := t' :: r.map (·.2) } :=
  ⟨h.cel.set_ 11 rfl, rfl, h.pus, h.frs, h.bks⟩
theorem WkS.puts_ {x : Addr} {q : Addr} {t t' : Pus} {tc : List (Addr × List Th)} {r : List (Addr × Pus)} {fr : List (Addr × Addr × Addr × Fa)} {bk : List (Addr × Addr × Ba)} (h : WkS A C c M0 M ⟨x, tc, (q, t) :: r, fr, bk⟩ s) :
    WkS A C c M0 (mup M q (.dK (pusD t'))) ⟨x, tc, (q, t') :: r, fr, bk⟩ { s with pus := t' :: r.map (·.2) } :=
  ⟨Cel.put (pre := A.fix C c ⟨x, tc, (q, t) :: r, fr, bk⟩ s ++ tc.map tcC) (o := .dK (pusD t)) (o' := .dK (pusD t')) (post := r.map puC ++ (fr.flatMap (frC C) ++ bk.map (bkC C))) h.cel, h.tcs, rfl, h.frs, h.bks⟩
theorem WkS.give_ {x : Addr} {o dx n : Addr} {f : Fa} {ns : Nms} {tc : List (Addr × List Th)} {pu : List (Addr × Pus)} {r : List (Addr × Addr × Addr × Fa)} {bk : List (Addr × Addr × Ba)} (h : WkS A C c M0 M ⟨x, tc, pu, (o, dx, n, f) :: r, bk⟩ s) :
    WkS A C c M0 (mup M n (.dK (nmsD ns))) ⟨x, tc, pu, (o, dx, n, { f with names := ns }) :: r, bk⟩ { s with frs := { f with names := ns } :: r.map (·.2.2.2) } := by
  refine ⟨?_, h.tcs, h.pus, rfl, h.bks⟩
  have := Cel.put (pre := A.fix C c ⟨x, tc, pu, (o, dx, n, f) :: r, bk⟩ s ++ (tc.map tcC ++ (pu.map puC ++ [(o, frO C (o, dx, n, f))]))) (a := n) (o := .dK (nmsD f.names)) (o' := .dK (nmsD ns)) (post := r.flatMap (frC C) ++ bk.map (bkC C)) (M0 := M0) (M := M) (by
    have h2 := h.cel
    simp only [List.append_assoc]
    exact h2)
  simp only [List.append_assoc] at this
  exact this
theorem WkS.block_ {x : Addr} {o dx : Addr} {b b' : Ba} {tc : List (Addr × List Th)} {pu : List (Addr × Pus)} {fr : List (Addr × Addr × Addr × Fa)} {r : List (Addr × Addr × Ba)} (h : WkS A C c M0 M ⟨x, tc, pu, fr, (o, dx, b) :: r⟩ s) :
    WkS A C c M0 (mup M o (.obj C.B dx C.fB [.lst (stD b'.body), .int b'.at_, .str b'.why.s])) ⟨x, tc, pu, fr, (o, dx, b') :: r⟩ { s with bks := b' :: r.map (·.2.2) } := by
  refine ⟨?_, h.tcs, h.pus, h.frs, rfl⟩
  have := Cel.put (pre := A.fix C c ⟨x, tc, pu, fr, (o, dx, b) :: r⟩ s ++ (tc.map tcC ++ (pu.map puC ++ fr.flatMap (frC C)))) (a := o) (o := bkO C (o, dx, b)) (o' := bkO C (o, dx, b')) (post := r.map (bkC C)) (M0 := M0) (M := M) (by
    have h2 := h.cel
    simp only [List.append_assoc]
    exact h2)
  simp only [List.append_assoc] at this
  exact this
/-! pushes -/
theorem pm1 {α : Type} {a : α} {F K : List α} : (a :: (F ++ K)).Perm (F ++ a :: K) := List.perm_middle.symm
theorem KL_push {x : Addr} {tc : List (Addr × List Th)} {pu : List (Addr × Pus)} {fr : List (Addr × Addr × Addr × Fa)} {o dx : Addr} {b : Ba} {r : List (Addr × Addr × Ba)} : WkX.KL ⟨x, tc, pu, fr, (o, dx, b) :: r⟩ = (r.map fun q => D.ref q.1).reverse ++ [.ref o] := by
  unfold WkX.KL; rw [List.map_cons, List.reverse_cons]
theorem FL_push {x : Addr} {tc : List (Addr × List Th)} {pu : List (Addr × Pus)} {bk : List (Addr × Addr × Ba)} {o dx n : Addr} {f : Fa} {r : List (Addr × Addr × Addr × Fa)} : WkX.FL ⟨x, tc, pu, (o, dx, n, f) :: r, bk⟩ = (r.map fun q => D.ref q.1).reverse ++ [.ref o] := by
  unfold WkX.FL; rw [List.map_cons, List.reverse_cons]
theorem TL_push {x : Addr} {pu : List (Addr × Pus)} {fr : List (Addr × Addr × Addr × Fa)} {bk : List (Addr × Addr × Ba)} {q : Addr} {t : List Th} {r : List (Addr × List Th)} : WkX.TL ⟨x, (q, t) :: r, pu, fr, bk⟩ = (r.map fun q => D.ref q.1).reverse ++ [.ref q] := by
  unfold WkX.TL; rw [List.map_cons, List.reverse_cons]
theorem PL_push {x : Addr} {tc : List (Addr × List Th)} {fr : List (Addr × Addr × Addr × Fa)} {bk : List (Addr × Addr × Ba)} {q : Addr} {t : Pus} {r : List (Addr × Pus)} : WkX.PL ⟨x, tc, (q, t) :: r, fr, bk⟩ = (r.map fun q => D.ref q.1).reverse ++ [.ref q] := by
  unfold WkX.PL; rw [List.map_cons, List.reverse_cons]
/-- a block stands anew -/
theorem WkS.push_ (h : WkS A C c M0 M X s) {M' : MH} {o dx : Addr} {b : Ba} (hc : Cel M0 M' ((o, bkO C (o, dx, b)) :: A.cells C c X s)) :
    WkS A C c M0 (mup M' A.k (.lst (X.KL ++ [.ref o]))) { X with bk := (o, dx, b) :: X.bk } { s with bks := b :: s.bks } := by
  refine ⟨?_, h.tcs, h.pus, h.frs, by rw [List.map_cons, h.bks]⟩
  rw [show X.KL ++ [.ref o] = WkX.KL { X with bk := (o, dx, b) :: X.bk } from KL_push.symm]
  have h2 := hc.set_ 11 (a := A.k) (o' := .lst (WkX.KL { X with bk := (o, dx, b) :: X.bk })) rfl
  have h3 : Cel M0 _ ((o, bkO C (o, dx, b)) :: (A.fix C c { X with bk := (o, dx, b) :: X.bk } s ++ (X.tc.map tcC ++ (X.pu.map puC ++ (X.fr.flatMap (frC C) ++ X.bk.map (bkC C)))))) := h2
  exact h3.perm (pm1.trans (List.Perm.append_left _ (pm1.trans (List.Perm.append_left _ (pm1.trans (List.Perm.append_left _ pm1))))))
/-- a frame stands anew -/
theorem WkS.pushF_ (h : WkS A C c M0 M X s) {M' : MH} {o dx n : Addr} {f : Fa} (hc : Cel M0 M' ((o, frO C (o, dx, n, f)) :: (n, .dK (nmsD f.names)) :: A.cells C c X s)) :
    WkS A C c M0 (mup M' A.f (.lst (X.FL ++ [.ref o]))) { X with fr := (o, dx, n, f) :: X.fr } { s with frs := f :: s.frs } := by
  refine ⟨?_, h.tcs, h.pus, by rw [List.map_cons, h.frs], h.bks⟩
  rw [show X.FL ++ [.ref o] = WkX.FL { X with fr := (o, dx, n, f) :: X.fr } from FL_push.symm]
  have h2 := hc.set_ 11 (a := A.f) (o' := .lst (WkX.FL { X with fr := (o, dx, n, f) :: X.fr })) rfl
  have h3 : Cel M0 _ ((o, frO C (o, dx, n, f)) :: ((n, .dK (nmsD f.names)) :: (A.fix C c { X with fr := (o, dx, n, f) :: X.fr } s ++ (X.tc.map tcC ++ (X.pu.map puC ++ (X.fr.flatMap (frC C) ++ X.bk.map (bkC C))))))) := h2
  have one : ∀ (a : Addr × MO) (K : List (Addr × MO)), (a :: (A.fix C c { X with fr := (o, dx, n, f) :: X.fr } s ++ (X.tc.map tcC ++ (X.pu.map puC ++ K)))).Perm (A.fix C c { X with fr := (o, dx, n, f) :: X.fr } s ++ (X.tc.map tcC ++ (X.pu.map puC ++ a :: K))) :=
    fun a K => pm1.trans (List.Perm.append_left _ (pm1.trans (List.Perm.append_left _ pm1)))
  exact h3.perm (((one _ _).cons _).trans (one _ _))
theorem WkS.pushT_ (h : WkS A C c M0 M X s) {M' : MH} {q : Addr} {t : List Th} (hc : Cel M0 M' ((q, .lst (t.map Th.d)) :: A.cells C c X s)) :
    WkS A C c M0 (mup M' A.T (.lst (X.TL ++ [.ref q]))) { X with tc := (q, t) :: X.tc } { s with tcs := t :: s.tcs } := by
  refine ⟨?_, by rw [List.map_cons, h.tcs], h.pus, h.frs, h.bks⟩
  rw [show X.TL ++ [.ref q] = WkX.TL { X with tc := (q, t) :: X.tc } from TL_push.symm]
  have h2 := hc.set_ 7 (a := A.T) (o' := .lst (WkX.TL { X with tc := (q, t) :: X.tc })) rfl
  have h3 : Cel M0 _ ((q, .lst (t.map Th.d)) :: (A.fix C c { X with tc := (q, t) :: X.tc } s ++ (X.tc.map tcC ++ (X.pu.map puC ++ (X.fr.flatMap (frC C) ++ X.bk.map (bkC C)))))) := h2
  exact h3.perm pm1
theorem WkS.pushP_ (h : WkS A C c M0 M X s) {M' : MH} {q : Addr} {t : Pus} (hc : Cel M0 M' ((q, .dK (pusD t)) :: A.cells C c X s)) :
    WkS A C c M0 (mup M' A.P (.lst (X.PL ++ [.ref q]))) { X with pu := (q, t) :: X.pu } { s with pus := t :: s.pus } := by
  refine ⟨?_, h.tcs, by rw [List.map_cons, h.pus], h.frs, h.bks⟩
  rw [show X.PL ++ [.ref q] = WkX.PL { X with pu := (q, t) :: X.pu } from PL_push.symm]
  have h2 := hc.set_ 8 (a := A.P) (o' := .lst (WkX.PL { X with pu := (q, t) :: X.pu })) rfl
  have h3 : Cel M0 _ ((q, .dK (pusD t)) :: (A.fix C c { X with pu := (q, t) :: X.pu } s ++ (X.tc.map tcC ++ (X.pu.map puC ++ (X.fr.flatMap (frC C) ++ X.bk.map (bkC C)))))) := h2
  exact h3.perm (pm1.trans (List.Perm.append_left _ pm1))
/-- other boxes -/
theorem WkS.box_ (h : WkS A C c M0 M X s) {M' : MH} {x : Addr} {l : List Int} (hc : Cel M0 M' ((x, .lst (l.map .int)) :: A.cells C c X s)) :
    WkS A C c M0 (mup M' A.w (A.wO C c x s)) { X with x := x } { s with boxes := l } := by
  refine ⟨?_, h.tcs, h.pus, h.frs, h.bks⟩
  have h2 := hc.set_ 1 (a := A.w) (o' := A.wO C c x s) rfl
  have h3 : Cel M0 (mup M' A.w (A.wO C c x s)) ([(x, .lst (l.map .int)), (A.w, A.wO C c x s), (A.s, A.sO C s), (A.d, .dK (defsD c.pg)), (A.t, .lst (s.told.map .int)), (A.b, .lst (s.brought.map brD)), (A.l, .lst (s.lines.map .int)), (A.T, .lst X.TL), (A.P, .lst X.PL)] ++ (X.x, .lst (s.boxes.map .int)) :: ([(A.f, .lst X.FL), (A.k, .lst X.KL)] ++ (X.tc.map tcC ++ (X.pu.map puC ++ (X.fr.flatMap (frC C) ++ X.bk.map (bkC C)))))) := h2
  have h4 := h3.forget
  have h5 : Cel M0 (mup M' A.w (A.wO C c x s)) ((x, .lst (l.map .int)) :: ([(A.w, A.wO C c x s), (A.s, A.sO C s), (A.d, .dK (defsD c.pg)), (A.t, .lst (s.told.map .int)), (A.b, .lst (s.brought.map brD)), (A.l, .lst (s.lines.map .int)), (A.T, .lst X.TL), (A.P, .lst X.PL)] ++ ([(A.f, .lst X.FL), (A.k, .lst X.KL)] ++ (X.tc.map tcC ++ (X.pu.map puC ++ (X.fr.flatMap (frC C) ++ X.bk.map (bkC C))))))) := h4
  exact h5.perm pm1
/-! pops -/
theorem WkS.pop_ {x : Addr} {tc : List (Addr × List Th)} {pu : List (Addr × Pus)} {fr : List (Addr × Addr × Addr × Fa)} {o dx : Addr} {b : Ba} {r : List (Addr × Addr × Ba)} (h : WkS A C c M0 M ⟨x, tc, pu, fr, (o, dx, b) :: r⟩ s) :
    WkS A C c M0 (mup M A.k (.lst (r.map fun q => D.ref q.1).reverse)) ⟨x, tc, pu, fr, r⟩ { s with bks := r.map (·.2.2) } ∧ (mup M A.k (.lst (r.map fun q => D.ref q.1).reverse)) o = some (bkO C (o, dx, b)) := by
  have h2 := h.cel.set_ 10 (a := A.k) (o' := .lst (r.map fun q => D.ref q.1).reverse) rfl
  have h3 : Cel M0 (mup M A.k (.lst (r.map fun q => D.ref q.1).reverse)) ((A.fix C c ⟨x, tc, pu, fr, r⟩ s ++ (tc.map tcC ++ (pu.map puC ++ fr.flatMap (frC C)))) ++ (o, bkO C (o, dx, b)) :: r.map (bkC C)) := by
    simp only [List.append_assoc]
    exact h2
  have h4 := h3.forget
  simp only [List.append_assoc] at h4
  exact ⟨⟨h4, h.tcs, h.pus, h.frs, rfl⟩, h3.here⟩
theorem WkS.popF_ {x : Addr} {tc : List (Addr × List Th)} {pu : List (Addr × Pus)} {bk : List (Addr × Addr × Ba)} {o dx n : Addr} {f : Fa} {r : List (Addr × Addr × Addr × Fa)} (h : WkS A C c M0 M ⟨x, tc, pu, (o, dx, n, f) :: r, bk⟩ s) :
    WkS A C c M0 (mup M A.f (.lst (r.map fun q => D.ref q.1).reverse)) ⟨x, tc, pu, r, bk⟩ { s with frs := r.map (·.2.2.2) } ∧ (mup M A.f (.lst (r.map fun q => D.ref q.1).reverse)) o = some (frO C (o, dx, n, f)) := by
  have h2 := h.cel.set_ 9 (a := A.f) (o' := .lst (r.map fun q => D.ref q.1).reverse) rfl
  have h3 : Cel M0 (mup M A.f (.lst (r.map fun q => D.ref q.1).reverse)) ((A.fix C c ⟨x, tc, pu, r, bk⟩ s ++ (tc.map tcC ++ pu.map puC)) ++ (o, frO C (o, dx, n, f)) :: ((n, .dK (nmsD f.names)) :: (r.flatMap (frC C) ++ bk.map (bkC C)))) := by
    simp only [List.append_assoc]
    exact h2
  have h4 := (Cel.forget (pre := A.fix C c ⟨x, tc, pu, r, bk⟩ s ++ (tc.map tcC ++ pu.map puC)) h3.forget)
  simp only [List.append_assoc] at h4
  exact ⟨⟨h4, h.tcs, h.pus, rfl, h.bks⟩, h3.here⟩
theorem WkS.forget (h : WkS A C c M0 M X s) : ∀ a o, M0 a = some o → M a = some o := h.cel.old
end
end Tl
set_option maxHeartbeats 2000000
namespace Tl
open PySem PySem.Spec PyProof.Rows L2
/-! ### a lane alone: states told plainly -/
section
variable {s : Ws}
theorem give_eq {f : Fa} {r : List Fa} (h : s.frs = f :: r) {x : Str} {v : Int} : s.give x v = { s with frs := { f with names := putN f.names x v } :: r } := by
  unfold Ws.give; rw [h]
theorem names_eq {f : Fa} {r : List Fa} (h : s.frs = f :: r) : s.names = f.names := by unfold Ws.names; rw [h]
theorem next_eq {b : Ba} {r : List Ba} (h : s.bks = b :: r) : s.next = { s with bks := { b with at_ := b.at_ + 1 } :: r } := by
  unfold Ws.next; rw [h]
theorem touch_eq {t : List Th} {r : List (List Th)} (h : s.tcs = t :: r) {l : List Th} : s.touch l = { s with tcs := (t ++ l) :: r } := by
  unfold Ws.touch; rw [h]
theorem out_eq0 {f : Fa} (h : s.frs = [f]) {v : Int} : s.out v = { s with bks := leaveF .df s.bks, frs := [], fin := some (.done, f.last) } := by
  unfold Ws.out; rw [h]; rfl
theorem out_eq1 {f : Fa} {r : List Fa} (h : s.frs = f :: r) (hr : r ≠ []) {v : Int} : s.out v = ({ s with bks := leaveF .df s.bks, frs := r } : Ws).give f.taker v := by
  unfold Ws.out; rw [h]; exact if_neg hr
theorem leave_eq {y : Wy} {r : List Ba} (h : leaveF y s.bks = r) : s.leave y = { s with bks := r } := by
  unfold Ws.leave; rw [h]
theorem touch_boxes {t : List Th} : (s.touch t).boxes = s.boxes := by unfold Ws.touch; split <;> rfl
theorem touch_frs {t : List Th} : (s.touch t).frs = s.frs := by unfold Ws.touch; split <;> rfl
theorem touch_names {t : List Th} : (s.touch t).names = s.names := by unfold Ws.names; rw [touch_frs]
theorem touch_ne {t : List Th} (h : s.tcs ≠ []) : (s.touch t).tcs ≠ [] := by
  unfold Ws.touch
  split
  · exact h
  · exact List.cons_ne_nil _ _
theorem touch_len {t : List Th} {n m : Nat} (h : ∀ x ∈ s.tcs, x.length < n) (hm : t.length + n ≤ m) : ∀ x ∈ (s.touch t).tcs, x.length < m := by
  unfold Ws.touch
  split
  · exact fun x hx => Nat.lt_of_lt_of_le (h x hx) (by omega)
  · rename_i c r e
    intro x hx
    rcases List.mem_cons.mp hx with rfl | hx
    · have := h c (by rw [e]; exact List.mem_cons_self ..)
      rw [List.length_append]; omega
    · exact Nat.lt_of_lt_of_le (h x (by rw [e]; exact List.mem_cons_of_mem _ hx)) (by omega)
theorem rdT_app {l : Int} {a b : List Int} : rdT l (a ++ b) = rdT l a ++ rdT l b := by unfold rdT; rw [List.map_append]
theorem wy_inj {a b : Wy} : (a.s = b.s) = (a = b) := by
  apply propext
  cases a <;> cases b <;> simp only [Wy.s, ofS_inj, String.reduceEq, reduceCtorEq]
theorem leave_hit {y : Wy} {b : Ba} {r : List Ba} (h : b.why = y) : leaveF y (b :: r) = r := if_pos h
theorem leave_miss {y : Wy} {b : Ba} {r : List Ba} (h : ¬ b.why = y) : leaveF y (b :: r) = leaveF y r := if_neg h
theorem has_wh : ∀ {bs : List Ba}, inW bs → ∃ b ∈ bs, b.why = .wh
  | b :: r, h => by
    rcases h with h | ⟨_, h⟩
    · exact ⟨b, List.mem_cons_self .., h⟩
    · obtain ⟨b', h1, h2⟩ := has_wh h
      exact ⟨b', List.mem_cons_of_mem _ h1, h2⟩
theorem has_df : ∀ {bs : List Ba}, nDf bs ≠ 0 → ∃ b ∈ bs, b.why = .df
  | [], h => absurd rfl h
  | b :: r, h => by
    by_cases e : b.why = .df
    · exact ⟨b, List.mem_cons_self .., e⟩
    · rw [show nDf (b :: r) = (if b.why = .df then 1 else 0) + nDf r from rfl, if_neg e, Nat.zero_add] at h
      obtain ⟨b', h1, h2⟩ := has_df h
      exact ⟨b', List.mem_cons_of_mem _ h1, h2⟩
theorem wk_pop {A : WkA} {C : WkC} {c : Lc} {M0 M : MH} {b : Ba} {r : List Ba} (h : WkE A C c M0 M s) (hb : s.bks = b :: r) :
    ∃ L o, M A.k = some (.lst (L ++ [.ref o])) ∧ ∃ dx, WkE A C c M0 (mup M A.k (.lst L)) { s with bks := r } ∧ (mup M A.k (.lst L)) o = some (.obj C.B dx C.fB [.lst (stD b.body), .int b.at_, .str b.why.s]) := by
  obtain ⟨⟨x, tc, pu, fr, bk⟩, hs⟩ := h
  have hbk := hs.bks
  rw [hb] at hbk
  cases bk with
  | nil => cases hbk
  | cons e t =>
    obtain ⟨o, dx, b'⟩ := e
    cases hbk
    have hk := hs.k_
    rw [KL_push] at hk
    have h2 := hs.pop_
    exact ⟨_, o, hk, dx, ⟨_, h2.1⟩, h2.2⟩
theorem wk_popF {A : WkA} {C : WkC} {c : Lc} {M0 M : MH} {f : Fa} {r : List Fa} (h : WkE A C c M0 M s) (hb : s.frs = f :: r) :
    ∃ L o, M A.f = some (.lst (L ++ [.ref o])) ∧ L.length = r.length ∧ ∃ dx n, WkE A C c M0 (mup M A.f (.lst L)) { s with frs := r } ∧ (mup M A.f (.lst L)) o = some (.obj C.F dx C.fF [.ref n, .int f.last, .str f.taker]) := by
  obtain ⟨⟨x, tc, pu, fr, bk⟩, hs⟩ := h
  have hbk := hs.frs
  rw [hb] at hbk
  cases fr with
  | nil => cases hbk
  | cons e t =>
    obtain ⟨o, dx, n, f'⟩ := e
    cases hbk
    have hk := hs.f_
    rw [FL_push] at hk
    have h2 := hs.popF_
    exact ⟨_, o, hk, by rw [List.length_reverse, List.length_map, List.length_map], dx, n, ⟨_, h2.1⟩, h2.2⟩
end
theorem last_app {L : List D} {y : D} : (L ++ [y]).getLast? = some y := by rw [List.getLast?_append, List.getLast?_singleton, Option.some_or]
/-! a list beside the walker -/
theorem Cel.over {M0 M : MH} {cs : List (Addr × MO)} {p : Addr} {o : MO} (h : Cel (mup M0 p o) M cs) (hp : M0 p = none) : Cel M0 M ((p, o) :: cs) := by
  have hne : ∀ c ∈ cs, c.1 ≠ p := fun c hc e => by have := h.new c hc; rw [e, mup_same] at this; cases this
  refine ⟨?_, fun c hc => ?_, fun a u e => ?_, fun c hc => ?_⟩
  · rw [List.map_cons, List.nodup_cons]
    refine ⟨fun hm => ?_, h.nd⟩
    obtain ⟨c, hc, e⟩ := List.mem_map.mp hm
    exact hne c hc e
  · rcases List.mem_cons.mp hc with rfl | hc
    · exact h.old p o mup_same
    · exact h.at_ c hc
  · refine h.old a u ?_
    rw [mup_ne (by rintro rfl; rw [hp] at e; cases e)]
    exact e
  · rcases List.mem_cons.mp hc with rfl | hc
    · exact hp
    · have := h.new c hc
      rw [mup_ne (hne c hc)] at this
      exact this
section
variable {A : WkA} {C : WkC} {c : Lc} {M0 M : MH} {s : Ws} {p : Addr} {o o' : MO}
theorem WkE.lift (h : WkE A C c M0 M s) (hp : M p = none) : WkE A C c (mup M0 p o) (mup M p o) s ∧ M0 p = none := by
  obtain ⟨X, h⟩ := h
  exact ⟨⟨X, h.cel.lift hp, h.tcs, h.pus, h.frs, h.bks⟩, h.cel.free hp⟩
theorem WkE.base (h : WkE A C c (mup M0 p o) M s) : WkE A C c (mup M0 p o') (mup M p o') s := by
  obtain ⟨X, h⟩ := h
  have := h.cel.base (o' := o') mup_same
  rw [mup_mup] at this
  exact ⟨X, this, h.tcs, h.pus, h.frs, h.bks⟩
theorem WkE.there (h : WkE A C c (mup M0 p o) M s) : M p = some o := by
  obtain ⟨X, h⟩ := h
  exact h.cel.old p o mup_same
theorem WkE.leave (h : WkE A C c (mup M0 p o) M s) (hp : M0 p = none) : WkE A C c M0 M s := by
  obtain ⟨X, h⟩ := h
  exact ⟨X, Cel.forget (pre := []) (h.cel.over hp), h.tcs, h.pus, h.frs, h.bks⟩
theorem WkE.del (h : WkE A C c (mup M0 p o) M s) (hp : M0 p = none) : WkE A C c M0 (mdel M p) s := by
  obtain ⟨X, h⟩ := h
  exact ⟨X, Cel.del (pre := []) (h.cel.over hp), h.tcs, h.pus, h.frs, h.bks⟩
theorem evEs_inr {ns : Nms} {bx : List Int} : ∀ (ys : List Ex) {rs : List Int} {vs : List Int} (e : Ex) (zs : List Ex), evEs c ns bx ys = (rs, .inr vs) →
    (∀ qs f, evE c ns bx e = (qs, .inl f) → evEs c ns bx (ys ++ e :: zs) = (rs ++ qs, .inl f)) ∧ (∀ qs v, evE c ns bx e = (qs, .inr v) → evEs c ns bx (ys ++ [e]) = (rs ++ qs, .inr (vs ++ [v])))
  | [], rs, vs, e, zs, h => by
    cases h
    refine ⟨fun qs f hq => ?_, fun qs v hq => ?_⟩
    · rw [List.nil_append, evEs_cons, hq]; rfl
    · rw [List.nil_append, evEs_cons, hq]
      show (qs ++ [], _) = _
      rw [List.append_nil]; rfl
  | y :: t, rs, vs, e, zs, h => by
    rw [evEs_cons] at h
    rcases hy : evE c ns bx y with ⟨r1, f | v1⟩
    · rw [hy] at h; cases h
    · rw [hy] at h
      dsimp only at h
      rcases ht : evEs c ns bx t with ⟨r2, f | vt⟩
      · rw [ht] at h; cases h
      · rw [ht] at h
        cases h
        have ih := evEs_inr t e zs ht
        refine ⟨fun qs f hq => ?_, fun qs v hq => ?_⟩
        · rw [List.cons_append, evEs_cons, hy, ih.1 qs f hq]
          dsimp only
          rw [List.append_assoc]
        · rw [List.cons_append, evEs_cons, hy, ih.2 qs v hq]
          dsimp only
          rw [List.append_assoc]; rfl
end
theorem defs_val : ∀ {pg : Pg} {f : Str}, (∃ o ∈ pg, o.name = f) → valD (defsD pg) (.inr f) = some (defOf pg f).d := by
  intro pg f h
  unfold valD defsD defOf
  rw [List.find?_map]
  have e : ((fun kv : Key × D => decide (kv.1 = (Sum.inr f : Key))) ∘ fun o : Df => ((Sum.inr o.name : Key), o.d)) = fun o : Df => decide (o.name = f) := by
    funext p
    simp
  rw [e]
  cases e : pg.find? fun o => decide (o.name = f) with
  | none =>
    obtain ⟨o, ho, hf⟩ := h
    have := List.find?_eq_none.mp e o ho
    simp [hf] at this
  | some o => rfl
theorem zip_ps (ps : List Str) (vs : List Int) : zipD (ps.map .str) (vs.map .int) = (ps.zip vs).map fun p => D.tup [.str p.1, .int p.2] := by
  unfold zipD
  induction ps generalizing vs with
  | nil => rfl
  | cons a t ih =>
    cases vs with
    | nil => rfl
    | cons v r =>
      rw [List.map_cons, List.map_cons, List.zipWith_cons_cons, ih, List.zip_cons_cons, List.map_cons]
theorem zipN_snoc {ps : List (Str × Int)} {p : Str × Int} : (ps ++ [p]).foldl (fun ns p => putN ns p.1 p.2) [] = putN (ps.foldl (fun ns p => putN ns p.1 p.2) []) p.1 p.2 := by rw [List.foldl_append]; rfl
theorem foldN_len (ps : List (Str × Int)) : (ps.foldl (fun ns p => putN ns p.1 p.2) []).length ≤ ps.length := by
  have key : ∀ (l : List (Str × Int)) (ns : Nms), (l.foldl (fun ns p => putN ns p.1 p.2) ns).length ≤ ns.length + l.length := by
    intro l
    induction l with
    | nil => exact fun ns => Nat.le_refl _
    | cons x t ih =>
      intro ns
      have h3 := ih (putN ns x.1 x.2)
      refine Nat.le_trans h3 ?_
      have := putN_len ns x.1 x.2
      rw [List.length_cons]; omega
  have := key ps []
  rw [List.length_nil] at this
  omega
end Tl
set_option maxHeartbeats 2000000
namespace Tl
open PySem PySem.Spec PyProof.Rows L2
/-! ### a lane alone: letters -/
def numsO (os : List (Option Int)) : List Int := os.filterMap id
def joinF (z : Str) (os : List (Option Int)) (lane : Nat) : Int :=
  if z = "most" then ((numsO os).max?).getD 0 else if z = "least" then ((numsO os).min?).getD 0 else if z = "ahead" then wrapF (numsO (os.take lane)).sum else wrapF (numsO os).sum
structure Lt where
  line : D
  os : List (Option Int)
  bs : List Int
def optD : Option Int → D
  | none => .non
  | some n => .int n
def Lt.d (t : Lt) : D := .tup [t.line, .lst (t.os.map optD), .lst (t.bs.map .int)]
structure okLt (t : Lt) : Prop where
  os : t.os.length ≤ 1000
  ne : numsO t.os ≠ []
  rng : ∀ v ∈ numsO t.os, inR v
  bs : ∀ v ∈ t.bs, inR v
  bl : t.bs.length ≤ 1000
theorem join_most {os : List (Option Int)} {r : Int} (h1 : r ∈ numsO os) (h2 : ∀ y ∈ numsO os, y ≤ r) : ((numsO os).max?).getD 0 = r := by
  rw [List.max?_eq_some_iff.mpr ⟨h1, h2⟩]; rfl
theorem join_least {os : List (Option Int)} {r : Int} (h1 : r ∈ numsO os) (h2 : ∀ y ∈ numsO os, r ≤ y) : ((numsO os).min?).getD 0 = r := by
  rw [List.min?_eq_some_iff.mpr ⟨h1, h2⟩]; rfl
theorem join_in {z : Str} {os : List (Option Int)} {lane : Nat} (h : ∀ v ∈ numsO os, inR v) : inR (joinF z os lane) := by
  unfold joinF
  split
  · cases e : (numsO os).max? with
    | none => exact ⟨by decide, by decide⟩
    | some v => exact h v (List.max?_mem e)
  · split
    · cases e : (numsO os).min? with
      | none => exact ⟨by decide, by decide⟩
      | some v => exact h v (List.min?_mem e)
    · split <;> exact wrap_in _
def Ws.free (s : Ws) (bs : List Int) : Ws := { s with wait := none, boxes := bs, tcs := [] :: s.tcs, pus := [] :: s.pus }
def Ws.letOn (s : Ws) (c : Lc) (t : Lt) : Ws := match s.wait with
  | some (.join _ x w _) => (s.free t.bs).give x (joinF w t.os c.lane.toNat)
  | _ => s.free t.bs
section
variable {c : Lc} {s : Ws}
theorem okWn.free (h : okWn c 0 s) {d : Sm} (hw : s.wait = some d) {bs : List Int} (hb : ∀ v ∈ bs, inR v) (hl : bs.length ≤ 1000) : okWn c 0 (s.free bs) ∧ ∀ f ∈ (s.free bs).frs, f.names.length + (s.free bs).bks.length + 1 ≤ 1000 + (s.free bs).tcs.length + 2 * (s.free bs).steps := by
  refine ⟨{ h with bx := hb, bxl := hl
                   nms := fun f hf => ⟨(h.nms f hf).1, by have := (h.nms f hf).2; show f.names.length + s.bks.length + 0 ≤ 1000 + (s.tcs.length + 1) + 2 * s.steps; omega⟩
                   tcl := fun t ht => by
                    rcases List.mem_cons.mp ht with rfl | ht
                    · exact Nat.zero_le _
                    · exact h.tcl t ht
                   pul := fun t ht => by
                    rcases List.mem_cons.mp ht with rfl | ht
                    · exact Nat.zero_le _
                    · exact h.pul t ht
                   tcn := ⟨by show s.tcs.length + 1 = s.pus.length + 1; rw [h.tcn.1], List.cons_ne_nil _ _⟩
                   tcb := by have := h.tcb; rw [hw] at this; exact this
                   wf := fun e => by cases e
                   wd := fun d e => by cases e }, fun f hf => ?_⟩
  have := (h.nms f hf).2
  show f.names.length + s.bks.length + 1 ≤ 1000 + (s.tcs.length + 1) + 2 * s.steps
  omega
theorem okWn.letOn (h : okWn c 0 s) {d : Sm} (hw : s.wait = some d) {t : Lt} (ht : okLt t) : okWn c 0 (s.letOn c t) := by
  have h1 := h.free hw ht.bs ht.bl
  unfold Ws.letOn
  split
  · exact h1.1.giveN (join_in ht.rng) fun f r e => h1.2 f (by rw [e]; exact List.mem_cons_self ..)
  · exact h1.1
/-- all letters, one after another -/
def Ws.letters (c : Lc) : List Lt → Ws → Ws
  | [], s => s
  | t :: r, s => Ws.letters c r (if s.wait.isSome then (s.letOn c t).go c else s)
theorem letters_app (a b : List Lt) : ∀ s : Ws, s.letters c (a ++ b) = (s.letters c a).letters c b := by
  induction a with
  | nil => exact fun _ => rfl
  | cons t r ih => exact fun s => ih _
theorem okWn.letters (hc : okLc c) : ∀ (ls : List Lt) (s : Ws), okWs c s → (∀ t ∈ ls, okLt t) → okWs c (s.letters c ls)
  | [], s, h, _ => h
  | t :: r, s, h, ht => by
    refine okWn.letters hc r _ ?_ fun x hx => ht x (List.mem_cons_of_mem _ hx)
    split
    · rename_i hw
      obtain ⟨d, hd⟩ := Option.isSome_iff_exists.mp hw
      exact (go_ok hc (h.letOn hd (ht t (List.mem_cons_self ..)))).1
    · exact h
/-- the lane's beginning -/
def mainOf (pg : Pg) : Df := defOf pg (Str.ofString "main")
def start (c : Lc) (bs : List Int) : Ws := ⟨[], 0, none, [], [[]], [[]], [], bs, none, [⟨[], (mainOf c.pg).last, Str.ofString ""⟩], [⟨(mainOf c.pg).body, 0, .df⟩]⟩
def storyF (c : Lc) (bs : List Int) (ls : List Lt) : Ws := ((start c bs).go c).letters c ls
theorem start_ok (hc : okLc c) (hm : ∃ o ∈ c.pg, o.name = Str.ofString "main") {bs : List Int} (hb : ∀ v ∈ bs, inR v) (hl : bs.length ≤ 1000) : okWs c (start c bs) where
  bk := ⟨⟨False, False.elim, (hc.df _ (defOf_mem hm).1).2⟩, fun _ => rfl, trivial⟩
  nd := rfl
  fr6 := by show 1 ≤ 6; decide
  run := fun _ => List.cons_ne_nil _ _
  nms := fun f hf => by
    rw [List.mem_singleton.mp hf]
    exact ⟨fun p hp => by (cases hp), by show 0 + 1 + 0 ≤ 1000 + 1 + 2 * 0; decide⟩
  bx := hb
  bxl := hl
  st := Nat.zero_le _
  told := Nat.le_refl _
  lines := rfl
  brt := Nat.le_refl _
  tcl := fun t ht => by rw [List.mem_singleton.mp ht]; exact Nat.zero_le _
  pul := fun t ht => by rw [List.mem_singleton.mp ht]; exact Nat.zero_le _
  tcn := ⟨rfl, List.cons_ne_nil _ _⟩
  bkl := Nat.le_refl _
  tcb := Nat.le_refl _
  wf := fun e => by cases e
  wd := fun d e => by cases e
end
/-! the story, when the lane is done -/
def WkA.story (A : WkA) (C : WkC) (X : WkX) (s : Ws) : List (Addr × MO) :=
  [(A.s, A.sO C s), (A.t, .lst (s.told.map .int)), (A.b, .lst (s.brought.map brD)), (A.l, .lst (s.lines.map .int)), (A.T, .lst X.TL), (A.P, .lst X.PL)] ++ (X.tc.map tcC ++ X.pu.map puC)
theorem defs_put {ys : Pg} {o : Df} (h : o.name ∉ ys.map (·.name)) : putM (defsD ys) (.inr o.name) o.d = defsD (ys ++ [o]) := by
  unfold putM
  have e : (defsD ys).any (fun kv => decide (kv.1 = (Sum.inr o.name : Key))) = false := by
    rw [List.any_eq_false]
    intro kv hk
    unfold defsD at hk
    obtain ⟨x, hx, rfl⟩ := List.mem_map.mp hk
    intro e
    have e2 := of_decide_eq_true e
    dsimp only at e2
    exact h (List.mem_map.mpr ⟨x, hx, Sum.inr.inj e2⟩)
  rw [e, if_neg (by decide)]
  unfold defsD
  rw [List.map_append]; rfl
theorem Cel.sub {M0 M : MH} {cs ds : List (Addr × MO)} (h : Cel M0 M cs) (hd : ds.Sublist cs) : Cel M0 M ds :=
  ⟨(hd.map _).nodup h.nd, fun c hc => h.at_ c (hd.subset hc), h.old, fun c hc => h.new c (hd.subset hc)⟩
def StoE (A : WkA) (C : WkC) (M0 M : MH) (s : Ws) : Prop := ∃ X : WkX, Cel M0 M (A.story C X s) ∧ s.tcs = X.tc.map (·.2) ∧ s.pus = X.pu.map (·.2)
theorem WkE.story {A : WkA} {C : WkC} {c : Lc} {M0 M : MH} {s : Ws} (h : WkE A C c M0 M s) : StoE A C M0 M s := by
  obtain ⟨X, h⟩ := h
  refine ⟨X, h.cel.sub ?_, h.tcs, h.pus⟩
  unfold WkA.story WkA.cells WkA.fix
  refine List.Sublist.append ?_ (List.Sublist.append (List.Sublist.refl _) (List.sublist_append_left _ _))
  exact .cons _ (.cons₂ _ (.cons _ (.cons₂ _ (.cons₂ _ (.cons₂ _ (.cons₂ _ (.cons₂ _ (.cons _ (.cons _ (.cons _ .slnil))))))))))
end Tl
set_option maxHeartbeats 2000000
namespace Tl
open PySem PySem.Spec PyProof.Rows L2
/-! ### == of lists of dicts of whole numbers that hold the same -/
def sameDk (H : Hp) (p q : V) : Prop := ∃ c d kv, p = .ref c ∧ q = .ref d ∧ H c = some (.dK kv) ∧ H d = some (.dK kv) ∧ (kv.map (·.1)).Nodup ∧ ∀ z ∈ kv, ∃ i, z.2 = .int i
def rEqPu (K : PySem.W.Frag) : R2 := fun x y H Q => ∃ (a b : Addr) (xs ys : List V), x = .ref a ∧ y = .ref b ∧ SqL K H a xs ∧ SqL K H b ys ∧ xs.length = ys.length ∧ (∀ (j : Nat) (p q : V), xs[j]? = some p → ys[j]? = some q → sameDk H p q) ∧ Q (.bl true) H
theorem valV_of {kv : List (Key × V)} {k : Key} {z : V} (nd : (kv.map (·.1)).Nodup) (h : (k, z) ∈ kv) : valV kv k = some z := by
  unfold valV
  induction kv with
  | nil => cases h
  | cons p t ih =>
    rw [List.map_cons, List.nodup_cons] at nd
    rcases List.mem_cons.mp h with e | h
    · subst e
      rw [List.find?_cons_of_pos (by simp)]; rfl
    · rw [List.find?_cons_of_neg ?_]
      · exact ih nd.2 h
      · intro e
        have e2 := of_decide_eq_true e
        exact nd.1 (by rw [e2]; exact List.mem_map.mpr ⟨(k, z), h, rfl⟩)
theorem kv_mem {kvs : List (Key × V)} {vs : List (Key × Value)} (r : KV kvs vs) {k : Key} {v : Value} (h : (k, v) ∈ vs) : ∃ z, (k, z) ∈ kvs ∧ RelV z v := by
  unfold KV at r
  induction r with
  | nil => cases h
  | @cons p q ps qs h1 t ih =>
    rcases List.mem_cons.mp h with e | h
    · subst e
      obtain ⟨e1, e2⟩ := h1
      refine ⟨p.2, ?_, e2⟩
      rw [show k = p.1 from e1.symm]
      exact List.mem_cons_self ..
    · obtain ⟨z, h2, h3⟩ := ih h
      exact ⟨z, List.mem_cons_of_mem _ h2, h3⟩
theorem op_eqPu {X : Cx} (hu : X.A.units + 64 < cLine) : OpR X (compareOp .Eq) (rEqPu X.K) := by
  intro pins s σ H x y v u Q I rx ry h
  obtain ⟨a, b, xs, ys, rfl, rfl, ha, hb, hlen, hall, q⟩ := h
  obtain ⟨its, rv, ⟨o, n, ho, hc, _, hd⟩, _⟩ := I.list ha
  obtain ⟨its2, rv2, ⟨o2, n2, ho2, hc2, _, hd2⟩, _⟩ := I.list hb
  cases rx
  cases ry
  have hl1 : its.length = xs.length := rv.length.symm
  have hl2 : its2.length = ys.length := rv2.length.symm
  refine PySem.W.eq_listsT (n := 1) (e := fun _ => true) (vs := its.toArray) (vs' := its2.toArray) ⟨o, ho, hc, n, hd⟩ ⟨o2, ho2, hc2, n2, hd2⟩ (by simp; omega) (fun j h1 h2 => ?_) (by omega) ⟨.bl true, H, I, ?_, q⟩
  · have j1 : j < its.length := by simpa using h1
    have j2 : j < its2.length := by simpa using h2
    obtain ⟨c, d, kv, hp, hq, hc3, hd3, nd, hint⟩ := hall j (xs[j]'(by omega)) (ys[j]'(by omega)) (List.getElem?_eq_getElem _) (List.getElem?_eq_getElem _)
    obtain ⟨u1, e1, r1⟩ := rv.get (i := j) (x := .ref c) (by rw [← hp]; exact List.getElem?_eq_getElem _)
    obtain ⟨u2, e2, r2⟩ := rv2.get (i := j) (x := .ref d) (by rw [← hq]; exact List.getElem?_eq_getElem _)
    cases r1
    cases r2
    have g1 : its.toArray[j] = .ref c := by
      have := List.getElem?_eq_some_iff.mp e1
      simpa using this.2
    have g2 : its2.toArray[j] = .ref d := by
      have := List.getElem?_eq_some_iff.mp e2
      simpa using this.2
    rw [g1, g2]
    by_cases hcd : c = d
    · rw [hcd]; exact .same
    · obtain ⟨_, lo1, ka, k1, da⟩ := dk_of I.hok hc3
      obtain ⟨_, lo2, kb, k2, db⟩ := dk_of I.hok hd3
      have t := PySem.W.EqTree.dicts (prog := X.prog) (w := X.w) (n := 0) (e := fun _ => true) hcd lo1 lo2 da db (fun k v y hm hv => by
        obtain ⟨z, hz, rz⟩ := kv_mem k1 hm
        have hz2 := valV_of nd hz
        have r3 := k2.val k
        rw [hz2, hv] at r3
        obtain ⟨i, hi⟩ := hint _ hz
        dsimp only at hi
        subst hi
        obtain ⟨t1, rfl⟩ := rz
        obtain ⟨t2, rfl⟩ := r3
        refine .leaf fun A _ => ?_
        have := SeqAt.EqAt.int_int (A := A) (s := s) i t1 i t2
        simpa using this)
      have e3 : (ka.length == kb.length && ka.all fun p => (valueAt kb p.1).isSome && true) = true := by
        have l1 := Paired.length k1
        have l2 := Paired.length k2
        rw [Bool.and_eq_true, beq_iff_eq]
        refine ⟨by omega, ?_⟩
        rw [List.all_eq_true]
        rintro ⟨k, v⟩ hm
        obtain ⟨z, hz, rz⟩ := kv_mem k1 hm
        have hz2 := valV_of nd hz
        have r3 := k2.val k
        rw [hz2] at r3
        cases hv : valueAt kb k with
        | none => rw [hv] at r3; exact r3.elim
        | some y => rfl
      rw [e3] at t
      exact t
  · rw [show ((List.range its.toArray.size).all fun _ => true) = true from by simp]
    rfl
/-! in the tree layer -/
def isPus (M : MH) (l : List D) (ks : List Pus) : Prop := Paired (fun d (k : Pus) => ∃ c, d = .ref c ∧ M c = some (.dK (pusD k)) ∧ (k.map (·.1)).Nodup) l ks
def bEqPu : R2t := fun x y M Q => ∃ l m ks, lstOf M x = some l ∧ lstOf M y = some m ∧ isPus M l ks ∧ isPus M m ks ∧ Q (.bl true) M
theorem pusD_v {K : PySem.W.Frag} {F : Hp} : ∀ {ks : List (Key × V)} {k : Pus}, Paired (fun (p : Key × V) (q : Key × D) => p.1 = q.1 ∧ Rp K F p.2 q.2) ks (pusD k) → ks = k.map fun p => (.inl p.1, .int p.2)
  | [], [], _ => rfl
  | p :: t, q :: r, h => by
    cases h with
    | cons h1 h2 =>
      obtain ⟨e1, e2⟩ := h1
      rw [List.map_cons, ← pusD_v h2]
      obtain ⟨p1, p2⟩ := p
      dsimp only at e1 e2
      subst e1
      cases e2
      rfl
theorem isPus.get {M : MH} : ∀ {l : List D} {ks : List Pus} {j : Nat} {d : D}, isPus M l ks → l[j]? = some d → ∃ k c, ks[j]? = some k ∧ d = .ref c ∧ M c = some (.dK (pusD k)) ∧ (k.map (·.1)).Nodup := by
  intro l ks j d h
  unfold isPus at h
  induction h generalizing j with
  | nil => intro e; cases e
  | @cons a b as bs h1 t ih =>
    intro e
    cases j with
    | zero =>
      rw [List.getElem?_cons_zero] at e
      cases e
      obtain ⟨c, e1, e2, e3⟩ := h1
      exact ⟨b, c, rfl, e1, e2, e3⟩
    | succ j =>
      rw [List.getElem?_cons_succ] at e
      exact ih e
theorem isPus.length {M : MH} {l : List D} {ks : List Pus} (h : isPus M l ks) : l.length = ks.length := Paired.length h
theorem oq_eqPu {X : Cx} (hu : X.A.units + 64 < cLine) : OpQ X (compareOp .Eq) bEqPu := OpRimp (op_eqPu hu) (by
  rintro x y H Q ⟨G, F, M, dx, dy, Qt, R, px, py, ⟨l, m, ks, hl, hm, il, im, h⟩, k⟩
  obtain ⟨a, vs, rfl, sa, ra⟩ := lst_of R px hl
  obtain ⟨b, us, rfl, sb, rb⟩ := lst_of R py hm
  refine ⟨a, b, vs, us, rfl, rfl, sa, sb, by rw [ra.length, rb.length, il.length, im.length], fun j p q hp hq => ?_, k _ F H M _ (Same.refl _) R (.bl _) h⟩
  obtain ⟨d1, e1, r1⟩ := ra.get hp
  obtain ⟨d2, e2, r2⟩ := rb.get hq
  obtain ⟨k1, c1, f1, rfl, g1, n1⟩ := il.get e1
  obtain ⟨k2, c2, f2, rfl, g2, n2⟩ := im.get e2
  rw [f1] at f2
  cases f2
  cases r1
  cases r2
  obtain ⟨_, u1, hu1, o1⟩ := R.chg c1 _ g1
  obtain ⟨_, u2, hu2, o2⟩ := R.chg c2 _ g2
  cases u1 with
  | dK v1 =>
    cases u2 with
    | dK v2 =>
      have w1 := pusD_v o1
      have w2 := pusD_v o2
      subst w1
      subst w2
      refine ⟨c1, c2, _, rfl, rfl, hu1, hu2, ?_, ?_⟩
      · rw [List.map_map]
        rw [show ((fun x : Key × V => x.1) ∘ fun p : Int × Int => ((Sum.inl p.1 : Key), V.int p.2)) = (fun i : Int => (Sum.inl i : Key)) ∘ fun p : Int × Int => p.1 from rfl, ← List.map_map]
        exact List.Pairwise.map _ (fun a b hab e => hab (Sum.inl.inj e)) n1
      · intro z hz
        obtain ⟨p, _, rfl⟩ := List.mem_map.mp hz
        exact ⟨p.2, rfl⟩
    | _ => exact (o2 : False).elim
  | _ => exact (o1 : False).elim)
end Tl
set_option maxHeartbeats 2000000
namespace Tl
open PySem PySem.Spec PyProof.Rows L2
/-! ### a law whose def calls repr: what it promises where the law's caller stands (no repr is under way) -/
structure FnAt (P : Program) (w : World) (K : PySem.W.Frag) (mg : Str → Option Value) (base : Heap) (f : Addr) (ps : List Str) (fd : FuncData) (sp : Sp) : Prop where
  run : ∀ (s : Shared) (H : Hp) (args : Args) (us : List Value) (vs : List V) (Q : VK) (E : XK), Env0 P w K mg base callerA [] s H → BindsTo s fd args (ps.zip us) → Vals vs us → sp vs H Q E →
    codeAny (model P w) callerA (.call (.ref f) args) (CR CX0 [] P w H s Q E) s
theorem FnAt.of {P : Program} {w : World} {K : PySem.W.Frag} {mg : Str → Option Value} {base : Heap} {k : Nat} {x qual : Str} {params : Arguments} {body : List Stmt} {scope : Scope} {f : Addr} {fd : FuncData} {N ps : List Str} {sp : Sp}
    (F : FunD K x qual params body scope [] [] f fd) (S : FnScope N ps scope) (hr : Room (k + 1) callerA) (len : ∀ vs H Q E, sp vs H Q E → vs.length = ps.length)
    (hbody : ∀ (cdv : Value) (s : Shared) (H : Hp) (vs : List V) (Q : VK) (E : XK), Room k (callerA.deeper (envOfC qual scope s.heap.objs.size f cdv)) → sp vs H Q E →
      ∃ t, PSs (cxOf CX0 P w K mg base N qual scope f cdv callerA [] s H E) body t ∧ t { nx := fun _ H' => Q .non H', rt := Q } (L2.start N vs) H) : FnAt P w K mg base f ps fd sp := by
  obtain ⟨oc, od, dV, kV, doc, pm, an, cdv, ct, osl, rfl, lk, hcd, _, _⟩ := F.ex
  refine ⟨fun s H args us vs Q E e0 hb r hsp => ?_⟩
  have hl := len _ _ _ _ hsp
  have KX : K.In s.heap := e0.mod.kin.keeps fun b o e => (e0.bs b o e).1
  have lim : s.heap.NoLimit := e0.mod.nolimit.keeps fun b o e => (e0.bs b o e).1
  refine codeAny_call_function hr.depth (KX _ _ lk) rfl S.co S.gen rfl (PySem.W.codeRec_of KX hcd) (hb _ _ _ _ ?_)
  refine wpAny_newFunctionEnv_cells S.kind (fun ⟨n, v⟩ hy => ?_) fun env he s1 hx => ?_
  · rcases S.par n (List.of_mem_zip hy).1 with q | q
    · exact .inl q
    · exact .inr ⟨q, PySem.W.cellsFrom_some _ _ _ (.inl q)⟩
  subst he
  refine ⟨lim.keeps hx.toInCall.keep, codeAny_func ?_⟩
  obtain ⟨t, ht, hq⟩ := hbody cdv s H vs Q E (hr.deeper _) hsp
  refine wpAny_mono (ht.run [] s1 (L2.start N vs) H _ (inv_start S hr.hd e0 hl r hx) hq) (fun fl s' hs => ?_) fun e s' hs => hs
  cases fl with
  | ret u => obtain ⟨v, σ', H', J, rv, q⟩ := hs; exact ⟨v, H', J.os, J.bare, J.base, J.hok, rv, q⟩
  | next => obtain ⟨σ', H', J, q⟩ := hs; exact ⟨V.non, H', J.os, J.bare, J.base, J.hok, rfl, q⟩
  | brk => obtain ⟨_, _, _, q⟩ := hs; exact False.elim q
  | cont => obtain ⟨_, _, _, q⟩ := hs; exact False.elim q
/-- the script's abstract heap: nothing is tracked but, at most, the script -/
theorem law_at {P : Program} {w : World} {K : PySem.W.Frag} {mg mb : Str → Option Value} {fa a : Addr} {fd : FuncData} {x : Str} {sp : Sp} {s₁ : Shared} {vs : List Value} {ns : List Int}
    (KX : K.In s₁.heap) (hns : s₁.heap.Ns mainGlobals mg) (hb : s₁.heap.Ns builtinsNs mb) (hbb : ∀ x : Str, x ≠ "__name__" → mb x = bootBuiltins x) (hlim : s₁.heap.NoLimit) (hg : s₁.gens = #[])
    (ha : s₁.heap.get? a = some { cls := .type "list", data := .seq vs.toArray }) (hi : IntsAre vs ns) (hl : ns.length ≤ sizeLine)
    (F : ∀ base : Heap, K.In base → base.Ns mainGlobals mg → FnAt P w K mg base fa [x] fd sp) (hbind : ∀ (s : Shared) (u : Value), BindsTo s fd ⟨[u], []⟩ [(x, u)])
    (hsp : ∀ H : Hp, Only H → SqL K H a (ns.map V.int) → sp [.ref a] H (fun v _ => v = .bl true) fun _ _ _ => False) :
    codeAny (model P w) callerA (.call (.ref fa) ⟨[.ref a], []⟩) (fun r s' => r = .ok (.ret (.bool true)) ∧ OldK s₁.heap s'.heap ∧ s'.os = s₁.os ∧ AllBare s'.gens) s₁ := by
  have rv := vals_ints hi
  have go : ∀ H : Hp, Only H → SqL K H a (ns.map V.int) → HOk P w H s₁.heap → (∀ b, H b ≠ none → b = a) → (H a ≠ none → K.lookup a = none) →
      codeAny (model P w) callerA (.call (.ref fa) ⟨[.ref a], []⟩) (fun r s' => r = .ok (.ret (.bool true)) ∧ OldK s₁.heap s'.heap ∧ s'.os = s₁.os ∧ AllBare s'.gens) s₁ := by
    intro H hO hS hok hA hK
    have untr : ∀ b, b ≠ a → H b = none := fun b hne => by
      cases q : H b with
      | none => rfl
      | some u => exact absurd (hA b (by rw [q]; exact Option.some_ne_none u)) hne
    have dict0 : ∀ {b : Addr} {o : Obj} {es : Array DictEntry} {ep : Nat}, s₁.heap.get? b = some o → o.data = .dict es ep → H b = none := fun {b o es ep} e d => by
      by_cases hne : b = a
      · subst hne
        rw [ha] at e
        cases e
        exact nomatch (show Data.seq vs.toArray _ = Data.dict es ep from d)
      · exact untr b hne
    have nsH : ∀ {b : Addr} {m : Str → Option Value}, s₁.heap.Ns b m → (hidT s₁.heap H).Ns b m := fun {b m} ⟨o, es, ep, e, d, r⟩ => ⟨o, es, ep, hidT_get e (dict0 e d), d, r⟩
    have KH : K.In (hidT s₁.heap H) := fun b o e => hidT_get (KX b o e) (by
      by_cases hne : b = a
      · subst hne
        cases q : H b with
        | none => rfl
        | some u => rw [hK (by rw [q]; exact Option.some_ne_none u)] at e; cases e
      · exact untr b hne)
    have md : Mod K mg (hidT s₁.heap H) := ⟨KH, nsH hns, ⟨mb, nsH hb, hbb⟩, let ⟨mc, h1, h2⟩ := hlim; ⟨mc, nsH h1, h2⟩⟩
    have none_in : ∀ {b : Addr}, b ∈ ([] : List Addr) → False := fun z => by cases z
    have e0 : Env0 P w K mg (hidT s₁.heap H) callerA [] s₁ H := ⟨rfl, md, fun b o e => of_hidT e, Nat.le_of_eq (hidT_size _ _), trivial, fun b hb => (none_in hb).elim, hok, .of_eq hg⟩
    refine codeAny_mono ((F _ KH (nsH hns)).run s₁ H ⟨[.ref a], []⟩ [.ref a] [.ref a] _ _ e0 (hbind s₁ (.ref a)) (.cons rfl .nil) (hsp H hO hS)) fun r s' h => ?_
    match r, h with
    | .error e, h => exact h.elim
    | .ok .next, h => exact False.elim h
    | .ok .brk, h => exact False.elim h
    | .ok .cont, h => exact False.elim h
    | .ok (.ret u), ⟨v, H', os, bare, un, hok', r', q⟩ =>
      have q' : v = .bl true := q
      subst q'
      obtain rfl : u = Value.bool true := r'
      refine ⟨rfl, OldK.of_keep fun b o e => ?_, os, bare⟩
      cases q : H b with
      | none => exact un.keep b o e q (fun z => none_in z) (fun z => by cases z)
      | some u =>
        rcases hO b with z | ⟨ob, xs, z⟩
        · rw [q] at z; cases z
        · obtain ⟨e1, _⟩ := hok b _ z
          obtain ⟨e2, _⟩ := hok' b _ (un.frzs b ob _ z)
          rw [e] at e1
          cases e1
          exact e2
  cases hk : K.lookup a with
  | some o =>
    have e := KX a o hk
    rw [ha] at e
    cases e
    exact go (fun _ => none) (fun _ => .inl rfl) (.inr ⟨_, vs.toArray, _, hk, rfl, rfl, rfl, by rw [List.size_toArray, hi.length]; exact hl, by simpa using rv⟩) (fun b u z => nomatch (show (none : Option HO) = some u from z)) (fun b z => absurd rfl z) fun z => absurd rfl z
  | none =>
    have at_a : (fun b => if b = a then some (HO.frz { cls := .type "list", data := .seq vs.toArray } (.lst (ns.map V.int))) else none) a = some (HO.frz { cls := .type "list", data := .seq vs.toArray } (.lst (ns.map V.int))) := if_pos rfl
    refine go (fun b => if b = a then some (.frz { cls := .type "list", data := .seq vs.toArray } (.lst (ns.map V.int))) else none) (fun b => ?_) (.inl (.inr ⟨_, at_a⟩)) (fun b u z => ?_) (fun b z => ?_) fun _ => hk
    · by_cases hb : b = a
      · exact .inr ⟨_, _, if_pos hb⟩
      · exact .inl (if_neg hb)
    · by_cases hb : b = a
      · subst hb
        rw [at_a] at z
        cases z
        exact ⟨ha, by rw [List.length_map]; exact hl, vs, _, rv, ha⟩
      · exact nomatch (if_neg hb).symm.trans z
    · by_cases hb : b = a
      · exact hb
      · exact absurd (if_neg hb) z
/-- the goal that the head leaves, for such a law -/
theorem walk_at {l : PySem.W.OpenLaw} {n : Nat} {q : Program} {loose : List Str} {XP : (Str → Option Value) → Heap → Prop} {YP : World → Heap → Prop} {d : DefRec} {x : Str}
    (hn : l.most = some n) (hn2 : n ≤ sizeLine) (hdf : d.params.defaults = [])
    (F : ∀ (w : World) (mg : Str → Option Value) (fa : Addr) (h : Heap), YP w h → h.Ns mainGlobals mg → mg d.name = some (.ref fa) →
      ∃ (K : PySem.W.Frag) (fd : FuncData) (sp : Sp), K.In h ∧ (∀ (s : Shared) (u : Value), BindsTo s fd ⟨[u], []⟩ [(x, u)]) ∧
        (∀ (H : Hp) (a : Addr) (ns : List Int), ns.length ≤ n → Only H → SqL K H a (ns.map V.int) → sp [.ref a] H (fun v _ => v = .bl true) fun _ _ _ => False) ∧
        ∀ base : Heap, K.In base → base.Ns mainGlobals mg → FnAt l.prog w K mg base fa [x] fd sp) :
    PySem.W.WalkO q loose XP YP l.row.toRowW d [] (fun f vs => PySem.call f vs) := by
  refine Att.attach_call hn hdf fun w s₀ s₁ mg mb fa o pm cd doc a vs ns G Y ho hd hcd hmg hobj hints hlen hg => ?_
  obtain ⟨K, fd, sp, KX, hb, hsp, hF⟩ := F w mg fa _ Y G.T.g hmg
  exact law_at KX G.T.g G.T.b G.T.builtins G.T.nolimit hg hobj hints (Nat.le_trans hlen hn2) hF hb fun H hO hS => hsp H a ns hlen hO hS
end Tl
set_option maxHeartbeats 2000000
namespace Tl
open PySem PySem.Spec PyProof.Rows L2
/-! ### repr of a list -/
/-! the law's def, where its caller stands -/
section
variable {P : Program} {w : World} {K : PySem.W.Frag} {mg : Str → Option Value} {base : Heap} {f : Addr} {N ps : List Str} {k : Nat} {sp : SpT}
theorem fn_at (F : He.DefD) (fd : FuncData) (hF : FunD K F.name F.qual F.params F.body F.scope [] [] f fd) (S : FnScope N ps F.scope) (hr : Room (k + 1) callerA) (len : ∀ ds M Q Et, sp ds M Q Et → ds.length = ps.length)
    (hb : ∀ (cdv : Value) (s : Shared) (H : Hp) (E : XK), Room k (callerA.deeper (envOfC F.qual F.scope s.heap.objs.size f cdv)) →
      ∃ t, QSs (cxOf CX0 P w K mg base N F.qual F.scope f cdv callerA [] s H E).nox E0 Et0 F.body t ∧ ∀ ds M Q Et, sp ds M Q Et → t { nx := fun _ M' => Q .non M', rt := Q } (begin_ N ds) M) : FnAt P w K mg base f ps fd (lSp K sp) := by
  refine FnAt.of hF S hr (fun vs H Q E h => ?_) fun cdv s H vs Q E hr h => ?_
  · obtain ⟨G, F, M, ds, Qt, Et, R, r, _, h, _⟩ := h
    rw [r.length]
    exact len _ _ _ _ h
  · obtain ⟨t, ht, hw⟩ := hb cdv s H E hr
    obtain ⟨G, F, M, ds, Qt, Et, R, r, el, h, kk⟩ := h
    refine ⟨_, PSs.nox ht, G, F, M, begin_ N ds, { nx := fun _ M' => Qt .non M', rt := Qt }, ⟨R, sg_start r, .never⟩, ?_, hw ds M Qt Et h⟩
    exact ⟨fun F' H' M' σ τ s a q => kk .non F' H' M' .non s a.rel .non q, fun F' H' M' v d s R' p q => kk v F' H' M' d s R' p q, fun _ _ _ _ _ _ _ q => q.elim, fun _ _ _ _ _ _ _ q => q.elim⟩
end
end Tl
set_option maxHeartbeats 2000000
namespace Tl
open PySem PySem.Spec PyProof.Rows L2
/-! ### k42: expressions with what they come to -/
structure Pe where
  e : Ex
  v : Option Int
  deep : Nat
  rs : List Int
  f : Option Ew
def endS : Option Ew → Str
  | none => ""
  | some w => w.s
def Pe.d (p : Pe) : D := .tup [p.e.d, optD p.v, .int p.deep, .lst (p.rs.map .int), .str (endS p.f)]
def Pe.res (p : Pe) : List Int × (Ew ⊕ Int) := (p.rs, match p.f with
  | none => .inr (p.v.getD 0)
  | some w => .inl w)
structure okPe (c : Lc) (ns : Nms) (bx : List Int) (p : Pe) : Prop where
  ev : evE c ns bx p.e = p.res
  val : p.f = none → ∃ v, p.v = some v ∧ inR v
  fail : p.f ≠ none → p.v = none ∧ (p.f = some .outside ∨ p.f = some .nought)
  ed : p.e.deep ≤ p.deep + 1
  okv : p.e.okv
  bxs : p.e.bxs + 1 ≤ 2 ^ (p.deep + 1)
  dp : p.deep ≤ 6
end Tl
set_option maxHeartbeats 2000000
namespace Tl
open PySem PySem.Spec PyProof.Rows L2
/-! ### k42: a straight main alone -/
structure R42 where
  nm : Option Str
  p : Pe
def R42.sm (r : R42) (k : Nat) : Sm := match r.nm with
  | none => .tell ((k : Int) + 2) r.p.e
  | some x => .set ((k : Int) + 2) x r.p.e
def R42.names (r : R42) (ns : Nms) : Nms := match r.nm, r.p.f with
  | some x, none => putN ns x (r.p.v.getD 0)
  | _, _ => ns
def R42.told (r : R42) (t : List Int) : List Int := match r.nm with
  | none => t ++ [r.p.v.getD 0]
  | some _ => t
def okRun (c : Lc) (bx : List Int) : Nms → List R42 → Prop
  | _, [] => True
  | ns, r :: t => okPe c ns bx r.p ∧ okRun c bx (r.names ns) t
end Tl
set_option maxHeartbeats 2000000
namespace Tl
open PySem PySem.Spec PyProof.Rows L2
/-! ### k42: names of sets, the pool -/
def nm42 (k : Nat) (f : Bool) : Str := if f = true then (⟨#[signF ((k : Int) / 26)]⟩ ++ ⟨#[signF (k : Int)]⟩ : Str) ++ Str.ofString "qx" else Str.ofString "qx" ++ (⟨#[signF ((k : Int) / 26)]⟩ ++ ⟨#[signF (k : Int)]⟩ : Str)
theorem nm42_inj : ∀ f : Bool, ∀ k < 90, ∀ j < 90, nm42 k f = nm42 j f → k = j := by decide +kernel
/-- a name does not stand in an expression -/
def Ex.nin (n : Str) : Ex → Prop
  | .nam x => x ≠ n
  | .box e => e.nin n
  | .op _ a b => a.nin n ∧ b.nin n
  | _ => True
theorem getN_put {ns : Nms} {n x : Str} {v : Int} (h : x ≠ n) : getN (putN ns n v) x = getN ns x := by
  unfold getN putN
  split
  · congr 1
    induction ns with
    | nil => rfl
    | cons p t ih =>
      rw [List.map_cons]
      by_cases e : p.1 = n
      · rw [if_pos e, List.find?_cons_of_neg (by simp [e]; exact fun q => h q.symm), List.find?_cons_of_neg (by simp [e]; exact fun q => h q.symm)]
        by_cases c : (t.any fun p => decide (p.1 = n)) = true
        · exact ih c
        · have : t.map (fun p => if p.1 = n then (p.1, v) else p) = t := by
            conv => rhs; rw [← List.map_id t]
            apply List.map_congr_left
            intro q hq
            rw [if_neg]
            · rfl
            · intro e2
              exact c (List.any_eq_true.mpr ⟨q, hq, by simpa using e2⟩)
          rw [this]
      · rw [if_neg e]
        by_cases e3 : p.1 = x
        · rw [List.find?_cons_of_pos (by simpa using e3), List.find?_cons_of_pos (by simpa using e3)]
        · rw [List.find?_cons_of_neg (by simpa using e3), List.find?_cons_of_neg (by simpa using e3)]
          by_cases c : (t.any fun p => decide (p.1 = n)) = true
          · exact ih c
          · have : t.map (fun p => if p.1 = n then (p.1, v) else p) = t := by
              conv => rhs; rw [← List.map_id t]
              apply List.map_congr_left
              intro q hq
              rw [if_neg]
              · rfl
              · intro e2
                exact c (List.any_eq_true.mpr ⟨q, hq, by simpa using e2⟩)
            rw [this]
  · rw [List.find?_append]
    cases ns.find? fun p => decide (p.1 = x) with
    | some p => rfl
    | none => rw [List.find?_cons_of_neg (by simp; exact fun q => h q.symm)]; rfl
theorem getN_new {ns : Nms} {n : Str} {v : Int} (h : ∀ p ∈ ns, p.1 ≠ n) : getN (putN ns n v) n = v := by
  unfold getN putN
  rw [if_neg (by rw [List.any_eq_true]; rintro ⟨p, hp, e⟩; exact h p hp (by simpa using e)), List.find?_append]
  have : (ns.find? fun p => decide (p.1 = n)) = none := by
    rw [List.find?_eq_none]
    intro p hp
    simpa using h p hp
  rw [this]
  simp
theorem ev_put {c : Lc} {ns : Nms} {bx : List Int} {n : Str} {v : Int} : ∀ e : Ex, e.nin n → evE c (putN ns n v) bx e = evE c ns bx e
  | .num _, _ => rfl
  | .nam x, h => by show ([], Sum.inr (getN (putN ns n v) x)) = _; rw [getN_put h]; rfl
  | .lane, _ => rfl
  | .lanes, _ => rfl
  | .mine, _ => rfl
  | .box e, h => by rw [evE_box, evE_box, ev_put e h]
  | .op o a b, h => by rw [evE_op, evE_op, ev_put a h.1, ev_put b h.2]
theorem okPe.put {c : Lc} {ns : Nms} {bx : List Int} {n : Str} {v : Int} {p : Pe} (h : okPe c ns bx p) (hn : p.e.nin n) : okPe c (putN ns n v) bx p := { h with ev := by rw [ev_put _ hn]; exact h.ev }
theorem ev_len {c : Lc} {ns : Nms} {bx : List Int} : ∀ e : Ex, (evE c ns bx e).1.length ≤ e.bxs
  | .num _ => Nat.le_refl _
  | .nam _ => Nat.le_refl _
  | .lane => Nat.le_refl _
  | .lanes => Nat.le_refl _
  | .mine => Nat.le_refl _
  | .box e => by
    have ih := ev_len (c := c) (ns := ns) (bx := bx) e
    rw [evE_box]
    unfold Ex.bxs
    generalize evE c ns bx e = r0 at ih ⊢
    rcases r0 with ⟨rs, f | p⟩
    · simp only at ih ⊢; omega
    · simp only at ih ⊢
      split
      · simp only; omega
      · simp only [List.length_append, List.length_cons, List.length_nil]; omega
  | .op o a b => by
    have ia := ev_len (c := c) (ns := ns) (bx := bx) a
    have ib := ev_len (c := c) (ns := ns) (bx := bx) b
    rw [evE_op]
    unfold Ex.bxs
    generalize evE c ns bx a = r0 at ia ⊢
    rcases r0 with ⟨rs, f | x⟩
    · simp only at ia ⊢; omega
    · simp only at ia ⊢
      generalize evE c ns bx b = r1 at ib ⊢
      rcases r1 with ⟨qs, f | y⟩
      · simp only [List.length_append] at *; omega
      · simp only at ib ⊢
        cases workF o x y <;> (simp only [List.length_append]; omega)
theorem okPe.len {c : Lc} {ns : Nms} {bx : List Int} {p : Pe} (h : okPe c ns bx p) : p.rs.length ≤ 128 := by
  have h1 := ev_len (c := c) (ns := ns) (bx := bx) p.e
  rw [h.ev] at h1
  have h2 := h.bxs
  have h3 : 2 ^ (p.deep + 1) ≤ 2 ^ 7 := two_le (by have := h.dp; omega)
  have h4 : (p.res).1.length = p.rs.length := rfl
  omega
end Tl
set_option maxHeartbeats 2000000
namespace Tl
open PySem PySem.Spec PyProof.Rows L2
/-! ### k42: rows and pool, one behind another -/
theorem nm42_inj2 : ∀ f g : Bool, ∀ k < 90, ∀ j < 90, nm42 k f = nm42 j g → k = j := by
  intro f g k hk j hj e
  cases f <;> cases g
  · exact nm42_inj false k hk j hj e
  · exact absurd e ((by decide +kernel : ∀ k < 90, ∀ j < 90, nm42 k false ≠ nm42 j true) k hk j hj)
  · exact absurd e.symm ((by decide +kernel : ∀ k < 90, ∀ j < 90, nm42 k false ≠ nm42 j true) j hj k hk)
  · exact nm42_inj true k hk j hj e
def namesAll (ns : Nms) (t : List R42) : Nms := t.foldl (fun n r => r.names n) ns
theorem okRun_app {c : Lc} {bx : List Int} : ∀ {a : List R42} {ns : Nms} {r : R42}, okRun c bx ns a → okPe c (namesAll ns a) bx r.p → okRun c bx ns (a ++ [r])
  | [], ns, r, _, h => ⟨h, trivial⟩
  | x :: t, ns, r, h, h2 => ⟨h.1, okRun_app h.2 h2⟩
/-- a short name -/
def shN (x : Str) : Prop := x.cps.size ≤ 40 ∧ PyData.strOk x = true
instance (x : Str) : Decidable (shN x) := by unfold shN; exact inferInstanceAs (Decidable (_ ∧ _))
theorem nm42_sh : ∀ k < 90, ∀ f, shN (nm42 k f) := by decide +kernel
def exS (e : Ex) : Prop := ∀ n, ¬ shN n → e.nin n
def R42.sh (r : R42) : Prop := exS r.p.e ∧ match r.nm with
  | none => True
  | some x => shN x
structure Bk42 (c : Lc) (bx : List Int) (rs : List R42) (ps : List Pe) : Prop where
  run : okRun c bx [] rs
  ok : ∀ p ∈ ps, okPe c (namesAll [] rs) bx p ∧ p.f = none
  ne : ps ≠ []
  few : ps.length ≤ rs.length + 5
  nin : ∀ p ∈ ps, ∀ j f, j < 90 → rs.length ≤ j → p.e.nin (nm42 j f)
  nms : ∀ p ∈ namesAll [] rs, ∀ j f, j < 90 → rs.length ≤ j → p.1 ≠ nm42 j f
  psh : ∀ p ∈ ps, exS p.e
  rsh : ∀ r ∈ rs, r.sh
theorem putN_mem {ns : Nms} {n : Str} {v : Int} {p : Str × Int} (h : p ∈ putN ns n v) : p.1 = n ∨ ∃ q ∈ ns, q.1 = p.1 := by
  unfold putN at h
  split at h
  · obtain ⟨q, hq, rfl⟩ := List.mem_map.mp h
    by_cases e : q.1 = n
    · rw [if_pos e]; exact Or.inl e
    · rw [if_neg e]; exact Or.inr ⟨q, hq, rfl⟩
  · rcases List.mem_append.mp h with h | h
    · exact Or.inr ⟨p, h, rfl⟩
    · rw [List.mem_singleton.mp h]; exact Or.inl rfl
/-- what a new row makes of the pool -/
def R42.pool (r : R42) (ps : List Pe) : List Pe := match r.p.f with
  | some _ => ps
  | none => match r.nm with
    | none => ps ++ [r.p]
    | some x => ps ++ [⟨.nam x, r.p.v, 0, [], none⟩]
theorem Bk42.next {c : Lc} {bx : List Int} {rs : List R42} {ps : List Pe} (h : Bk42 c bx rs ps) {r : R42} {f : Bool} (hp : okPe c (namesAll [] rs) bx r.p) (hnin : ∀ n, (∀ q ∈ ps, q.e.nin n) → r.p.e.nin n) (hn : r.nm = none ∨ r.nm = some (nm42 rs.length f)) (hl : rs.length < 89) :
    Bk42 c bx (rs ++ [r]) (r.pool ps) := by
  have hall : namesAll [] (rs ++ [r]) = r.names (namesAll [] rs) := by unfold namesAll; rw [List.foldl_append]; rfl
  have hlen : (rs ++ [r]).length = rs.length + 1 := by rw [List.length_append]; rfl
  have old : ∀ p ∈ ps, ∀ j g, j < 90 → rs.length ≤ j → p.e.nin (nm42 j g) := h.nin
  have rnin : ∀ j g, j < 90 → rs.length ≤ j → r.p.e.nin (nm42 j g) := fun j g hj hle => hnin _ fun q hq => old q hq j g hj hle
  have run := okRun_app h.run hp
  have psr : exS r.p.e := fun n hs => hnin n fun q hq => h.psh q hq n hs
  have rsh : ∀ q ∈ rs ++ [r], q.sh := fun q hq => by
    rcases List.mem_append.mp hq with hq | hq
    · exact h.rsh q hq
    · rw [List.mem_singleton.mp hq]
      refine ⟨psr, ?_⟩
      rcases hn with hn | hn
      · rw [hn]; trivial
      · rw [hn]; exact nm42_sh _ (by omega) _
  have unl : ∀ j g, j < 90 → rs.length + 1 ≤ j → nm42 rs.length f ≠ nm42 j g := fun j g hj hle e => by
    have := nm42_inj2 f g rs.length (by omega) j hj e
    omega
  rcases hf : r.p.f with _ | w
  · -- the row comes to a number
    obtain ⟨v, hv, hvr⟩ := hp.val hf
    rcases hn with hn | hn
    · have e1 : r.names (namesAll [] rs) = namesAll [] rs := by unfold R42.names; rw [hn]
      have e2 : r.pool ps = ps ++ [r.p] := by unfold R42.pool; rw [hf, hn]
      refine ⟨run, ?_, ?_, ?_, ?_, ?_, fun p hp2 => ?_, rsh⟩
      rotate_right
      · rw [e2] at hp2
        rcases List.mem_append.mp hp2 with hp2 | hp2
        · exact h.psh p hp2
        · rw [List.mem_singleton.mp hp2]; exact psr
      · rw [hall, e1, e2]
        intro p hp2
        rcases List.mem_append.mp hp2 with hp2 | hp2
        · exact h.ok p hp2
        · rw [List.mem_singleton.mp hp2]; exact ⟨hp, hf⟩
      · rw [e2]; simp
      · rw [e2, hlen, List.length_append]; have := h.few; show ps.length + 1 ≤ _; omega
      · rw [e2, hlen]
        intro p hp2 j g hj hle
        rcases List.mem_append.mp hp2 with hp2 | hp2
        · exact old p hp2 j g hj (by omega)
        · rw [List.mem_singleton.mp hp2]; exact rnin j g hj (by omega)
      · rw [hall, e1, hlen]
        exact fun p hp2 j g hj hle => h.nms p hp2 j g hj (by omega)
    · have e1 : r.names (namesAll [] rs) = putN (namesAll [] rs) (nm42 rs.length f) v := by unfold R42.names; rw [hn, hf, hv]; rfl
      have e2 : r.pool ps = ps ++ [⟨.nam (nm42 rs.length f), some v, 0, [], none⟩] := by unfold R42.pool; rw [hf, hn, hv]
      have fresh : ∀ p ∈ namesAll [] rs, p.1 ≠ nm42 rs.length f := fun p hp2 => h.nms p hp2 rs.length f (by omega) (Nat.le_refl _)
      refine ⟨run, ?_, ?_, ?_, ?_, ?_, fun p hp2 => ?_, rsh⟩
      rotate_right
      · rw [e2] at hp2
        rcases List.mem_append.mp hp2 with hp2 | hp2
        · exact h.psh p hp2
        · rw [List.mem_singleton.mp hp2]
          intro n hs e
          exact hs (e ▸ nm42_sh rs.length (by omega) f)
      · rw [hall, e1, e2]
        intro p hp2
        rcases List.mem_append.mp hp2 with hp2 | hp2
        · exact ⟨(h.ok p hp2).1.put (old p hp2 rs.length f (by omega) (Nat.le_refl _)), (h.ok p hp2).2⟩
        · rw [List.mem_singleton.mp hp2]
          refine ⟨⟨?_, fun _ => ⟨v, rfl, hvr⟩, fun e => absurd rfl e, by show 1 ≤ 0 + 1; omega, trivial, by show 0 + 1 ≤ 2 ^ (0 + 1); omega, Nat.zero_le _⟩, rfl⟩
          show ([], Sum.inr (getN (putN (namesAll [] rs) (nm42 rs.length f) v) (nm42 rs.length f))) = _
          rw [getN_new fresh]; rfl
      · rw [e2]; simp
      · rw [e2, hlen, List.length_append]; have := h.few; show ps.length + 1 ≤ _; omega
      · rw [e2, hlen]
        intro p hp2 j g hj hle
        rcases List.mem_append.mp hp2 with hp2 | hp2
        · exact old p hp2 j g hj (by omega)
        · rw [List.mem_singleton.mp hp2]; exact unl j g hj hle
      · rw [hall, e1, hlen]
        intro p hp2 j g hj hle
        rcases putN_mem hp2 with e | ⟨q, hq, e⟩
        · rw [e]; exact unl j g hj hle
        · rw [← e]; exact h.nms q hq j g hj (by omega)
  · have e1 : r.names (namesAll [] rs) = namesAll [] rs := by
      unfold R42.names; rw [hf]; cases r.nm <;> rfl
    have e2 : r.pool ps = ps := by unfold R42.pool; rw [hf]
    refine ⟨run, ?_, ?_, ?_, ?_, ?_, by rw [e2]; exact h.psh, rsh⟩
    · rw [hall, e1, e2]; exact h.ok
    · rw [e2]; exact h.ne
    · rw [e2, hlen]; have := h.few; omega
    · rw [e2, hlen]; exact fun p hp2 j g hj hle => old p hp2 j g hj (by omega)
    · rw [hall, e1, hlen]; exact fun p hp2 j g hj hle => h.nms p hp2 j g hj (by omega)
end Tl
set_option maxHeartbeats 2000000
namespace Tl
open PySem PySem.Spec PyProof.Rows L2
/-! ### == of changing lists of changing lists -/
def pyT (M : MH) (d : D) : Option PyData := match lstOf M d with
  | some l => (l.mapM (pyM M)).map .list
  | none => none
theorem dpT_of {K : PySem.W.Frag} {G F H : Hp} {M : MH} {v : V} {d : D} {y : PyData} (R : Rel K G F H M) (p : Rp K F v d) (e : pyT M d = some y) : Dp K H v y := by
  unfold pyT at e
  cases hl : lstOf M d with
  | none => rw [hl] at e; cases e
  | some l =>
    rw [hl] at e
    obtain ⟨ys, e2, rfl⟩ := Option.map_eq_some_iff.mp e
    obtain ⟨a, vs, rfl, sa, ra⟩ := lst_of R p hl
    exact .lst sa (dps_of R ra e2)
def bEqT : R2t := fun x y M Q => match pyT M x, pyT M y with
  | some d, some e => SeqAt.shaped d = true ∧ SeqAt.shaped e = true ∧ Q (.bl (PyData.eqv d e)) M
  | _, _ => False
theorem oq_eqT {X : Cx} (hu : X.A.units + 64 < cLine) : OpQ X (compareOp .Eq) bEqT := OpRimp (op_eqD hu) (by
  rintro x y H Q ⟨G, F, M, dx, dy, Qt, R, px, py, h, k⟩
  unfold bEqT at h
  cases e1 : pyT M dx with
  | none => simp only [e1] at h
  | some d =>
    cases e2 : pyT M dy with
    | none => simp only [e1, e2] at h
    | some e =>
      simp only [e1, e2] at h
      exact ⟨d, e, dpT_of R px e1, dpT_of R py e2, h.1, h.2.1, k _ F H M _ (Same.refl _) R (.bl _) h.2.2⟩)
theorem mapM_py {M : MH} : ∀ {l z : List D}, l.mapM (asD M) = some z → l.mapM (pyM M) = pyDs z := by
  intro l
  induction l with
  | nil => intro z e; cases e; unfold pyDs; rfl
  | cons d t ih =>
    intro z e
    rw [List.mapM_cons] at e ⊢
    cases q : asD M d with
    | none => rw [q] at e; cases e
    | some a =>
      cases q2 : t.mapM (asD M) with
      | none => rw [q, q2] at e; cases e
      | some b =>
        rw [q, q2] at e
        cases e
        rw [pyM_asD q, ih q2]
        show _ = pyDs (a :: b)
        rw [pyDs]
        cases pyD a <;> cases pyDs b <;> rfl
/-- two that hold the same -/
theorem eqT_same {M : MH} {x y : D} {l m z : List D} {Q : VD} (hl : lstOf M x = some l) (hm : lstOf M y = some m) (hx : l.mapM (asD M) = some z) (hy : m.mapM (asD M) = some z) (ok : okD 63 (.lst z)) (h : Q (.bl true) M) : bEqT x y M Q := by
  obtain ⟨d, e, c, dp⟩ := okD_py 63 _ ok
  unfold pyD at e
  have e1 : pyT M x = some d := by unfold pyT; rw [hl]; dsimp only; rw [mapM_py hx]; exact e
  have e2 : pyT M y = some d := by unfold pyT; rw [hm]; dsimp only; rw [mapM_py hy]; exact e
  unfold bEqT
  simp only [e1, e2]
  have sh : SeqAt.shaped d = true := Bool.and_eq_true_iff.mpr ⟨c, decide_eq_true (by omega)⟩
  exact ⟨sh, sh, by rw [SeqAt.eqv_refl d c]; exact h⟩
end Tl
set_option maxHeartbeats 2000000
namespace Tl
open PySem PySem.Spec PyProof.Rows L2
/-! ### a bound of the text that repr shows -/
mutual
def bkD : D → Nat
  | .str s => s.cps.size
  | .tup l => bkDs l
  | .lst l => bkDs l
  | .tab l => bkDs l
  | .scr l => bkDs l
  | _ => 0
def bkDs : List D → Nat
  | [] => 0
  | x :: t => bkD x + 1 + bkDs t
end
mutual
def smD : D → Prop
  | .int i => i.natAbs < 10 ^ 12
  | .tup l => smDs l
  | .lst l => smDs l
  | .tab l => smDs l
  | .scr l => smDs l
  | _ => True
def smDs : List D → Prop
  | [] => True
  | x :: t => smD x ∧ smDs t
end
structure Shw (n B : Nat) (d : D) : Prop where
  ok : okD n d
  sm : smD d
  bk : bkD d ≤ B
structure Shws (n B : Nat) (l : List D) : Prop where
  ok : okDs n l
  sm : smDs l
  bk : bkDs l ≤ B
theorem Shw.mono {n m B C : Nat} {d : D} (h : Shw n B d) (hn : n ≤ m) (hb : B ≤ C) : Shw m C d := ⟨okD_mono h.ok hn, h.sm, Nat.le_trans h.bk hb⟩
theorem Shws.mono {n m B C : Nat} {d : List D} (h : Shws n B d) (hn : n ≤ m) (hb : B ≤ C) : Shws m C d := ⟨okDs_mono h.ok hn, h.sm, Nat.le_trans h.bk hb⟩
/-! programs -/
def exSh : Ex → Prop
  | .num i => i.natAbs < 10 ^ 12
  | .nam x => shN x
  | .box e => exSh e
  | .op _ a b => exSh a ∧ exSh b
  | _ => True
def Sm.nmOk : Sm → Prop
  | .set _ x _ => shN x
  | .join _ x w _ => shN x ∧ shN w
  | .call _ x f _ => shN x ∧ shN f
  | _ => True
end Tl
set_option maxHeartbeats 2000000
namespace Tl
open PySem PySem.Spec PyProof.Rows L2
/-! ### k42: its program -/
end Tl
set_option maxHeartbeats 2000000
namespace Tl
open PySem PySem.Spec PyProof.Rows L2
/-! ### k42: what expressions come to hangs on the lane's numbers alone -/
theorem evE_c {c d : Lc} (h1 : c.lane = d.lane) (h2 : c.lanes = d.lanes) (h3 : c.mine = d.mine) {ns : Nms} {bx : List Int} : ∀ e : Ex, evE c ns bx e = evE d ns bx e
  | .num _ => rfl
  | .nam _ => rfl
  | .lane => by unfold evE; rw [h1]
  | .lanes => by unfold evE; rw [h2]
  | .mine => by unfold evE; rw [h3]
  | .box e => by rw [evE_box, evE_box, evE_c h1 h2 h3 e]
  | .op o a b => by rw [evE_op, evE_op, evE_c h1 h2 h3 a, evE_c h1 h2 h3 b]
end Tl
set_option maxHeartbeats 2000000
namespace Tl
open PySem PySem.Spec PyProof.Rows L2
/-! ### k44: defs that call one another, straight ones -/
def ex44 : Ex → Prop
  | .num i => inR i
  | .nam _ => True
  | .op .add a b => ex44 a ∧ ex44 b
  | _ => False
structure Bd where
  pre : List Sm
  cl : Option (Int × Str × List Ex)
  post : List Sm
  rt : Option (Int × Ex)
def zzz : Str := "zzz"
def clS (c : Option (Int × Str × List Ex)) : List Sm := match c with
  | none => []
  | some (l, f, es) => [.call l zzz f es]
def rtS (r : Option (Int × Ex)) : List Sm := match r with
  | none => []
  | some (l, e) => [.ret l e]
def Bd.sms (b : Bd) : List Sm := b.pre ++ (clS b.cl ++ (b.post ++ rtS b.rt))
structure Dd where
  name : Str
  ps : List Str
  first : Int
  bd : Bd
  last : Int
def Dd.df (d : Dd) : Df := ⟨d.name, d.ps, d.bd.sms, d.first, d.last⟩
def st44 : Sm → Prop
  | .tell _ e => ex44 e
  | .set _ _ e => ex44 e
  | _ => False
def tl44 : Sm → Prop
  | .tell _ e => ex44 e
  | _ => False
structure okBd (b : Bd) : Prop where
  pre : ∀ s ∈ b.pre, st44 s
  post : ∀ s ∈ b.post, tl44 s
  cl : ∀ l f es, b.cl = some (l, f, es) → ∀ e ∈ es, ex44 e
  rt : ∀ l e, b.rt = some (l, e) → ex44 e
  no : b.cl = none → b.post = []
  len : b.sms.length ≤ 20
/-! what the walk of such a program is -/
/-! the walker at it -/
end Tl
set_option maxHeartbeats 2000000
namespace Tl
open PySem PySem.Spec PyProof.Rows L2
/-! ### k44: the walker goes as run44 -/
structure okP44 (ds : List Dd) : Prop where
  bd : ∀ o ∈ ds, okBd o.bd
  cl : ∀ o ∈ ds, ∀ l f es, o.bd.cl = some (l, f, es) → ∃ p ∈ ds, p.name = f
end Tl
set_option maxHeartbeats 2000000
namespace Tl
open PySem PySem.Spec PyProof.Rows L2
/-! ### k44: the way in and the way out -/
end Tl
set_option maxHeartbeats 2000000
namespace Tl
open PySem PySem.Spec PyProof.Rows L2
/-! ### a changing list within data becomes data -/
mutual
def subD (b : Addr) (l : List D) : D → D
  | .ref a => if a = b then .lst l else .ref a
  | .tup ds => .tup (subDs b l ds)
  | .tab ds => .tab (subDs b l ds)
  | .lst ds => .lst (subDs b l ds)
  | .scr ds => .scr (subDs b l ds)
  | d => d
def subDs (b : Addr) (l : List D) : List D → List D
  | [] => []
  | x :: t => subD b l x :: subDs b l t
end
section
variable {K : PySem.W.Frag} {F F' : Hp} {b : Addr} {l : List D}
mutual
theorem rp_sub (s : Same F F') (pb : Rp K F' (.ref b) (.lst l)) : ∀ {v : V} {d : D}, Rp K F v d → Rp K F' v (subD b l d)
  | _, _, .non => by unfold subD; exact .non
  | _, _, .bl c => by unfold subD; exact .bl c
  | _, _, .int i => by unfold subD; exact .int i
  | _, _, .str x => by unfold subD; exact .str x
  | _, _, .ty n => by unfold subD; exact .ty n
  | _, _, .ref a => by
    unfold subD
    by_cases e : a = b
    · rw [if_pos e, e]; exact pb
    · rw [if_neg e]; exact .ref a
  | _, _, .tup h r => by unfold subD; exact .tup (s _ _ h) (rps_sub s pb r)
  | _, _, .tab h r => by unfold subD; exact .tab (SameT s h) (rps_sub s pb r)
  | _, _, .lst h r => by unfold subD; exact .lst (s _ _ h) (rps_sub s pb r)
  | _, _, .scr h r => by unfold subD; exact .scr (Or.elim h (fun h => .inl (SameR s h)) .inr) (rps_sub s pb r)
theorem rps_sub (s : Same F F') (pb : Rp K F' (.ref b) (.lst l)) : ∀ {vs : List V} {ds : List D}, Rps K F vs ds → Rps K F' vs (subDs b l ds)
  | _, _, .nil => by unfold subDs; exact .nil
  | _, _, .cons h t => by unfold subDs; exact .cons (rp_sub s pb h) (rps_sub s pb t)
end
theorem ReR.deep {d : D} {M : MH} (h : M b = some (.lst l)) : ReR K d M (subD b l d) (mdel M b) := fun G F H v R p => by
  obtain ⟨F', s, R', pb⟩ := R.freeze h
  exact ⟨F', s, R', rp_sub s pb p⟩
end
/-! ### k44: its names -/
def nm44 (c : Int) (k : Nat) : Str := repS "q" (c / 8 % (1 + c % 8)) ++ ⟨#[signF (c / 64 + (k : Int))]⟩ ++ repS "q" (1 + c % 8 - 1 - c / 8 % (1 + c % 8))
theorem repq : ∀ n < 9, (repS (Str.ofString "q") ((n : Nat) : Int)).cps.toList = List.replicate n 113 := by decide +kernel
theorem cps_app (a b : Str) : (a ++ b : Str).cps.toList = a.cps.toList ++ b.cps.toList := by
  show (a.cps ++ b.cps).toList = _
  rw [Array.toList_append]
theorem nm44_cps (c : Int) : ∃ a b : Nat, a < 9 ∧ b < 9 ∧ ∀ k, (nm44 c k).cps.toList = List.replicate a 113 ++ signF (c / 64 + (k : Int)) :: List.replicate b 113 := by
  have b1 := modB (a := c) (b := 8) (by decide)
  have b2 := modB (a := c / 8) (b := 1 + c % 8) (by omega)
  refine ⟨(c / 8 % (1 + c % 8)).toNat, (1 + c % 8 - 1 - c / 8 % (1 + c % 8)).toNat, by omega, by omega, fun k => ?_⟩
  unfold nm44
  rw [cps_app, cps_app]
  have e1 := repq (c / 8 % (1 + c % 8)).toNat (by omega)
  have e2 := repq (1 + c % 8 - 1 - c / 8 % (1 + c % 8)).toNat (by omega)
  rw [Int.toNat_of_nonneg (by omega)] at e1 e2
  rw [e1, e2, List.append_assoc]
  rfl
theorem sign_inj26 : ∀ i < 26, ∀ j < 26, letters.cps.toList.getD i 0 = letters.cps.toList.getD j 0 → i = j := by decide +kernel
theorem nm44_inj {c : Int} {i j : Nat} (hi : i < 26) (hj : j < 26) (e : nm44 c i = nm44 c j) : i = j := by
  obtain ⟨a, b, _, _, h⟩ := nm44_cps c
  have e2 := congrArg (fun s : Str => s.cps.toList) e
  rw [h, h] at e2
  have e3 := List.append_cancel_left e2
  have e4 : signF (c / 64 + (i : Int)) = signF (c / 64 + (j : Int)) := (List.cons.inj e3).1
  unfold signF at e4
  have m1 := modB (a := c / 64 + (i : Int)) (b := 26) (by decide)
  have m2 := modB (a := c / 64 + (j : Int)) (b := 26) (by decide)
  have e5 := sign_inj26 _ (by omega) _ (by omega) e4
  omega
theorem nm44_main {c : Int} {k : Nat} : nm44 c k ≠ Str.ofString "main" := by
  intro e
  obtain ⟨a, b, _, _, h⟩ := nm44_cps c
  have e2 := congrArg (fun s : Str => s.cps.toList) e
  rw [h, show (Str.ofString "main").cps.toList = [109, 97, 105, 110] from by decide +kernel] at e2
  have hl := congrArg List.length e2
  rw [List.length_append, List.length_cons, List.length_replicate, List.length_replicate] at hl
  simp only [List.length_cons, List.length_nil] at hl
  cases a with
  | zero =>
    obtain rfl : b = 3 := by omega
    exact absurd (List.cons.inj e2).2 (by decide)
  | succ a => cases e2
theorem nm44_sh (c : Int) (k : Nat) : shN (nm44 c k) := by
  obtain ⟨a, b, ha, hb, h⟩ := nm44_cps c
  refine ⟨?_, ?_⟩
  · show (nm44 c k).cps.toList.length ≤ 40
    rw [h, List.length_append, List.length_cons, List.length_replicate, List.length_replicate]
    omega
  · unfold nm44
    exact strOk_app (strOk_app (strOk_rep (by decide +kernel)) (sign_ok _)) (strOk_rep (by decide +kernel))
end Tl
set_option maxHeartbeats 2000000
namespace Tl
open PySem PySem.Spec PyProof.Rows L2
/-! ### k44: bodies as they are built -/
structure Pl where
  nm : Str
  ps : List Str
  num : Int
  way : Int
def Pl.d (p : Pl) : D := .lst [.str p.nm, .lst (p.ps.map .str), .int p.num, .int p.way]
def okA (e : Ex) : Prop := ex44 e ∧ exSh e ∧ e.deep ≤ 2 ∧ e.okv ∧ e.bxs = 0
/-- a statement of such a body -/
structure okS44 (n : Int) (s : Sm) : Prop where
  al : allSt s = [s]
  dp : s.deep = 1
  lp : inLp False s
  few : s.exprs.length ≤ 6
  ex : ∀ e ∈ s.exprs, okA e
  nm : s.nmOk
  ln : 0 ≤ s.line ∧ s.line ≤ n
structure okDd (names : List Str) (d : Dd) : Prop where
  nm : shN d.name
  few : d.ps.length ≤ 6
  ps : ∀ x ∈ d.ps, shN x
  bd : okBd d.bd
  ne : d.bd.sms ≠ []
  st : ∀ s ∈ d.bd.sms, okS44 100000 s
  asc : ∀ l f es, d.bd.cl = some (l, f, es) → (∀ s ∈ d.bd.pre, s.line ≤ l) ∧ ∀ s ∈ d.bd.post ++ rtS d.bd.rt, l < s.line
  cl : ∀ l f es, d.bd.cl = some (l, f, es) → f ∈ names
  fst : d.first.natAbs < 100000
  lst : d.last.natAbs < 100000
structure okPg44 (ds : List Dd) : Prop where
  few : ds.length ≤ 9
  nd : (ds.map (·.name)).Nodup
  ok : ∀ d ∈ ds, okDd (ds.map (·.name)) d
  mn : ∃ d ∈ ds, d.name = Str.ofString "main"
theorem okPg44.p {ds : List Dd} (h : okPg44 ds) : okP44 ds := ⟨fun o ho => (h.ok o ho).bd, fun o ho l f es e => by
  obtain ⟨d, hd, e2⟩ := List.mem_map.mp ((h.ok o ho).cl l f es e)
  exact ⟨d, hd, e2⟩⟩
theorem allBd_flat : ∀ {b : List Sm}, (∀ s ∈ b, allSt s = [s]) → allBd b = b
  | [], _ => rfl
  | s :: t, h => by rw [allBd, h s (List.mem_cons_self ..), allBd_flat fun x hx => h x (List.mem_cons_of_mem _ hx)]; rfl
theorem lps_flat {lp : Prop} : ∀ {b : List Sm}, (∀ s ∈ b, inLp lp s) → inLps lp b
  | [], _ => trivial
  | s :: t, h => by unfold inLps; exact ⟨h s (List.mem_cons_self ..), lps_flat fun x hx => h x (List.mem_cons_of_mem _ hx)⟩
theorem bxsL_0 : ∀ {es : List Ex}, (∀ e ∈ es, e.bxs = 0) → bxsL es = 0
  | [], _ => rfl
  | e :: t, h => by
    show e.bxs + bxsL t = 0
    rw [h e (List.mem_cons_self ..), bxsL_0 fun x hx => h x (List.mem_cons_of_mem _ hx)]
theorem okPg44.lc {ds : List Dd} (h : okPg44 ds) {lane lanes mine : Int} (h1 : inR lane) (h2 : inR lanes) (h3 : inR mine) : okLc (Lc.mk lane lanes mine 1000 (ds.map Dd.df)) where
  lane := h1
  lanes := h2
  mine := h3
  most := Nat.le_refl _
  nd := by rw [List.map_map]; exact h.nd
  few := by show (ds.map Dd.df).length ≤ 1000; rw [List.length_map]; have := h.few; omega
  df := fun o ho => by
    obtain ⟨d, hd, rfl⟩ := List.mem_map.mp ho
    have k := h.ok d hd
    have hf := k.few
    refine ⟨by show d.ps.length ≤ 1000; omega, ⟨fun s hs => ?_, lps_flat fun s hs => (k.st s hs).lp⟩⟩
    change s ∈ allBd d.bd.sms at hs
    rw [allBd_flat fun s hs => (k.st s hs).al] at hs
    have ks := k.st s hs
    have hf2 := ks.few
    refine ⟨by omega, fun e he => ⟨by have := (ks.ex e he).2.2.1; omega, (ks.ex e he).2.2.2.1⟩, by rw [bxsL_0 fun e he => (ks.ex e he).2.2.2.2]; decide, ?_⟩
    rintro l x f es rfl
    have hcl : ∃ l2 es2, d.bd.cl = some (l2, f, es2) := by
      unfold Bd.sms at hs
      rcases List.mem_append.mp hs with hs | hs
      · exact (k.bd.pre _ hs).elim
      rcases List.mem_append.mp hs with hs | hs
      · cases hc : d.bd.cl with
        | none => rw [hc] at hs; cases hs
        | some q =>
          rw [hc] at hs
          cases List.mem_singleton.mp hs
          exact ⟨_, _, rfl⟩
      rcases List.mem_append.mp hs with hs | hs
      · exact (k.bd.post _ hs).elim
      · cases hc : d.bd.rt with
        | none => rw [hc] at hs; cases hs
        | some q => rw [hc] at hs; cases List.mem_singleton.mp hs
    obtain ⟨l2, es2, e2⟩ := hcl
    obtain ⟨o, ho, e3⟩ := List.mem_map.mp (k.cl l2 f es2 e2)
    exact ⟨o.df, List.mem_map.mpr ⟨o, ho, rfl⟩, e3⟩
end Tl
set_option maxHeartbeats 2000000
namespace Tl
open PySem PySem.Spec PyProof.Rows L2
/-! ### {"a": e, ..}: a dict by texts with any values -/
theorem Rel.lessG {K : PySem.W.Frag} {G F H : Hp} {M : MH} {p : Addr} {u : HO} (hg : G p = none) (R : Rel K (upd G p u) F H M) : Rel K G F H M :=
  ⟨R.sub, R.chg, fun a o e => R.hid a o (by rw [upd_ne (ne_of_none e hg)]; exact e), fun a vs e => R.hidt a vs (by rw [upd_ne (ne_of_none e hg)]; exact e)⟩
theorem At.moreG {K : PySem.W.Frag} {E : XK} {Et : XT} {G F H : Hp} {M : MH} {σ : L2.St} {τ : Sg} {p : Addr} {u : HO} (a : At K E Et G F H M σ τ) (np : H p = none) (hu : ∀ vs, u ≠ .tup vs := by intro vs; exact HO.noConfusion) : At K E Et (upd G p u) F (upd H p u) M σ τ :=
  ⟨a.rel.newG np hu, a.sg, fun cls F' H' M' s r e => a.el cls F' H' M' s (r.lessG (a.rel.freeG np)) e⟩
structure VPs (X : Cx) (E : XK) (Et : XT) (pos : Pos) (keys : List (Option Expr)) (values : List Expr) (kts : List (Str × TEt)) : Prop where
  h : PPs X pos keys values (kts.map fun q => (tC (.str q.1), liftE X.K E Et q.2))
  all : keys.all (·.isSome) = true
  len : keys.length = values.length
  l15 : keys.length = kts.length
def tVals : List TEt → TAt
  | [] => tN
  | t :: r => tCs t (tVals r)
def tDispV (ks : List Str) (ts : List TEt) : TEt := fun τ M Q => tVals ts τ M fun ds M1 => ∀ p, M1 p = none → Q (.ref p) (mup M1 p (.dK ((ks.map fun k => (Sum.inr k : Key)).zip ds)))
section
variable {X : Cx} {E : XK} {Et : XT} {pos : Pos}
theorem vps_nil : VPs X E Et pos [] [] [] := ⟨pps_nil, rfl, rfl, rfl⟩
theorem vps_cons {keys : List (Option Expr)} {values : List Expr} {v : Expr} {kts : List (Str × TEt)} {k : Str} {t : TEt} {j : Nat} {p1 : Pos} (hv : QE X E Et v t) (h : VPs X E Et pos keys values kts) :
    VPs X E Et pos (some (.Constant (.str k) j p1) :: keys) (v :: values) ((k, t) :: kts) :=
  ⟨pps_cons pe_str hv h.h, h.all, congrArg (· + 1) h.len, congrArg (· + 1) h.l15⟩
theorem tPairs_v {K : PySem.W.Frag} {σ : L2.St} {τ : Sg} {G : Hp} : ∀ {kts : List (Str × TEt)} {F H : Hp} {M : MH} {Q : List (V × V) → Hp → Prop} {Qa : List D → MH → Prop}, At K E Et G F H M σ τ → tVals (kts.map (·.2)) τ M Qa →
    (∀ vs ds F' H' M', Same F F' → Rel K G F' H' M' → Rps K F' vs ds → vs.length = kts.length → Qa ds M' → Q ((kts.map (·.1)).zipWith (fun k v => (V.str k, v)) vs) H') → tPairs (kts.map fun q => (tC (.str q.1), liftE K E Et q.2)) σ H Q
  | [], F, H, M, Q, Qa, a, h, k => k [] [] F H M (Same.refl _) a.rel .nil rfl h
  | q :: t, F, H, M, Q, Qa, a, h, k => by
    show liftE K E Et q.2 σ H fun y H2 => tPairs (t.map fun q => (tC (.str q.1), liftE K E Et q.2)) σ H2 fun ps H3 => Q ((V.str q.1, y) :: ps) H3
    refine ⟨G, F, M, τ, _, a, h, fun v F1 H1 M1 d s1 r1 p1 q1 => ?_⟩
    refine tPairs_v (a.step s1 r1) q1 fun vs ds F2 H2 M2 s2 r2 p2 hl q2 => ?_
    exact k (v :: vs) (d :: ds) F2 H2 M2 (s1.trans s2) r2 (.cons (p1.mono s2) p2) (by rw [List.length_cons, List.length_cons, hl]) q2
theorem mergeK_new2 : ∀ {more kvs : List (Key × V)}, ((kvs ++ more).map (·.1)).Nodup → mergeK kvs more = kvs ++ more
  | [], kvs, _ => (List.append_nil _).symm
  | q :: t, kvs, h => by
    have hv : valV kvs q.1 = none := by
      unfold valV
      rw [Option.map_eq_none_iff, List.find?_eq_none]
      intro x hx e
      rw [List.map_append, List.map_cons] at h
      exact (List.nodup_append.mp h).2.2 x.1 (List.mem_map.mpr ⟨x, hx, rfl⟩) q.1 (List.mem_cons_self ..) (by simpa using e)
    show mergeK (putK kvs q.1 q.2) t = _
    rw [putK_new _ hv, mergeK_new2 (by rw [List.append_assoc]; exact h), List.append_assoc]
    rfl
theorem zip_pairs : ∀ (ks : List Str) (vs : List V), ks.zipWith (fun k v => (V.str k, v)) vs = (((ks.map fun k => (Sum.inr k : Key)).zip vs).map fun kv => (kV kv.1, kv.2))
  | [], _ => rfl
  | _ :: _, [] => rfl
  | k :: ks, v :: vs => by
    show (V.str k, v) :: ks.zipWith (fun k v => (V.str k, v)) vs = _
    rw [zip_pairs ks vs]
    rfl
theorem zip_kp {K : PySem.W.Frag} {F : Hp} : ∀ {ks : List Key} {vs : List V} {ds : List D}, Rps K F vs ds → Paired (fun (p : Key × V) (q : Key × D) => p.1 = q.1 ∧ Rp K F p.2 q.2) (ks.zip vs) (ks.zip ds)
  | [], _, _, _ => .nil
  | k :: ks, _, _, .nil => .nil
  | k :: ks, _, _, .cons h t => .cons ⟨rfl, h⟩ (zip_kp t)
theorem q_disp {keys : List (Option Expr)} {values : List Expr} {kts : List (Str × TEt)} (h : VPs X E Et pos keys values kts) (h0 : kts ≠ []) (h15 : kts.length ≤ 15) (nd : (kts.map (·.1)).Nodup) : QE X E Et (.Dict keys values pos) (tDispV (kts.map (·.1)) (kts.map (·.2))) := by
  refine PEimp (pe_disp h.h h.all h.len (fun e => h0 (List.length_eq_zero_iff.mp (by rw [← h.l15, e]; rfl))) (by rw [h.l15]; exact h15)) ?_
  rintro σ H Q ⟨G, F, M, τ, Qt, a, h, k'⟩ p np
  have hG : G p = none := a.rel.freeG np
  refine tPairs_v (a.moreG (u := .dK []) np) h fun vs ds F2 H2 M2 s2 r2 p2 hl q2 => ?_
  obtain ⟨g1, g2, g3⟩ := r2.hid p _ upd_same
  have hks : ((kts.map (·.1)).map fun k => (Sum.inr k : Key)).length = vs.length := by rw [List.length_map, List.length_map, hl]
  refine ⟨g1, ((kts.map (·.1)).map fun k => (Sum.inr k : Key)).zip vs, zip_pairs _ _, by rw [List.length_zip, List.length_map, List.length_map]; omega, ?_⟩
  have ndk : ((([] : List (Key × V)) ++ ((kts.map (·.1)).map fun k => (Sum.inr k : Key)).zip vs).map (·.1)).Nodup := by
    rw [List.nil_append, List.map_fst_zip (by omega)]
    exact List.Pairwise.map (S := fun a b : Key => a ≠ b) (Sum.inr : Str → Key) (fun a b hab q => hab (Sum.inr.inj q)) nd
  rw [mergeK_new2 ndk, List.nil_append]
  have R2 := r2.putG (u' := .dK (((kts.map (·.1)).map fun k => (Sum.inr k : Key)).zip vs))
  have zk : RpO X.K F2 (.dK (((kts.map (·.1)).map fun k => (Sum.inr k : Key)).zip vs)) (.dK (((kts.map (·.1)).map fun k => (Sum.inr k : Key)).zip ds)) := zip_kp p2
  exact k' _ F2 _ _ _ s2 (R2.showM hG zk) (.ref p) (q2 p g3)
end
end Tl
set_option maxHeartbeats 2000000
namespace Tl
open PySem PySem.Spec PyProof.Rows L2
/-! ### d.update(e): both are dicts by numbers and texts -/
theorem d_upd {X : Cx} {pins : List (Addr × Obj)} {σ : L2.St} {H : Hp} {s : Shared} {a b : Addr} {A : Around} {E : Value → Shared → Prop} {kvs more : List (Key × V)} {Q : Value → Shared → Prop} (I : Inv X pins σ H s) (e : H a = some (.dK kvs)) (e2 : H b = some (.dK more)) (hab : a ≠ b) (hl : kvs.length + more.length ≤ sizeLine)
    (h : ∀ (w' : Value) (s' : Shared), Inv X pins σ (upd H a (.dK (mergeK kvs more))) s' → RelV .non w' → Q w' s') : wpAny (model X.prog X.w) A (call (.builtin "dict.update") [.ref a, .ref b]) Q E s := by
  obtain ⟨z, hd, vs, rel, dd⟩ := dk_of I.hok e
  obtain ⟨z2, hd2, ws, rel2, dd2⟩ := dk_of I.hok e2
  refine call_meetsIn PySem.F.slot_dict_update dd.typeIs PySem.F.entry_dict_update (PySem.F.args_dict_update_2 _ _) (meets_dict_update (mixKind X.prog X.w) a b hab hd2) ⟨vs, ws, dd, dd2, by rw [← rel.length, ← rel2.length]; exact hl, fun h' dd' _ hs => ?_⟩
  have he : ∃ q, h'.get? a = some q := let ⟨q, _, _, hq, _⟩ := dd'; ⟨q, hq⟩
  have hz : (mergeK kvs more).length ≤ sizeLine := by
    have := length_mergeK more kvs
    omega
  exact h _ _ (d_write I (by rw [e]; exact True.intro) hs he (dk_new hz hd (rel2.merge rel) dd')) rfl
def tDUpd (td ty : TE) : TE := fun σ H Q => td σ H fun x H1 => ∃ a, x = .ref a ∧ IsD H1 a ∧ ty σ H1 fun y H2 => ∃ b kvs more, y = .ref b ∧ a ≠ b ∧ H2 a = some (.dK kvs) ∧ H2 b = some (.dK more) ∧ kvs.length + more.length ≤ sizeLine ∧ Q .non (upd H2 a (.dK (mergeK kvs more)))
section
variable {X : Cx} {o e : Expr} {td ty : TE} {apos cpos : Pos}
theorem pe_dupd (ho : PE X o td) (he : PE X e ty) (m : M1 X o "update" apos e cpos) : PE X (.Call (.Attribute o "update" apos) [e] [] cpos) (tDUpd td ty) := by
  refine ⟨fun pins s σ H Q I h => ?_⟩
  refine wpAny_Call_method m.base m.few m.line PySem.F.plainAttrs_dict PySem.F.slot_dict_update PySem.F.type_dict_update (thn (ho.run pins s σ H _ I h) fun u s1 ⟨x, H1, I1, rx, a, ex, d, q1⟩ => ?_)
  subst ex
  obtain rfl : u = Value.ref a := rx
  obtain ⟨t1, t2, _⟩ := isD_at I1 d
  refine ⟨t1, t2, ?_⟩
  rw [m.trees]
  refine Calls.callWith_builtin rfl (Calls.evalArgs_plain (Calls.spliced_cons (thn (he.run pins s1 σ H1 _ I1 q1) fun iv s2 ⟨y, H2, I2, ry, b, kvs, more, ey, hab, ea, eb, hl, q2⟩ => Calls.spliced_nil ?_)))
  subst ey
  obtain rfl : iv = Value.ref b := ry
  exact d_upd I2 ea eb hab hl fun w' s3 I3 rw' => ⟨.non, _, I3, rw', q2⟩
end
def mergeM (kvs more : List (Key × D)) : List (Key × D) := more.foldl (fun acc q => putM acc q.1 q.2) kvs
theorem kp_merge {K : PySem.W.Frag} {F : Hp} : ∀ {ws : List (Key × V)} {es : List (Key × D)} {vs : List (Key × V)} {ds : List (Key × D)}, KP K F ws es → KP K F vs ds → KP K F (mergeK vs ws) (mergeM ds es) := by
  intro ws es vs ds h
  induction h generalizing vs ds with
  | nil => exact fun g => g
  | @cons p q ps qs h1 t ih =>
    intro g
    obtain ⟨p1, p2⟩ := p
    obtain ⟨q1, q2⟩ := q
    obtain ⟨e1, e2⟩ := h1
    dsimp only at e1 e2
    subst e1
    exact ih (kp_put e2 g)
def sUpd (x y : D) (M : MH) (Q : VD) : Prop := ∃ a b kvs more, x = .ref a ∧ y = .ref b ∧ a ≠ b ∧ M a = some (.dK kvs) ∧ M b = some (.dK more) ∧ kvs.length + more.length ≤ sizeLine ∧ Q .non (mup M a (.dK (mergeM kvs more)))
def tUpd (to te : TEt) : TEt := fun τ M Q => to τ M fun x M1 => (∃ a o, x = .ref a ∧ M1 a = some o ∧ isDK o) ∧ te τ M1 fun y M2 => sUpd x y M2 Q
section
variable {X : Cx} {E : XK} {Et : XT} {o e : Expr} {apos cpos : Pos} {to te : TEt}
theorem q_update (ho : QE X E Et o to) (he : QE X E Et e te) (m : M1 X o "update" apos e cpos := by exact ⟨rfl, rfl, rfl, rfl⟩) : QE X E Et (.Call (.Attribute o "update" apos) [e] [] cpos) (tUpd to te) := PEimp (pe_dupd ho he m) (by
  rintro σ H Q ⟨G, F, M, τ, Qt, a, h, k⟩
  refine ⟨G, F, M, τ, _, a, h, fun x F1 H1 M1 d s1 r1 p1 q1 => ?_⟩
  obtain ⟨⟨b, mo, rfl, hb, hd⟩, q1⟩ := q1
  cases p1
  have isd : IsD H1 b := by
    obtain ⟨_, u, hu, r⟩ := r1.chg b _ hb
    cases mo with
    | dK kvs =>
      cases u with
      | dK vs => exact .inl ⟨vs, .inl hu⟩
      | _ => exact (r : False).elim
    | _ => exact hd.elim
  refine ⟨b, rfl, isd, G, F1, M1, τ, _, a.step s1 r1, q1, fun y F2 H2 M2 e s2 r2 p2 q2 => ?_⟩
  obtain ⟨a', b', kvs, more, ex, rfl, hab, h1, h2, hl, q3⟩ := q2
  cases ex
  cases p2
  obtain ⟨_, u, hu, r⟩ := r2.chg b _ h1
  obtain ⟨_, u2, hu2, rr⟩ := r2.chg b' _ h2
  cases u with
  | dK vs =>
    cases u2 with
    | dK ws =>
      have r : KP X.K F2 vs kvs := r
      have rr : KP X.K F2 ws more := rr
      refine ⟨b', vs, ws, rfl, hab, hu, hu2, by rw [kp_len r, kp_len rr]; exact hl, ?_⟩
      exact k .non F2 _ _ .non (s1.trans s2) (r2.put h1 (show RpO X.K F2 (.dK (mergeK vs ws)) (.dK (mergeM kvs more)) from kp_merge rr r)) .non q3
    | _ => exact (rr : False).elim
  | _ => exact (r : False).elim)
end
end Tl
set_option maxHeartbeats 2000000
namespace Tl
open PySem PySem.Spec PyProof.Rows L2
/-! ### a program's text by rows, and its tree -/
inductive Tx where
  | dff (r : List D) | iff (e : Ex) | whl (e : Ex) | els | fin | pln (s : Sm)
/-- a statement at the line l -/
def Sm.to (l : Int) : Sm → Sm
  | .set _ x e => .set l x e | .put _ a b => .put l a b | .tell _ e => .tell l e | .ret _ e => .ret l e | .stop _ => .stop l | .brk _ => .brk l | .agn _ => .agn l | .meet _ => .meet l
  | .join _ x w e => .join l x w e | .call _ x f es => .call l x f es | .if1 _ e b => .if1 l e b | .if2 _ e b c => .if2 l e b c | .whl _ e b => .whl l e b
/-- the words of a row behind its first one -/
def Sm.tail : Sm → List D
  | .set _ x e => [.str x, e.d] | .put _ a b => [a.d, b.d] | .tell _ e => [e.d] | .ret _ e => [e.d] | .join _ x w e => [.str x, .str w, e.d] | .call _ x f es => [.str x, .str f, .lst (es.map Ex.d)]
  | _ => []
def Sm.wd : Sm → Str
  | .set .. => "set" | .put .. => "put" | .tell .. => "tell" | .ret .. => "return" | .stop _ => "stop" | .brk _ => "break" | .agn _ => "again" | .meet _ => "meet" | .join .. => "join" | .call .. => "call" | .if1 .. => "if" | .if2 .. => "if" | .whl .. => "while"
def isPl : Sm → Prop
  | .if1 .. => False
  | .if2 .. => False
  | .whl .. => False
  | _ => True
def Tx.d : Tx → D
  | .dff r => .tup (.str "def" :: r) | .iff e => .tup [.str "if", e.d] | .whl e => .tup [.str "while", e.d] | .els => .tup [.str "else"] | .fin => .tup [.str "end"] | .pln s => .tup (.str s.wd :: s.tail)
theorem pl_row {s : Sm} (h : isPl s) (l : Int) : (s.to l).d = .tup (.str s.wd :: .int l :: s.tail) := by
  cases s <;> first | exact h.elim | (unfold Sm.to Sm.d; rfl)
theorem to_ln {s : Sm} {l : Int} : (s.to l).line = l := by cases s <;> rfl
theorem to_pl {s : Sm} {l : Int} : isPl (s.to l) = isPl s := by cases s <;> rfl
theorem to_self {s : Sm} : s.to s.line = s := by cases s <;> rfl
theorem to_to {s : Sm} {l m : Int} : (s.to l).to m = s.to m := by cases s <;> rfl
mutual
def txS : Sm → List Tx
  | .if1 _ e b => .iff e :: (txB b ++ [.fin])
  | .if2 _ e b c => .iff e :: (txB b ++ .els :: (txB c ++ [.fin]))
  | .whl _ e b => .whl e :: (txB b ++ [.fin])
  | s => [.pln (s.to 0)]
def txB : List Sm → List Tx
  | [] => []
  | s :: t => txS s ++ txB t
end
mutual
/-- a statement that stands at the line n, and what is in it -/
def nmS (n : Int) : Sm → Prop
  | .if1 l _ b => l = n ∧ nmB (n + 1) b
  | .if2 l _ b c => l = n ∧ nmB (n + 1) b ∧ nmB (n + 1 + (txB b).length + 1) c
  | .whl l _ b => l = n ∧ nmB (n + 1) b
  | s => s.line = n
def nmB (n : Int) : List Sm → Prop
  | [] => True
  | s :: t => nmS n s ∧ nmB (n + (txS s).length) t
end
theorem txB_nil : txB [] = [] := by unfold txB; rfl
theorem txB_cons {s : Sm} {t : List Sm} : txB (s :: t) = txS s ++ txB t := by conv => lhs; unfold txB
theorem txB_app : ∀ {a b : List Sm}, txB (a ++ b) = txB a ++ txB b
  | [], b => by rw [txB_nil]; rfl
  | s :: t, b => by rw [List.cons_append, txB_cons, txB_cons, txB_app, List.append_assoc]
theorem txB_one {s : Sm} : txB [s] = txS s := by rw [txB_cons, txB_nil, List.append_nil]
theorem nmB_nil {n : Int} : nmB n [] := by unfold nmB; trivial
theorem nmB_cons {n : Int} {s : Sm} {t : List Sm} : nmB n (s :: t) ↔ nmS n s ∧ nmB (n + (txS s).length) t := by conv => lhs; unfold nmB
theorem nmB_app : ∀ {a b : List Sm} {n : Int}, nmB n (a ++ b) ↔ nmB n a ∧ nmB (n + (txB a).length) b
  | [], b, n => by
    rw [txB_nil, List.nil_append]
    show _ ↔ nmB n [] ∧ nmB (n + ((0 : Nat) : Int)) b
    rw [show n + ((0 : Nat) : Int) = n from Int.add_zero n]
    exact ⟨fun h => ⟨nmB_nil, h⟩, fun h => h.2⟩
  | s :: t, b, n => by
    rw [List.cons_append, nmB_cons, nmB_cons, nmB_app, txB_cons, List.length_append, show n + (txS s).length + ((txB t).length : Int) = n + (((txS s).length + (txB t).length : Nat) : Int) by omega]
    exact ⟨fun ⟨a, b, c⟩ => ⟨⟨a, b⟩, c⟩, fun ⟨⟨a, b⟩, c⟩ => ⟨a, b, c⟩⟩
theorem nmB_one {n : Int} {s : Sm} : nmB n [s] ↔ nmS n s := by rw [nmB_cons]; exact ⟨fun h => h.1, fun h => ⟨h, nmB_nil⟩⟩
theorem nmS_line {n : Int} {s : Sm} (h : nmS n s) : s.line = n := by
  cases s <;> first | exact h | (unfold nmS at h; exact h.1)
theorem pl_tx {s : Sm} (h : isPl s) : txS s = [.pln (s.to 0)] := by cases s <;> first | exact h.elim | (unfold txS; rfl)
theorem pl_nm {s : Sm} {n : Int} (h : isPl s) : nmS n s ↔ s.line = n := by cases s <;> first | exact h.elim | (unfold nmS; exact Iff.rfl)
theorem txS_pos (s : Sm) : 0 < (txS s).length := by
  cases s <;> (unfold txS; simp)
/-! what is open while the rows are written: ifs and whiles in one another, the innermost first -/
inductive Kd where
  | iff (e : Ex) | els (e : Ex) (b : List Sm) | whl (e : Ex)
def Kd.w : Kd → Str
  | .iff _ => "if" | .els _ _ => "else" | .whl _ => "while"
inductive Zp where
  | top (b : List Sm)
  | inn (k : Kd) (l : Int) (z : Zp) (b : List Sm)
def Zp.ks : Zp → List Str
  | .top _ => []
  | .inn k _ z _ => k.w :: z.ks
def Zp.tx : Zp → List Tx
  | .top b => txB b
  | .inn (.iff e) _ z b => z.tx ++ .iff e :: txB b
  | .inn (.els e c) _ z b => z.tx ++ .iff e :: (txB c ++ .els :: txB b)
  | .inn (.whl e) _ z b => z.tx ++ .whl e :: txB b
def Zp.add (s : Sm) : Zp → Zp
  | .top b => .top (b ++ [s])
  | .inn k l z b => .inn k l z (b ++ [s])
def Kd.st (l : Int) (b : List Sm) : Kd → Sm
  | .iff e => .if1 l e b
  | .els e c => .if2 l e c b
  | .whl e => .whl l e b
theorem tx_top {b : List Sm} : (Zp.top b).tx = txB b := rfl
theorem tx_iff {e : Ex} {l : Int} {z : Zp} {b : List Sm} : (Zp.inn (.iff e) l z b).tx = z.tx ++ .iff e :: txB b := rfl
theorem tx_els {e : Ex} {c : List Sm} {l : Int} {z : Zp} {b : List Sm} : (Zp.inn (.els e c) l z b).tx = z.tx ++ .iff e :: (txB c ++ .els :: txB b) := rfl
theorem tx_whl {e : Ex} {l : Int} {z : Zp} {b : List Sm} : (Zp.inn (.whl e) l z b).tx = z.tx ++ .whl e :: txB b := rfl
theorem zadd_tx (z : Zp) (s : Sm) : (z.add s).tx = z.tx ++ txS s := by
  cases z with
  | top b => rw [show (Zp.top b).add s = .top (b ++ [s]) from rfl, tx_top, tx_top, txB_app, txB_one]
  | inn k l z b =>
    rw [show (Zp.inn k l z b).add s = .inn k l z (b ++ [s]) from rfl]
    cases k with
    | iff e => rw [tx_iff, tx_iff, txB_app, txB_one]; simp only [List.append_assoc, List.cons_append]
    | els e c => rw [tx_els, tx_els, txB_app, txB_one]; simp only [List.append_assoc, List.cons_append]
    | whl e => rw [tx_whl, tx_whl, txB_app, txB_one]; simp only [List.append_assoc, List.cons_append]
theorem zadd_ks (z : Zp) (s : Sm) : (z.add s).ks = z.ks := by cases z <;> rfl
theorem txS_if1 {l : Int} {e : Ex} {b : List Sm} : txS (.if1 l e b) = .iff e :: (txB b ++ [.fin]) := by conv => lhs; unfold txS
theorem txS_if2 {l : Int} {e : Ex} {b c : List Sm} : txS (.if2 l e b c) = .iff e :: (txB b ++ .els :: (txB c ++ [.fin])) := by conv => lhs; unfold txS
theorem txS_whl {l : Int} {e : Ex} {b : List Sm} : txS (.whl l e b) = .whl e :: (txB b ++ [.fin]) := by conv => lhs; unfold txS
theorem zclose_tx {k : Kd} {l : Int} {z : Zp} {b : List Sm} : (z.add (k.st l b)).tx = (Zp.inn k l z b).tx ++ [.fin] := by
  rw [zadd_tx]
  cases k with
  | iff e => rw [tx_iff, show Kd.st l b (.iff e) = .if1 l e b from rfl, txS_if1]; simp only [List.append_assoc, List.cons_append]
  | els e c => rw [tx_els, show Kd.st l b (.els e c) = .if2 l e c b from rfl, txS_if2]; simp only [List.append_assoc, List.cons_append]
  | whl e => rw [tx_whl, show Kd.st l b (.whl e) = .whl l e b from rfl, txS_whl]; simp only [List.append_assoc, List.cons_append]
/-- whether a while is open -/
def Zp.inW : Zp → Prop
  | .top _ => False
  | .inn (.whl _) _ _ _ => True
  | .inn _ _ z _ => z.inW
/-- what a body keeps: break and again stand in a while, few in one another, a word Wp of each plain statement and Wt of each test -/
def stW (Wp : Sm → Prop) (Wt : Ex → Prop) : Sm → Prop
  | .if1 _ e _ => Wt e
  | .if2 _ e _ _ => Wt e
  | .whl _ e _ => Wt e
  | s => Wp s
structure okB (Wp : Sm → Prop) (Wt : Ex → Prop) (lp : Prop) (D : Nat) (b : List Sm) : Prop where
  lp : inLps lp b
  dp : deeps b ≤ D
  st : ∀ s ∈ allBd b, stW Wp Wt s
variable {Wp : Sm → Prop} {Wt : Ex → Prop}
theorem deeps_snoc {b : List Sm} {s : Sm} : deeps (b ++ [s]) = max (deeps b) s.deep := by
  induction b with
  | nil => show deeps [s] = _; unfold deeps; rw [show deeps [] = 0 from by unfold deeps; rfl]; omega
  | cons x t ih => show deeps (x :: (t ++ [s])) = _; rw [show deeps (x :: (t ++ [s])) = max x.deep (deeps (t ++ [s])) from by conv => lhs; unfold deeps, ih, show deeps (x :: t) = max x.deep (deeps t) from by conv => lhs; unfold deeps]; omega
theorem lps_one {lp : Prop} {s : Sm} : ∀ {b : List Sm}, inLps lp b → inLp lp s → inLps lp (b ++ [s])
  | [], _, h => by show inLps lp [s]; unfold inLps; exact ⟨h, by unfold inLps; trivial⟩
  | x :: t, h, g => by
    show inLps lp (x :: (t ++ [s]))
    unfold inLps at h ⊢
    exact ⟨h.1, lps_one h.2 g⟩
theorem allBd_ap : ∀ {a b : List Sm}, allBd (a ++ b) = allBd a ++ allBd b
  | [], _ => by rw [allBd]; rfl
  | s :: t, b => by rw [List.cons_append, allBd, allBd, allBd_ap, List.append_assoc]
theorem allBd_on {s : Sm} : allBd [s] = allSt s := by rw [allBd, allBd, List.append_nil]
theorem okB.add {lp : Prop} {D : Nat} {b : List Sm} (h : okB Wp Wt lp D b) {s : Sm} (h1 : inLp lp s) (h2 : s.deep ≤ D) (h3 : ∀ t ∈ allSt s, stW Wp Wt t) : okB Wp Wt lp D (b ++ [s]) where
  lp := lps_one h.lp h1
  dp := by rw [deeps_snoc]; have := h.dp; omega
  st := fun t ht => by
    rw [allBd_ap, allBd_on] at ht
    rcases List.mem_append.mp ht with ht | ht
    · exact h.st t ht
    · exact h3 t ht
theorem okB.nil {lp : Prop} {D : Nat} : okB Wp Wt lp D [] := ⟨by unfold inLps; trivial, Nat.zero_le _, fun s hs => by rw [allBd] at hs; cases hs⟩
/-- all that is open is ended -/
def Zp.all : Zp → List Sm
  | .top b => b
  | .inn k l z b => (z.add (k.st l b)).all
termination_by z => z.ks.length
decreasing_by rw [zadd_ks]; exact Nat.lt_succ_self _
end Tl
set_option maxHeartbeats 2000000
namespace Tl
open PySem PySem.Spec PyProof.Rows L2
/-! ### the partners of the rows of a text -/
def upF (f : Nat → Nat) (k v : Nat) : Nat → Nat := fun j => if j = k then v else f j
abbrev Pst := List (Nat × Bool) × (Nat → Nat)
def enP (p : List (Nat × Bool)) : Nat := ((p.find? fun q => q.2).map (·.1)).getD 0
def parS (k : Nat) (z : Pst) : Tx → Pst
  | .dff _ => ((k, false) :: z.1, z.2)
  | .iff _ => ((k, false) :: z.1, z.2)
  | .whl _ => ((k, true) :: z.1, z.2)
  | .els => match z.1 with
    | [] => z
    | q :: r => ((k, false) :: r, upF z.2 q.1 k)
  | .fin => match z.1 with
    | [] => z
    | q :: r => (r, upF (upF z.2 q.1 k) k q.1)
  | .pln s => match s with
    | .brk _ => (z.1, upF z.2 k (enP z.1))
    | .agn _ => (z.1, upF z.2 k (enP z.1))
    | _ => z
def parR : Nat → Pst → List Tx → Pst
  | _, z, [] => z
  | k, z, x :: t => parR (k + 1) (parS k z x) t
theorem parR_app : ∀ (a b : List Tx) (k : Nat) (z : Pst), parR k z (a ++ b) = parR (k + a.length) (parR k z a) b
  | [], b, k, z => rfl
  | x :: t, b, k, z => by
    show parR (k + 1) (parS k z x) (t ++ b) = _
    rw [parR_app t b (k + 1), List.length_cons, show k + 1 + t.length = k + (t.length + 1) by omega]
    rfl
mutual
def PartS (pt : Nat → Nat) (en o : Nat) : Sm → Prop
  | .if1 _ _ b => pt o = o + 1 + (txB b).length ∧ pt (o + 1 + (txB b).length) = o ∧ PartB pt en (o + 1) b
  | .if2 _ _ b c => pt o = o + 1 + (txB b).length ∧ pt (o + 1 + (txB b).length) = o + 1 + (txB b).length + 1 + (txB c).length ∧ pt (o + 1 + (txB b).length + 1 + (txB c).length) = o + 1 + (txB b).length ∧ PartB pt en (o + 1) b ∧ PartB pt en (o + 1 + (txB b).length + 1) c
  | .whl _ _ b => pt o = o + 1 + (txB b).length ∧ pt (o + 1 + (txB b).length) = o ∧ PartB pt o (o + 1) b
  | .brk _ => pt o = en
  | .agn _ => pt o = en
  | _ => True
def PartB (pt : Nat → Nat) (en o : Nat) : List Sm → Prop
  | [] => True
  | s :: t => PartS pt en o s ∧ PartB pt en (o + (txS s).length) t
end
mutual
theorem PartS_as {pt qt : Nat → Nat} : ∀ (s : Sm) (en o : Nat), (∀ j, o ≤ j → j < o + (txS s).length → pt j = qt j) → PartS pt en o s → PartS qt en o s
  | .if1 l e b, en, o, h, g => by
    rw [txS_if1, List.length_cons, List.length_append, List.length_singleton] at h
    unfold PartS at g ⊢
    obtain ⟨g1, g2, g3⟩ := g
    exact ⟨by rw [← h o (by omega) (by omega)]; exact g1, by rw [← h _ (by omega) (by omega)]; exact g2, PartB_as b en (o + 1) (fun j h1 h2 => h j (by omega) (by omega)) g3⟩
  | .if2 l e b c, en, o, h, g => by
    rw [txS_if2, List.length_cons, List.length_append, List.length_cons, List.length_append, List.length_singleton] at h
    unfold PartS at g ⊢
    obtain ⟨g1, g2, g3, g4, g5⟩ := g
    exact ⟨by rw [← h o (by omega) (by omega)]; exact g1, by rw [← h _ (by omega) (by omega)]; exact g2, by rw [← h _ (by omega) (by omega)]; exact g3, PartB_as b en (o + 1) (fun j h1 h2 => h j (by omega) (by omega)) g4, PartB_as c en _ (fun j h1 h2 => h j (by omega) (by omega)) g5⟩
  | .whl l e b, en, o, h, g => by
    rw [txS_whl, List.length_cons, List.length_append, List.length_singleton] at h
    unfold PartS at g ⊢
    obtain ⟨g1, g2, g3⟩ := g
    exact ⟨by rw [← h o (by omega) (by omega)]; exact g1, by rw [← h _ (by omega) (by omega)]; exact g2, PartB_as b o (o + 1) (fun j h1 h2 => h j (by omega) (by omega)) g3⟩
  | .brk l, en, o, h, g => by unfold PartS at g ⊢; rw [← h o (Nat.le_refl _) (by have := txS_pos (.brk l); omega)]; exact g
  | .agn l, en, o, h, g => by unfold PartS at g ⊢; rw [← h o (Nat.le_refl _) (by have := txS_pos (.agn l); omega)]; exact g
  | .set .., _, _, _, _ => by unfold PartS; trivial
  | .put .., _, _, _, _ => by unfold PartS; trivial
  | .tell .., _, _, _, _ => by unfold PartS; trivial
  | .ret .., _, _, _, _ => by unfold PartS; trivial
  | .stop _, _, _, _, _ => by unfold PartS; trivial
  | .meet _, _, _, _, _ => by unfold PartS; trivial
  | .join .., _, _, _, _ => by unfold PartS; trivial
  | .call .., _, _, _, _ => by unfold PartS; trivial
theorem PartB_as {pt qt : Nat → Nat} : ∀ (b : List Sm) (en o : Nat), (∀ j, o ≤ j → j < o + (txB b).length → pt j = qt j) → PartB pt en o b → PartB qt en o b
  | [], _, _, _, _ => by unfold PartB; trivial
  | s :: t, en, o, h, g => by
    rw [txB_cons, List.length_append] at h
    unfold PartB at g ⊢
    exact ⟨PartS_as s en o (fun j h1 h2 => h j h1 (by omega)) g.1, PartB_as t en _ (fun j h1 h2 => h j (by omega) (by omega)) g.2⟩
end
theorem up_at {f : Nat → Nat} {k v : Nat} : upF f k v k = v := if_pos rfl
theorem up_ne {f : Nat → Nat} {k v j : Nat} (h : j ≠ k) : upF f k v j = f j := if_neg h
mutual
theorem parS_ok : ∀ (s : Sm) (o : Nat) (p : List (Nat × Bool)) (pt : Nat → Nat), ∃ qt, parR o (p, pt) (txS s) = (p, qt) ∧ (∀ j, (j < o ∨ o + (txS s).length ≤ j) → qt j = pt j) ∧ PartS qt (enP p) o s
  | .if1 l e b, o, p, pt => by
    obtain ⟨qt, h1, h2, h3⟩ := parB_ok b (o + 1) ((o, false) :: p) pt
    rw [txS_if1, List.length_cons, List.length_append, List.length_singleton]
    refine ⟨upF (upF qt o (o + 1 + (txB b).length)) (o + 1 + (txB b).length) o, ?_, fun j hj => ?_, ?_⟩
    · show parR (o + 1) ((o, false) :: p, pt) (txB b ++ [.fin]) = _
      rw [parR_app, h1]
      rfl
    · rw [up_ne (by omega), up_ne (by omega), h2 j (by omega)]
    · unfold PartS
      refine ⟨by rw [up_ne (by omega), up_at], up_at, PartB_as b _ _ (fun j a c => by rw [up_ne (by omega), up_ne (by omega)]) ?_⟩
      exact h3
  | .if2 l e b c, o, p, pt => by
    obtain ⟨qt, h1, h2, h3⟩ := parB_ok b (o + 1) ((o, false) :: p) pt
    obtain ⟨rt, k1, k2, k3⟩ := parB_ok c (o + 1 + (txB b).length + 1) ((o + 1 + (txB b).length, false) :: p) (upF qt o (o + 1 + (txB b).length))
    rw [txS_if2, List.length_cons, List.length_append, List.length_cons, List.length_append, List.length_singleton]
    refine ⟨upF (upF rt (o + 1 + (txB b).length) (o + 1 + (txB b).length + 1 + (txB c).length)) (o + 1 + (txB b).length + 1 + (txB c).length) (o + 1 + (txB b).length), ?_, fun j hj => ?_, ?_⟩
    · show parR (o + 1) ((o, false) :: p, pt) (txB b ++ (.els :: (txB c ++ [.fin]))) = _
      rw [parR_app, h1]
      show parR (o + 1 + (txB b).length + 1) ((o + 1 + (txB b).length, false) :: p, upF qt o (o + 1 + (txB b).length)) (txB c ++ [.fin]) = _
      rw [parR_app, k1]
      rfl
    · rw [up_ne (by omega), up_ne (by omega), k2 j (by omega), up_ne (by omega), h2 j (by omega)]
    · unfold PartS
      refine ⟨?_, ?_, up_at, PartB_as b _ _ (fun j a c => ?_) h3, PartB_as c _ _ (fun j a c => ?_) k3⟩
      · rw [up_ne (by omega), up_ne (by omega), k2 o (by omega), up_at]
      · rw [up_ne (by omega), up_at]
      · rw [up_ne (by omega), up_ne (by omega), k2 j (by omega), up_ne (by omega)]
      · rw [up_ne (by omega), up_ne (by omega)]
  | .whl l e b, o, p, pt => by
    obtain ⟨qt, h1, h2, h3⟩ := parB_ok b (o + 1) ((o, true) :: p) pt
    rw [txS_whl, List.length_cons, List.length_append, List.length_singleton]
    refine ⟨upF (upF qt o (o + 1 + (txB b).length)) (o + 1 + (txB b).length) o, ?_, fun j hj => ?_, ?_⟩
    · show parR (o + 1) ((o, true) :: p, pt) (txB b ++ [.fin]) = _
      rw [parR_app, h1]
      rfl
    · rw [up_ne (by omega), up_ne (by omega), h2 j (by omega)]
    · unfold PartS
      refine ⟨by rw [up_ne (by omega), up_at], up_at, PartB_as b _ _ (fun j a c => by rw [up_ne (by omega), up_ne (by omega)]) ?_⟩
      exact h3
  | .brk l, o, p, pt => ⟨upF pt o (enP p), rfl, fun j hj => up_ne (by have := txS_pos (.brk l); omega), by unfold PartS; exact up_at⟩
  | .agn l, o, p, pt => ⟨upF pt o (enP p), rfl, fun j hj => up_ne (by have := txS_pos (.agn l); omega), by unfold PartS; exact up_at⟩
  | .set .., o, p, pt => ⟨pt, rfl, fun _ _ => rfl, by unfold PartS; trivial⟩
  | .put .., o, p, pt => ⟨pt, rfl, fun _ _ => rfl, by unfold PartS; trivial⟩
  | .tell .., o, p, pt => ⟨pt, rfl, fun _ _ => rfl, by unfold PartS; trivial⟩
  | .ret .., o, p, pt => ⟨pt, rfl, fun _ _ => rfl, by unfold PartS; trivial⟩
  | .stop _, o, p, pt => ⟨pt, rfl, fun _ _ => rfl, by unfold PartS; trivial⟩
  | .meet _, o, p, pt => ⟨pt, rfl, fun _ _ => rfl, by unfold PartS; trivial⟩
  | .join .., o, p, pt => ⟨pt, rfl, fun _ _ => rfl, by unfold PartS; trivial⟩
  | .call .., o, p, pt => ⟨pt, rfl, fun _ _ => rfl, by unfold PartS; trivial⟩
theorem parB_ok : ∀ (b : List Sm) (o : Nat) (p : List (Nat × Bool)) (pt : Nat → Nat), ∃ qt, parR o (p, pt) (txB b) = (p, qt) ∧ (∀ j, (j < o ∨ o + (txB b).length ≤ j) → qt j = pt j) ∧ PartB qt (enP p) o b
  | [], o, p, pt => ⟨pt, by rw [txB_nil]; rfl, fun _ _ => rfl, by unfold PartB; trivial⟩
  | s :: t, o, p, pt => by
    obtain ⟨qt, h1, h2, h3⟩ := parS_ok s o p pt
    obtain ⟨rt, k1, k2, k3⟩ := parB_ok t (o + (txS s).length) p qt
    rw [txB_cons, List.length_append]
    refine ⟨rt, by rw [parR_app, h1]; exact k1, fun j hj => by rw [k2 j (by omega), h2 j (by omega)], ?_⟩
    unfold PartB
    exact ⟨PartS_as s _ _ (fun j a c => (k2 j (by omega)).symm) h3, k3⟩
end
end Tl
set_option maxHeartbeats 2000000
namespace Tl
open PySem PySem.Spec PyProof.Rows L2
/-! ### where a walker's stack stands in the text -/
def lnB (b : List Sm) : Nat := (txB b).length
theorem lnB_take {b : List Sm} {k : Nat} {s : Sm} (h : b[k]? = some s) : lnB (b.take (k + 1)) = lnB (b.take k) + (txS s).length := by
  unfold lnB
  rw [List.take_add_one, h, txB_app, List.length_append]
  show _ + (txB [s]).length = _
  rw [txB_one]
theorem lnB_all {b : List Sm} {k : Nat} (h : b.length ≤ k) : lnB (b.take k) = lnB b := by rw [List.take_of_length_le h]
structure BlkOk (R : List Tx) (pt : Nat → Nat) (o en : Nat) (lp : Prop) (b : List Sm) : Prop where
  sg : ∀ i, i < (txB b).length → R[o + i]? = (txB b)[i]?
  nm : nmB ((o : Int) + 1) b
  par : PartB pt en o b
  lp : inLps lp b
structure StmOk (R : List Tx) (pt : Nat → Nat) (o en : Nat) (lp : Prop) (s : Sm) : Prop where
  sg : ∀ i, i < (txS s).length → R[o + i]? = (txS s)[i]?
  nm : nmS ((o : Int) + 1) s
  par : PartS pt en o s
  lp : inLp lp s
variable {R : List Tx} {pt : Nat → Nat} {T : List Sm}
theorem BlkOk.at_ : ∀ {b : List Sm} {o en k : Nat} {lp : Prop} {s : Sm}, BlkOk R pt o en lp b → b[k]? = some s → StmOk R pt (o + lnB (b.take k)) en lp s
  | x :: t, o, en, 0, lp, s, h, e => by
    cases e
    have h1 := h.sg
    have h2 := h.nm
    have h3 := h.par
    have h4 := h.lp
    rw [txB_cons] at h1
    rw [nmB_cons] at h2
    unfold PartB at h3
    unfold inLps at h4
    show StmOk R pt (o + lnB []) en lp x
    rw [show lnB [] = 0 from by unfold lnB; rw [txB_nil]; rfl]
    exact ⟨fun i hi => by rw [Nat.add_zero, h1 i (by rw [List.length_append]; omega), List.getElem?_append_left hi], h2.1, h3.1, h4.1⟩
  | x :: t, o, en, k + 1, lp, s, h, e => by
    have h1 := h.sg
    have h2 := h.nm
    have h3 := h.par
    have h4 := h.lp
    rw [txB_cons] at h1
    rw [nmB_cons] at h2
    unfold PartB at h3
    unfold inLps at h4
    have hb : BlkOk R pt (o + (txS x).length) en lp t := ⟨fun i hi => by
      have := h1 ((txS x).length + i) (by rw [List.length_append]; omega)
      rw [List.getElem?_append_right (by omega), show (txS x).length + i - (txS x).length = i by omega] at this
      rw [Nat.add_assoc]; exact this, by rw [show ((o + (txS x).length : Nat) : Int) + 1 = (o : Int) + 1 + (txS x).length by omega]; exact h2.2, h3.2, h4.2⟩
    have := hb.at_ (k := k) (s := s) e
    rw [show o + lnB ((x :: t).take (k + 1)) = o + (txS x).length + lnB (t.take k) from by
      show o + lnB (x :: t.take k) = _
      unfold lnB
      rw [txB_cons, List.length_append]; omega]
    exact this
/-- the parts of a statement with blocks -/
theorem stm_if1 {o en : Nat} {lp : Prop} {l : Int} {e : Ex} {b : List Sm} (h : StmOk R pt o en lp (.if1 l e b)) : R[o]? = some (.iff e) ∧ BlkOk R pt (o + 1) en lp b ∧ R[o + 1 + lnB b]? = some .fin ∧ pt o = o + 1 + lnB b ∧ pt (o + 1 + lnB b) = o ∧ l = (o : Int) + 1 := by
  have h1 := h.sg
  have h2 := h.nm
  have h3 := h.par
  have h4 := h.lp
  rw [txS_if1, List.length_cons, List.length_append, List.length_singleton] at h1
  unfold nmS at h2
  unfold PartS at h3
  unfold inLp at h4
  refine ⟨h1 0 (by omega), ⟨fun i hi => ?_, h2.2, h3.2.2, h4⟩, ?_, h3.1, h3.2.1, h2.1⟩
  · have := h1 (i + 1) (by omega)
    rw [List.getElem?_cons_succ, List.getElem?_append_left hi] at this
    rw [show o + 1 + i = o + (i + 1) by omega]; exact this
  · have := h1 ((txB b).length + 1) (by omega)
    rw [List.getElem?_cons_succ, List.getElem?_append_right (Nat.le_refl _), Nat.sub_self] at this
    rw [show o + 1 + lnB b = o + ((txB b).length + 1) from by unfold lnB; omega]; exact this
theorem stm_whl {o en : Nat} {lp : Prop} {l : Int} {e : Ex} {b : List Sm} (h : StmOk R pt o en lp (.whl l e b)) : R[o]? = some (.whl e) ∧ BlkOk R pt (o + 1) o True b ∧ R[o + 1 + lnB b]? = some .fin ∧ pt o = o + 1 + lnB b ∧ pt (o + 1 + lnB b) = o ∧ l = (o : Int) + 1 := by
  have h1 := h.sg
  have h2 := h.nm
  have h3 := h.par
  have h4 := h.lp
  rw [txS_whl, List.length_cons, List.length_append, List.length_singleton] at h1
  unfold nmS at h2
  unfold PartS at h3
  unfold inLp at h4
  refine ⟨h1 0 (by omega), ⟨fun i hi => ?_, h2.2, h3.2.2, h4⟩, ?_, h3.1, h3.2.1, h2.1⟩
  · have := h1 (i + 1) (by omega)
    rw [List.getElem?_cons_succ, List.getElem?_append_left hi] at this
    rw [show o + 1 + i = o + (i + 1) by omega]; exact this
  · have := h1 ((txB b).length + 1) (by omega)
    rw [List.getElem?_cons_succ, List.getElem?_append_right (Nat.le_refl _), Nat.sub_self] at this
    rw [show o + 1 + lnB b = o + ((txB b).length + 1) from by unfold lnB; omega]; exact this
theorem stm_if2 {o en : Nat} {lp : Prop} {l : Int} {e : Ex} {b c : List Sm} (h : StmOk R pt o en lp (.if2 l e b c)) : R[o]? = some (.iff e) ∧ BlkOk R pt (o + 1) en lp b ∧ R[o + 1 + lnB b]? = some .els ∧ BlkOk R pt (o + 1 + lnB b + 1) en lp c ∧ R[o + 1 + lnB b + 1 + lnB c]? = some .fin ∧
    pt o = o + 1 + lnB b ∧ pt (o + 1 + lnB b) = o + 1 + lnB b + 1 + lnB c ∧ pt (o + 1 + lnB b + 1 + lnB c) = o + 1 + lnB b ∧ l = (o : Int) + 1 := by
  have h1 := h.sg
  have h2 := h.nm
  have h3 := h.par
  have h4 := h.lp
  rw [txS_if2, List.length_cons, List.length_append, List.length_cons, List.length_append, List.length_singleton] at h1
  unfold nmS at h2
  unfold PartS at h3
  unfold inLp at h4
  refine ⟨h1 0 (by omega), ⟨fun i hi => ?_, h2.2.1, h3.2.2.2.1, h4.1⟩, ?_, ⟨fun i hi => ?_, ?_, h3.2.2.2.2, h4.2⟩, ?_, h3.1, h3.2.1, h3.2.2.1, h2.1⟩
  · have := h1 (i + 1) (by omega)
    rw [List.getElem?_cons_succ, List.getElem?_append_left hi] at this
    rw [show o + 1 + i = o + (i + 1) by omega]; exact this
  · have := h1 ((txB b).length + 1) (by omega)
    rw [List.getElem?_cons_succ, List.getElem?_append_right (Nat.le_refl _), Nat.sub_self] at this
    rw [show o + 1 + lnB b = o + ((txB b).length + 1) from by unfold lnB; omega]; exact this
  · have := h1 ((txB b).length + 1 + 1 + i) (by omega)
    rw [show (txB b).length + 1 + 1 + i = ((txB b).length + (1 + i)) + 1 by omega, List.getElem?_cons_succ, List.getElem?_append_right (by omega), show (txB b).length + (1 + i) - (txB b).length = i + 1 by omega, List.getElem?_cons_succ, List.getElem?_append_left hi] at this
    rw [show o + 1 + lnB b + 1 + i = o + ((txB b).length + (1 + i) + 1) from by unfold lnB; omega]; exact this
  · rw [show ((o + 1 + lnB b + 1 : Nat) : Int) + 1 = (o : Int) + 1 + 1 + (txB b).length + 1 from by unfold lnB; omega]; exact h2.2.2
  · have := h1 ((txB b).length + 1 + 1 + (txB c).length) (by omega)
    rw [show (txB b).length + 1 + 1 + (txB c).length = ((txB b).length + (1 + (txB c).length)) + 1 by omega, List.getElem?_cons_succ, List.getElem?_append_right (by omega), show (txB b).length + (1 + (txB c).length) - (txB b).length = (txB c).length + 1 by omega, List.getElem?_cons_succ, List.getElem?_append_right (Nat.le_refl _), Nat.sub_self] at this
    rw [show o + 1 + lnB b + 1 + lnB c = o + ((txB b).length + (1 + (txB c).length) + 1) from by unfold lnB; omega]; exact this
/-! ### onward: behind ends and elses -/
end Tl
set_option maxHeartbeats 2000000
namespace Tl
open PySem PySem.Spec PyProof.Rows L2
/-! ### readings: a dict of computed values, a dict taken into another one -/
theorem uDispV {ks : List Str} {ts : List TEt} {τ : Sg} {M : MH} {Q : VD} : tDispV ks ts τ M Q = tVals ts τ M fun ds M1 => ∀ p, M1 p = none → Q (.ref p) (mup M1 p (.dK ((ks.map fun k => (Sum.inr k : Key)).zip ds))) := rfl
theorem uVals0 : tVals [] = tN := rfl
theorem uVals1 {t : TEt} {r : List TEt} : tVals (t :: r) = tCs t (tVals r) := rfl
theorem uUpd {to te : TEt} {τ : Sg} {M : MH} {Q : VD} : tUpd to te τ M Q = to τ M fun x M1 => (∃ a o, x = .ref a ∧ M1 a = some o ∧ isDK o) ∧ te τ M1 fun y M2 => sUpd x y M2 Q := rfl
end Tl
set_option maxHeartbeats 2000000
namespace Tl
open PySem PySem.Spec PyProof.Rows L2
/-! ### k45: main alone with letters, by its rows; touches and puts the newest phase first -/
structure S45 where
  wo : Nms
  bx : List Int
  ls : List Lt
  told : List Int
  lines : List Int
  br : List (Int × Int)
  tc : List (List Th)
  pu : List Pus
  fin : Option (Ew × Int)
  over : Bool
structure Row45 where
  sm : Sm
  pl : Option Int
  nu : Int
def S45.touch (z : S45) (t : Th) : S45 := { z with tc := match z.tc with
  | [] => []
  | c :: r => (c ++ [t]) :: r }
def S45.put (z : S45) (p v : Int) : S45 := { z with bx := z.bx.set p.toNat v, pu := match z.pu with
  | [] => []
  | q :: r => putI q p v :: r }
def joinW (c : Lc) (wo : Nms) (os : List (Option Int)) : Sm → Nms
  | .join _ x w _ => putN wo x (joinF w os c.lane.toNat)
  | _ => wo
def S45.meet (c : Lc) (z : S45) (s : Sm) (v : Int) : S45 := match z.ls with
  | [] => { z with br := z.br ++ [(s.line, v)], over := true }
  | t :: r => { z with br := z.br ++ [(s.line, v)], ls := r, bx := t.bs, tc := [] :: z.tc, pu := [] :: z.pu, wo := joinW c z.wo t.os s }
/-- a row's place touched: what its number comes to -/
def S45.at_ (z : S45) (p : Int) : Int := z.bx.getD p.toNat 0
def S45.row (c : Lc) (z : S45) (r : Row45) : S45 := match r.pl with
  | some p => match r.sm with
    | .put l _ _ => (z.touch ⟨true, p, l⟩).put p r.nu
    | .tell l _ => { (z.touch ⟨false, p, l⟩) with told := z.told ++ [z.at_ p] }
    | .set l x _ => { (z.touch ⟨false, p, l⟩) with wo := putN z.wo x (z.at_ p) }
    | _ => z
  | none => match r.sm with
    | .tell _ _ => { z with told := z.told ++ [r.nu] }
    | .set _ x _ => { z with wo := putN z.wo x r.nu }
    | .meet _ => z.meet c r.sm r.nu
    | .join .. => z.meet c r.sm r.nu
    | _ => z
def S45.out (z : S45) (r : Row45) : Prop := ∃ p, r.pl = some p ∧ (p < 0 ∨ (z.bx.length : Int) ≤ p)
instance {z : S45} {r : Row45} : Decidable (z.out r) := match h : r.pl with
  | none => isFalse fun ⟨p, e, _⟩ => by rw [h] at e; cases e
  | some p => if q : p < 0 ∨ (z.bx.length : Int) ≤ p then isTrue ⟨p, h, q⟩ else isFalse fun ⟨p', e, q'⟩ => by rw [h] at e; cases e; exact q q'
def S45.done (c : Lc) (z : S45) (r : Row45) : S45 :=
  if z.lines.length = c.most then { z with fin := some (.tired, r.sm.line), over := true }
  else if z.out r then { z with lines := z.lines ++ [r.sm.line], fin := some (.outside, r.sm.line), over := true }
  else S45.row c { z with lines := z.lines ++ [r.sm.line] } r
def S45.run (c : Lc) (z : S45) (rs : List Row45) : S45 := rs.foldl (fun z r => if z.over = true then z else z.done c r) z
inductive OkR (c : Lc) (wo : Nms) (bx : List Int) : Row45 → Prop
  | put {l : Int} {a b : Ex} {p v : Int} (h1 : evE c wo bx a = ([], .inr p)) (h2 : evE c wo bx b = ([], .inr v)) : OkR c wo bx ⟨.put l a b, some p, v⟩
  | tellB {l : Int} {a : Ex} {p v : Int} (h1 : evE c wo bx a = ([], .inr p)) : OkR c wo bx ⟨.tell l (.box a), some p, v⟩
  | setB {l : Int} {x : Str} {a : Ex} {p v : Int} (h1 : evE c wo bx a = ([], .inr p)) : OkR c wo bx ⟨.set l x (.box a), some p, v⟩
  | tell {l : Int} {a : Ex} {v : Int} (h1 : evE c wo bx a = ([], .inr v)) : OkR c wo bx ⟨.tell l a, none, v⟩
  | set {l : Int} {x : Str} {a : Ex} {v : Int} (h1 : evE c wo bx a = ([], .inr v)) : OkR c wo bx ⟨.set l x a, none, v⟩
  | meet {l : Int} : OkR c wo bx ⟨.meet l, none, 0⟩
  | join {l : Int} {x w : Str} {a : Ex} {v : Int} (h1 : evE c wo bx a = ([], .inr v)) : OkR c wo bx ⟨.join l x w a, none, v⟩
def Ws.is45 (s : Ws) (z : S45) : Prop := s.told = z.told ∧ s.steps = z.lines.length ∧ s.fin = z.fin ∧ s.brought = z.br ∧ s.tcs = z.tc ∧ s.pus = z.pu ∧ s.lines = z.lines
def S45.end_ (last : Int) (z : S45) : S45 := if z.over = true then z else { z with fin := some (.done, last) }
theorem letters_no {c : Lc} : ∀ (ls : List Lt) {s : Ws}, s.wait = none → s.letters c ls = s
  | [], s, _ => rfl
  | t :: r, s, h => by
    show Ws.letters c r (if s.wait.isSome then (s.letOn c t).go c else s) = s
    rw [h]
    exact letters_no r h
end Tl
set_option maxHeartbeats 2000000
namespace Tl
open PySem PySem.Spec PyProof.Rows L2
/-! ### k45: the law's own dict -/
structure Nf where
  N : Addr
  W : Addr
  t : Addr
  l : Addr
  br : Addr
  T : Addr
  P : Addr
  lane : Int
  mine : Int
  nms : List Str
  most : Nat
structure Nz where
  B : Addr
  ls : List Lt
  fin : Option (Ew × Int)
  over : Bool
def nowD (f : Nf) (z : Nz) : List (Key × D) := [(.inr (Str.ofString "worth"), .ref f.W), (.inr (Str.ofString "lane"), .int f.lane), (.inr (Str.ofString "mine"), .int f.mine), (.inr (Str.ofString "names"), .lst (f.nms.map .str)), (.inr (Str.ofString "boxes"), .ref z.B),
  (.inr (Str.ofString "letters"), .lst (z.ls.map Lt.d)), (.inr (Str.ofString "most"), .int f.most), (.inr (Str.ofString "told"), .ref f.t), (.inr (Str.ofString "lines"), .ref f.l), (.inr (Str.ofString "brought"), .ref f.br), (.inr (Str.ofString "touches"), .ref f.T), (.inr (Str.ofString "puts"), .ref f.P),
  (.inr (Str.ofString "end"), finD z.fin), (.inr (Str.ofString "over"), .bl z.over)]
variable {f : Nf} {z : Nz}
theorem nw_worth : valD (nowD f z) (.inr (Str.ofString "worth")) = some (.ref f.W) := by simp [nowD, valD, ofS_inj]
theorem nw_lane : valD (nowD f z) (.inr (Str.ofString "lane")) = some (.int f.lane) := by simp [nowD, valD, ofS_inj]
theorem nw_mine : valD (nowD f z) (.inr (Str.ofString "mine")) = some (.int f.mine) := by simp [nowD, valD, ofS_inj]
theorem nw_names : valD (nowD f z) (.inr (Str.ofString "names")) = some (.lst (f.nms.map .str)) := by simp [nowD, valD, ofS_inj]
theorem nw_boxes : valD (nowD f z) (.inr (Str.ofString "boxes")) = some (.ref z.B) := by simp [nowD, valD, ofS_inj]
theorem nw_letters : valD (nowD f z) (.inr (Str.ofString "letters")) = some (.lst (z.ls.map Lt.d)) := by simp [nowD, valD, ofS_inj]
theorem nw_most : valD (nowD f z) (.inr (Str.ofString "most")) = some (.int f.most) := by simp [nowD, valD, ofS_inj]
theorem nw_told : valD (nowD f z) (.inr (Str.ofString "told")) = some (.ref f.t) := by simp [nowD, valD, ofS_inj]
theorem nw_lines : valD (nowD f z) (.inr (Str.ofString "lines")) = some (.ref f.l) := by simp [nowD, valD, ofS_inj]
theorem nw_brought : valD (nowD f z) (.inr (Str.ofString "brought")) = some (.ref f.br) := by simp [nowD, valD, ofS_inj]
theorem nw_touches : valD (nowD f z) (.inr (Str.ofString "touches")) = some (.ref f.T) := by simp [nowD, valD, ofS_inj]
theorem nw_puts : valD (nowD f z) (.inr (Str.ofString "puts")) = some (.ref f.P) := by simp [nowD, valD, ofS_inj]
theorem nw_end : valD (nowD f z) (.inr (Str.ofString "end")) = some (finD z.fin) := by simp [nowD, valD, ofS_inj]
theorem nw_over : valD (nowD f z) (.inr (Str.ofString "over")) = some (.bl z.over) := by simp [nowD, valD, ofS_inj]
/-! the cells -/
structure Nx where
  TC : List (Addr × List Th)
  PC : List (Addr × Pus)
  B : Addr
def refL {α : Type} (l : List (Addr × α)) : List D := l.reverse.map fun q => .ref q.1
end Tl
set_option maxHeartbeats 2000000
namespace Tl
open PySem PySem.Spec PyProof.Rows L2
/-! ### what repr shows is a text -/
end Tl
set_option maxHeartbeats 2000000
namespace Tl
open PySem PySem.Spec PyProof.Rows L2
/-! ### k45: what the law's state keeps -/
structure Few (room : Nat) (n : Nat) (z : S45) : Prop where
  wo : z.wo.length ≤ n
  wv : ∀ p ∈ z.wo, inR p.2
  bx : z.bx.length = room
  bv : ∀ v ∈ z.bx, inR v
  told : z.told.length ≤ n
  lines : z.lines.length ≤ n
  br : z.br.length ≤ n
  tl : z.tc.length ≤ n + 1
  pl : z.pu.length ≤ n + 1
  t : ∀ t ∈ z.tc, t.length ≤ n
  p : ∀ p ∈ z.pu, p.length ≤ n ∧ (p.map (·.1)).Nodup
  ls : z.ls.length ≤ 5
  lo : ∀ t ∈ z.ls, okLt t ∧ t.bs.length = room ∧ ∃ i : Int, t.line = .int i
  tn : z.tc ≠ []
  pn : z.pu ≠ []
theorem putI_nd {ns : Pus} {x v : Int} (h : (ns.map (·.1)).Nodup) : ((putI ns x v).map (·.1)).Nodup := by
  unfold putI
  split
  · rw [List.map_map]
    have e : ((fun p : Int × Int => p.1) ∘ fun p : Int × Int => if p.1 = x then (p.1, v) else p) = fun p => p.1 := by
      funext p
      dsimp only [Function.comp]
      split <;> rfl
    rw [e]
    exact h
  · rename_i hn
    rw [List.map_append]
    refine List.nodup_append.mpr ⟨h, by simp, fun a ha b hb e => ?_⟩
    obtain ⟨p, hp, rfl⟩ := List.mem_map.mp ha
    have hb := List.mem_singleton.mp hb
    refine hn (List.any_eq_true.mpr ⟨p, hp, decide_eq_true ?_⟩)
    rw [e, hb]
theorem Few.mono {room n m : Nat} {z : S45} (h : Few room n z) (hn : n ≤ m) : Few room m z :=
  ⟨Nat.le_trans h.wo hn, h.wv, h.bx, h.bv, Nat.le_trans h.told hn, Nat.le_trans h.lines hn, Nat.le_trans h.br hn, by have := h.tl; omega, by have := h.pl; omega, fun t ht => Nat.le_trans (h.t t ht) hn, fun p hp => ⟨Nat.le_trans (h.p p hp).1 hn, (h.p p hp).2⟩, h.ls, h.lo, h.tn, h.pn⟩
theorem len1 {α : Type} {l : List α} {x : α} {n : Nat} (h : l.length ≤ n) : (l ++ [x]).length ≤ n + 1 := by rw [List.length_append]; exact Nat.succ_le_succ h
theorem Few.touch {room n : Nat} {z : S45} {t : Th} (h : Few room n z) : Few room (n + 1) (z.touch t) := by
  have h2 := h.mono (Nat.le_succ n)
  obtain ⟨wo, bx, ls, told, lines, br, tc, pu, fin, over⟩ := z
  have htn := h.tn
  obtain ⟨c, r, rfl⟩ : ∃ a b, tc = a :: b := List.exists_cons_of_ne_nil htn
  exact ⟨h2.wo, h2.wv, h2.bx, h2.bv, h2.told, h2.lines, h2.br, h2.tl, h2.pl, fun x hx => by
    rcases List.mem_cons.mp hx with rfl | hx
    · exact len1 (h.t c (List.mem_cons_self ..))
    · exact h2.t x (List.mem_cons_of_mem _ hx), h2.p, h2.ls, h2.lo, List.cons_ne_nil _ _, h2.pn⟩
theorem Few.put {room n : Nat} {z : S45} {p v : Int} (hv : inR v) (h : Few room n z) : Few room (n + 1) (z.put p v) := by
  have h2 := h.mono (Nat.le_succ n)
  obtain ⟨wo, bx, ls, told, lines, br, tc, pu, fin, over⟩ := z
  have hpn := h.pn
  obtain ⟨c, r, rfl⟩ : ∃ a b, pu = a :: b := List.exists_cons_of_ne_nil hpn
  exact ⟨h2.wo, h2.wv, by rw [← h2.bx]; exact List.length_set .., fun x hx => by
    rcases List.mem_or_eq_of_mem_set hx with hx | rfl
    · exact h.bv x hx
    · exact hv, h2.told, h2.lines, h2.br, h2.tl, h2.pl, h2.t, fun x hx => by
    rcases List.mem_cons.mp hx with rfl | hx
    · have h3 := h.p c (List.mem_cons_self ..)
      exact ⟨Nat.le_trans (putI_len ..) (Nat.succ_le_succ h3.1), putI_nd h3.2⟩
    · exact h2.p x (List.mem_cons_of_mem _ hx), h2.ls, h2.lo, h2.tn, List.cons_ne_nil _ _⟩
theorem Few.wrote {room n : Nat} {z : S45} {x : Str} {v : Int} (hv : inR v) (h : Few room n z) : Few room (n + 1) { z with wo := putN z.wo x v } := by
  have h2 := h.mono (Nat.le_succ n)
  exact ⟨Nat.le_trans (putN_len ..) (Nat.succ_le_succ h.wo), putN_in h.wv hv, h2.bx, h2.bv, h2.told, h2.lines, h2.br, h2.tl, h2.pl, h2.t, h2.p, h2.ls, h2.lo, h2.tn, h2.pn⟩
theorem Few.tells {room n : Nat} {z : S45} {v : Int} (h : Few room n z) : Few room (n + 1) { z with told := z.told ++ [v] } := by
  have h2 := h.mono (Nat.le_succ n)
  exact ⟨h2.wo, h2.wv, h2.bx, h2.bv, len1 h.told, h2.lines, h2.br, h2.tl, h2.pl, h2.t, h2.p, h2.ls, h2.lo, h2.tn, h2.pn⟩
theorem Few.line {room n : Nat} {z : S45} {v : Int} (h : Few room n z) : Few room (n + 1) { z with lines := z.lines ++ [v] } := by
  have h2 := h.mono (Nat.le_succ n)
  exact ⟨h2.wo, h2.wv, h2.bx, h2.bv, h2.told, len1 h.lines, h2.br, h2.tl, h2.pl, h2.t, h2.p, h2.ls, h2.lo, h2.tn, h2.pn⟩
theorem Few.over_ {room n : Nat} {z : S45} {x : Option (Ew × Int)} (h : Few room n z) : Few room n { z with fin := x, over := true } :=
  ⟨h.wo, h.wv, h.bx, h.bv, h.told, h.lines, h.br, h.tl, h.pl, h.t, h.p, h.ls, h.lo, h.tn, h.pn⟩
theorem Few.meet {c : Lc} {room n : Nat} {z : S45} {s : Sm} {v : Int} (h : Few room n z) : Few room (n + 1) (z.meet c s v) := by
  have h2 := h.mono (Nat.le_succ n)
  obtain ⟨wo, bx, ls, told, lines, br, tc, pu, fin, over⟩ := z
  cases ls with
  | nil => exact ⟨h2.wo, h2.wv, h2.bx, h2.bv, h2.told, h2.lines, len1 h.br, h2.tl, h2.pl, h2.t, h2.p, h2.ls, h2.lo, h2.tn, h2.pn⟩
  | cons t r =>
    obtain ⟨ht, hb, _⟩ := h.lo t (List.mem_cons_self ..)
    have hj : (joinW c wo t.os s).length ≤ n + 1 ∧ ∀ p ∈ joinW c wo t.os s, inR p.2 := by
      cases s with
      | join l x w e => exact ⟨Nat.le_trans (putN_len ..) (Nat.succ_le_succ h.wo), putN_in h.wv (join_in ht.rng)⟩
      | _ => exact ⟨h2.wo, h2.wv⟩
    exact ⟨hj.1, hj.2, hb, ht.bs, h2.told, h2.lines, len1 h.br, Nat.succ_le_succ h.tl, Nat.succ_le_succ h.pl, fun x hx => by
      rcases List.mem_cons.mp hx with rfl | hx
      · exact Nat.zero_le _
      · exact h2.t x hx, fun x hx => by
      rcases List.mem_cons.mp hx with rfl | hx
      · exact ⟨Nat.zero_le _, List.nodup_nil⟩
      · exact h2.p x hx, by have := h.ls; show r.length ≤ 5; have e : (t :: r).length = r.length + 1 := rfl; change (t :: r).length ≤ 5 at this; omega, fun x hx => h.lo x (List.mem_cons_of_mem _ hx), List.cons_ne_nil _ _, List.cons_ne_nil _ _⟩
theorem Few.done {c : Lc} {room n : Nat} {z : S45} {r : Row45} (hc : okLc c) (hr : OkR c z.wo z.bx r) (hx : ∀ e ∈ r.sm.exprs, e.okv) (h : Few room n z) : Few room (n + 3) (z.done c r) := by
  unfold S45.done
  split
  · exact h.over_.mono (by omega)
  · split
    · exact (h.line.over_).mono (by omega)
    · have h1 : Few room (n + 1) { z with lines := z.lines ++ [r.sm.line] } := h.line
      have val : ∀ {e : Ex} {v : Int}, evE c z.wo z.bx e = ([], .inr v) → e.okv → inR v := fun {e v} he hv => (ev_ok hc h.wv h.bv e hv).2 v (by rw [he])
      cases hr with
      | put h3 h4 => exact h1.touch.put (val h4 (hx _ (List.mem_cons_of_mem _ (List.mem_singleton.mpr rfl))))
      | tellB h3 => exact h1.touch.tells
      | setB h3 => exact Few.wrote (getD_in h.bv) h1.touch
      | tell h3 => exact h1.tells.mono (Nat.le_succ _)
      | set h3 => exact (Few.wrote (val h3 (hx _ (List.mem_singleton.mpr rfl))) h1).mono (Nat.le_succ _)
      | meet => exact h1.meet.mono (Nat.le_succ _)
      | join h3 => exact h1.meet.mono (Nat.le_succ _)
end Tl
set_option maxHeartbeats 2000000
namespace Tl
open PySem PySem.Spec PyProof.Rows L2
/-! ### k45: its dict is made -/
abbrev kS (x : String) : Key := Sum.inr (Str.ofString x)
end Tl
set_option maxHeartbeats 2000000
namespace Tl
open PySem PySem.Spec PyProof.Rows L2
variable {Wp : Sm → Prop} {Wt : Ex → Prop} {o : Int}
/-! ### the rows of a def that stands anywhere: its body's first line is o -/
/-- what is written, the next row's line is n -/
def okY (Wp : Sm → Prop) (Wt : Ex → Prop) (o : Int) : Zp → Int → Prop
  | .top b, n => nmB o b ∧ n = o + (txB b).length ∧ okB Wp Wt False 7 b
  | .inn k l z b, n => okY Wp Wt o z l ∧ okB Wp Wt (Zp.inn k l z b).inW (6 - z.ks.length) b ∧ z.ks.length < 6 ∧ match k with
    | .iff e => Wt e ∧ nmB (l + 1) b ∧ n = l + 1 + (txB b).length
    | .whl e => Wt e ∧ nmB (l + 1) b ∧ n = l + 1 + (txB b).length
    | .els e c => Wt e ∧ nmB (l + 1) c ∧ okB Wp Wt z.inW (6 - z.ks.length) c ∧ nmB (l + 1 + (txB c).length + 1) b ∧ n = l + 1 + (txB c).length + 1 + (txB b).length
theorem okY_add {z : Zp} {n : Int} {s : Sm} (h : okY Wp Wt o z n) (h1 : nmS n s) (h2 : inLp z.inW s) (h3 : s.deep + z.ks.length ≤ 7) (h4 : ∀ t ∈ allSt s, stW Wp Wt t) : okY Wp Wt o (z.add s) (n + (txS s).length) := by
  cases z with
  | top b =>
    obtain ⟨a, rfl, c⟩ := h
    refine ⟨nmB_app.mpr ⟨a, nmB_one.mpr h1⟩, by rw [txB_app, txB_one, List.length_append]; omega, c.add h2 (by unfold Zp.ks at h3; exact h3) h4⟩
  | inn k l z b =>
    obtain ⟨a, c, d, g⟩ := h
    have hd : s.deep ≤ 6 - z.ks.length := by
      have : (Zp.inn k l z b).ks.length = z.ks.length + 1 := rfl
      omega
    refine ⟨a, ?_, d, ?_⟩
    · have e : (Zp.inn k l z (b ++ [s])).inW = (Zp.inn k l z b).inW := by cases k <;> rfl
      rw [e]
      exact c.add h2 hd h4
    · cases k with
      | iff e =>
        obtain ⟨g1, g2, rfl⟩ := g
        exact ⟨g1, nmB_app.mpr ⟨g2, nmB_one.mpr h1⟩, by rw [txB_app, txB_one, List.length_append]; omega⟩
      | whl e =>
        obtain ⟨g1, g2, rfl⟩ := g
        exact ⟨g1, nmB_app.mpr ⟨g2, nmB_one.mpr h1⟩, by rw [txB_app, txB_one, List.length_append]; omega⟩
      | els e q =>
        obtain ⟨g1, g2, g3, g4, rfl⟩ := g
        exact ⟨g1, g2, g3, nmB_app.mpr ⟨g4, nmB_one.mpr h1⟩, by rw [txB_app, txB_one, List.length_append]; omega⟩
theorem okY_if {z : Zp} {n : Int} {e : Ex} (h : okY Wp Wt o z n) (he : Wt e) (hk : z.ks.length < 6) : okY Wp Wt o (.inn (.iff e) n z []) (n + 1) := ⟨h, .nil, hk, he, nmB_nil, by rw [txB_nil]; show _ = n + 1 + 0; omega⟩
theorem okY_whl {z : Zp} {n : Int} {e : Ex} (h : okY Wp Wt o z n) (he : Wt e) (hk : z.ks.length < 6) : okY Wp Wt o (.inn (.whl e) n z []) (n + 1) := ⟨h, .nil, hk, he, nmB_nil, by rw [txB_nil]; show _ = n + 1 + 0; omega⟩
theorem okY_els {z : Zp} {n l : Int} {e : Ex} {b : List Sm} (h : okY Wp Wt o (.inn (.iff e) l z b) n) : okY Wp Wt o (.inn (.els e b) l z []) (n + 1) := by
  obtain ⟨a, c, d, g1, g2, rfl⟩ := h
  exact ⟨a, .nil, d, g1, g2, c, nmB_nil, by rw [txB_nil]; show _ = l + 1 + (txB b).length + 1 + 0; omega⟩
theorem okY_fin {z : Zp} {n l : Int} {k : Kd} {b : List Sm} (h : okY Wp Wt o (.inn k l z b) n) : okY Wp Wt o (z.add (k.st l b)) (n + 1) := by
  obtain ⟨a, c, d, g⟩ := h
  have hd := c.dp
  cases k with
  | iff e =>
    obtain ⟨g1, g2, rfl⟩ := g
    have := okY_add (s := .if1 l e b) a (by unfold nmS; exact ⟨rfl, g2⟩) (by unfold inLp; exact c.lp) (by show deeps b + 1 + _ ≤ 7; omega) fun t ht => by
      rw [allSt] at ht
      rcases List.mem_cons.mp ht with rfl | ht
      · exact g1
      · exact c.st t ht
    rw [txS_if1, List.length_cons, List.length_append] at this
    rw [show l + 1 + (txB b).length + 1 = l + ((((txB b).length + [Tx.fin].length) + 1 : Nat) : Int) by simp only [List.length_cons, List.length_nil]; omega]
    exact this
  | whl e =>
    obtain ⟨g1, g2, rfl⟩ := g
    have := okY_add (s := .whl l e b) a (by unfold nmS; exact ⟨rfl, g2⟩) (by unfold inLp; exact c.lp) (by show deeps b + 1 + _ ≤ 7; omega) fun t ht => by
      rw [allSt] at ht
      rcases List.mem_cons.mp ht with rfl | ht
      · exact g1
      · exact c.st t ht
    rw [txS_whl, List.length_cons, List.length_append] at this
    rw [show l + 1 + (txB b).length + 1 = l + ((((txB b).length + [Tx.fin].length) + 1 : Nat) : Int) by simp only [List.length_cons, List.length_nil]; omega]
    exact this
  | els e q =>
    obtain ⟨g1, g2, g3, g4, rfl⟩ := g
    have hq := g3.dp
    have := okY_add (s := .if2 l e q b) a (by unfold nmS; exact ⟨rfl, g2, g4⟩) (by unfold inLp; exact ⟨g3.lp, c.lp⟩) (by show max (deeps q) (deeps b) + 1 + _ ≤ 7; omega) fun t ht => by
      rw [allSt] at ht
      rcases List.mem_cons.mp ht with rfl | ht
      · exact g1
      rcases List.mem_append.mp ht with ht | ht
      · exact g3.st t ht
      · exact c.st t ht
    rw [txS_if2, List.length_cons, List.length_append, List.length_cons, List.length_append] at this
    rw [show l + 1 + (txB q).length + 1 + (txB b).length + 1 = l + ((((txB q).length + (((txB b).length + [Tx.fin].length) + 1)) + 1 : Nat) : Int) by simp only [List.length_cons, List.length_nil]; omega]
    exact this
theorem yall {z : Zp} : ∀ {n : Int}, okY Wp Wt o z n → nmB o z.all ∧ okB Wp Wt False 7 z.all ∧ txB z.all = z.tx ++ List.replicate z.ks.length .fin := by
  induction hk : z.ks.length generalizing z with
  | zero =>
    intro n h
    cases z with
    | top b =>
      obtain ⟨a, _, c⟩ := h
      rw [Zp.all]
      exact ⟨a, c, by rw [tx_top]; exact (List.append_nil _).symm⟩
    | inn k l z b => cases hk
  | succ m ih =>
    intro n h
    cases z with
    | top b => cases hk
    | inn k l z b =>
      have h2 := okY_fin h
      have hk2 : (z.add (k.st l b)).ks.length = m := by rw [zadd_ks]; exact Nat.succ.inj hk
      obtain ⟨a, c, d⟩ := ih hk2 h2
      rw [Zp.all]
      refine ⟨a, c, ?_⟩
      rw [d, zclose_tx, List.append_assoc, List.replicate_succ]
      rfl
end Tl
set_option maxHeartbeats 2000000
namespace Tl
open PySem PySem.Spec PyProof.Rows L2
/-! ### the plan of a drawn program of several defs (k46 .. k49, k74) -/
structure Pl6 where
  nms : List Str
  dfs : List (Str × List Str)
  room : Nat
  mn : Bool
  op : Addr
def dfhD (d : Str × List Str) : D := .tup [.str d.1, .lst (d.2.map .str)]
def plan3 (p : Pl6) : List (Key × D) := [(kS "names", .lst (p.nms.map .str)), (kS "defs", .lst (p.dfs.map dfhD)), (kS "room", .int p.room)]
def planD (p : Pl6) : List (Key × D) := [(kS "names", .lst (p.nms.map .str)), (kS "defs", .lst (p.dfs.map dfhD)), (kS "room", .int p.room), (kS "main", .bl p.mn), (kS "opened", .ref p.op)]
section
variable {p : Pl6}
theorem pl_names : valD (planD p) (.inr (Str.ofString "names")) = some (.lst (p.nms.map .str)) := by simp [planD, valD, ofS_inj]
theorem pl_defs : valD (planD p) (.inr (Str.ofString "defs")) = some (.lst (p.dfs.map dfhD)) := by simp [planD, valD, ofS_inj]
theorem pl_room : valD (planD p) (.inr (Str.ofString "room")) = some (.int p.room) := by simp [planD, valD, ofS_inj]
theorem pl_main : valD (planD p) (.inr (Str.ofString "main")) = some (.bl p.mn) := by simp [planD, valD, ofS_inj]
theorem pl_opened : valD (planD p) (.inr (Str.ofString "opened")) = some (.ref p.op) := by simp [planD, valD, ofS_inj]
theorem p3_defs : valD (plan3 p) (.inr (Str.ofString "defs")) = some (.lst (p.dfs.map dfhD)) := by simp [plan3, valD, ofS_inj]
theorem plan_first {b : Bool} {op : Addr} : mergeM (plan3 p) ([kS "main", kS "opened"].zip [D.bl b, .ref op]) = planD { p with mn := b, op := op } := by
  simp [plan3, planD, mergeM, putM, ofS_inj]
theorem plan_next {b : Bool} {op : Addr} : mergeM (planD p) ([kS "main", kS "opened"].zip [D.bl b, .ref op]) = planD { p with mn := b, op := op } := by
  simp [planD, mergeM, putM, ofS_inj]
end
structure okP6 (p : Pl6) : Prop where
  nl : p.nms.length = 9
  ns : ∀ x ∈ p.nms, shN x
  dl : p.dfs.length ≤ 3
  dn : ∀ d ∈ p.dfs, shN d.1 ∧ d.2.length ≤ 3 ∧ ∀ x ∈ d.2, shN x
  room : p.room ≤ 12
/-- an expression: how deep, how many boxes -/
structure okX (d b : Nat) (e : Ex) : Prop where
  dp : e.deep ≤ d
  ok : e.okv
  bx : e.bxs ≤ b
  sh : exSh e
theorem okX.mono {d b d' b' : Nat} {e : Ex} (h : okX d b e) (h1 : d ≤ d') (h2 : b ≤ b') : okX d' b' e := ⟨Nat.le_trans h.dp h1, h.ok, Nat.le_trans h.bx h2, h.sh⟩
theorem x_num {i : Int} (h : inR i) : okX 1 0 (.num i) := ⟨Nat.le_refl _, h, Nat.le_refl _, by show i.natAbs < 10 ^ 12; obtain ⟨h1, h2⟩ := h; omega⟩
theorem x_nam {x : Str} (h : shN x) : okX 1 0 (.nam x) := ⟨Nat.le_refl _, trivial, Nat.le_refl _, h⟩
theorem x_lane : okX 1 0 .lane := ⟨Nat.le_refl _, trivial, Nat.le_refl _, trivial⟩
theorem x_lanes : okX 1 0 .lanes := ⟨Nat.le_refl _, trivial, Nat.le_refl _, trivial⟩
theorem x_mine : okX 1 0 .mine := ⟨Nat.le_refl _, trivial, Nat.le_refl _, trivial⟩
theorem x_box {d b : Nat} {e : Ex} (h : okX d b e) : okX (d + 1) (b + 1) (.box e) := ⟨Nat.succ_le_succ h.dp, h.ok, Nat.succ_le_succ h.bx, h.sh⟩
theorem x_op {d b1 b2 : Nat} {o : Op7} {x y : Ex} (h : okX d b1 x) (g : okX d b2 y) : okX (d + 1) (b1 + b2) (.op o x y) := ⟨by show max x.deep y.deep + 1 ≤ _; have := h.dp; have := g.dp; omega, ⟨h.ok, g.ok⟩, by show x.bxs + y.bxs ≤ _; have := h.bx; have := g.bx; omega, ⟨h.sh, g.sh⟩⟩
theorem nm_at {p : Pl6} (h : okP6 p) {i : Int} (h0 : 0 ≤ i) (h9 : i < 9) : ∃ x, x ∈ p.nms ∧ shN x ∧ atI (p.nms.map D.str) i = some (.str x) := by
  have hl := h.nl
  have hi : i.toNat < p.nms.length := by omega
  have key : ∀ k : Nat, (hk : k < p.nms.length) → atI (p.nms.map D.str) (k : Int) = some (.str p.nms[k]) := fun k hk => atI_nat (by
    rw [List.getElem?_map, List.getElem?_eq_getElem hk]
    rfl)
  have := key i.toNat hi
  rw [show ((i.toNat : Nat) : Int) = i by omega] at this
  exact ⟨p.nms[i.toNat], List.getElem_mem _, h.ns _ (List.getElem_mem _), this⟩
theorem sign3_at {n : Int} : ∃ e, okX 1 0 e ∧ atI [D.tup [.str (Str.ofString "lane")], .tup [.str (Str.ofString "lanes")], .tup [.str (Str.ofString "mine")]] (n % 3) = some e.d := by
  have := modB (a := n) (b := 3) (by decide)
  by_cases e : n % 3 = 0
  · exact ⟨.lane, x_lane, by rw [e]; exact atI_0⟩
  · by_cases e2 : n % 3 = 1
    · exact ⟨.lanes, x_lanes, by rw [e2]; exact atI_1⟩
    · exact ⟨.mine, x_mine, by rw [show n % 3 = 2 by omega]; exact atI_2⟩
theorem two_of {n : Int} {x y : D} : atI [x, y] (n % 2) = some x ∨ atI [x, y] (n % 2) = some y := by
  have := modB (a := n) (b := 2) (by decide)
  by_cases e : n % 2 = 0
  · exact .inl (by rw [e]; exact atI_0)
  · exact .inr (by rw [show n % 2 = 1 by omega]; exact atI_1)
theorem op7_at {n : Int} : ∃ o : Op7, atI [D.str (Str.ofString "+"), .str (Str.ofString "-"), .str (Str.ofString "*"), .str (Str.ofString "div"), .str (Str.ofString "rem"), .str (Str.ofString "<"), .str (Str.ofString "=")] (n % 7) = some (.str o.s) := by
  have := modB (a := n) (b := 7) (by decide)
  by_cases e0 : n % 7 = 0
  · exact ⟨.add, by rw [e0]; exact atI_0⟩
  by_cases e1 : n % 7 = 1
  · exact ⟨.sub, by rw [e1]; exact atI_1⟩
  by_cases e2 : n % 7 = 2
  · exact ⟨.mul, by rw [e2]; exact atI_2⟩
  by_cases e3 : n % 7 = 3
  · exact ⟨.div, by rw [e3]; exact atI_3⟩
  by_cases e4 : n % 7 = 4
  · exact ⟨.rem, by rw [e4]; exact atI_4⟩
  by_cases e5 : n % 7 = 5
  · exact ⟨.lt, by rw [e5]; exact atI_5⟩
  · exact ⟨.eq, by rw [show n % 7 = 6 by omega]; exact atI_nat (j := 6) rfl⟩
end Tl
set_option maxHeartbeats 2000000
namespace Tl
open PySem PySem.Spec PyProof.Rows L2
/-! ### the statements and rows of a drawn program of several defs -/
structure p46 (fs : List Str) (mn : Bool) (s : Sm) : Prop where
  few : s.exprs.length ≤ 3
  ex : ∀ e ∈ s.exprs, okX 4 2 e
  nm : s.nmOk
  cl : ∀ l x f es, s = .call l x f es → f ∈ fs ∧ f ≠ Str.ofString "main"
  rt : mn = true → ∀ l e, s ≠ .ret l e
theorem p46_to {fs : List Str} {mn : Bool} {s : Sm} {l : Int} (h : p46 fs mn s) : p46 fs mn (s.to l) := by
  obtain ⟨h1, h2, h3, h4, h5⟩ := h
  cases s <;> first
    | exact ⟨h1, h2, h3, fun l x f es e => (by cases e; exact h4 _ _ _ _ rfl), fun q l e e2 => (by cases e2; exact h5 q _ _ rfl)⟩
    | exact ⟨h1, h2, h3, fun l x f es e => (by cases e), fun q l e e2 => (by cases e2; exact h5 q _ _ rfl)⟩
    | exact ⟨h1, h2, h3, fun l x f es e => (by cases e; exact h4 _ _ _ _ rfl), fun q l e e2 => (by cases e2)⟩
    | exact ⟨h1, h2, h3, fun l x f es e => (by cases e), fun q l e e2 => (by cases e2)⟩
abbrev t46 (e : Ex) : Prop := okX 4 2 e
variable {fs : List Str} {mn : Bool} {o : Int}
def okYl (fs : List Str) (mn : Bool) (o : Int) (z : Zp) : Prop := okY (p46 fs mn) t46 o z (o + z.tx.length)
theorem y_top : okYl fs mn o (.top []) := ⟨nmB_nil, rfl, .nil⟩
theorem y_pl {z : Zp} {s : Sm} (h : okYl fs mn o z) (hp : isPl s) (hs : p46 fs mn s) (hw : inLp z.inW s) (hk : z.ks.length ≤ 5) : ∃ z', z'.tx = z.tx ++ [.pln (s.to 0)] ∧ z'.ks = z.ks ∧ okYl fs mn o z' := by
  have hp2 : isPl (s.to (o + z.tx.length)) := by rw [to_pl]; exact hp
  have et : (z.add (s.to (o + z.tx.length))).tx = z.tx ++ [.pln (s.to 0)] := by rw [zadd_tx, pl_tx hp2, to_to]
  refine ⟨z.add (s.to (o + z.tx.length)), et, zadd_ks .., ?_⟩
  have d1 : (s.to (o + z.tx.length)).deep = 1 := by cases s <;> first | exact hp.elim | rfl
  have al : allSt (s.to (o + z.tx.length)) = [s.to (o + z.tx.length)] := by cases s <;> first | exact hp.elim | rfl
  have hw2 : inLp z.inW (s.to (o + z.tx.length)) := by cases s <;> first | exact hp.elim | exact hw
  have := okY_add (Wp := p46 fs mn) (Wt := t46) h ((pl_nm hp2).mpr to_ln) hw2 (by omega) fun t ht => by
    rw [al] at ht
    rw [List.mem_singleton.mp ht]
    have hq := p46_to (l := o + z.tx.length) hs
    cases s <;> first | exact hp.elim | exact hq
  unfold okYl
  rw [et, List.length_append, List.length_singleton]
  rw [pl_tx hp2] at this
  rw [show o + ((z.tx.length + 1 : Nat) : Int) = o + z.tx.length + (([Tx.pln ((s.to (o + z.tx.length)).to 0)] : List Tx).length : Nat) from by simp only [List.length_singleton]; omega]
  exact this
theorem y_if {z : Zp} {e : Ex} (h : okYl fs mn o z) (he : t46 e) (hk : z.ks.length ≤ 5) : ∃ z', z'.tx = z.tx ++ [.iff e] ∧ z'.ks = Str.ofString "if" :: z.ks ∧ okYl fs mn o z' := by
  have et : (Zp.inn (.iff e) (o + z.tx.length) z []).tx = z.tx ++ [.iff e] := by rw [tx_iff, txB_nil]
  refine ⟨_, et, rfl, ?_⟩
  have := okY_if (Wp := p46 fs mn) (Wt := t46) h he (by omega)
  unfold okYl
  rw [et, List.length_append, List.length_singleton, show o + ((z.tx.length + 1 : Nat) : Int) = o + z.tx.length + 1 from by omega]
  exact this
theorem y_whl {z : Zp} {e : Ex} (h : okYl fs mn o z) (he : t46 e) (hk : z.ks.length ≤ 5) : ∃ z', z'.tx = z.tx ++ [.whl e] ∧ z'.ks = Str.ofString "while" :: z.ks ∧ okYl fs mn o z' ∧ z'.inW := by
  have et : (Zp.inn (.whl e) (o + z.tx.length) z []).tx = z.tx ++ [.whl e] := by rw [tx_whl, txB_nil]
  refine ⟨_, et, rfl, ?_, trivial⟩
  have := okY_whl (Wp := p46 fs mn) (Wt := t46) h he (by omega)
  unfold okYl
  rw [et, List.length_append, List.length_singleton, show o + ((z.tx.length + 1 : Nat) : Int) = o + z.tx.length + 1 from by omega]
  exact this
theorem y_els {z : Zp} {r : List Str} (h : okYl fs mn o z) (hk : z.ks = Str.ofString "if" :: r) : ∃ z', z'.tx = z.tx ++ [.els] ∧ z'.ks = Str.ofString "else" :: r ∧ okYl fs mn o z' := by
  cases z with
  | top b => cases hk
  | inn k l z b =>
    have hk2 := (List.cons.inj hk)
    cases k with
    | whl e => exact absurd hk2.1 (by show Str.ofString "while" ≠ Str.ofString "if"; decide +kernel)
    | els e c => exact absurd hk2.1 (by show Str.ofString "else" ≠ Str.ofString "if"; decide +kernel)
    | iff e =>
      have et : (Zp.inn (.els e b) l z []).tx = (Zp.inn (.iff e) l z b).tx ++ [.els] := by rw [tx_els, tx_iff, txB_nil, List.append_assoc]; rfl
      refine ⟨.inn (.els e b) l z [], et, by rw [← hk2.2]; rfl, ?_⟩
      have := okY_els (Wp := p46 fs mn) (Wt := t46) h
      unfold okYl
      rw [et, List.length_append, List.length_singleton, show o + (((Zp.inn (.iff e) l z b).tx.length + 1 : Nat) : Int) = o + (Zp.inn (.iff e) l z b).tx.length + 1 from by omega]
      exact this
theorem y_fin {z : Zp} {w : Str} {r : List Str} (h : okYl fs mn o z) (hk : z.ks = w :: r) : ∃ z', z'.tx = z.tx ++ [.fin] ∧ z'.ks = r ∧ okYl fs mn o z' := by
  cases z with
  | top b => cases hk
  | inn k l z b =>
    have hk2 := (List.cons.inj hk)
    refine ⟨z.add (k.st l b), zclose_tx, by rw [zadd_ks]; exact hk2.2, ?_⟩
    have := okY_fin (Wp := p46 fs mn) (Wt := t46) h
    unfold okYl
    rw [zclose_tx, List.length_append, List.length_singleton, show o + (((Zp.inn k l z b).tx.length + 1 : Nat) : Int) = o + (Zp.inn k l z b).tx.length + 1 from by omega]
    exact this
theorem ks_inW6 : ∀ {z : Zp}, (Str.ofString "while") ∈ z.ks → z.inW
  | .top _, h => by cases h
  | .inn (.whl _) _ _ _, _ => trivial
  | .inn (.iff _) _ z _, h => by
    rcases List.mem_cons.mp h with e | h
    · exact absurd e (by show Str.ofString "while" ≠ Str.ofString "if"; decide +kernel)
    · exact ks_inW6 (z := z) h
  | .inn (.els _ _) _ z _, h => by
    rcases List.mem_cons.mp h with e | h
    · exact absurd e (by show Str.ofString "while" ≠ Str.ofString "else"; decide +kernel)
    · exact ks_inW6 (z := z) h
def pile6 (z : Zp) : List D := z.ks.reverse.map .str
def txs6 (R : List Tx) : List D := R.map Tx.d
theorem txs6_app {a b : List Tx} : txs6 (a ++ b) = txs6 a ++ txs6 b := List.map_append ..
/-! a program's rows -/
def dfTx (d : Df) : List Tx := .dff [.str d.name, .lst (d.ps.map .str)] :: (txB d.body ++ [.fin])
def pgTx (pg : Pg) : List Tx := pg.flatMap dfTx
/-- the defs stand one behind another, the first at the line n -/
def pgN (n : Int) : Pg → Prop
  | [] => True
  | d :: t => d.first = n ∧ nmB (n + 1) d.body ∧ d.last = n + 1 + (txB d.body).length ∧ pgN (n + (dfTx d).length) t
theorem pgTx_app {a b : Pg} : pgTx (a ++ b) = pgTx a ++ pgTx b := List.flatMap_append ..
theorem pgN_app : ∀ {a b : Pg} {n : Int}, pgN n a → pgN (n + (pgTx a).length) b → pgN n (a ++ b)
  | [], b, n, _, h => by
    have : n + ((pgTx []).length : Int) = n := by show n + ((0 : Nat) : Int) = n; omega
    rw [this] at h
    exact h
  | d :: t, b, n, h, g => by
    obtain ⟨h1, h2, h3, h4⟩ := h
    refine ⟨h1, h2, h3, pgN_app h4 ?_⟩
    have e : (pgTx (d :: t)).length = (dfTx d).length + (pgTx t).length := by show (dfTx d ++ pgTx t).length = _; rw [List.length_append]
    rw [e] at g
    rw [show n + ((dfTx d).length : Int) + ((pgTx t).length : Int) = n + (((dfTx d).length + (pgTx t).length : Nat) : Int) by omega]
    exact g
/-- what a drawn def keeps -/
structure okD6 (fs : List Str) (d : Df) : Prop where
  nm : shN d.name
  ps : d.ps.length ≤ 3
  pn : ∀ x ∈ d.ps, shN x
  bd : okB (p46 fs (decide (d.name = Str.ofString "main"))) t46 False 7 d.body
end Tl
set_option maxHeartbeats 2000000
namespace Tl
open PySem PySem.Spec PyProof.Rows L2
/-! ### k46: a story with fewer steps is the beginning of the longer one -/
structure Lg where
  told : List Int
  lines : List Int
  br : List (Int × Int)
  tc : List (List Th)
  pu : List Pus
def Ws.lg (s : Ws) : Lg := ⟨s.told, s.lines, s.brought, s.tcs, s.pus⟩
def tcA : List (List Th) → List Th → List (List Th)
  | [], _ => []
  | c :: r, t => (c ++ t) :: r
def puA : List Pus → Int → Int → List Pus
  | [], _, _ => []
  | q :: r, p, v => putI q p v :: r
def putsOf (t : List Th) : List Int := (t.filter (·.put)).map (·.place)
theorem putsOf_app {a b : List Th} : putsOf (a ++ b) = putsOf a ++ putsOf b := by unfold putsOf; rw [List.filter_append, List.map_append]
theorem putsOf_rd {l : Int} {rs : List Int} : putsOf (rdT l rs) = [] := by
  unfold putsOf rdT
  rw [List.filter_map]
  have : (rs.filter ((fun t : Th => t.put) ∘ fun p => (⟨false, p, l⟩ : Th))) = [] := List.filter_eq_nil_iff.mpr fun x _ h => by cases h
  rw [this]; rfl
theorem putsOf_one {p l : Int} : putsOf [⟨true, p, l⟩] = [p] := rfl
/-- what one step, or a letter, does to what a lane tells -/
inductive Stp (wd : Int → Str) : Lg → Lg → Bool → Bool → Prop
  | plain {g : Lg} {l : Int} {rs : List Int} (h : wd l ≠ Str.ofString "tell" ∧ wd l ≠ Str.ofString "put" ∧ wd l ≠ Str.ofString "meet" ∧ wd l ≠ Str.ofString "join" ∧ wd l ≠ Str.ofString "") : Stp wd g { g with lines := g.lines ++ [l], tc := tcA g.tc (rdT l rs) } false false
  | tell {g : Lg} {l : Int} {rs : List Int} {v : Int} (h : wd l = Str.ofString "tell") : Stp wd g { g with lines := g.lines ++ [l], tc := tcA g.tc (rdT l rs), told := g.told ++ [v] } false false
  | put {g : Lg} {l : Int} {rs : List Int} {p v : Int} (h : wd l = Str.ofString "put") : Stp wd g { g with lines := g.lines ++ [l], tc := tcA (tcA g.tc (rdT l rs)) [⟨true, p, l⟩], pu := puA g.pu p v } false false
  | meet {g : Lg} {l : Int} {rs : List Int} {v : Int} (h : wd l = Str.ofString "meet" ∨ wd l = Str.ofString "join") : Stp wd g { g with lines := g.lines ++ [l], tc := tcA g.tc (rdT l rs), br := g.br ++ [(l, v)] } false true
  | free {g : Lg} : Stp wd g { g with tc := [] :: g.tc, pu := [] :: g.pu } true false
def findI (q : Pus) (p : Int) : Option (Int × Int) := q.find? fun x => decide (x.1 = p)
def ndP (l : List Pus) : Prop := ∀ q ∈ l, (q.map (·.1)).Nodup
/-- b goes on from a -/
structure Ext (a b : Lg) : Prop where
  told : ∃ x, b.told = a.told ++ x
  lines : ∃ x, b.lines = a.lines ++ x
  br : ∃ x, b.br = a.br ++ x
  ph : ∃ A B t u r q q' r', a.tc = t :: r ∧ b.tc = A ++ (t ++ u) :: r ∧ a.pu = q :: r' ∧ b.pu = B ++ q' :: r' ∧ A.length = B.length ∧ r.length = r'.length ∧ ∀ p, p ∉ putsOf u → findI q' p = findI q p
  nd : ndP a.pu ∧ ndP b.pu
def okLg (a : Lg) : Prop := ∃ t r q r', a.tc = t :: r ∧ a.pu = q :: r' ∧ r.length = r'.length ∧ ndP a.pu
theorem Ext.refl {a : Lg} (h : okLg a) : Ext a a := by
  obtain ⟨t, r, q, r', h1, h2, h3, h4⟩ := h
  exact ⟨⟨[], (List.append_nil _).symm⟩, ⟨[], (List.append_nil _).symm⟩, ⟨[], (List.append_nil _).symm⟩, ⟨[], [], t, [], r, q, q, r', h1, by rw [List.append_nil]; exact h1, h2, h2, rfl, h3, fun p _ => rfl⟩, h4, h4⟩
theorem Ext.ok {a b : Lg} (h : Ext a b) : okLg b := by
  obtain ⟨_, _, _, ⟨A, B, t, u, r, q, q', r', h1, h2, h3, h4, h5, h6, h7⟩, _, h8⟩ := h
  cases A with
  | nil =>
    cases B with
    | nil => exact ⟨_, _, _, _, h2, h4, h6, h8⟩
    | cons _ _ => cases h5
  | cons x A =>
    cases B with
    | nil => cases h5
    | cons y B =>
      refine ⟨x, A ++ (t ++ u) :: r, y, B ++ q' :: r', h2, h4, ?_, h8⟩
      have := Nat.succ.inj h5
      simp only [List.length_append, List.length_cons]
      omega
theorem Ext.trans {a b c : Lg} (h : Ext a b) (g : Ext b c) : Ext a c := by
  obtain ⟨⟨x1, e1⟩, ⟨x2, e2⟩, ⟨x3, e3⟩, ⟨A, B, t, u, r, q, q', r', h1, h2, h3, h4, h5, h6, h7⟩, h8, _⟩ := h
  obtain ⟨⟨y1, f1⟩, ⟨y2, f2⟩, ⟨y3, f3⟩, ⟨A2, B2, t2, u2, r2, q2, q2', r2', g1, g2, g3, g4, g5, g6, g7⟩, _, g8⟩ := g
  refine ⟨⟨x1 ++ y1, by rw [f1, e1, List.append_assoc]⟩, ⟨x2 ++ y2, by rw [f2, e2, List.append_assoc]⟩, ⟨x3 ++ y3, by rw [f3, e3, List.append_assoc]⟩, ?_, h8, g8⟩
  cases A with
  | nil =>
    cases B with
    | cons _ _ => cases h5
    | nil =>
      rw [List.nil_append] at h2 h4
      rw [h2] at g1
      rw [h4] at g3
      obtain ⟨rfl, rfl⟩ := List.cons.inj g1
      obtain ⟨rfl, rfl⟩ := List.cons.inj g3
      exact ⟨A2, B2, t, u ++ u2, r, q, q2', r', h1, by rw [g2, List.append_assoc], h3, g4, g5, h6, fun p hp => by
        rw [putsOf_app] at hp
        rw [g7 p (fun hm => hp (List.mem_append_right _ hm)), h7 p (fun hm => hp (List.mem_append_left _ hm))]⟩
  | cons x A =>
    cases B with
    | nil => cases h5
    | cons y B =>
      rw [h2] at g1
      rw [h4] at g3
      obtain ⟨rfl, rfl⟩ := List.cons.inj g1
      obtain ⟨rfl, rfl⟩ := List.cons.inj g3
      exact ⟨A2 ++ (x ++ u2) :: A, B2 ++ q2' :: B, t, u, r, q, q', r', h1, by rw [g2, List.append_assoc]; rfl, h3, by rw [g4, List.append_assoc]; rfl, by simp only [List.length_append, List.length_cons]; have := Nat.succ.inj h5; omega, h6, h7⟩
theorem findI_put {q : Pus} {x v p : Int} (h : p ≠ x) : findI (putI q x v) p = findI q p := by
  unfold findI putI
  split
  · rw [List.find?_map]
    have e : ((fun y : Int × Int => decide (y.1 = p)) ∘ fun y : Int × Int => if y.1 = x then (y.1, v) else y) = fun y : Int × Int => decide (y.1 = p) := by
      funext y
      dsimp only [Function.comp]
      split <;> rfl
    rw [e]
    cases e2 : q.find? fun y => decide (y.1 = p) with
    | none => rfl
    | some y =>
      have := List.find?_some e2
      have h2 : y.1 = p := of_decide_eq_true this
      show some (if y.1 = x then (y.1, v) else y) = some y
      rw [if_neg (by rw [h2]; exact h)]
  · rw [List.find?_append]
    cases e2 : q.find? fun y => decide (y.1 = p) with
    | some y => rfl
    | none =>
      show none.or (([(x, v)] : Pus).find? fun y => decide (y.1 = p)) = none
      rw [List.find?_cons_of_neg (by simpa using fun e => h e.symm)]
      rfl
/-- a failed step -/
theorem ext_fail {g : Lg} {l : Int} {rs : List Int} (h : okLg g) : Ext g { g with lines := g.lines ++ [l], tc := tcA g.tc (rdT l rs) } := by
  obtain ⟨t, r, q, r', h1, h2, h3, h4⟩ := h
  obtain ⟨told, lines, br, tc, pu⟩ := g
  dsimp only at h1 h2 h4
  subst h1 h2
  exact ⟨⟨[], (List.append_nil _).symm⟩, ⟨[l], rfl⟩, ⟨[], (List.append_nil _).symm⟩, ⟨[], [], t, rdT l rs, r, q, q, r', rfl, rfl, rfl, rfl, rfl, h3, fun p _ => rfl⟩, h4, h4⟩
theorem Stp.ext {wd : Int → Str} {a b : Lg} {w w' : Bool} (h : Stp wd a b w w') (ok : okLg a) : Ext a b := by
  obtain ⟨t, r, q, r', h1, h2, h3, h4⟩ := ok
  cases h with
  | plain => exact ext_fail ⟨t, r, q, r', h1, h2, h3, h4⟩
  | tell h =>
    rename_i l rs v
    obtain ⟨told, lines, br, tc, pu⟩ := a
    dsimp only at h1 h2 h4
    subst h1 h2
    exact ⟨⟨[v], rfl⟩, ⟨[l], rfl⟩, ⟨[], (List.append_nil _).symm⟩, ⟨[], [], t, rdT l rs, r, q, q, r', rfl, rfl, rfl, rfl, rfl, h3, fun p _ => rfl⟩, h4, h4⟩
  | put h =>
    rename_i l rs p v
    obtain ⟨told, lines, br, tc, pu⟩ := a
    dsimp only at h1 h2 h4
    subst h1 h2
    exact ⟨⟨[], (List.append_nil _).symm⟩, ⟨[l], rfl⟩, ⟨[], (List.append_nil _).symm⟩, ⟨[], [], t, rdT l rs ++ [⟨true, p, l⟩], r, q, putI q p v, r', rfl, by show ((t ++ rdT l rs) ++ [_]) :: r = _; rw [List.append_assoc]; rfl, rfl, rfl, rfl, h3, fun x hx => by
      rw [putsOf_app, putsOf_one] at hx
      exact findI_put fun e => hx (List.mem_append_right _ (by rw [e]; exact List.mem_singleton.mpr rfl))⟩, h4, fun y hy => by
      rcases List.mem_cons.mp hy with rfl | hy
      · exact putI_nd (h4 q (List.mem_cons_self ..))
      · exact h4 y (List.mem_cons_of_mem _ hy)⟩
  | meet h =>
    rename_i l rs v
    obtain ⟨told, lines, br, tc, pu⟩ := a
    dsimp only at h1 h2 h4
    subst h1 h2
    exact ⟨⟨[], (List.append_nil _).symm⟩, ⟨[l], rfl⟩, ⟨[(l, v)], rfl⟩, ⟨[], [], t, rdT l rs, r, q, q, r', rfl, rfl, rfl, rfl, rfl, h3, fun p _ => rfl⟩, h4, h4⟩
  | free =>
    obtain ⟨told, lines, br, tc, pu⟩ := a
    dsimp only at h1 h2 h4
    subst h1 h2
    exact ⟨⟨[], (List.append_nil _).symm⟩, ⟨[], (List.append_nil _).symm⟩, ⟨[], (List.append_nil _).symm⟩, ⟨[[]], [[]], t, [], r, q, q, r', rfl, by rw [List.append_nil]; rfl, rfl, rfl, rfl, h3, fun p _ => rfl⟩, h4, fun y hy => by
      rcases List.mem_cons.mp hy with rfl | hy
      · exact List.nodup_nil
      · exact h4 y hy⟩
/-! the counts -/
def cntW (wd : Int → Str) (w : Str) (ls : List Int) : Nat := (ls.filter fun l => decide (wd l = w)).length
theorem cnt_snoc {wd : Int → Str} {w : Str} {ls : List Int} {l : Int} : cntW wd w (ls ++ [l]) = cntW wd w ls + (if wd l = w then 1 else 0) := by
  unfold cntW
  rw [List.filter_append, List.length_append]
  congr 1
  by_cases h : wd l = w
  · rw [if_pos h, List.filter_cons_of_pos (by simpa using h)]; rfl
  · rw [if_neg h, List.filter_cons_of_neg (by simpa using h)]; rfl
def sumP (tc : List (List Th)) : Nat := (tc.map fun t => (putsOf t).length).sum
structure Inv46 (wd : Int → Str) (g : Lg) (w : Bool) : Prop where
  told : g.told.length = cntW wd (Str.ofString "tell") g.lines
  put : sumP g.tc = cntW wd (Str.ofString "put") g.lines
  br : g.br.length = cntW wd (Str.ofString "meet") g.lines + cntW wd (Str.ofString "join") g.lines
  tc : g.tc.length + (if w = true then 1 else 0) = g.br.length + 1
  ok : okLg g
  ln : ∀ l ∈ g.lines, wd l ≠ Str.ofString ""
  key : Paired (fun (t : List Th) (q : Pus) => ∀ p, p ∈ q.map (·.1) ↔ p ∈ putsOf t) g.tc g.pu
theorem sumP_A {tc : List (List Th)} {t : List Th} (h : tc ≠ []) : sumP (tcA tc t) = sumP tc + (putsOf t).length := by
  cases tc with
  | nil => exact absurd rfl h
  | cons c r =>
    unfold sumP tcA
    rw [List.map_cons, List.map_cons, List.sum_cons, List.sum_cons, putsOf_app, List.length_append]
    omega
theorem tcA_len {tc : List (List Th)} {t : List Th} : (tcA tc t).length = tc.length := by cases tc <;> rfl
theorem tcA_ne {tc : List (List Th)} {t : List Th} (h : tc ≠ []) : tcA tc t ≠ [] := by
  cases tc with
  | nil => exact absurd rfl h
  | cons c r => exact List.cons_ne_nil _ _
theorem putI_key {q : Pus} {x v p : Int} : p ∈ (putI q x v).map (·.1) ↔ p = x ∨ p ∈ q.map (·.1) := by
  unfold putI
  split
  · rename_i h
    rw [List.map_map]
    have e : ((fun p : Int × Int => p.1) ∘ fun p : Int × Int => if p.1 = x then (p.1, v) else p) = fun p => p.1 := by
      funext p
      dsimp only [Function.comp]
      split <;> rfl
    rw [e]
    obtain ⟨y, hy, hy2⟩ := List.any_eq_true.mp h
    have hy3 : y.1 = x := of_decide_eq_true hy2
    exact ⟨fun h => .inr h, fun h => by
      rcases h with h | h
      · rw [h, ← hy3]; exact List.mem_map.mpr ⟨y, hy, rfl⟩
      · exact h⟩
  · rw [List.map_append]
    exact ⟨fun h => by
      rcases List.mem_append.mp h with h | h
      · exact .inr h
      · exact .inl (List.mem_singleton.mp h), fun h => by
      rcases h with h | h
      · exact List.mem_append_right _ (by rw [h]; exact List.mem_singleton.mpr rfl)
      · exact List.mem_append_left _ h⟩
theorem w_tp : Str.ofString "tell" ≠ Str.ofString "put" := by decide +kernel
theorem w_tm : Str.ofString "tell" ≠ Str.ofString "meet" := by decide +kernel
theorem w_tj : Str.ofString "tell" ≠ Str.ofString "join" := by decide +kernel
theorem w_pm : Str.ofString "put" ≠ Str.ofString "meet" := by decide +kernel
theorem w_pj : Str.ofString "put" ≠ Str.ofString "join" := by decide +kernel
theorem w_mj : Str.ofString "meet" ≠ Str.ofString "join" := by decide +kernel
theorem okLg.ne {a : Lg} (h : okLg a) : a.tc ≠ [] := by
  obtain ⟨t, r, q, r', h1, h2, h3, _⟩ := h
  rw [h1]
  exact List.cons_ne_nil _ _
theorem key_A {tc : List (List Th)} {pu : List Pus} {t : List Th} (ht : putsOf t = []) (h : Paired (fun (t : List Th) (q : Pus) => ∀ p, p ∈ q.map (·.1) ↔ p ∈ putsOf t) tc pu) : Paired (fun (t : List Th) (q : Pus) => ∀ p, p ∈ q.map (·.1) ↔ p ∈ putsOf t) (tcA tc t) pu := by
  cases h with
  | nil => exact .nil
  | cons h1 h2 => exact .cons (fun p => by rw [putsOf_app, ht, List.append_nil]; exact h1 p) h2
theorem key_P {tc : List (List Th)} {pu : List Pus} {x v l : Int} (h : Paired (fun (t : List Th) (q : Pus) => ∀ p, p ∈ q.map (·.1) ↔ p ∈ putsOf t) tc pu) : Paired (fun (t : List Th) (q : Pus) => ∀ p, p ∈ q.map (·.1) ↔ p ∈ putsOf t) (tcA tc [⟨true, x, l⟩]) (puA pu x v) := by
  cases h with
  | nil => exact .nil
  | cons h1 h2 => exact .cons (fun p => by
      rw [putsOf_app, putsOf_one, putI_key, h1 p, List.mem_append, List.mem_singleton]
      exact ⟨fun h => h.elim .inr .inl, fun h => h.elim .inr .inl⟩) h2
theorem Stp.inv {wd : Int → Str} {a b : Lg} {w w' : Bool} (h : Stp wd a b w w') (i : Inv46 wd a w) : Inv46 wd b w' := by
  have hok := (h.ext i.ok).ok
  have hne := i.ok.ne
  obtain ⟨j1, j2, j3, j4, j5, jl, j6⟩ := i
  have lns : ∀ l : Int, wd l ≠ Str.ofString "" → ∀ y ∈ a.lines ++ [l], wd y ≠ Str.ofString "" := fun l hl y hy => by
    rcases List.mem_append.mp hy with hy | hy
    · exact jl y hy
    · rw [List.mem_singleton.mp hy]; exact hl
  cases h with
  | plain h =>
    obtain ⟨h1, h2, h3, h4, h5⟩ := h
    exact ⟨by rw [cnt_snoc, if_neg h1]; exact j1, by rw [cnt_snoc, if_neg h2, sumP_A hne, putsOf_rd]; exact j2, by rw [cnt_snoc, cnt_snoc, if_neg h3, if_neg h4]; exact j3, by rw [tcA_len]; exact j4, hok, lns _ h5, key_A putsOf_rd j6⟩
  | tell h =>
    exact ⟨by rw [cnt_snoc, if_pos h, List.length_append]; show _ + 1 = _; rw [j1], by rw [cnt_snoc, if_neg (by rw [h]; exact w_tp), sumP_A hne, putsOf_rd]; exact j2, by rw [cnt_snoc, cnt_snoc, if_neg (by rw [h]; exact w_tm), if_neg (by rw [h]; exact w_tj)]; exact j3, by rw [tcA_len]; exact j4, hok, lns _ (by rw [h]; decide +kernel), key_A putsOf_rd j6⟩
  | put h =>
    exact ⟨by rw [cnt_snoc, if_neg (by rw [h]; exact w_tp.symm)]; exact j1, by rw [cnt_snoc, if_pos h, sumP_A (tcA_ne hne), sumP_A hne, putsOf_rd, putsOf_one]; show _ + 0 + 1 = _; rw [j2], by rw [cnt_snoc, cnt_snoc, if_neg (by rw [h]; exact w_pm), if_neg (by rw [h]; exact w_pj)]; exact j3, by rw [tcA_len, tcA_len]; exact j4, hok, lns _ (by rw [h]; decide +kernel), key_P (key_A putsOf_rd j6)⟩
  | meet h =>
    refine ⟨?_, ?_, ?_, ?_, hok, lns _ (by rcases h with h | h <;> rw [h] <;> decide +kernel), key_A putsOf_rd j6⟩
    · rw [cnt_snoc, if_neg (by rcases h with h | h <;> rw [h]; exact w_tm.symm; exact w_tj.symm)]; exact j1
    · rw [cnt_snoc, if_neg (by rcases h with h | h <;> rw [h]; exact w_pm.symm; exact w_pj.symm), sumP_A hne, putsOf_rd]; exact j2
    · rw [cnt_snoc, cnt_snoc, List.length_append]
      show _ + 1 = _
      rw [j3]
      rcases h with h | h
      · rw [if_pos h, if_neg (by rw [h]; exact w_mj)]; omega
      · rw [if_pos h, if_neg (by rw [h]; exact w_mj.symm)]; omega
    · rw [tcA_len, List.length_append]
      show a.tc.length + 1 = a.br.length + 1 + 1
      have : a.tc.length + 0 = a.br.length + 1 := j4
      omega
  | free =>
    exact ⟨j1, by show sumP ([] :: a.tc) = _; unfold sumP; rw [List.map_cons, List.sum_cons]; show 0 + _ = _; rw [Nat.zero_add]; exact j2, j3, by show a.tc.length + 1 + 0 = a.br.length + 1; have : a.tc.length + 1 = a.br.length + 1 := j4; omega, hok, jl, .cons (fun p => Iff.rfl) j6⟩
end Tl
set_option maxHeartbeats 2000000
namespace Tl
open PySem PySem.Spec PyProof.Rows L2
/-! ### k46: the walker's steps as steps of what it tells -/
variable {wd : Int → Str} {c : Lc} {s : Ws}
def okWd6 (wd : Int → Str) (b : List Sm) : Prop := ∀ d ∈ allBd b, wd d.line = d.wd
def Good (wd : Int → Str) (s : Ws) : Prop := ∀ b ∈ s.bks, okWd6 wd b.body
theorem next_lg : s.next.lg = s.lg := by unfold Ws.next; cases s.bks <;> rfl
theorem give_lg {x : Str} {v : Int} : (s.give x v).lg = s.lg := by unfold Ws.give; cases s.frs <;> rfl
theorem leave_lg {y : Wy} : (s.leave y).lg = s.lg := rfl
theorem out_lg {v : Int} : (s.out v).lg = s.lg := by
  unfold Ws.out
  cases s.frs with
  | nil => rfl
  | cons f r =>
    dsimp only
    split
    · rfl
    · rw [give_lg]; rfl
theorem touch_lg {t : List Th} : (s.touch t).lg = { s.lg with tc := tcA s.lg.tc t } := by
  unfold Ws.touch
  cases h : s.tcs with
  | nil =>
    show s.lg = { s.lg with tc := tcA s.tcs t }
    rw [h]
    unfold Ws.lg
    rw [h]
    rfl
  | cons a r => show _ = { s.lg with tc := tcA s.tcs t }; rw [h]; rfl
theorem next_steps6 : s.next.steps = s.steps := by unfold Ws.next; cases s.bks <;> rfl
theorem give_wait {x : Str} {v : Int} : (s.give x v).wait = s.wait ∧ (s.give x v).steps = s.steps ∧ (s.give x v).bks = s.bks ∧ (s.give x v).fin = s.fin := by unfold Ws.give; cases s.frs <;> exact ⟨rfl, rfl, rfl, rfl⟩
theorem leaveF_sub {y : Wy} : ∀ {l : List Ba} {b : Ba}, b ∈ leaveF y l → b ∈ l
  | [], b, h => h
  | x :: r, b, h => by
    unfold leaveF at h
    split at h
    · exact List.mem_cons_of_mem _ h
    · exact List.mem_cons_of_mem _ (leaveF_sub h)
theorem out_facts {v : Int} : (s.out v).wait = s.wait ∧ (s.out v).steps = s.steps ∧ ∀ b ∈ (s.out v).bks, b ∈ s.bks := by
  unfold Ws.out
  cases s.frs with
  | nil => exact ⟨rfl, rfl, fun b h => leaveF_sub h⟩
  | cons f r =>
    dsimp only
    split
    · exact ⟨rfl, rfl, fun b h => leaveF_sub h⟩
    · obtain ⟨h1, h2, h3, h4⟩ := give_wait (s := { (s.leave .df) with frs := r }) (x := f.taker) (v := v)
      exact ⟨h1, h2, fun b h => by rw [h3] at h; exact leaveF_sub h⟩
theorem touch_facts {t : List Th} : (s.touch t).wait = s.wait ∧ (s.touch t).steps = s.steps ∧ (s.touch t).bks = s.bks ∧ (s.touch t).fin = s.fin := by unfold Ws.touch; cases s.tcs <;> exact ⟨rfl, rfl, rfl, rfl⟩
theorem good_next (h : Good wd s) : Good wd s.next := by
  intro b hb
  unfold Ws.next at hb
  cases e : s.bks with
  | nil => rw [e] at hb; dsimp only at hb; rw [e] at hb; cases hb
  | cons x r =>
    rw [e] at hb
    rcases List.mem_cons.mp hb with rfl | hb
    · exact h x (by rw [e]; exact List.mem_cons_self ..)
    · exact h b (by rw [e]; exact List.mem_cons_of_mem _ hb)
theorem good_of {s t : Ws} (h : Good wd s) (e : ∀ b ∈ t.bks, b ∈ s.bks) : Good wd t := fun b hb => h b (e b hb)
theorem good_def {pg : Pg} {f : Str} (h : ∀ o ∈ pg, okWd6 wd o.body) : okWd6 wd (defOf pg f).body := by
  unfold defOf
  cases e : pg.find? fun o => decide (o.name = f) with
  | none => intro d hd; change d ∈ allBd [] at hd; rw [allBd] at hd; cases hd
  | some o => exact h o (List.mem_of_find?_eq_some e)
/-- a deed that is not refused for its steps -/
def deedF (c : Lc) (s : Ws) (d : Sm) : Ws := match evEs c s.names s.boxes d.exprs with
  | (rs, .inl f) => ((s.count d.line).touch (rdT d.line rs)).end_ f d.line
  | (rs, .inr vs) => ((s.count d.line).touch (rdT d.line rs)).onward c d vs
theorem deed_tired {d : Sm} (h : c.most ≤ s.steps) : s.deed c d = s.end_ .tired d.line := if_pos h
theorem deed_on {d : Sm} (h : ¬ c.most ≤ s.steps) : s.deed c d = deedF c s d := if_neg h
theorem evEs_m {m : Nat} {ns : Nms} {bx : List Int} : ∀ es : List Ex, evEs { c with most := m } ns bx es = evEs c ns bx es
  | [] => rfl
  | e :: t => by rw [evEs_cons, evEs_cons, evEs_m t, evE_c (c := { c with most := m }) (d := c) rfl rfl rfl e]
theorem deedF_m {m : Nat} {d : Sm} : deedF { c with most := m } s d = deedF c s d := by
  unfold deedF
  rw [evEs_m]
  rfl
theorem letOn_m {m : Nat} {t : Lt} : s.letOn { c with most := m } t = s.letOn c t := rfl
theorem turn_cases (hn : s.bks ≠ []) (hg : Good wd s) : (∃ d, (∀ t ∈ allSt d, wd t.line = t.wd) ∧ ∀ c : Lc, s.turn c = s.deed c d) ∨ ∃ t : Ws, (∀ c : Lc, s.turn c = t) ∧ t.lg = s.lg ∧ t.steps = s.steps ∧ t.wait = s.wait ∧ Good wd t := by
  unfold Ws.turn
  cases e : s.bks with
  | nil => exact absurd e hn
  | cons b r =>
    dsimp only
    cases e2 : b.body[b.at_]? with
    | some d =>
      refine .inl ⟨d, fun t ht => hg b (by rw [e]; exact List.mem_cons_self ..) t ?_, fun c => rfl⟩
      exact allBd_mem (List.mem_of_getElem? e2) t ht
    | none =>
      right
      dsimp only
      by_cases q : b.why = .df
      · obtain ⟨h1, h2, h3⟩ := out_facts (s := s) (v := 0)
        exact ⟨s.out 0, fun c => if_pos q, out_lg, h2, h1, good_of hg h3⟩
      · exact ⟨{ s with bks := r }, fun c => if_neg q, rfl, rfl, rfl, good_of hg fun b hb => by rw [e]; exact List.mem_cons_of_mem _ hb⟩
/-- what a deed comes to -/
def Dd46 (wd : Int → Str) (s : Ws) (l : Int) (t : Ws) : Prop := t.steps = s.steps + 1 ∧ t.lg.lines = s.lines ++ [l] ∧ ((t.fin ≠ none ∧ t.wait = none ∧ Ext s.lg t.lg) ∨ (Stp wd s.lg t.lg false t.wait.isSome ∧ Good wd t))
theorem dd_plain {t : Ws} {l : Int} {rs : List Int} (h : wd l ≠ Str.ofString "tell" ∧ wd l ≠ Str.ofString "put" ∧ wd l ≠ Str.ofString "meet" ∧ wd l ≠ Str.ofString "join" ∧ wd l ≠ Str.ofString "") (e1 : t.lg = { s.lg with lines := s.lines ++ [l], tc := tcA s.tcs (rdT l rs) }) (e2 : t.steps = s.steps + 1) (e3 : t.wait = none) (g : Good wd t) : Dd46 wd s l t := by
  refine ⟨e2, by rw [e1], .inr ⟨?_, g⟩⟩
  rw [e1, e3]
  exact .plain (g := s.lg) h
theorem dd_fail {t : Ws} {l : Int} {rs : List Int} (ok : okLg s.lg) (e1 : t.lg = { s.lg with lines := s.lines ++ [l], tc := tcA s.tcs (rdT l rs) }) (e2 : t.steps = s.steps + 1) (e3 : t.wait = none) (e4 : t.fin ≠ none) : Dd46 wd s l t := by
  refine ⟨e2, by rw [e1], .inl ⟨e4, e3, ?_⟩⟩
  rw [e1]
  exact ext_fail (g := s.lg) ok
theorem nw6 {l : Int} {w : Str} (h : wd l = w) (k : w ≠ Str.ofString "tell" ∧ w ≠ Str.ofString "put" ∧ w ≠ Str.ofString "meet" ∧ w ≠ Str.ofString "join" ∧ w ≠ Str.ofString "") : wd l ≠ Str.ofString "tell" ∧ wd l ≠ Str.ofString "put" ∧ wd l ≠ Str.ofString "meet" ∧ wd l ≠ Str.ofString "join" ∧ wd l ≠ Str.ofString "" := by rw [h]; exact k
theorem deed46 {d : Sm} (hr : s.run) (ok : okLg s.lg) (hg : Good wd s) (hsub : ∀ t ∈ allSt d, wd t.line = t.wd) (hpg : ∀ o ∈ c.pg, okWd6 wd o.body) : Dd46 wd s d.line (deedF c s d) := by
  have hself : wd d.line = d.wd := hsub d (by cases d <;> first | exact List.mem_singleton.mpr rfl | (rw [allSt]; exact List.mem_cons_self ..))
  unfold deedF
  generalize evEs c s.names s.boxes d.exprs = x
  obtain ⟨rs, x⟩ := x
  obtain ⟨q1, q2, q3, q4⟩ := touch_facts (s := s.count d.line) (t := rdT d.line rs)
  have eL : ((s.count d.line).touch (rdT d.line rs)).lg = { s.lg with lines := s.lines ++ [d.line], tc := tcA s.tcs (rdT d.line rs) } := by rw [touch_lg]; rfl
  have w0 : ((s.count d.line).touch (rdT d.line rs)).wait = none := by rw [q1]; exact hr.1
  have st0 : ((s.count d.line).touch (rdT d.line rs)).steps = s.steps + 1 := q2
  have g0 : Good wd ((s.count d.line).touch (rdT d.line rs)) := good_of hg fun b hb => by rw [q3] at hb; exact hb
  have l0 : ((s.count d.line).touch (rdT d.line rs)).lines = s.lines ++ [d.line] := by have := congrArg Lg.lines eL; exact this
  have t0 : ((s.count d.line).touch (rdT d.line rs)).told = s.told := by have := congrArg Lg.told eL; exact this
  have b0 : ((s.count d.line).touch (rdT d.line rs)).brought = s.brought := by have := congrArg Lg.br eL; exact this
  have c0 : ((s.count d.line).touch (rdT d.line rs)).tcs = tcA s.tcs (rdT d.line rs) := by have := congrArg Lg.tc eL; exact this
  have p0 : ((s.count d.line).touch (rdT d.line rs)).pus = s.pus := by have := congrArg Lg.pu eL; exact this
  cases x with
  | inl f => exact dd_fail ok eL st0 w0 (fun e => by cases e)
  | inr vs =>
    dsimp only
    generalize (s.count d.line).touch (rdT d.line rs) = s1 at *
    have n1 : s1.next.lg = s1.lg := next_lg
    have n2 : s1.next.wait = none := by rw [next_wait]; exact w0
    have n3 : s1.next.steps = s.steps + 1 := by rw [next_steps6]; exact st0
    have n4 := good_next g0
    cases d with
    | set l x e =>
      obtain ⟨h1, h2, h3, h4⟩ := give_wait (s := s1.next) (x := x) (v := hd vs)
      exact dd_plain (nw6 (l := l) (w := Str.ofString "set") hself (by decide +kernel)) (by show (s1.next.give x (hd vs)).lg = _; rw [give_lg, n1]; exact eL) (h2.trans n3) (h1.trans n2) (good_of n4 fun b hb => by rw [← h3]; exact hb)
    | tell l e =>
      refine ⟨n3, ?_, .inr ⟨?_, good_of n4 fun b hb => hb⟩⟩
      · show s1.next.lines = _
        have := congrArg Lg.lines (n1.trans eL); exact this
      · show Stp wd s.lg ⟨s1.told ++ [hd vs], s1.next.lines, s1.next.brought, s1.next.tcs, s1.next.pus⟩ false s1.next.wait.isSome
        have e1 := n1.trans eL
        have a1 : s1.next.lines = s.lines ++ [l] := congrArg Lg.lines e1
        have a2 : s1.next.brought = s.brought := congrArg Lg.br e1
        have a3 : s1.next.tcs = tcA s.tcs (rdT l rs) := congrArg Lg.tc e1
        have a4 : s1.next.pus = s.pus := congrArg Lg.pu e1
        rw [t0, a1, a2, a3, a4, n2]
        exact .tell (g := s.lg) hself
    | put l a b =>
      show Dd46 wd s l (s1.next.putB l (hd vs) (vs.getD 1 0))
      unfold Ws.putB
      split
      · exact dd_fail ok (by show s1.next.lg = _; rw [n1]; exact eL) n3 n2 (fun e => by cases e)
      · obtain ⟨h1, h2, h3, h4⟩ := touch_facts (s := s1.next) (t := [⟨true, hd vs, l⟩])
        have e1 := n1.trans eL
        have a0 : s1.next.told = s.told := congrArg Lg.told e1
        have a1 : s1.next.lines = s.lines ++ [l] := congrArg Lg.lines e1
        have a2 : s1.next.brought = s.brought := congrArg Lg.br e1
        have a3 : s1.next.tcs = tcA s.tcs (rdT l rs) := congrArg Lg.tc e1
        have a4 : s1.next.pus = s.pus := congrArg Lg.pu e1
        have e2 : (s1.next.touch [⟨true, hd vs, l⟩]).lg = { s1.next.lg with tc := tcA s1.next.tcs [⟨true, hd vs, l⟩] } := touch_lg
        have k1 : (s1.next.touch [⟨true, hd vs, l⟩]).told = s.told := (congrArg Lg.told e2).trans a0
        have k2 : (s1.next.touch [⟨true, hd vs, l⟩]).lines = s.lines ++ [l] := (congrArg Lg.lines e2).trans a1
        have k3 : (s1.next.touch [⟨true, hd vs, l⟩]).brought = s.brought := (congrArg Lg.br e2).trans a2
        have k4 : (s1.next.touch [⟨true, hd vs, l⟩]).tcs = tcA (tcA s.tcs (rdT l rs)) [⟨true, hd vs, l⟩] := by have := congrArg Lg.tc e2; rw [← a3]; exact this
        refine ⟨h2.trans n3, k2, .inr ⟨?_, good_of n4 fun b hb => by rw [← h3]; exact hb⟩⟩
        show Stp wd s.lg ⟨(s1.next.touch [⟨true, hd vs, l⟩]).told, (s1.next.touch [⟨true, hd vs, l⟩]).lines, (s1.next.touch [⟨true, hd vs, l⟩]).brought, (s1.next.touch [⟨true, hd vs, l⟩]).tcs, match s1.next.pus with | [] => [] | q :: r => putI q (hd vs) (vs.getD 1 0) :: r⟩ false (s1.next.touch [⟨true, hd vs, l⟩]).wait.isSome
        have k5 : (match s1.next.pus with | [] => [] | q :: r => putI q (hd vs) (vs.getD 1 0) :: r) = puA s.pus (hd vs) (vs.getD 1 0) := by rw [a4]; cases s.pus <;> rfl
        rw [k1, k2, k3, k4, h1, n2, k5]
        exact .put (g := s.lg) hself
    | ret l e =>
      obtain ⟨h1, h2, h3⟩ := out_facts (s := s1.next) (v := hd vs)
      exact dd_plain (nw6 (l := l) (w := Str.ofString "return") hself (by decide +kernel)) (by show (s1.next.out (hd vs)).lg = _; rw [out_lg, n1]; exact eL) (h2.trans n3) (h1.trans n2) (good_of n4 h3)
    | stop l => exact dd_fail ok (by show s1.next.lg = _; rw [n1]; exact eL) n3 n2 (fun e => by cases e)
    | brk l =>
      have g2 : Good wd (s1.next.leave .wh) := good_of n4 fun b hb => leaveF_sub hb
      exact dd_plain (nw6 (l := l) (w := Str.ofString "break") hself (by decide +kernel)) (by show (s1.next.leave .wh).next.lg = _; rw [next_lg, leave_lg, n1]; exact eL) (by show (s1.next.leave .wh).next.steps = _; rw [next_steps6]; exact n3) (by show (s1.next.leave .wh).next.wait = _; rw [next_wait]; exact n2) (good_next g2)
    | agn l =>
      have g2 : Good wd (s1.next.leave .wh) := good_of n4 fun b hb => leaveF_sub hb
      exact dd_plain (nw6 (l := l) (w := Str.ofString "again") hself (by decide +kernel)) (by show (s1.next.leave .wh).lg = _; rw [leave_lg, n1]; exact eL) n3 n2 g2
    | meet l =>
      refine ⟨n3, ?_, .inr ⟨?_, good_of n4 fun b hb => hb⟩⟩
      · have := congrArg Lg.lines (n1.trans eL); exact this
      · show Stp wd s.lg ⟨s1.next.told, s1.next.lines, s1.brought ++ [(l, 0)], s1.next.tcs, s1.next.pus⟩ false true
        have e1 := n1.trans eL
        have a0 : s1.next.told = s.told := congrArg Lg.told e1
        have a1 : s1.next.lines = s.lines ++ [l] := congrArg Lg.lines e1
        have a3 : s1.next.tcs = tcA s.tcs (rdT l rs) := congrArg Lg.tc e1
        have a4 : s1.next.pus = s.pus := congrArg Lg.pu e1
        rw [a0, a1, b0, a3, a4]
        exact .meet (g := s.lg) (.inl hself)
    | join l x w e =>
      refine ⟨n3, ?_, .inr ⟨?_, good_of n4 fun b hb => hb⟩⟩
      · have := congrArg Lg.lines (n1.trans eL); exact this
      · show Stp wd s.lg ⟨s1.next.told, s1.next.lines, s1.brought ++ [(l, hd vs)], s1.next.tcs, s1.next.pus⟩ false true
        have e1 := n1.trans eL
        have a0 : s1.next.told = s.told := congrArg Lg.told e1
        have a1 : s1.next.lines = s.lines ++ [l] := congrArg Lg.lines e1
        have a3 : s1.next.tcs = tcA s.tcs (rdT l rs) := congrArg Lg.tc e1
        have a4 : s1.next.pus = s.pus := congrArg Lg.pu e1
        rw [a0, a1, b0, a3, a4]
        exact .meet (g := s.lg) (.inr hself)
    | call l x f es =>
      show Dd46 wd s l (s1.next.callD c l x f vs)
      unfold Ws.callD
      split
      · exact dd_fail ok (by show s1.next.lg = _; rw [n1]; exact eL) n3 n2 (fun e => by cases e)
      · exact dd_plain (nw6 (l := l) (w := Str.ofString "call") hself (by decide +kernel)) (by show s1.next.lg = _; rw [n1]; exact eL) n3 n2 fun b hb => by
          rcases List.mem_cons.mp hb with rfl | hb
          · exact good_def hpg
          · exact n4 b hb
    | if1 l e b =>
      have hw : wd l ≠ Str.ofString "tell" ∧ wd l ≠ Str.ofString "put" ∧ wd l ≠ Str.ofString "meet" ∧ wd l ≠ Str.ofString "join" ∧ wd l ≠ Str.ofString "" := by rw [show wd l = Str.ofString "if" from hself]; exact ⟨by decide +kernel, by decide +kernel, by decide +kernel, by decide +kernel, by decide +kernel⟩
      show Dd46 wd s l (if hd vs = 0 then s1.next else s1.next.push b .iff)
      split
      · exact dd_plain hw (n1.trans eL) n3 n2 n4
      · exact dd_plain hw (n1.trans eL) n3 n2 fun y hy => by
          rcases List.mem_cons.mp hy with rfl | hy
          · exact fun t ht => hsub t (by rw [allSt]; exact List.mem_cons_of_mem _ ht)
          · exact n4 y hy
    | if2 l e b b2 =>
      have hw : wd l ≠ Str.ofString "tell" ∧ wd l ≠ Str.ofString "put" ∧ wd l ≠ Str.ofString "meet" ∧ wd l ≠ Str.ofString "join" ∧ wd l ≠ Str.ofString "" := by rw [show wd l = Str.ofString "if" from hself]; exact ⟨by decide +kernel, by decide +kernel, by decide +kernel, by decide +kernel, by decide +kernel⟩
      show Dd46 wd s l (if hd vs = 0 then s1.next.push b2 .iff else s1.next.push b .iff)
      split
      · exact dd_plain hw (n1.trans eL) n3 n2 fun y hy => by
          rcases List.mem_cons.mp hy with rfl | hy
          · exact fun t ht => hsub t (by rw [allSt]; exact List.mem_cons_of_mem _ (List.mem_append_right _ ht))
          · exact n4 y hy
      · exact dd_plain hw (n1.trans eL) n3 n2 fun y hy => by
          rcases List.mem_cons.mp hy with rfl | hy
          · exact fun t ht => hsub t (by rw [allSt]; exact List.mem_cons_of_mem _ (List.mem_append_left _ ht))
          · exact n4 y hy
    | whl l e b =>
      have hw : wd l ≠ Str.ofString "tell" ∧ wd l ≠ Str.ofString "put" ∧ wd l ≠ Str.ofString "meet" ∧ wd l ≠ Str.ofString "join" ∧ wd l ≠ Str.ofString "" := by rw [show wd l = Str.ofString "while" from hself]; exact ⟨by decide +kernel, by decide +kernel, by decide +kernel, by decide +kernel, by decide +kernel⟩
      show Dd46 wd s l (if hd vs = 0 then s1.next else s1.push b .wh)
      split
      · exact dd_plain hw (n1.trans eL) n3 n2 n4
      · exact dd_plain hw eL st0 w0 fun y hy => by
          rcases List.mem_cons.mp hy with rfl | hy
          · exact fun t ht => hsub t (by rw [allSt]; exact List.mem_cons_of_mem _ ht)
          · exact g0 y hy
end Tl
set_option maxHeartbeats 2000000
namespace Tl
open PySem PySem.Spec PyProof.Rows L2
/-! ### k46: the whole story and the shorter one -/
variable {wd : Int → Str} {c : Lc} {s : Ws}
theorem okWs_m {m : Nat} (h : okWs c s) (hs : s.steps ≤ m) : okWs { c with most := m } s := { h with st := hs }
theorem okLc_m {m : Nat} (h : okLc c) (hm : m ≤ c.most) : okLc { c with most := m } := { h with most := Nat.le_trans hm h.most }
theorem dd_cases {t : Ws} {l : Int} (h : Dd46 wd s l t) (ok : okLg s.lg) : Ext s.lg t.lg := by
  rcases h.2.2 with h | h
  · exact h.2.2
  · exact h.1.ext ok
theorem ext_go (hc : okLc c) (hpg : ∀ o ∈ c.pg, okWd6 wd o.body) : ∀ (n : Nat) (s : Ws), okWs c s → Good wd s → okLg s.lg → (s.run → s.mu c < n) → Ext s.lg (s.go c).lg ∧ ((s.go c).wait.isSome = true → Good wd (s.go c))
  | 0, s, h, hg, ok, hm => by
    have hr : ¬ s.run := fun hr => absurd (hm hr) (Nat.not_lt_zero _)
    rw [go_stop hr]
    exact ⟨.refl ok, fun _ => hg⟩
  | n + 1, s, h, hg, ok, hm => by
    by_cases hr : s.run
    · rw [← go_turn hc h hr]
      have hn := h.ne hr.2
      have ht := h.turn hc hr
      have hmu : (s.turn c).run → (s.turn c).mu c < n := fun hr2 => by
        have h1 := mu_turn (c := c) hr hn hr2
        have h2 := hm hr
        omega
      rcases turn_cases hn hg with ⟨d, hd, ht2⟩ | ⟨t, ht2, e1, e2, e3, e4⟩
      · by_cases hs : c.most ≤ s.steps
        · rw [ht2 c, deed_tired hs, go_stop (fun h => by cases h.2)]
          exact ⟨.refl ok, fun _ => hg⟩
        · have hdd := deed46 (c := c) hr ok hg hd hpg
          have et : s.turn c = deedF c s d := (ht2 c).trans (deed_on hs)
          rw [et] at ht hmu ⊢
          have hx := dd_cases hdd ok
          rcases hdd.2.2 with ⟨f1, f2, f3⟩ | ⟨f1, f2⟩
          · rw [go_stop (fun h => f1 h.2)]
            exact ⟨hx, fun e => by rw [f2] at e; cases e⟩
          · obtain ⟨g1, g2⟩ := ext_go hc hpg n _ ht f2 hx.ok hmu
            exact ⟨hx.trans g1, g2⟩
      · rw [ht2 c] at ht hmu ⊢
        have := ext_go hc hpg n t ht e4 (by rw [e1]; exact ok) hmu
        rw [e1] at this
        exact this
    · rw [go_stop hr]
      exact ⟨.refl ok, fun _ => hg⟩
theorem letOn_lg {t : Lt} : (s.letOn c t).lg = { s.lg with tc := [] :: s.lg.tc, pu := [] :: s.lg.pu } ∧ (s.letOn c t).bks = s.bks ∧ (s.letOn c t).wait = none ∧ (s.letOn c t).steps = s.steps := by
  unfold Ws.letOn
  split
  · obtain ⟨h1, h2, h3, h4⟩ := give_wait (s := s.free t.bs) (x := by assumption) (v := joinF (by assumption) t.os c.lane.toNat)
    refine ⟨by rw [give_lg]; rfl, ?_, ?_, ?_⟩ <;> (unfold Ws.give; cases (s.free t.bs).frs <;> rfl)
  · exact ⟨rfl, rfl, rfl, rfl⟩
theorem ext_letters (hc : okLc c) (hpg : ∀ o ∈ c.pg, okWd6 wd o.body) : ∀ (ls : List Lt) (s : Ws), okWs c s → (s.wait.isSome = true → Good wd s) → okLg s.lg → (∀ t ∈ ls, okLt t) → Ext s.lg (s.letters c ls).lg
  | [], s, h, hg, ok, _ => .refl ok
  | t :: r, s, h, hg, ok, ht => by
    show Ext s.lg (Ws.letters c r (if s.wait.isSome then (s.letOn c t).go c else s)).lg
    by_cases hw : s.wait.isSome = true
    · rw [if_pos hw]
      obtain ⟨d, hd⟩ := Option.isSome_iff_exists.mp hw
      have h1 := h.letOn hd (ht t (List.mem_cons_self ..))
      obtain ⟨e1, e2, e3, e4⟩ := letOn_lg (c := c) (s := s) (t := t)
      have g1 : Good wd (s.letOn c t) := good_of (hg hw) fun b hb => by rw [e2] at hb; exact hb
      have x1 : Ext s.lg (s.letOn c t).lg := by rw [e1]; exact (Stp.free (wd := wd) (g := s.lg)).ext ok
      obtain ⟨x2, g2⟩ := ext_go hc hpg ((s.letOn c t).mu c + 1) _ h1 g1 x1.ok fun _ => Nat.lt_succ_self _
      exact (x1.trans x2).trans (ext_letters hc hpg r _ (go_ok hc h1).1 g2 x2.ok fun x hx => ht x (List.mem_cons_of_mem _ hx))
    · rw [if_neg hw]
      exact ext_letters hc hpg r s h hg ok fun x hx => ht x (List.mem_cons_of_mem _ hx)
/-- the shorter story F where the whole one goes on to W -/
def Sh46 (wd : Int → Str) (m : Nat) (F W : Ws) : Prop := ∃ h l, F = Ws.end_ h .tired l ∧ h.wait = none ∧ h.steps = m ∧ Inv46 wd h.lg false ∧ Ext h.lg W.lg ∧ ∃ x, W.lines = h.lines ++ l :: x
theorem Sh46.on {m : Nat} {F W W2 : Ws} (h : Sh46 wd m F W) (e : Ext W.lg W2.lg) : Sh46 wd m F W2 := by
  obtain ⟨h, l, h1, h2, h3, h4, h5, x, h6⟩ := h
  obtain ⟨y, hy⟩ := e.lines
  exact ⟨h, l, h1, h2, h3, h4, h5.trans e, x ++ y, by
    have hy : W2.lines = W.lines ++ y := hy
    rw [hy, h6, List.append_assoc]; rfl⟩
theorem go46 (hc : okLc c) (hpg : ∀ o ∈ c.pg, okWd6 wd o.body) {m : Nat} (hm : m ≤ c.most) : ∀ (n : Nat) (s : Ws), okWs c s → Good wd s → Inv46 wd s.lg s.wait.isSome → (s.run → s.mu c < n) → s.steps ≤ m →
    (s.go { c with most := m } = s.go c ∧ (s.go c).steps ≤ m ∧ ((s.go c).wait.isSome = true → Good wd (s.go c) ∧ Inv46 wd (s.go c).lg true)) ∨ Sh46 wd m (s.go { c with most := m }) (s.go c)
  | 0, s, h, hg, hi, hmu, hs => by
    have hr : ¬ s.run := fun hr => absurd (hmu hr) (Nat.not_lt_zero _)
    rw [go_stop hr, go_stop hr]
    exact .inl ⟨rfl, hs, fun e => ⟨hg, by rw [e] at hi; exact hi⟩⟩
  | n + 1, s, h, hg, hi, hmu, hs => by
    by_cases hr : s.run
    · have hw0 : s.wait.isSome = false := by rw [hr.1]; rfl
      rw [← go_turn hc h hr, ← go_turn (okLc_m hc hm) (okWs_m h hs) hr]
      have hn := h.ne hr.2
      have ht := h.turn hc hr
      have hmu2 : (s.turn c).run → (s.turn c).mu c < n := fun hr2 => by
        have h1 := mu_turn (c := c) hr hn hr2
        have h2 := hmu hr
        omega
      rcases turn_cases hn hg with ⟨d, hd, ht2⟩ | ⟨t, ht2, e1, e2, e3, e4⟩
      · rw [hw0] at hi
        by_cases hsm : m ≤ s.steps
        · have eF : s.turn { c with most := m } = s.end_ .tired d.line := (ht2 _).trans (deed_tired hsm)
          rw [eF, go_stop (c := { c with most := m }) (fun h => by cases h.2)]
          by_cases hcm : c.most ≤ s.steps
          · rw [ht2 c, deed_tired hcm, go_stop (fun h => by cases h.2)]
            exact .inl ⟨rfl, hs, fun e => by rw [show (s.end_ .tired d.line).wait = s.wait from rfl, hw0] at e; cases e⟩
          · have hdd := deed46 (c := c) hr hi.ok hg hd hpg
            have et : s.turn c = deedF c s d := (ht2 c).trans (deed_on hcm)
            rw [et] at ht hmu2 ⊢
            have hx := dd_cases hdd hi.ok
            have base : Sh46 wd m (s.end_ .tired d.line) (deedF c s d) := ⟨s, d.line, rfl, hr.1, by omega, hi, hx, [], hdd.2.1⟩
            right
            rcases hdd.2.2 with ⟨f1, f2, f3⟩ | ⟨f1, f2⟩
            · rw [go_stop (fun h => f1 h.2)]
              exact base
            · exact base.on (ext_go hc hpg n _ ht f2 hx.ok hmu2).1
        · have hcm : ¬ c.most ≤ s.steps := by omega
          have hdd := deed46 (c := c) hr hi.ok hg hd hpg
          have et : s.turn c = deedF c s d := (ht2 c).trans (deed_on hcm)
          have eF : s.turn { c with most := m } = deedF c s d := ((ht2 _).trans (deed_on hsm)).trans deedF_m
          rw [eF, et]
          rw [et] at ht hmu2
          have hst := hdd.1
          rcases hdd.2.2 with ⟨f1, f2, f3⟩ | ⟨f1, f2⟩
          · rw [go_stop (fun h => f1 h.2), go_stop (fun h => f1 h.2)]
            exact .inl ⟨rfl, by omega, fun e => by rw [f2] at e; cases e⟩
          · exact go46 hc hpg hm n _ ht f2 (f1.inv hi) hmu2 (by omega)
      · rw [ht2 c, ht2 { c with most := m }]
        rw [ht2 c] at ht hmu2
        exact go46 hc hpg hm n t ht e4 (by rw [e1, e3]; exact hi) hmu2 (by omega)
    · rw [go_stop hr, go_stop hr]
      exact .inl ⟨rfl, hs, fun e => ⟨hg, by rw [e] at hi; exact hi⟩⟩
theorem let46 (hc : okLc c) (hpg : ∀ o ∈ c.pg, okWd6 wd o.body) {m : Nat} (hm : m ≤ c.most) : ∀ (ls : List Lt) (s : Ws), okWs c s → (s.wait.isSome = true → Good wd s ∧ Inv46 wd s.lg true) → s.steps ≤ m → (∀ t ∈ ls, okLt t) →
    (s.letters { c with most := m } ls = s.letters c ls ∧ (s.letters c ls).steps ≤ m) ∨ Sh46 wd m (s.letters { c with most := m } ls) (s.letters c ls)
  | [], s, h, hg, hs, _ => .inl ⟨rfl, hs⟩
  | t :: r, s, h, hg, hs, ht => by
    show (Ws.letters { c with most := m } r (if s.wait.isSome then (s.letOn { c with most := m } t).go { c with most := m } else s) = Ws.letters c r (if s.wait.isSome then (s.letOn c t).go c else s) ∧ (Ws.letters c r (if s.wait.isSome then (s.letOn c t).go c else s)).steps ≤ m) ∨ Sh46 wd m (Ws.letters { c with most := m } r (if s.wait.isSome then (s.letOn { c with most := m } t).go { c with most := m } else s)) (Ws.letters c r (if s.wait.isSome then (s.letOn c t).go c else s))
    have htr : ∀ x ∈ r, okLt x := fun x hx => ht x (List.mem_cons_of_mem _ hx)
    by_cases hw : s.wait.isSome = true
    · rw [if_pos hw, if_pos hw, letOn_m]
      obtain ⟨d, hd⟩ := Option.isSome_iff_exists.mp hw
      obtain ⟨hg1, hi1⟩ := hg hw
      have h1 := h.letOn hd (ht t (List.mem_cons_self ..))
      obtain ⟨e1, e2, e3, e4⟩ := letOn_lg (c := c) (s := s) (t := t)
      have g1 : Good wd (s.letOn c t) := good_of hg1 fun b hb => by rw [e2] at hb; exact hb
      have i1 : Inv46 wd (s.letOn c t).lg (s.letOn c t).wait.isSome := by rw [e1, e3]; exact (Stp.free (wd := wd) (g := s.lg)).inv hi1
      rcases go46 hc hpg hm ((s.letOn c t).mu c + 1) _ h1 g1 i1 (fun _ => Nat.lt_succ_self _) (by omega) with ⟨a1, a2, a3⟩ | a1
      · rw [a1]
        exact let46 hc hpg hm r _ (go_ok hc h1).1 a3 a2 htr
      · right
        obtain ⟨x2, g2⟩ := ext_go hc hpg ((s.letOn c t).mu c + 1) _ h1 g1 i1.ok fun _ => Nat.lt_succ_self _
        have x3 := ext_letters hc hpg r _ (go_ok hc h1).1 g2 x2.ok htr
        have a2 := a1.on x3
        obtain ⟨k, l, b1, b2, b3⟩ := id a1
        rw [letters_no r (s := (s.letOn c t).go { c with most := m }) (by rw [b1]; exact b2)]
        exact a2
    · rw [if_neg hw, if_neg hw]
      exact let46 hc hpg hm r s h hg hs htr
theorem story46 (hc : okLc c) (hmn : ∃ o ∈ c.pg, o.name = Str.ofString "main") (hpg : ∀ o ∈ c.pg, okWd6 wd o.body) {m : Nat} (hm : m ≤ c.most) {bs : List Int} (hb : ∀ v ∈ bs, inR v) (hbl : bs.length ≤ 1000) {ls : List Lt} (hls : ∀ t ∈ ls, okLt t) :
    (storyF { c with most := m } bs ls = storyF c bs ls ∧ (storyF c bs ls).steps ≤ m) ∨ Sh46 wd m (storyF { c with most := m } bs ls) (storyF c bs ls) := by
  have h0 := start_ok hc hmn hb hbl
  have ok : okLg (Tl.start c bs).lg := ⟨[], [], [], [], rfl, rfl, rfl, fun q hq => by rw [List.mem_singleton.mp hq]; exact List.nodup_nil⟩
  have g0 : Good wd (Tl.start c bs) := fun b hb => by
    rw [List.mem_singleton.mp hb]
    exact good_def hpg
  have i0 : Inv46 wd (Tl.start c bs).lg (Tl.start c bs).wait.isSome := ⟨rfl, rfl, rfl, rfl, ok, fun l hl => (by cases hl), .cons (fun p => Iff.rfl) .nil⟩
  unfold storyF
  have es : Tl.start { c with most := m } bs = Tl.start c bs := rfl
  rw [es]
  rcases go46 hc hpg hm ((Tl.start c bs).mu c + 1) _ h0 g0 i0 (fun _ => Nat.lt_succ_self _) (Nat.zero_le _) with ⟨a1, a2, a3⟩ | a1
  · rw [a1]
    exact let46 hc hpg hm ls _ (go_ok hc h0).1 a3 a2 hls
  · right
    obtain ⟨x2, g2⟩ := ext_go hc hpg ((Tl.start c bs).mu c + 1) _ h0 g0 ok fun _ => Nat.lt_succ_self _
    have a2 := a1.on (ext_letters hc hpg ls _ (go_ok hc h0).1 g2 x2.ok hls)
    obtain ⟨k, l, b1, b2, b3⟩ := id a1
    rw [letters_no ls (s := (Tl.start c bs).go { c with most := m }) (by rw [b1]; exact b2)]
    exact a2
end Tl
set_option maxHeartbeats 2000000
namespace Tl
open PySem PySem.Spec PyProof.Rows L2
/-! ### for k, v in d.items(), the dict is locked -/
def iIs (te : TEt) : TIt := fun τ M Q => te τ M fun d M1 => match d with
  | .ref a => match M1 a with
    | some (.lk o ks kvs) => Q ⟨kvs.map fun kv => .tup [kD kv.1, kv.2], fun M => M a = some (.lk o ks kvs)⟩ M1
    | _ => False
  | _ => False
theorem kpi_at {K : PySem.W.Frag} {F : Hp} : ∀ {ks : List (Key × V)} {kvs : List (Key × D)} {i : Nat} {x : D}, KP K F ks kvs → (kvs.map fun kv => D.tup [kD kv.1, kv.2])[i]? = some x → ∃ k v d, ks[i]? = some (k, v) ∧ x = .tup [kD k, d] ∧ Rp K F v d
  | [], [], i, x, _, h => by simp at h
  | (k, v) :: ks, (k2, d) :: kvs, i, x, .cons h t, hx => by
    cases i with
    | zero =>
      have e : k = k2 := h.1
      subst e
      exact ⟨k, v, d, rfl, by simpa using hx.symm, h.2⟩
    | succ i =>
      have hx : (kvs.map fun kv => D.tup [kD kv.1, kv.2])[i]? = some x := by simpa using hx
      obtain ⟨k', v', d', h1, h2, h3⟩ := kpi_at t hx
      exact ⟨k', v', d', by simpa using h1, h2, h3⟩
theorem itOk_items {K : PySem.W.Frag} {F0 : Hp} {a : Addr} {o : Obj} {ks : List (Key × V)} {kvs : List (Key × D)} : ItOk K F0 (Iti a o ks) ⟨kvs.map fun kv => .tup [kD kv.1, kv.2], fun M => M a = some (.lk o ks kvs)⟩ where
  go := fun i G F H M x s R h hx => by
    obtain ⟨h1, h2⟩ := lk_of R h
    obtain ⟨k, v, d, h3, _⟩ := kpi_at h2 hx
    exact ⟨h1, (List.getElem?_eq_some_iff.mp h3).1⟩
  yld := fun i G F H M x v H' s R h hx y => by
    obtain ⟨h1, h2⟩ := lk_of R h
    obtain ⟨k, v2, d, h3, rfl, rv⟩ := kpi_at h2 hx
    obtain ⟨T, k', v', h4, rfl, nT, rfl⟩ := y
    rw [h3] at h4
    cases h4
    obtain ⟨s2, r2⟩ := R.newF (o := .tup [kV k, v2]) nT
    exact ⟨_, s2, r2, .tup upd_same (.cons (rp_kV k) (.cons (rv.mono s2) .nil))⟩
  stop := fun i G F H M s R h hl => by
    obtain ⟨h1, h2⟩ := lk_of R h
    rw [List.length_map] at hl
    exact ⟨h1, by rw [lkp_len h2]; exact hl⟩
theorem qi_items {X : Cx} {E : XK} {Et : XT} {e : Expr} {te : TEt} {elts : List Expr} {kk : Nat} {tpos apos cpos : Pos} (he : QE X E Et e te) (hbase : attributeBase e "items" X.env (eval e X.env) = eval e X.env := by rfl) (hline : (apos.endLine == cpos.line) = true := by rfl) : QI X E Et (.Tuple elts kk tpos) (.Call (.Attribute e "items" apos) [] [] cpos) (iIs te) := by
  refine ⟨fun pins s σ H R I h => (pi_items he hbase hline).run pins s σ H R I ?_⟩
  obtain ⟨G, F, M, τ, Qt, a, h, k⟩ := h
  refine ⟨G, F, M, τ, _, a, h, fun v F1 H1 M1 d s1 r1 p1 q1 => ?_⟩
  cases d with
  | ref b =>
    cases p1
    have q1 : (match M1 b with | some (.lk o ks kvs) => Qt ⟨kvs.map fun kv => .tup [kD kv.1, kv.2], fun M => M b = some (.lk o ks kvs)⟩ M1 | _ => False) := q1
    cases q : M1 b with
    | none => rw [q] at q1; exact q1.elim
    | some mo =>
      rw [q] at q1
      cases mo with
      | lk o ks kvs => exact ⟨b, o, ks, rfl, (lk_of r1 q).1, k _ _ F1 H1 M1 s1 r1 itOk_items q1⟩
      | _ => exact q1.elim
  | _ => exact q1.elim
/-! ### != of lists of lists, of lists of dicts -/
def bNeT : R2t := fun x y M Q => match pyT M x, pyT M y with
  | some d, some e => SeqAt.shaped d = true ∧ SeqAt.shaped e = true ∧ Q (.bl (!PyData.eqv d e)) M
  | _, _ => False
theorem oq_neT {X : Cx} (hu : X.A.units + 64 < cLine) : OpQ X (compareOp .NotEq) bNeT := OpRimp (op_neD hu) (by
  rintro x y H Q ⟨G, F, M, dx, dy, Qt, R, px, py, h, k⟩
  unfold bNeT at h
  cases e1 : pyT M dx with
  | none => simp only [e1] at h
  | some d =>
    cases e2 : pyT M dy with
    | none => simp only [e1, e2] at h
    | some e =>
      simp only [e1, e2] at h
      exact ⟨d, e, dpT_of R px e1, dpT_of R py e2, h.1, h.2.1, k _ F H M _ (Same.refl _) R (.bl _) h.2.2⟩)
theorem neT_same {M : MH} {x y : D} {l m z : List D} {Q : VD} (hl : lstOf M x = some l) (hm : lstOf M y = some m) (hx : l.mapM (asD M) = some z) (hy : m.mapM (asD M) = some z) (ok : okD 63 (.lst z)) (h : Q (.bl false) M) : bNeT x y M Q := by
  obtain ⟨d, e, c, dp⟩ := okD_py 63 _ ok
  unfold pyD at e
  have e1 : pyT M x = some d := by unfold pyT; rw [hl]; dsimp only; rw [mapM_py hx]; exact e
  have e2 : pyT M y = some d := by unfold pyT; rw [hm]; dsimp only; rw [mapM_py hy]; exact e
  unfold bNeT
  simp only [e1, e2]
  have sh : SeqAt.shaped d = true := Bool.and_eq_true_iff.mpr ⟨c, decide_eq_true (by omega)⟩
  exact ⟨sh, sh, by rw [SeqAt.eqv_refl d c]; exact h⟩
end Tl
set_option maxHeartbeats 2000000
namespace PySem.SeqAt
open AutoSeq1 (wpAny_loadPart')
open MeetsSeq MeetsSeq2 MeetsSeq3 SeqRoads2
variable {prog : Program} {w : World}
/-! ### != of two lists whose things compare in one program and world -/
theorem tl_neLoop (l b : Addr) (xs ys : Array Value) (n n2 : Nat) (dd dd2 : Option Addr) (sl sl2 : Array (Option Value)) (hsz : xs.size = ys.size) (e : Nat → Bool) (k : Nat) :
    ∀ i : Nat, xs.size - i = k → MeetsIn prog w (Builtin.«list.__eq__.loop» ⟨[.ref l, .ref b, rawInt i, rawInt 3], []⟩)
      (fun A R s => s.heap.get? l = some { cls := .type "list", dict := dd, data := .seq xs n, slots := sl } ∧ s.heap.get? b = some { cls := .type "list", dict := dd2, data := .seq ys n2, slots := sl2 } ∧
        (∀ j (h1 : j < xs.size) (h2 : j < ys.size), EqIn prog w A.in1 s xs[j] ys[j] (e j)) ∧
        R (.ok (.ret (.bool (!((List.range xs.size).drop i).all e)))) s) := by
  induction k with
  | zero =>
    intro i hk A R s h
    obtain ⟨hp, g, d, tk, os⟩ := s
    obtain ⟨hl, hb, he, h⟩ := h
    wp_walk using wpAny_loadPart' hl, wpAny_loadPart' hb
    rw [show xs[((i : Nat) : Int).toNat]? = none by simp; omega, show ys[((i : Nat) : Int).toNat]? = none by simp; omega]
    rw [show (List.range xs.size).drop i = [] by simp; omega] at h
    wp_walk using wpAny_loadPart' hl, wpAny_loadPart' hb
    show R (.ok (.ret (.bool (xs.size != ys.size)))) _
    rw [hsz]
    simpa using h
  | succ k ih =>
    intro i hk A R s h
    obtain ⟨hp, g, d, tk, os⟩ := s
    obtain ⟨hl, hb, he, h⟩ := h
    wp_walk using wpAny_loadPart' hl, wpAny_loadPart' hb
    have q1 : i < xs.size := by omega
    have q2 : i < ys.size := by omega
    have g1 : xs[((i : Nat) : Int).toNat]? = some xs[i] := by simp [q1]
    have g2 : ys[((i : Nat) : Int).toNat]? = some ys[i] := by simp [q2]
    rw [show (List.range xs.size).drop i = i :: (List.range xs.size).drop (i + 1) by simp [List.drop_eq_getElem_cons, q1], List.all_cons] at h
    rw [g1, g2]
    refine wpAny_bind (he i q1 q2 _ _ ?_)
    cases eb : e i with
    | true =>
      rw [eb] at h
      wp_walk
      rw [show ((i : Int) + 1) = ((i + 1 : Nat) : Int) by push_cast; rfl]
      exact ⟨plainId_quiet plain_eq_loop _, codeAny_builtin entry_eq_loop (by
        rw [Around.under_plainId plain_eq_loop _]
        exact ih (i + 1) (by omega) A R _ ⟨hl, hb, he, by simpa using h⟩)⟩
    | false =>
      rw [eb] at h
      wp_walk using wpAny_loadPart' hl, wpAny_loadPart' hb
      rw [g1, g2]
      wp_walk
      simpa using h
theorem tl_listNe (l b : Addr) (xs ys : Array Value) (n n2 : Nat) (dd dd2 : Option Addr) (sl sl2 : Array (Option Value)) (hsz : xs.size = ys.size) (e : Nat → Bool) :
    MeetsIn prog w (Builtin.«list.__ne__» ⟨[.ref l, .ref b], []⟩)
      (fun A R s => s.heap.get? l = some { cls := .type "list", dict := dd, data := .seq xs n, slots := sl } ∧ s.heap.get? b = some { cls := .type "list", dict := dd2, data := .seq ys n2, slots := sl2 } ∧
        (∀ j (h1 : j < xs.size) (h2 : j < ys.size), EqIn prog w A.in1 s xs[j] ys[j] (e j)) ∧
        R (.ok (.ret (.bool (!(List.range xs.size).all e)))) s) := by
  intro A R s h
  obtain ⟨hp, g, d, tk, os⟩ := s
  obtain ⟨hl, hb, he, h⟩ := h
  have f3 := AutoSeq1.sub_list_list
  have hne : ¬ (xs.size != ys.size) = true := by simp [hsz]
  wp_walk using wpAny_loadPart' hl, wpAny_loadPart' hb
  exact ⟨plainId_quiet plain_eq_loop _, codeAny_builtin entry_eq_loop (by
    rw [Around.under_plainId plain_eq_loop _]
    exact tl_neLoop l b xs ys n n2 dd dd2 sl sl2 hsz e _ 0 rfl A R _ ⟨hl, hb, he, by simpa using h⟩)⟩
theorem tl_neLists {A : Around} {s : Shared} {E : Value → Shared → Prop} {l b : Addr} {xs ys : Array Value} {e : Nat → Bool} {Q : Value → Shared → Prop} (hl : s.heap.IsList l xs) (hb : s.heap.IsList b ys) (hsz : xs.size = ys.size) (hu : A.units < cLine)
    (he : ∀ j (h1 : j < xs.size) (h2 : j < ys.size), EqIn prog w A.in1 s xs[j] ys[j] (e j)) (h : Q (.bool (!(List.range xs.size).all e)) s) : wpAny (model prog w) A (richCompare .NotEq (.ref l) (.ref b)) Q E s := by
  obtain ⟨⟨cls, dd, data, sl⟩, ho, hc, n, hd⟩ := id hl
  obtain ⟨⟨cls2, dd2, data2, sl2⟩, ho2, hc2, n2, hd2⟩ := id hb
  simp only at hc hd hc2 hd2
  subst hc hd hc2 hd2
  exact wpAny_richCompare_same_room (T := "list") (op := .NotEq) ⟨_, ho, rfl⟩ ⟨_, ho2, rfl⟩ F.slot_list_ne (call_meetsIn F.slot_list_ne ⟨_, ho, rfl⟩ F.entry_list_ne (F.args_list_ne_2 _ _) (tl_listNe l b xs ys n n2 dd dd2 sl sl2 hsz e)
    ⟨ho, ho2, he, show Value.bool (!(List.range xs.size).all e) ≠ Value.notImplemented ∧ Q (.bool (!(List.range xs.size).all e)) s from ⟨(fun x => nomatch x), h⟩⟩) hu
end PySem.SeqAt
set_option maxHeartbeats 2000000
namespace Tl
open PySem PySem.Spec PyProof.Rows L2
/-! ### != of lists of dicts of whole numbers that hold the same -/
def rNePu (K : PySem.W.Frag) : R2 := fun x y H Q => ∃ (a b : Addr) (xs ys : List V), x = .ref a ∧ y = .ref b ∧ SqL K H a xs ∧ SqL K H b ys ∧ xs.length = ys.length ∧ (∀ (j : Nat) (p q : V), xs[j]? = some p → ys[j]? = some q → sameDk H p q) ∧ Q (.bl false) H
theorem op_nePu {X : Cx} (hu : X.A.units + 64 < cLine) : OpR X (compareOp .NotEq) (rNePu X.K) := by
  intro pins s σ H x y v u Q I rx ry h
  obtain ⟨a, b, xs, ys, rfl, rfl, ha, hb, hlen, hall, q⟩ := h
  obtain ⟨its, rv, ⟨o, n, ho, hc, _, hd⟩, _⟩ := I.list ha
  obtain ⟨its2, rv2, ⟨o2, n2, ho2, hc2, _, hd2⟩, _⟩ := I.list hb
  cases rx
  cases ry
  have hl1 : its.length = xs.length := rv.length.symm
  have hl2 : its2.length = ys.length := rv2.length.symm
  refine PySem.SeqAt.tl_neLists (e := fun _ => true) (xs := its.toArray) (ys := its2.toArray) ⟨o, ho, hc, n, hd⟩ ⟨o2, ho2, hc2, n2, hd2⟩ (by simp; omega) (by omega) (fun j h1 h2 => PySem.W.EqTree.at (n := 1) ?_ X.A.in1 (by show X.A.units + 1 + 1 < cLine; omega)) ⟨.bl false, H, I, ?_, q⟩
  · have j1 : j < its.length := by simpa using h1
    have j2 : j < its2.length := by simpa using h2
    obtain ⟨c, d, kv, hp, hq, hc3, hd3, nd, hint⟩ := hall j (xs[j]'(by omega)) (ys[j]'(by omega)) (List.getElem?_eq_getElem _) (List.getElem?_eq_getElem _)
    obtain ⟨u1, e1, r1⟩ := rv.get (i := j) (x := .ref c) (by rw [← hp]; exact List.getElem?_eq_getElem _)
    obtain ⟨u2, e2, r2⟩ := rv2.get (i := j) (x := .ref d) (by rw [← hq]; exact List.getElem?_eq_getElem _)
    cases r1
    cases r2
    have g1 : its.toArray[j] = .ref c := by
      have := List.getElem?_eq_some_iff.mp e1
      simpa using this.2
    have g2 : its2.toArray[j] = .ref d := by
      have := List.getElem?_eq_some_iff.mp e2
      simpa using this.2
    rw [g1, g2]
    by_cases hcd : c = d
    · rw [hcd]; exact .same
    · obtain ⟨_, lo1, ka, k1, da⟩ := dk_of I.hok hc3
      obtain ⟨_, lo2, kb, k2, db⟩ := dk_of I.hok hd3
      have t := PySem.W.EqTree.dicts (prog := X.prog) (w := X.w) (n := 0) (e := fun _ => true) hcd lo1 lo2 da db (fun k v y hm hv => by
        obtain ⟨z, hz, rz⟩ := kv_mem k1 hm
        have hz2 := valV_of nd hz
        have r3 := k2.val k
        rw [hz2, hv] at r3
        obtain ⟨i, hi⟩ := hint _ hz
        dsimp only at hi
        subst hi
        obtain ⟨t1, rfl⟩ := rz
        obtain ⟨t2, rfl⟩ := r3
        refine .leaf fun A _ => ?_
        have := SeqAt.EqAt.int_int (A := A) (s := s) i t1 i t2
        simpa using this)
      have e3 : (ka.length == kb.length && ka.all fun p => (valueAt kb p.1).isSome && true) = true := by
        have l1 := Paired.length k1
        have l2 := Paired.length k2
        rw [Bool.and_eq_true, beq_iff_eq]
        refine ⟨by omega, ?_⟩
        rw [List.all_eq_true]
        rintro ⟨k, v⟩ hm
        obtain ⟨z, hz, rz⟩ := kv_mem k1 hm
        have hz2 := valV_of nd hz
        have r3 := k2.val k
        rw [hz2] at r3
        cases hv : valueAt kb k with
        | none => rw [hv] at r3; exact r3.elim
        | some y => rfl
      rw [e3] at t
      exact t
  · rw [show ((List.range its.toArray.size).all fun _ => true) = true from by simp]
    rfl
def bNePu : R2t := fun x y M Q => ∃ l m ks, lstOf M x = some l ∧ lstOf M y = some m ∧ isPus M l ks ∧ isPus M m ks ∧ Q (.bl false) M
theorem oq_nePu {X : Cx} (hu : X.A.units + 64 < cLine) : OpQ X (compareOp .NotEq) bNePu := OpRimp (op_nePu hu) (by
  rintro x y H Q ⟨G, F, M, dx, dy, Qt, R, px, py, ⟨l, m, ks, hl, hm, il, im, h⟩, k⟩
  obtain ⟨a, vs, rfl, sa, ra⟩ := lst_of R px hl
  obtain ⟨b, us, rfl, sb, rb⟩ := lst_of R py hm
  refine ⟨a, b, vs, us, rfl, rfl, sa, sb, by rw [ra.length, rb.length, il.length, im.length], fun j p q hp hq => ?_, k _ F H M _ (Same.refl _) R (.bl _) h⟩
  obtain ⟨d1, e1, r1⟩ := ra.get hp
  obtain ⟨d2, e2, r2⟩ := rb.get hq
  obtain ⟨k1, c1, f1, rfl, g1, n1⟩ := il.get e1
  obtain ⟨k2, c2, f2, rfl, g2, n2⟩ := im.get e2
  rw [f1] at f2
  cases f2
  cases r1
  cases r2
  obtain ⟨_, u1, hu1, o1⟩ := R.chg c1 _ g1
  obtain ⟨_, u2, hu2, o2⟩ := R.chg c2 _ g2
  cases u1 with
  | dK v1 =>
    cases u2 with
    | dK v2 =>
      have w1 := pusD_v o1
      have w2 := pusD_v o2
      subst w1
      subst w2
      refine ⟨c1, c2, _, rfl, rfl, hu1, hu2, ?_, ?_⟩
      · rw [List.map_map]
        rw [show ((fun x : Key × V => x.1) ∘ fun p : Int × Int => ((Sum.inl p.1 : Key), V.int p.2)) = (fun i : Int => (Sum.inl i : Key)) ∘ fun p : Int × Int => p.1 from rfl, ← List.map_map]
        exact List.Pairwise.map _ (fun a b hab e => hab (Sum.inl.inj e)) n1
      · intro z hz
        obtain ⟨p, _, rfl⟩ := List.mem_map.mp hz
        exact ⟨p.2, rfl⟩
    | _ => exact (o2 : False).elim
  | _ => exact (o1 : False).elim)
end Tl
set_option maxHeartbeats 2000000
namespace Tl
open PySem PySem.Spec PyProof.Rows L2
/-! ### l.count(x), whole numbers or texts -/
def eqz (z : Str) : Value → Bool
  | .str a _ => a == z
  | _ => false
theorem vals_strs {z : Str} : ∀ {ys : List Str} {its : List Value}, Vals (ys.map V.str) its → (∀ y ∈ its, ∃ a t, y = .str a t) ∧ its.countP (eqz z) = ys.count z
  | [], its, h => by
    cases h
    exact ⟨fun y hy => (by cases hy), rfl⟩
  | a :: ys, its, h => by
    cases h with
    | cons h1 h2 =>
      obtain ⟨t, rfl⟩ := h1
      obtain ⟨g1, g2⟩ := vals_strs (z := z) h2
      refine ⟨fun y hy => ?_, ?_⟩
      · rcases List.mem_cons.mp hy with rfl | hy
        · exact ⟨a, t, rfl⟩
        · exact g1 y hy
      · rw [List.countP_cons, List.count_cons, g2]
        rfl
def rCntS (K : PySem.W.Frag) : V → List V → Hp → VK → Prop := fun x xs H Q => ∃ (p : Addr) (ys : List Str) (z : Str), x = .ref p ∧ xs = [.str z] ∧ SqL K H p (ys.map V.str) ∧ Q (.int (ys.count z : Nat)) H
section
variable {X : Cx}
theorem mt_lcountS : MtR X "list.count" (rCntS X.K) := by
  intro pins s σ H x xs v us Q I rx rxs h
  obtain ⟨p, ys, z, rfl, rfl, hs, q⟩ := h
  cases rx
  obtain ⟨u, rfl, ru⟩ := rxs.one
  obtain ⟨t, rfl⟩ := ru
  obtain ⟨its, rv, ⟨⟨cls, dd, data, sl⟩, n, ho, hc, hdn, hd⟩, hlen⟩ := I.list hs
  simp only at hc hd
  subst hc hd
  obtain ⟨g1, g2⟩ := vals_strs (z := z) rv
  refine call_meets PySem.F.slot_list_count ⟨_, ho, rfl⟩ PySem.F.entry_list_count (PySem.F.args_list_count_2 _ _)
    (SeqAt.list_countAt p its.toArray n dd sl (.str z t) (eqz z)) ⟨ho, fun y hy => ?_, ?_⟩
  · obtain ⟨a, ta, rfl⟩ := g1 y (by simpa using hy)
    exact SeqAt.EqAt.str_str a ta z t
  · refine ⟨.int (ys.count z : Nat), H, I.tok _, ⟨s.toks, ?_⟩, q⟩
    show Value.int ((its.toArray.toList.countP (eqz z) : Nat) : Int) s.toks = Value.int ((ys.count z : Nat) : Int) s.toks
    rw [← g2]
def rCnt (K : PySem.W.Frag) : V → List V → Hp → VK → Prop := fun x xs H Q => rCntI K x xs H Q ∨ rCntS K x xs H Q
theorem mt_cnt : MtR X "list.count" (rCnt X.K) := by
  intro pins s σ H x xs v us Q I rx rxs h
  rcases h with h | h
  · exact mt_lcount pins s σ H x xs v us Q I rx rxs h
  · exact mt_lcountS pins s σ H x xs v us Q I rx rxs h
end
def mCount : RMt := fun x xs M Q => match xs with
  | [.int k] => ∃ ns : List Int, lstOf M x = some (ns.map D.int) ∧ Q (.int (ns.count k : Nat)) M
  | [.str z] => ∃ ys : List Str, lstOf M x = some (ys.map D.str) ∧ Q (.int (ys.count z : Nat)) M
  | _ => False
theorem ints_of_rps {K : PySem.W.Frag} {F : Hp} : ∀ {ys : List Int} {vs : List V}, Rps K F vs (ys.map D.int) → vs = ys.map V.int
  | [], _, h => by cases h; rfl
  | y :: ys, _, h => by
    cases h with
    | cons h t =>
      cases h
      rw [ints_of_rps t]
      rfl
theorem strs_of_rps6 {K : PySem.W.Frag} {F : Hp} : ∀ {ys : List Str} {vs : List V}, Rps K F vs (ys.map D.str) → vs = ys.map V.str
  | [], _, h => by cases h; rfl
  | y :: ys, _, h => by
    cases h with
    | cons h t =>
      cases h
      rw [strs_of_rps6 t]
      rfl
section
variable {X : Cx} {E : XK} {Et : XT} {o e : Expr} {es : List Expr} {apos cpos : Pos} {to : TEt} {t : TAt}
theorem q_count (ho : QE X E Et o to) (ha : QA X E Et (e :: es) t)
    (hbase : attributeBase o "count" X.env (eval o X.env) = eval o X.env := by rfl)
    (hfew : ((backTo cpos (starEach (e :: es) X.env)).all (fun x => !x.1) && (backToKw cpos (keywordEach [] X.env)).all (fun x => x.1.isSome)
      && decide ((e :: es).length + ([] : List Keyword).length + (if ([] : List Keyword).isEmpty then 0 else 1) < 30)) = true := by rfl)
    (hline : (apos.endLine == cpos.line) = true := by rfl) (hs : starEach (e :: es) X.env = (false, eval e X.env) :: starEach es X.env := by rfl) (hplain : (backTo cpos (starEach es X.env)).any (·.1) = false := by rfl) :
    QE X E Et (.Call (.Attribute o "count" apos) (e :: es) [] cpos) (tMt mCount to t) :=
  PEimp (pe_bm PySem.F.plainAttrs_list PySem.F.slot_list_count PySem.F.type_list_count mt_cnt ho ha hbase hfew hline hs hplain) (lv_bm (by
    rintro x xs H Q ⟨G, F, M, dx, ds, Qt, R, p, ps, h, k⟩
    match ds, ps, h with
    | [.int z], .cons (.int _) .nil, h =>
      obtain ⟨ys, e1, h⟩ := h
      obtain ⟨a, vs, rfl, hs, r⟩ := lst_of R p e1
      have hvs := ints_of_rps r
      subst hvs
      exact .inl ⟨a, ys, z, rfl, rfl, hs, k (.int (ys.count z : Nat)) F _ _ (.int (ys.count z : Nat)) (Same.refl _) R (.int _) h⟩
    | [.str z], .cons (.str _) .nil, h =>
      obtain ⟨ys, e1, h⟩ := h
      obtain ⟨a, vs, rfl, hs, r⟩ := lst_of R p e1
      have hvs := strs_of_rps6 r
      subst hvs
      exact .inr ⟨a, ys, z, rfl, rfl, hs, k (.int (ys.count z : Nat)) F _ _ (.int (ys.count z : Nat)) (Same.refl _) R (.int _) h⟩))
end
end Tl
set_option maxHeartbeats 2000000
namespace Tl
open PySem PySem.Spec PyProof.Rows L2
/-! ### k46: the words of the lines -/
def Tx.w : Tx → Str
  | .dff _ => "def" | .iff _ => "if" | .whl _ => "while" | .els => "else" | .fin => "end" | .pln s => s.wd
def wdR (R : List Tx) (l : Int) : Str := if 1 ≤ l then (match R[(l - 1).toNat]? with
  | some x => x.w
  | none => Str.ofString "") else Str.ofString ""
theorem tx_dw (x : Tx) : ∃ r, x.d = .tup (.str x.w :: r) := by
  cases x <;> exact ⟨_, rfl⟩
theorem wdR_at {R : List Tx} {o : Nat} {x : Tx} (h : R[o]? = some x) : wdR R ((o : Int) + 1) = x.w := by
  unfold wdR
  rw [if_pos (by omega), show ((o : Int) + 1 - 1).toNat = o by omega, h]
theorem wdR_ne {R : List Tx} {l : Int} (h : wdR R l ≠ Str.ofString "") : 1 ≤ l ∧ ∃ x, R[(l - 1).toNat]? = some x ∧ x.w = wdR R l := by
  unfold wdR at h ⊢
  split at h
  · rename_i h1
    cases e : R[(l - 1).toNat]? with
    | none => rw [e] at h; exact absurd rfl h
    | some x => exact ⟨h1, x, rfl, by rw [if_pos h1]⟩
  · exact absurd rfl h
mutual
theorem wdS {R : List Tx} : ∀ (s : Sm) (o : Nat), (∀ i, i < (txS s).length → R[o + i]? = (txS s)[i]?) → nmS ((o : Int) + 1) s → ∀ d ∈ allSt s, wdR R d.line = d.wd
  | .if1 l e b, o, hsg, hn, d, hd => by
    rw [txS_if1] at hsg
    unfold nmS at hn
    have h0 := hsg 0 (by rw [List.length_cons]; omega)
    rw [allSt] at hd
    rcases List.mem_cons.mp hd with rfl | hd
    · show wdR R l = Str.ofString "if"
      rw [hn.1]
      exact wdR_at h0
    · refine wdB b (o + 1) (fun i hi => ?_) (by rw [show ((o + 1 : Nat) : Int) + 1 = (o : Int) + 1 + 1 by omega]; exact hn.2) d hd
      have := hsg (i + 1) (by rw [List.length_cons, List.length_append]; omega)
      rw [show o + (i + 1) = o + 1 + i by omega, List.getElem?_cons_succ, List.getElem?_append_left hi] at this
      exact this
  | .whl l e b, o, hsg, hn, d, hd => by
    rw [txS_whl] at hsg
    unfold nmS at hn
    have h0 := hsg 0 (by rw [List.length_cons]; omega)
    rw [allSt] at hd
    rcases List.mem_cons.mp hd with rfl | hd
    · show wdR R l = Str.ofString "while"
      rw [hn.1]
      exact wdR_at h0
    · refine wdB b (o + 1) (fun i hi => ?_) (by rw [show ((o + 1 : Nat) : Int) + 1 = (o : Int) + 1 + 1 by omega]; exact hn.2) d hd
      have := hsg (i + 1) (by rw [List.length_cons, List.length_append]; omega)
      rw [show o + (i + 1) = o + 1 + i by omega, List.getElem?_cons_succ, List.getElem?_append_left hi] at this
      exact this
  | .if2 l e b c, o, hsg, hn, d, hd => by
    rw [txS_if2] at hsg
    unfold nmS at hn
    have h0 := hsg 0 (by rw [List.length_cons]; omega)
    rw [allSt] at hd
    rcases List.mem_cons.mp hd with rfl | hd
    · show wdR R l = Str.ofString "if"
      rw [hn.1]
      exact wdR_at h0
    rcases List.mem_append.mp hd with hd | hd
    · refine wdB b (o + 1) (fun i hi => ?_) (by rw [show ((o + 1 : Nat) : Int) + 1 = (o : Int) + 1 + 1 by omega]; exact hn.2.1) d hd
      have := hsg (i + 1) (by rw [List.length_cons, List.length_append]; omega)
      rw [show o + (i + 1) = o + 1 + i by omega, List.getElem?_cons_succ, List.getElem?_append_left hi] at this
      exact this
    · refine wdB c (o + 1 + (txB b).length + 1) (fun i hi => ?_) (by rw [show ((o + 1 + (txB b).length + 1 : Nat) : Int) + 1 = (o : Int) + 1 + 1 + (txB b).length + 1 by omega]; exact hn.2.2) d hd
      have := hsg ((txB b).length + 1 + i + 1) (by rw [List.length_cons, List.length_append, List.length_cons, List.length_append]; omega)
      rw [show o + ((txB b).length + 1 + i + 1) = o + 1 + (txB b).length + 1 + i by omega, List.getElem?_cons_succ, List.getElem?_append_right (by omega), show (txB b).length + 1 + i - (txB b).length = i + 1 by omega, List.getElem?_cons_succ, List.getElem?_append_left hi] at this
      exact this
  | .set l x e, o, hsg, hn, d, hd => wdP (.set l x e) trivial o hsg hn d hd
  | .put l a b, o, hsg, hn, d, hd => wdP (.put l a b) trivial o hsg hn d hd
  | .tell l e, o, hsg, hn, d, hd => wdP (.tell l e) trivial o hsg hn d hd
  | .ret l e, o, hsg, hn, d, hd => wdP (.ret l e) trivial o hsg hn d hd
  | .stop l, o, hsg, hn, d, hd => wdP (.stop l) trivial o hsg hn d hd
  | .brk l, o, hsg, hn, d, hd => wdP (.brk l) trivial o hsg hn d hd
  | .agn l, o, hsg, hn, d, hd => wdP (.agn l) trivial o hsg hn d hd
  | .meet l, o, hsg, hn, d, hd => wdP (.meet l) trivial o hsg hn d hd
  | .join l x w e, o, hsg, hn, d, hd => wdP (.join l x w e) trivial o hsg hn d hd
  | .call l x f es, o, hsg, hn, d, hd => wdP (.call l x f es) trivial o hsg hn d hd
theorem wdB {R : List Tx} : ∀ (b : List Sm) (o : Nat), (∀ i, i < (txB b).length → R[o + i]? = (txB b)[i]?) → nmB ((o : Int) + 1) b → ∀ d ∈ allBd b, wdR R d.line = d.wd
  | [], o, _, _, d, hd => by rw [allBd] at hd; cases hd
  | s :: t, o, hsg, hn, d, hd => by
    rw [txB_cons] at hsg
    obtain ⟨h1, h2⟩ := nmB_cons.mp hn
    rw [allBd] at hd
    rcases List.mem_append.mp hd with hd | hd
    · refine wdS s o (fun i hi => ?_) h1 d hd
      have := hsg i (by rw [List.length_append]; omega)
      rw [List.getElem?_append_left hi] at this
      exact this
    · refine wdB t (o + (txS s).length) (fun i hi => ?_) (by rw [show ((o + (txS s).length : Nat) : Int) + 1 = (o : Int) + 1 + (txS s).length by omega]; exact h2) d hd
      have := hsg ((txS s).length + i) (by rw [List.length_append]; omega)
      rw [List.getElem?_append_right (by omega), show (txS s).length + i - (txS s).length = i by omega, ← Nat.add_assoc] at this
      exact this
theorem wdP {R : List Tx} (s : Sm) (hp : isPl s) (o : Nat) (hsg : ∀ i, i < (txS s).length → R[o + i]? = (txS s)[i]?) (hn : nmS ((o : Int) + 1) s) : ∀ d ∈ allSt s, wdR R d.line = d.wd := by
  intro d hd
  have al : allSt s = [s] := by cases s <;> first | exact hp.elim | rfl
  rw [al] at hd
  rw [List.mem_singleton.mp hd]
  have h0 := hsg 0 (txS_pos s)
  rw [pl_tx hp, Nat.add_zero] at h0
  have h0 : R[o]? = some (Tx.pln (s.to 0)) := h0
  rw [nmS_line hn, wdR_at h0]
  show (s.to 0).wd = s.wd
  cases s <;> rfl
end
theorem wd_pg {pg : Pg} (h : pgN 1 pg) : ∀ d ∈ pg, okWd6 (wdR (pgTx pg)) d.body := by
  have key : ∀ (post pre : Pg), pg = pre ++ post → pgN (1 + (pgTx pre).length) post → ∀ d ∈ post, okWd6 (wdR (pgTx pg)) d.body := fun post => by
    induction post with
    | nil => intro _ _ _ d hd; cases hd
    | cons x t ih =>
      intro pre epg hn d hd
      obtain ⟨n1, n2, n3, n4⟩ := hn
      rcases List.mem_cons.mp hd with rfl | hd
      · refine wdB d.body ((pgTx pre).length + 1) (fun i hi => ?_) (by rw [show (((pgTx pre).length + 1 : Nat) : Int) + 1 = 1 + ((pgTx pre).length : Int) + 1 by omega]; exact n2)
        have e : pgTx pg = pgTx pre ++ (Tx.dff [.str d.name, .lst (d.ps.map .str)] :: (txB d.body ++ ([.fin] ++ pgTx t))) := by
          rw [epg, pgTx_app]
          show pgTx pre ++ ((Tx.dff [.str d.name, .lst (d.ps.map .str)] :: (txB d.body ++ [.fin])) ++ pgTx t) = _
          simp only [List.cons_append, List.append_assoc]
        rw [e, List.getElem?_append_right (by omega), show (pgTx pre).length + 1 + i - (pgTx pre).length = i + 1 by omega, List.getElem?_cons_succ, List.getElem?_append_left hi]
      · refine ih (pre ++ [x]) (by rw [epg, List.append_assoc]; rfl) ?_ d hd
        have e2 : (pgTx (pre ++ [x])).length = (pgTx pre).length + (dfTx x).length := by
          rw [pgTx_app, List.length_append]
          show _ + (dfTx x ++ []).length = _
          rw [List.append_nil]
        rw [e2, show 1 + (((pgTx pre).length + (dfTx x).length : Nat) : Int) = 1 + ((pgTx pre).length : Int) + ((dfTx x).length : Int) by omega]
        exact n4
  exact key pg [] rfl (by show pgN (1 + ((0 : Nat) : Int)) pg; exact h)
/-! the stories as told -/
def Ws.z (s : Ws) : S45 := ⟨[], [], [], s.told, s.lines, s.brought, s.tcs, s.pus, s.fin, false⟩
theorem Ws.isz {c : Lc} {s : Ws} (h : okWs c s) : s.is45 s.z := ⟨rfl, h.lines.symm, rfl, rfl, rfl, rfl, rfl⟩
def S45.lg (z : S45) : Lg := ⟨z.told, z.lines, z.br, z.tc, z.pu⟩
structure ShF (wd : Int → Str) (m : Nat) (f w : S45) : Prop where
  inv : Inv46 wd f.lg false
  ext : Ext f.lg w.lg
  fl : f.lines.length = m
  fin : ∃ l x, f.fin = some (.tired, l) ∧ w.lines = f.lines ++ l :: x
theorem shF_of {c : Lc} {wd : Int → Str} {m : Nat} {F W : Ws} (hF : okWs c F) (h : Sh46 wd m F W) : ShF wd m F.z W.z := by
  obtain ⟨k, l, rfl, h2, h3, h4, h5, x, h6⟩ := h
  exact ⟨h4, h5, by have := hF.lines; exact this.trans h3, l, x, rfl, h6⟩
/-- the phases of the shorter story, the oldest first -/
theorem ShF.phases {wd : Int → Str} {m : Nat} {f w : S45} (h : ShF wd m f w) : ∃ (P : List (List Th)) (Q : List Pus) (t u : List Th) (q q' : Pus) (A : List (List Th)) (B : List Pus), f.tc.reverse = P ++ [t] ∧ w.tc.reverse = P ++ (t ++ u) :: A ∧ f.pu.reverse = Q ++ [q] ∧ w.pu.reverse = Q ++ q' :: B ∧ P.length = Q.length ∧ A.length = B.length ∧ (∀ p, p ∉ putsOf u → findI q' p = findI q p) ∧ (∀ p, p ∈ q.map (·.1) ↔ p ∈ putsOf t) ∧ ndP f.pu ∧ ndP w.pu := by
  obtain ⟨A, B, t, u, r, q, q', r', h1, h2, h3, h4, h5, h6, h7⟩ := h.ext.ph
  have hk := h.inv.key
  have h1 : f.tc = t :: r := h1
  have h2 : w.tc = A ++ (t ++ u) :: r := h2
  have h3 : f.pu = q :: r' := h3
  have h4 : w.pu = B ++ q' :: r' := h4
  have hk : Paired (fun (t : List Th) (q : Pus) => ∀ p, p ∈ q.map (·.1) ↔ p ∈ putsOf t) f.tc f.pu := hk
  rw [h1, h3] at hk
  cases hk with
  | cons k1 k2 =>
    exact ⟨r.reverse, r'.reverse, t, u, q, q', A.reverse, B.reverse, by rw [h1, List.reverse_cons], by rw [h2, List.reverse_append, List.reverse_cons, List.append_assoc]; rfl, by rw [h3, List.reverse_cons], by rw [h4, List.reverse_append, List.reverse_cons, List.append_assoc]; rfl, by rw [List.length_reverse, List.length_reverse]; exact h6, by rw [List.length_reverse, List.length_reverse]; exact h5, h7, k1, h.ext.nd.1, h.ext.nd.2⟩
end Tl
set_option maxHeartbeats 2000000
namespace Tl
open PySem PySem.Spec PyProof.Rows L2
/-- a comprehension within a comprehension, that has no name of the outside (as in TL88, for laws whose layers clash with its imports) -/
theorem blkOk_nf {N : List Str} {sc scope : Scope} {own : List (Str × Nat)} (h : (blkC N scope scope own && scope.names.all fun y => match y.2 with | .free => false | _ => true) = true) : L2.BlkOk N sc scope own := by
  rw [Bool.and_eq_true] at h
  obtain ⟨h1, h2⟩ := h
  refine blkOk_by ?_
  unfold blkC at h1 ⊢
  rw [Bool.and_eq_true] at h1 ⊢
  refine ⟨h1.1, List.all_eq_true.mpr fun y hy => ?_⟩
  have a := List.all_eq_true.mp h1.2 y hy
  have b := List.all_eq_true.mp h2 y hy
  revert a b
  cases y.2 <;> simp
end Tl
namespace K46
open PySem PySem.Spec PyProof.Rows L2 Tl
def top (i : Nat) : Stmt := PySem.Challenge.pw_widelanes_k46_fewer_steps.main.body.getD i (.Pass ⟨0, 0, 0, 0⟩)
def fl_Block : List Str := ["body", "at", "why"]
def fl_Frame : List Str := ["names", "last", "taker"]
def fl_Joint : List Str := ["brought"]
def fl_Story : List Str := ["told", "steps", "end", "brought", "touches", "puts", "lines"]
def fl_Walker : List Str := ["defs", "lane", "lanes", "mine", "boxes", "most", "story", "waiting", "frames", "blocks"]
abbrev s_wrapped : Stmt := top 3
abbrev nm_wrapped : List Str := ["n"]
theorem sc_wrapped : FnScope nm_wrapped ["n"] (defScope s_wrapped) := ⟨rfl, rfl, rfl, by decide +kernel, rfl, by decide +kernel, by decide +kernel⟩
def e_wrapped : He.DefD := ⟨("wrapped", none), "wrapped", "wrapped", defArgs s_wrapped, defBody s_wrapped, defScope s_wrapped, [], []⟩
abbrev s_divided : Stmt := top 4
abbrev nm_divided : List Str := ["one", "other"]
theorem sc_divided : FnScope nm_divided ["one", "other"] (defScope s_divided) := ⟨rfl, rfl, rfl, by decide +kernel, rfl, by decide +kernel, by decide +kernel⟩
def e_divided : He.DefD := ⟨("divided", none), "divided", "divided", defArgs s_divided, defBody s_divided, defScope s_divided, [], []⟩
abbrev s_worked : Stmt := top 5
abbrev nm_worked : List Str := ["word", "one", "other", "parts"]
theorem sc_worked : FnScope nm_worked ["word", "one", "other"] (defScope s_worked) := ⟨rfl, rfl, rfl, by decide +kernel, rfl, by decide +kernel, by decide +kernel⟩
def e_worked : He.DefD := ⟨("worked", none), "worked", "worked", defArgs s_worked, defBody s_worked, defScope s_worked, [], []⟩
abbrev s_Joint___init : Stmt := inClass (top 7) 0
abbrev nm_Joint___init : List Str := ["self", "brought"]
theorem sc_Joint___init : FnScope nm_Joint___init ["self", "brought"] (defScope s_Joint___init) := ⟨rfl, rfl, rfl, by decide +kernel, rfl, by decide +kernel, by decide +kernel⟩
def e_Joint___init : He.DefD := ⟨("Joint", some "__init__"), "__init__", "Joint.__init__", defArgs s_Joint___init, defBody s_Joint___init, defScope s_Joint___init, [], []⟩
abbrev s_Most___init : Stmt := inClass (top 7) 0
abbrev nm_Most___init : List Str := ["self", "brought"]
theorem sc_Most___init : FnScope nm_Most___init ["self", "brought"] (defScope s_Most___init) := ⟨rfl, rfl, rfl, by decide +kernel, rfl, by decide +kernel, by decide +kernel⟩
def e_Most___init : He.DefD := ⟨("Most", some "__init__"), "__init__", "Joint.__init__", defArgs s_Most___init, defBody s_Most___init, defScope s_Most___init, [], []⟩
abbrev s_Least___init : Stmt := inClass (top 7) 0
abbrev nm_Least___init : List Str := ["self", "brought"]
theorem sc_Least___init : FnScope nm_Least___init ["self", "brought"] (defScope s_Least___init) := ⟨rfl, rfl, rfl, by decide +kernel, rfl, by decide +kernel, by decide +kernel⟩
def e_Least___init : He.DefD := ⟨("Least", some "__init__"), "__init__", "Joint.__init__", defArgs s_Least___init, defBody s_Least___init, defScope s_Least___init, [], []⟩
abbrev s_Ahead___init : Stmt := inClass (top 7) 0
abbrev nm_Ahead___init : List Str := ["self", "brought"]
theorem sc_Ahead___init : FnScope nm_Ahead___init ["self", "brought"] (defScope s_Ahead___init) := ⟨rfl, rfl, rfl, by decide +kernel, rfl, by decide +kernel, by decide +kernel⟩
def e_Ahead___init : He.DefD := ⟨("Ahead", some "__init__"), "__init__", "Joint.__init__", defArgs s_Ahead___init, defBody s_Ahead___init, defScope s_Ahead___init, [], []⟩
abbrev s_Joint_whole_numbers : Stmt := inClass (top 7) 1
abbrev nm_Joint_whole_numbers : List Str := ["self", "number"]
theorem sc_Joint_whole_numbers : FnScope nm_Joint_whole_numbers ["self"] (defScope s_Joint_whole_numbers) := ⟨rfl, rfl, rfl, by decide +kernel, rfl, by decide +kernel, by decide +kernel⟩
def e_Joint_whole_numbers : He.DefD := ⟨("Joint", some "whole_numbers"), "whole_numbers", "Joint.whole_numbers", defArgs s_Joint_whole_numbers, defBody s_Joint_whole_numbers, defScope s_Joint_whole_numbers, [], []⟩
abbrev s_Most_whole_numbers : Stmt := inClass (top 7) 1
abbrev nm_Most_whole_numbers : List Str := ["self", "number"]
theorem sc_Most_whole_numbers : FnScope nm_Most_whole_numbers ["self"] (defScope s_Most_whole_numbers) := ⟨rfl, rfl, rfl, by decide +kernel, rfl, by decide +kernel, by decide +kernel⟩
def e_Most_whole_numbers : He.DefD := ⟨("Most", some "whole_numbers"), "whole_numbers", "Joint.whole_numbers", defArgs s_Most_whole_numbers, defBody s_Most_whole_numbers, defScope s_Most_whole_numbers, [], []⟩
abbrev s_Least_whole_numbers : Stmt := inClass (top 7) 1
abbrev nm_Least_whole_numbers : List Str := ["self", "number"]
theorem sc_Least_whole_numbers : FnScope nm_Least_whole_numbers ["self"] (defScope s_Least_whole_numbers) := ⟨rfl, rfl, rfl, by decide +kernel, rfl, by decide +kernel, by decide +kernel⟩
def e_Least_whole_numbers : He.DefD := ⟨("Least", some "whole_numbers"), "whole_numbers", "Joint.whole_numbers", defArgs s_Least_whole_numbers, defBody s_Least_whole_numbers, defScope s_Least_whole_numbers, [], []⟩
abbrev s_Joint_gives : Stmt := inClass (top 7) 2
abbrev nm_Joint_gives : List Str := ["self", "lane"]
theorem sc_Joint_gives : FnScope nm_Joint_gives ["self", "lane"] (defScope s_Joint_gives) := ⟨rfl, rfl, rfl, by decide +kernel, rfl, by decide +kernel, by decide +kernel⟩
def e_Joint_gives : He.DefD := ⟨("Joint", some "gives"), "gives", "Joint.gives", defArgs s_Joint_gives, defBody s_Joint_gives, defScope s_Joint_gives, [], []⟩
abbrev s_Most_gives : Stmt := inClass (top 8) 0
abbrev nm_Most_gives : List Str := ["self", "lane"]
theorem sc_Most_gives : FnScope nm_Most_gives ["self", "lane"] (defScope s_Most_gives) := ⟨rfl, rfl, rfl, by decide +kernel, rfl, by decide +kernel, by decide +kernel⟩
def e_Most_gives : He.DefD := ⟨("Most", some "gives"), "gives", "Most.gives", defArgs s_Most_gives, defBody s_Most_gives, defScope s_Most_gives, [], []⟩
abbrev s_Least_gives : Stmt := inClass (top 9) 0
abbrev nm_Least_gives : List Str := ["self", "lane"]
theorem sc_Least_gives : FnScope nm_Least_gives ["self", "lane"] (defScope s_Least_gives) := ⟨rfl, rfl, rfl, by decide +kernel, rfl, by decide +kernel, by decide +kernel⟩
def e_Least_gives : He.DefD := ⟨("Least", some "gives"), "gives", "Least.gives", defArgs s_Least_gives, defBody s_Least_gives, defScope s_Least_gives, [], []⟩
abbrev s_Ahead_gives : Stmt := inClass (top 10) 0
abbrev nm_Ahead_gives : List Str := ["self", "lane", "lower"]
theorem sc_Ahead_gives : FnScope nm_Ahead_gives ["self", "lane"] (defScope s_Ahead_gives) := ⟨rfl, rfl, rfl, by decide +kernel, rfl, by decide +kernel, by decide +kernel⟩
def e_Ahead_gives : He.DefD := ⟨("Ahead", some "gives"), "gives", "Ahead.gives", defArgs s_Ahead_gives, defBody s_Ahead_gives, defScope s_Ahead_gives, [], []⟩
abbrev s_joint_of : Stmt := top 11
abbrev nm_joint_of : List Str := ["word", "brought"]
theorem sc_joint_of : FnScope nm_joint_of ["word", "brought"] (defScope s_joint_of) := ⟨rfl, rfl, rfl, by decide +kernel, rfl, by decide +kernel, by decide +kernel⟩
def e_joint_of : He.DefD := ⟨("joint_of", none), "joint_of", "joint_of", defArgs s_joint_of, defBody s_joint_of, defScope s_joint_of, [], []⟩
abbrev s_joined : Stmt := top 12
abbrev nm_joined : List Str := ["word", "brought", "lane", "joint"]
theorem sc_joined : FnScope nm_joined ["word", "brought", "lane"] (defScope s_joined) := ⟨rfl, rfl, rfl, by decide +kernel, rfl, by decide +kernel, by decide +kernel⟩
def e_joined : He.DefD := ⟨("joined", none), "joined", "joined", defArgs s_joined, defBody s_joined, defScope s_joined, [], []⟩
abbrev s_expressions_of : Stmt := top 14
abbrev nm_expressions_of : List Str := ["deed", "word"]
theorem sc_expressions_of : FnScope nm_expressions_of ["deed"] (defScope s_expressions_of) := ⟨rfl, rfl, rfl, by decide +kernel, rfl, by decide +kernel, by decide +kernel⟩
def e_expressions_of : He.DefD := ⟨("expressions_of", none), "expressions_of", "expressions_of", defArgs s_expressions_of, defBody s_expressions_of, defScope s_expressions_of, [], []⟩
abbrev s_Story___init : Stmt := inClass (top 17) 0
abbrev nm_Story___init : List Str := ["self"]
theorem sc_Story___init : FnScope nm_Story___init ["self"] (defScope s_Story___init) := ⟨rfl, rfl, rfl, by decide +kernel, rfl, by decide +kernel, by decide +kernel⟩
def e_Story___init : He.DefD := ⟨("Story", some "__init__"), "__init__", "Story.__init__", defArgs s_Story___init, defBody s_Story___init, defScope s_Story___init, [], []⟩
abbrev s_Block___init : Stmt := inClass (top 18) 0
abbrev nm_Block___init : List Str := ["self", "body", "why"]
theorem sc_Block___init : FnScope nm_Block___init ["self", "body", "why"] (defScope s_Block___init) := ⟨rfl, rfl, rfl, by decide +kernel, rfl, by decide +kernel, by decide +kernel⟩
def e_Block___init : He.DefD := ⟨("Block", some "__init__"), "__init__", "Block.__init__", defArgs s_Block___init, defBody s_Block___init, defScope s_Block___init, [], []⟩
abbrev s_Frame___init : Stmt := inClass (top 19) 0
abbrev nm_Frame___init : List Str := ["self", "names", "last", "taker"]
theorem sc_Frame___init : FnScope nm_Frame___init ["self", "names", "last", "taker"] (defScope s_Frame___init) := ⟨rfl, rfl, rfl, by decide +kernel, rfl, by decide +kernel, by decide +kernel⟩
def e_Frame___init : He.DefD := ⟨("Frame", some "__init__"), "__init__", "Frame.__init__", defArgs s_Frame___init, defBody s_Frame___init, defScope s_Frame___init, [], []⟩
abbrev s_Walker_name_given : Stmt := inClass (top 20) 1
abbrev nm_Walker_name_given : List Str := ["self", "name", "number", "frame"]
theorem sc_Walker_name_given : FnScope nm_Walker_name_given ["self", "name", "number"] (defScope s_Walker_name_given) := ⟨rfl, rfl, rfl, by decide +kernel, rfl, by decide +kernel, by decide +kernel⟩
def e_Walker_name_given : He.DefD := ⟨("Walker", some "name_given"), "name_given", "Walker.name_given", defArgs s_Walker_name_given, defBody s_Walker_name_given, defScope s_Walker_name_given, [], []⟩
abbrev s_Walker_leave : Stmt := inClass (top 20) 2
abbrev nm_Walker_leave : List Str := ["self", "why", "block"]
theorem sc_Walker_leave : FnScope nm_Walker_leave ["self", "why"] (defScope s_Walker_leave) := ⟨rfl, rfl, rfl, by decide +kernel, rfl, by decide +kernel, by decide +kernel⟩
def e_Walker_leave : He.DefD := ⟨("Walker", some "leave"), "leave", "Walker.leave", defArgs s_Walker_leave, defBody s_Walker_leave, defScope s_Walker_leave, [], []⟩
abbrev s_Walker_go_out : Stmt := inClass (top 20) 3
abbrev nm_Walker_go_out : List Str := ["self", "number", "frame"]
theorem sc_Walker_go_out : FnScope nm_Walker_go_out ["self", "number"] (defScope s_Walker_go_out) := ⟨rfl, rfl, rfl, by decide +kernel, rfl, by decide +kernel, by decide +kernel⟩
def e_Walker_go_out : He.DefD := ⟨("Walker", some "go_out"), "go_out", "Walker.go_out", defArgs s_Walker_go_out, defBody s_Walker_go_out, defScope s_Walker_go_out, [], []⟩
abbrev s_touched_box : Stmt := top 21
abbrev nm_touched_box : List Str := ["walker", "word", "place", "line", "story"]
theorem sc_touched_box : FnScope nm_touched_box ["walker", "word", "place", "line"] (defScope s_touched_box) := ⟨rfl, rfl, rfl, by decide +kernel, rfl, by decide +kernel, by decide +kernel⟩
def e_touched_box : He.DefD := ⟨("touched_box", none), "touched_box", "touched_box", defArgs s_touched_box, defBody s_touched_box, defScope s_touched_box, [], []⟩
abbrev s_sign_told : Stmt := top 22
abbrev nm_sign_told : List Str := ["walker", "word"]
theorem sc_sign_told : FnScope nm_sign_told ["walker", "word"] (defScope s_sign_told) := ⟨rfl, rfl, rfl, by decide +kernel, rfl, by decide +kernel, by decide +kernel⟩
def e_sign_told : He.DefD := ⟨("sign_told", none), "sign_told", "sign_told", defArgs s_sign_told, defBody s_sign_told, defScope s_sign_told, [], []⟩
abbrev s_in_box : Stmt := top 23
abbrev nm_in_box : List Str := ["walker", "line", "place"]
theorem sc_in_box : FnScope nm_in_box ["walker", "line", "place"] (defScope s_in_box) := ⟨rfl, rfl, rfl, by decide +kernel, rfl, by decide +kernel, by decide +kernel⟩
def e_in_box : He.DefD := ⟨("in_box", none), "in_box", "in_box", defArgs s_in_box, defBody s_in_box, defScope s_in_box, [], []⟩
abbrev s_working_of : Stmt := top 24
abbrev nm_working_of : List Str := ["walker", "line", "told", "one", "other", "found", "story"]
theorem sc_working_of : FnScope nm_working_of ["walker", "line", "told"] (defScope s_working_of) := ⟨rfl, rfl, rfl, by decide +kernel, rfl, by decide +kernel, by decide +kernel⟩
def e_working_of : He.DefD := ⟨("working_of", none), "working_of", "working_of", defArgs s_working_of, defBody s_working_of, defScope s_working_of, [], []⟩
abbrev s_number_of : Stmt := top 25
abbrev nm_number_of : List Str := ["walker", "line", "told", "word"]
theorem sc_number_of : FnScope nm_number_of ["walker", "line", "told"] (defScope s_number_of) := ⟨rfl, rfl, rfl, by decide +kernel, rfl, by decide +kernel, by decide +kernel⟩
def e_number_of : He.DefD := ⟨("number_of", none), "number_of", "number_of", defArgs s_number_of, defBody s_number_of, defScope s_number_of, [], []⟩
abbrev s_numbers_of : Stmt := top 26
abbrev nm_numbers_of : List Str := ["walker", "deed", "found", "told", "number"]
theorem sc_numbers_of : FnScope nm_numbers_of ["walker", "deed"] (defScope s_numbers_of) := ⟨rfl, rfl, rfl, by decide +kernel, rfl, by decide +kernel, by decide +kernel⟩
def e_numbers_of : He.DefD := ⟨("numbers_of", none), "numbers_of", "numbers_of", defArgs s_numbers_of, defBody s_numbers_of, defScope s_numbers_of, [], []⟩
abbrev s_do_put : Stmt := top 27
abbrev nm_do_put : List Str := ["walker", "line", "place", "number", "puts"]
theorem sc_do_put : FnScope nm_do_put ["walker", "line", "place", "number"] (defScope s_do_put) := ⟨rfl, rfl, rfl, by decide +kernel, rfl, by decide +kernel, by decide +kernel⟩
def e_do_put : He.DefD := ⟨("do_put", none), "do_put", "do_put", defArgs s_do_put, defBody s_do_put, defScope s_do_put, [], []⟩
abbrev s_do_test : Stmt := top 28
abbrev nm_do_test : List Str := ["walker", "deed", "number", "block"]
theorem sc_do_test : FnScope nm_do_test ["walker", "deed", "number"] (defScope s_do_test) := ⟨rfl, rfl, rfl, by decide +kernel, rfl, by decide +kernel, by decide +kernel⟩
def e_do_test : He.DefD := ⟨("do_test", none), "do_test", "do_test", defArgs s_do_test, defBody s_do_test, defScope s_do_test, [], []⟩
abbrev s_do_leave : Stmt := top 29
abbrev nm_do_leave : List Str := ["walker", "word", "block"]
theorem sc_do_leave : FnScope nm_do_leave ["walker", "word"] (defScope s_do_leave) := ⟨rfl, rfl, rfl, by decide +kernel, rfl, by decide +kernel, by decide +kernel⟩
def e_do_leave : He.DefD := ⟨("do_leave", none), "do_leave", "do_leave", defArgs s_do_leave, defBody s_do_leave, defScope s_do_leave, [], []⟩
abbrev s_do_call : Stmt := top 30
abbrev nm_do_call : List Str := ["walker", "deed", "numbers", "one", "names", "name", "number"]
theorem sc_do_call : FnScope nm_do_call ["walker", "deed", "numbers"] (defScope s_do_call) := ⟨rfl, rfl, rfl, by decide +kernel, rfl, by decide +kernel, by decide +kernel⟩
def e_do_call : He.DefD := ⟨("do_call", none), "do_call", "do_call", defArgs s_do_call, defBody s_do_call, defScope s_do_call, [], []⟩
abbrev s_come_to_meeting : Stmt := top 31
abbrev nm_come_to_meeting : List Str := ["walker", "deed", "numbers", "number"]
theorem sc_come_to_meeting : FnScope nm_come_to_meeting ["walker", "deed", "numbers"] (defScope s_come_to_meeting) := ⟨rfl, rfl, rfl, by decide +kernel, rfl, by decide +kernel, by decide +kernel⟩
def e_come_to_meeting : He.DefD := ⟨("come_to_meeting", none), "come_to_meeting", "come_to_meeting", defArgs s_come_to_meeting, defBody s_come_to_meeting, defScope s_come_to_meeting, [], []⟩
abbrev s_do_onward : Stmt := top 32
abbrev nm_do_onward : List Str := ["walker", "deed", "numbers", "word", "block"]
theorem sc_do_onward : FnScope nm_do_onward ["walker", "deed", "numbers"] (defScope s_do_onward) := ⟨rfl, rfl, rfl, by decide +kernel, rfl, by decide +kernel, by decide +kernel⟩
def e_do_onward : He.DefD := ⟨("do_onward", none), "do_onward", "do_onward", defArgs s_do_onward, defBody s_do_onward, defScope s_do_onward, [], []⟩
abbrev s_do_deed : Stmt := top 33
abbrev nm_do_deed : List Str := ["walker", "deed", "story", "numbers"]
theorem sc_do_deed : FnScope nm_do_deed ["walker", "deed"] (defScope s_do_deed) := ⟨rfl, rfl, rfl, by decide +kernel, rfl, by decide +kernel, by decide +kernel⟩
def e_do_deed : He.DefD := ⟨("do_deed", none), "do_deed", "do_deed", defArgs s_do_deed, defBody s_do_deed, defScope s_do_deed, [], []⟩
abbrev s_go_on : Stmt := top 34
abbrev nm_go_on : List Str := ["walker", "block"]
theorem sc_go_on : FnScope nm_go_on ["walker"] (defScope s_go_on) := ⟨rfl, rfl, rfl, by decide +kernel, rfl, by decide +kernel, by decide +kernel⟩
def e_go_on : He.DefD := ⟨("go_on", none), "go_on", "go_on", defArgs s_go_on, defBody s_go_on, defScope s_go_on, [], []⟩
abbrev s_let_on : Stmt := top 35
abbrev nm_let_on : List Str := ["walker", "letter", "deed"]
theorem sc_let_on : FnScope nm_let_on ["walker", "letter"] (defScope s_let_on) := ⟨rfl, rfl, rfl, by decide +kernel, rfl, by decide +kernel, by decide +kernel⟩
def e_let_on : He.DefD := ⟨("let_on", none), "let_on", "let_on", defArgs s_let_on, defBody s_let_on, defScope s_let_on, [], []⟩
abbrev s_Walker___init : Stmt := inClass (top 20) 0
abbrev nm_Walker___init : List Str := ["self", "program", "lane", "lanes", "mine", "boxes", "most", "one", "main", "number"]
theorem sc_Walker___init : FnScope nm_Walker___init ["self", "program", "lane", "lanes", "mine", "boxes", "most"] (defScope s_Walker___init) := ⟨rfl, rfl, rfl, by decide +kernel, rfl, by decide +kernel, by decide +kernel⟩
def e_Walker___init : He.DefD := ⟨("Walker", some "__init__"), "__init__", "Walker.__init__", defArgs s_Walker___init, defBody s_Walker___init, defScope s_Walker___init, [], []⟩
abbrev s_alone : Stmt := top 36
abbrev nm_alone : List Str := ["program", "lane", "lanes", "mine", "boxes", "most", "letters", "walker", "letter"]
theorem sc_alone : FnScope nm_alone ["program", "lane", "lanes", "mine", "boxes", "most", "letters"] (defScope s_alone) := ⟨rfl, rfl, rfl, by decide +kernel, rfl, by decide +kernel, by decide +kernel⟩
def e_alone : He.DefD := ⟨("alone", none), "alone", "alone", defArgs s_alone, defBody s_alone, defScope s_alone, [], []⟩
abbrev s_l_cell : Stmt := top 38
abbrev nm_l_cell : List Str := ["_law_script", "_law_k"]
theorem sc_l_cell : FnScope nm_l_cell ["_law_script", "_law_k"] (defScope s_l_cell) := ⟨rfl, rfl, rfl, by decide +kernel, rfl, by decide +kernel, by decide +kernel⟩
def e_l_cell : He.DefD := ⟨("_law_cell", none), "_law_cell", "_law_cell", defArgs s_l_cell, defBody s_l_cell, defScope s_l_cell, [], []⟩
abbrev s_l_mixed : Stmt := top 39
abbrev nm_l_mixed : List Str := ["_law_cell_here", "_law_k", "_law_number"]
theorem sc_l_mixed : FnScope nm_l_mixed ["_law_cell_here", "_law_k"] (defScope s_l_mixed) := ⟨rfl, rfl, rfl, by decide +kernel, rfl, by decide +kernel, by decide +kernel⟩
def e_l_mixed : He.DefD := ⟨("_law_mixed", none), "_law_mixed", "_law_mixed", defArgs s_l_mixed, defBody s_l_mixed, defScope s_l_mixed, [], []⟩
abbrev s_l_all_whole : Stmt := top 40
abbrev nm_l_all_whole : List Str := ["_law_row", "_law_x"]
theorem sc_l_all_whole : FnScope nm_l_all_whole ["_law_row"] (defScope s_l_all_whole) := ⟨rfl, rfl, rfl, by decide +kernel, rfl, by decide +kernel, by decide +kernel⟩
def e_l_all_whole : He.DefD := ⟨("_law_all_whole", none), "_law_all_whole", "_law_all_whole", defArgs s_l_all_whole, defBody s_l_all_whole, defScope s_l_all_whole, [], []⟩
abbrev s_l_names : Stmt := top 41
abbrev nm_l_names : List Str := ["_law_cell_here", "_law_size", "_law_at", "_law_letters_here", "_law_names_here", "_law_k", "_law_one"]
theorem sc_l_names : FnScope nm_l_names ["_law_cell_here"] (defScope s_l_names) := ⟨rfl, rfl, rfl, by decide +kernel, rfl, by decide +kernel, by decide +kernel⟩
def e_l_names : He.DefD := ⟨("_law_names", none), "_law_names", "_law_names", defArgs s_l_names, defBody s_l_names, defScope s_l_names, [], []⟩
abbrev s_l_leaf : Stmt := top 42
abbrev nm_l_leaf : List Str := ["_law_number", "_law_plan_here", "_law_way", "_law_more"]
theorem sc_l_leaf : FnScope nm_l_leaf ["_law_number", "_law_plan_here"] (defScope s_l_leaf) := ⟨rfl, rfl, rfl, by decide +kernel, rfl, by decide +kernel, by decide +kernel⟩
def e_l_leaf : He.DefD := ⟨("_law_leaf", none), "_law_leaf", "_law_leaf", defArgs s_l_leaf, defBody s_l_leaf, defScope s_l_leaf, [], []⟩
abbrev s_l_place : Stmt := top 43
abbrev nm_l_place : List Str := ["_law_number", "_law_plan_here", "_law_way", "_law_more"]
theorem sc_l_place : FnScope nm_l_place ["_law_number", "_law_plan_here"] (defScope s_l_place) := ⟨rfl, rfl, rfl, by decide +kernel, rfl, by decide +kernel, by decide +kernel⟩
def e_l_place : He.DefD := ⟨("_law_place", none), "_law_place", "_law_place", defArgs s_l_place, defBody s_l_place, defScope s_l_place, [], []⟩
abbrev s_l_told : Stmt := top 44
abbrev nm_l_told : List Str := ["_law_number", "_law_plan_here", "_law_way", "_law_more", "_law_word"]
theorem sc_l_told : FnScope nm_l_told ["_law_number", "_law_plan_here"] (defScope s_l_told) := ⟨rfl, rfl, rfl, by decide +kernel, rfl, by decide +kernel, by decide +kernel⟩
def e_l_told : He.DefD := ⟨("_law_told", none), "_law_told", "_law_told", defArgs s_l_told, defBody s_l_told, defScope s_l_told, [], []⟩
abbrev s_l_open : Stmt := top 45
abbrev nm_l_open : List Str := ["_law_plan_here", "_law_rows_here", "_law_kind", "_law_number", "_law_name", "_law_test", "_law_by_told"]
theorem sc_l_open : FnScope nm_l_open ["_law_plan_here", "_law_rows_here", "_law_kind", "_law_number"] (defScope s_l_open) := ⟨rfl, rfl, rfl, by decide +kernel, rfl, by decide +kernel, by decide +kernel⟩
def e_l_open : He.DefD := ⟨("_law_open", none), "_law_open", "_law_open", defArgs s_l_open, defBody s_l_open, defScope s_l_open, [], []⟩
abbrev s_l_call : Stmt := top 46
abbrev nm_l_call : List Str := ["_law_plan_here", "_law_name", "_law_number", "_law_one", "_law_others", "_law_handed", "_law_k"]
theorem sc_l_call : FnScope nm_l_call ["_law_plan_here", "_law_name", "_law_number"] (defScope s_l_call) := ⟨rfl, rfl, rfl, by decide +kernel, rfl, by decide +kernel, by decide +kernel⟩
def e_l_call : He.DefD := ⟨("_law_call", none), "_law_call", "_law_call", defArgs s_l_call, defBody s_l_call, defScope s_l_call, [], []⟩
abbrev s_l_plain : Stmt := top 47
abbrev nm_l_plain : List Str := ["_law_plan_here", "_law_kind", "_law_number", "_law_name", "_law_told_here"]
theorem sc_l_plain : FnScope nm_l_plain ["_law_plan_here", "_law_kind", "_law_number"] (defScope s_l_plain) := ⟨rfl, rfl, rfl, by decide +kernel, rfl, by decide +kernel, by decide +kernel⟩
def e_l_plain : He.DefD := ⟨("_law_plain", none), "_law_plain", "_law_plain", defArgs s_l_plain, defBody s_l_plain, defScope s_l_plain, [], []⟩
abbrev s_l_grow : Stmt := top 48
abbrev nm_l_grow : List Str := ["_law_plan_here", "_law_rows_here", "_law_cell_here", "_law_number", "_law_kind", "_law_opened"]
theorem sc_l_grow : FnScope nm_l_grow ["_law_plan_here", "_law_rows_here", "_law_cell_here"] (defScope s_l_grow) := ⟨rfl, rfl, rfl, by decide +kernel, rfl, by decide +kernel, by decide +kernel⟩
def e_l_grow : He.DefD := ⟨("_law_grow", none), "_law_grow", "_law_grow", defArgs s_l_grow, defBody s_l_grow, defScope s_l_grow, [], []⟩
abbrev s_l_rows : Stmt := top 49
abbrev nm_l_rows : List Str := ["_law_plan_here", "_law_cells", "_law_rows_here", "_law_few", "_law_start", "_law_name", "_law_params", "_law_size", "_law_cell_here"]
theorem sc_l_rows : FnScope nm_l_rows ["_law_plan_here", "_law_cells"] (defScope s_l_rows) := ⟨rfl, rfl, rfl, by decide +kernel, rfl, by decide +kernel, by decide +kernel⟩
def e_l_rows : He.DefD := ⟨("_law_rows", none), "_law_rows", "_law_rows", defArgs s_l_rows, defBody s_l_rows, defScope s_l_rows, [], []⟩
abbrev s_l_plan : Stmt := top 50
abbrev nm_l_plan : List Str := ["_law_script", "_law_room", "_law_second", "_law_names_here", "_law_many", "_law_defs", "_law_k", "_law_j"]
theorem sc_l_plan : FnScope nm_l_plan ["_law_script", "_law_room"] (defScope s_l_plan) := ⟨rfl, rfl, rfl, by decide +kernel, rfl, by decide +kernel, by decide +kernel⟩
def e_l_plan : He.DefD := ⟨("_law_plan", none), "_law_plan", "_law_plan", defArgs s_l_plan, defBody s_l_plan, defScope s_l_plan, [], []⟩
abbrev s_l_block : Stmt := top 51
abbrev nm_l_block : List Str := ["_law_rows_here", "_law_at", "_law_body", "_law_row", "_law_line", "_law_yes", "_law_no", "_law_inner"]
theorem sc_l_block : FnScope nm_l_block ["_law_rows_here", "_law_at"] (defScope s_l_block) := ⟨rfl, rfl, rfl, by decide +kernel, rfl, by decide +kernel, by decide +kernel⟩
def e_l_block : He.DefD := ⟨("_law_block", none), "_law_block", "_law_block", defArgs s_l_block, defBody s_l_block, defScope s_l_block, [], []⟩
abbrev s_l_program : Stmt := top 52
abbrev nm_l_program : List Str := ["_law_rows_here", "_law_program_here", "_law_at", "_law_body", "_law_last"]
theorem sc_l_program : FnScope nm_l_program ["_law_rows_here"] (defScope s_l_program) := ⟨rfl, rfl, rfl, by decide +kernel, rfl, by decide +kernel, by decide +kernel⟩
def e_l_program : He.DefD := ⟨("_law_program", none), "_law_program", "_law_program", defArgs s_l_program, defBody s_l_program, defScope s_l_program, [], []⟩
abbrev s_l_letters : Stmt := top 53
abbrev nm_l_letters : List Str := ["_law_script", "_law_many", "_law_lanes", "_law_lane", "_law_room", "_law_letters_here", "_law_j", "_law_cell_here", "_law_brought", "_law_k", "_law_number", "_law_boxes"]
theorem sc_l_letters : FnScope nm_l_letters ["_law_script", "_law_many", "_law_lanes", "_law_lane", "_law_room"] (defScope s_l_letters) := ⟨rfl, rfl, rfl, by decide +kernel, rfl, by decide +kernel, by decide +kernel⟩
def e_l_letters : He.DefD := ⟨("_law_letters", none), "_law_letters", "_law_letters", defArgs s_l_letters, defBody s_l_letters, defScope s_l_letters, [], []⟩
abbrev s_l_begins : Stmt := top 54
abbrev nm_l_begins : List Str := ["_law_few", "_law_whole"]
theorem sc_l_begins : FnScope nm_l_begins ["_law_few", "_law_whole"] (defScope s_l_begins) := ⟨rfl, rfl, rfl, by decide +kernel, rfl, by decide +kernel, by decide +kernel⟩
def e_l_begins : He.DefD := ⟨("_law_begins", none), "_law_begins", "_law_begins", defArgs s_l_begins, defBody s_l_begins, defScope s_l_begins, [], []⟩
abbrev s_l_puts_fit : Stmt := top 55
abbrev nm_l_puts_fit : List Str := ["_law_few", "_law_whole", "_law_k", "_law_place_here", "_law_here", "_law_there", "_law_number", "_law_word", "_law_line"]
theorem sc_l_puts_fit : FnScope nm_l_puts_fit ["_law_few", "_law_whole"] (defScope s_l_puts_fit) := ⟨rfl, rfl, rfl, by decide +kernel, rfl, by decide +kernel, by decide +kernel⟩
def e_l_puts_fit : He.DefD := ⟨("_law_puts_fit", none), "_law_puts_fit", "_law_puts_fit", defArgs s_l_puts_fit, defBody s_l_puts_fit, defScope s_l_puts_fit, [], []⟩
abbrev s_l_counted : Stmt := top 56
abbrev nm_l_counted : List Str := ["_law_few", "_law_rows_here", "_law_words", "_law_puts", "_law_many", "_law_line", "_law_touches", "_law_one"]
theorem sc_l_counted : FnScope nm_l_counted ["_law_few", "_law_rows_here"] (defScope s_l_counted) := ⟨rfl, rfl, rfl, by decide +kernel, rfl, by decide +kernel, by decide +kernel⟩
def e_l_counted : He.DefD := ⟨("_law_counted", none), "_law_counted", "_law_counted", defArgs s_l_counted, defBody s_l_counted, defScope s_l_counted, [], []⟩
abbrev s_l_shorter : Stmt := top 57
abbrev nm_l_shorter : List Str := ["_law_few", "_law_whole", "_law_most", "_law_rows_here", "_law_k"]
theorem sc_l_shorter : FnScope nm_l_shorter ["_law_few", "_law_whole", "_law_most", "_law_rows_here"] (defScope s_l_shorter) := ⟨rfl, rfl, rfl, by decide +kernel, rfl, by decide +kernel, by decide +kernel⟩
def e_l_shorter : He.DefD := ⟨("_law_shorter", none), "_law_shorter", "_law_shorter", defArgs s_l_shorter, defBody s_l_shorter, defScope s_l_shorter, [], []⟩
abbrev s_l_same : Stmt := top 58
abbrev nm_l_same : List Str := ["_law_few", "_law_whole"]
theorem sc_l_same : FnScope nm_l_same ["_law_few", "_law_whole"] (defScope s_l_same) := ⟨rfl, rfl, rfl, by decide +kernel, rfl, by decide +kernel, by decide +kernel⟩
def e_l_same : He.DefD := ⟨("_law_same", none), "_law_same", "_law_same", defArgs s_l_same, defBody s_l_same, defScope s_l_same, [], []⟩
abbrev s_law : Stmt := top 59
abbrev nm_law : List Str := ["_law_script", "_law_first", "_law_lanes", "_law_lane", "_law_room", "_law_mine", "_law_k", "_law_boxes", "_law_letters_here", "_law_rows_here", "_law_program_here", "_law_most", "_law_whole", "_law_fewer", "_law_few", "_law_number"]
theorem sc_law : FnScope nm_law ["_law_script"] (defScope s_law) := ⟨rfl, rfl, rfl, by decide +kernel, rfl, by decide +kernel, by decide +kernel⟩
def e_law : He.DefD := ⟨("law", none), "law", "law", defArgs s_law, defBody s_law, defScope s_law, [], []⟩
def fn : List He.DefD := [e_wrapped, e_divided, e_worked, e_Joint___init, e_Most___init, e_Least___init, e_Ahead___init, e_Joint_whole_numbers, e_Most_whole_numbers, e_Least_whole_numbers, e_Joint_gives, e_Most_gives, e_Least_gives, e_Ahead_gives, e_joint_of, e_joined, e_expressions_of, e_Story___init, e_Block___init, e_Frame___init, e_Walker_name_given, e_Walker_leave, e_Walker_go_out, e_touched_box, e_sign_told, e_in_box, e_working_of, e_number_of, e_numbers_of, e_do_put, e_do_test, e_do_leave, e_do_call, e_come_to_meeting, e_do_onward, e_do_deed, e_go_on, e_let_on, e_Walker___init, e_alone, e_l_cell, e_l_mixed, e_l_all_whole, e_l_names, e_l_leaf, e_l_place, e_l_told, e_l_open, e_l_call, e_l_plain, e_l_grow, e_l_rows, e_l_plan, e_l_block, e_l_program, e_l_letters, e_l_begins, e_l_puts_fit, e_l_counted, e_l_shorter, e_l_same, e_law]
def fa : List He.Fa := [.glo "wrapped", .glo "divided", .glo "worked", .glo "joint_of", .glo "joined", .glo "expressions_of", .glo "touched_box", .glo "sign_told", .glo "in_box", .glo "working_of", .glo "number_of", .glo "numbers_of", .glo "do_put", .glo "do_test", .glo "do_leave", .glo "do_call", .glo "come_to_meeting", .glo "do_onward", .glo "do_deed", .glo "go_on", .glo "let_on", .glo "alone", .glo "_law_cell", .glo "_law_mixed", .glo "_law_all_whole", .glo "_law_names", .glo "_law_leaf", .glo "_law_place", .glo "_law_told", .glo "_law_open", .glo "_law_call", .glo "_law_plain", .glo "_law_grow", .glo "_law_rows", .glo "_law_plan", .glo "_law_block", .glo "_law_program", .glo "_law_letters", .glo "_law_begins", .glo "_law_puts_fit", .glo "_law_counted", .glo "_law_shorter", .glo "_law_same", .glo "law", .int "HALF" 2147483648, .int "ROUND" 4294967296, .int "DEEPEST" 6, .cls "Joint", .noat "Joint" "brought", .cls "Most", .noat "Most" "brought", .cls "Least", .noat "Least" "brought", .cls "Ahead", .noat "Ahead" "brought", .cls "Story", .noat "Story" "told", .noat "Story" "steps", .noat "Story" "end", .noat "Story" "brought", .noat "Story" "touches", .noat "Story" "puts", .noat "Story" "lines", .cls "Block", .noat "Block" "body", .noat "Block" "at", .noat "Block" "why", .cls "Frame", .noat "Frame" "names", .noat "Frame" "last", .noat "Frame" "taker", .cls "Walker", .noat "Walker" "frames", .noat "Walker" "blocks", .noat "Walker" "story", .noat "Walker" "boxes", .noat "Walker" "lane", .noat "Walker" "lanes", .noat "Walker" "mine", .noat "Walker" "defs", .noat "Walker" "waiting", .noat "Walker" "most", .mkr "Joint", .glo "Joint", .mkr "Most", .glo "Most", .mkr "Least", .glo "Least", .mkr "Ahead", .glo "Ahead", .meth "Joint" "whole_numbers", .meth "Most" "whole_numbers", .meth "Least" "whole_numbers", .meth "Joint" "gives", .meth "Most" "gives", .meth "Least" "gives", .meth "Ahead" "gives", .mkr "Story", .glo "Story", .mkr "Block", .glo "Block", .mkr "Frame", .glo "Frame", .meth "Walker" "name_given", .meth "Walker" "leave", .meth "Walker" "go_out", .mkr "Walker", .glo "Walker", .free "divmod", .free "int", .free "sum", .free "max", .free "min", .free "list", .free "len", .free "zip", .free "isinstance", .free "bool", .free "range"]
abbrev Tp (K : PySem.W.Frag) (mg : Str → Option Value) : Prop := Top fa fn K mg
section
variable {K : PySem.W.Frag} {mg : Str → Option Value}
theorem m_wrapped (T : Tp K mg) : mg "wrapped" = some (.ref (He.ga K "wrapped")) := T.glo 0
theorem m_divided (T : Tp K mg) : mg "divided" = some (.ref (He.ga K "divided")) := T.glo 1
theorem m_worked (T : Tp K mg) : mg "worked" = some (.ref (He.ga K "worked")) := T.glo 2
theorem m_joint_of (T : Tp K mg) : mg "joint_of" = some (.ref (He.ga K "joint_of")) := T.glo 3
theorem m_joined (T : Tp K mg) : mg "joined" = some (.ref (He.ga K "joined")) := T.glo 4
theorem m_expressions_of (T : Tp K mg) : mg "expressions_of" = some (.ref (He.ga K "expressions_of")) := T.glo 5
theorem m_touched_box (T : Tp K mg) : mg "touched_box" = some (.ref (He.ga K "touched_box")) := T.glo 6
theorem m_sign_told (T : Tp K mg) : mg "sign_told" = some (.ref (He.ga K "sign_told")) := T.glo 7
theorem m_in_box (T : Tp K mg) : mg "in_box" = some (.ref (He.ga K "in_box")) := T.glo 8
theorem m_working_of (T : Tp K mg) : mg "working_of" = some (.ref (He.ga K "working_of")) := T.glo 9
theorem m_number_of (T : Tp K mg) : mg "number_of" = some (.ref (He.ga K "number_of")) := T.glo 10
theorem m_numbers_of (T : Tp K mg) : mg "numbers_of" = some (.ref (He.ga K "numbers_of")) := T.glo 11
theorem m_do_put (T : Tp K mg) : mg "do_put" = some (.ref (He.ga K "do_put")) := T.glo 12
theorem m_do_test (T : Tp K mg) : mg "do_test" = some (.ref (He.ga K "do_test")) := T.glo 13
theorem m_do_leave (T : Tp K mg) : mg "do_leave" = some (.ref (He.ga K "do_leave")) := T.glo 14
theorem m_do_call (T : Tp K mg) : mg "do_call" = some (.ref (He.ga K "do_call")) := T.glo 15
theorem m_come_to_meeting (T : Tp K mg) : mg "come_to_meeting" = some (.ref (He.ga K "come_to_meeting")) := T.glo 16
theorem m_do_onward (T : Tp K mg) : mg "do_onward" = some (.ref (He.ga K "do_onward")) := T.glo 17
theorem m_do_deed (T : Tp K mg) : mg "do_deed" = some (.ref (He.ga K "do_deed")) := T.glo 18
theorem m_go_on (T : Tp K mg) : mg "go_on" = some (.ref (He.ga K "go_on")) := T.glo 19
theorem m_let_on (T : Tp K mg) : mg "let_on" = some (.ref (He.ga K "let_on")) := T.glo 20
theorem m_alone (T : Tp K mg) : mg "alone" = some (.ref (He.ga K "alone")) := T.glo 21
theorem m_l_cell (T : Tp K mg) : mg "_law_cell" = some (.ref (He.ga K "_law_cell")) := T.glo 22
theorem m_l_mixed (T : Tp K mg) : mg "_law_mixed" = some (.ref (He.ga K "_law_mixed")) := T.glo 23
theorem m_l_all_whole (T : Tp K mg) : mg "_law_all_whole" = some (.ref (He.ga K "_law_all_whole")) := T.glo 24
theorem m_l_names (T : Tp K mg) : mg "_law_names" = some (.ref (He.ga K "_law_names")) := T.glo 25
theorem m_l_leaf (T : Tp K mg) : mg "_law_leaf" = some (.ref (He.ga K "_law_leaf")) := T.glo 26
theorem m_l_place (T : Tp K mg) : mg "_law_place" = some (.ref (He.ga K "_law_place")) := T.glo 27
theorem m_l_told (T : Tp K mg) : mg "_law_told" = some (.ref (He.ga K "_law_told")) := T.glo 28
theorem m_l_open (T : Tp K mg) : mg "_law_open" = some (.ref (He.ga K "_law_open")) := T.glo 29
theorem m_l_call (T : Tp K mg) : mg "_law_call" = some (.ref (He.ga K "_law_call")) := T.glo 30
theorem m_l_plain (T : Tp K mg) : mg "_law_plain" = some (.ref (He.ga K "_law_plain")) := T.glo 31
theorem m_l_grow (T : Tp K mg) : mg "_law_grow" = some (.ref (He.ga K "_law_grow")) := T.glo 32
theorem m_l_rows (T : Tp K mg) : mg "_law_rows" = some (.ref (He.ga K "_law_rows")) := T.glo 33
theorem m_l_plan (T : Tp K mg) : mg "_law_plan" = some (.ref (He.ga K "_law_plan")) := T.glo 34
theorem m_l_block (T : Tp K mg) : mg "_law_block" = some (.ref (He.ga K "_law_block")) := T.glo 35
theorem m_l_program (T : Tp K mg) : mg "_law_program" = some (.ref (He.ga K "_law_program")) := T.glo 36
theorem m_l_letters (T : Tp K mg) : mg "_law_letters" = some (.ref (He.ga K "_law_letters")) := T.glo 37
theorem m_l_begins (T : Tp K mg) : mg "_law_begins" = some (.ref (He.ga K "_law_begins")) := T.glo 38
theorem m_l_puts_fit (T : Tp K mg) : mg "_law_puts_fit" = some (.ref (He.ga K "_law_puts_fit")) := T.glo 39
theorem m_l_counted (T : Tp K mg) : mg "_law_counted" = some (.ref (He.ga K "_law_counted")) := T.glo 40
theorem m_l_shorter (T : Tp K mg) : mg "_law_shorter" = some (.ref (He.ga K "_law_shorter")) := T.glo 41
theorem m_l_same (T : Tp K mg) : mg "_law_same" = some (.ref (He.ga K "_law_same")) := T.glo 42
theorem m_law (T : Tp K mg) : mg "law" = some (.ref (He.ga K "law")) := T.glo 43
theorem m_HALF (T : Tp K mg) : ∃ t, mg "HALF" = some (.int 2147483648 t) := T.int 44
theorem m_ROUND (T : Tp K mg) : ∃ t, mg "ROUND" = some (.int 4294967296 t) := T.int 45
theorem m_DEEPEST (T : Tp K mg) : ∃ t, mg "DEEPEST" = some (.int 6 t) := T.int 46
theorem c_Joint_brought (T : Tp K mg) : ∀ C, (C = He.ga K "Joint" ∨ C = He.ga K "Most" ∨ C = He.ga K "Least" ∨ C = He.ga K "Ahead") → Cls K C ∧ NoAttr K C "brought" := by
  rintro _ (rfl | rfl | rfl | rfl)
  · exact ⟨T.cls 47, T.noat 48⟩
  · exact ⟨T.cls 49, T.noat 50⟩
  · exact ⟨T.cls 51, T.noat 52⟩
  · exact ⟨T.cls 53, T.noat 54⟩
theorem c_Story_told (T : Tp K mg) : ∀ C, (C = He.ga K "Story") → Cls K C ∧ NoAttr K C "told" := by
  rintro _ (rfl)
  · exact ⟨T.cls 55, T.noat 56⟩
theorem c_Story_steps (T : Tp K mg) : ∀ C, (C = He.ga K "Story") → Cls K C ∧ NoAttr K C "steps" := by
  rintro _ (rfl)
  · exact ⟨T.cls 55, T.noat 57⟩
theorem c_Story_end (T : Tp K mg) : ∀ C, (C = He.ga K "Story") → Cls K C ∧ NoAttr K C "end" := by
  rintro _ (rfl)
  · exact ⟨T.cls 55, T.noat 58⟩
theorem c_Story_brought (T : Tp K mg) : ∀ C, (C = He.ga K "Story") → Cls K C ∧ NoAttr K C "brought" := by
  rintro _ (rfl)
  · exact ⟨T.cls 55, T.noat 59⟩
theorem c_Story_touches (T : Tp K mg) : ∀ C, (C = He.ga K "Story") → Cls K C ∧ NoAttr K C "touches" := by
  rintro _ (rfl)
  · exact ⟨T.cls 55, T.noat 60⟩
theorem c_Story_puts (T : Tp K mg) : ∀ C, (C = He.ga K "Story") → Cls K C ∧ NoAttr K C "puts" := by
  rintro _ (rfl)
  · exact ⟨T.cls 55, T.noat 61⟩
theorem c_Story_lines (T : Tp K mg) : ∀ C, (C = He.ga K "Story") → Cls K C ∧ NoAttr K C "lines" := by
  rintro _ (rfl)
  · exact ⟨T.cls 55, T.noat 62⟩
theorem c_Block_body (T : Tp K mg) : ∀ C, (C = He.ga K "Block") → Cls K C ∧ NoAttr K C "body" := by
  rintro _ (rfl)
  · exact ⟨T.cls 63, T.noat 64⟩
theorem c_Block_at (T : Tp K mg) : ∀ C, (C = He.ga K "Block") → Cls K C ∧ NoAttr K C "at" := by
  rintro _ (rfl)
  · exact ⟨T.cls 63, T.noat 65⟩
theorem c_Block_why (T : Tp K mg) : ∀ C, (C = He.ga K "Block") → Cls K C ∧ NoAttr K C "why" := by
  rintro _ (rfl)
  · exact ⟨T.cls 63, T.noat 66⟩
theorem c_Frame_names (T : Tp K mg) : ∀ C, (C = He.ga K "Frame") → Cls K C ∧ NoAttr K C "names" := by
  rintro _ (rfl)
  · exact ⟨T.cls 67, T.noat 68⟩
theorem c_Frame_last (T : Tp K mg) : ∀ C, (C = He.ga K "Frame") → Cls K C ∧ NoAttr K C "last" := by
  rintro _ (rfl)
  · exact ⟨T.cls 67, T.noat 69⟩
theorem c_Frame_taker (T : Tp K mg) : ∀ C, (C = He.ga K "Frame") → Cls K C ∧ NoAttr K C "taker" := by
  rintro _ (rfl)
  · exact ⟨T.cls 67, T.noat 70⟩
theorem c_Walker_frames (T : Tp K mg) : ∀ C, (C = He.ga K "Walker") → Cls K C ∧ NoAttr K C "frames" := by
  rintro _ (rfl)
  · exact ⟨T.cls 71, T.noat 72⟩
theorem c_Walker_blocks (T : Tp K mg) : ∀ C, (C = He.ga K "Walker") → Cls K C ∧ NoAttr K C "blocks" := by
  rintro _ (rfl)
  · exact ⟨T.cls 71, T.noat 73⟩
theorem c_Walker_story (T : Tp K mg) : ∀ C, (C = He.ga K "Walker") → Cls K C ∧ NoAttr K C "story" := by
  rintro _ (rfl)
  · exact ⟨T.cls 71, T.noat 74⟩
theorem c_Walker_boxes (T : Tp K mg) : ∀ C, (C = He.ga K "Walker") → Cls K C ∧ NoAttr K C "boxes" := by
  rintro _ (rfl)
  · exact ⟨T.cls 71, T.noat 75⟩
theorem c_Walker_lane (T : Tp K mg) : ∀ C, (C = He.ga K "Walker") → Cls K C ∧ NoAttr K C "lane" := by
  rintro _ (rfl)
  · exact ⟨T.cls 71, T.noat 76⟩
theorem c_Walker_lanes (T : Tp K mg) : ∀ C, (C = He.ga K "Walker") → Cls K C ∧ NoAttr K C "lanes" := by
  rintro _ (rfl)
  · exact ⟨T.cls 71, T.noat 77⟩
theorem c_Walker_mine (T : Tp K mg) : ∀ C, (C = He.ga K "Walker") → Cls K C ∧ NoAttr K C "mine" := by
  rintro _ (rfl)
  · exact ⟨T.cls 71, T.noat 78⟩
theorem c_Walker_defs (T : Tp K mg) : ∀ C, (C = He.ga K "Walker") → Cls K C ∧ NoAttr K C "defs" := by
  rintro _ (rfl)
  · exact ⟨T.cls 71, T.noat 79⟩
theorem c_Walker_waiting (T : Tp K mg) : ∀ C, (C = He.ga K "Walker") → Cls K C ∧ NoAttr K C "waiting" := by
  rintro _ (rfl)
  · exact ⟨T.cls 71, T.noat 80⟩
theorem c_Walker_most (T : Tp K mg) : ∀ C, (C = He.ga K "Walker") → Cls K C ∧ NoAttr K C "most" := by
  rintro _ (rfl)
  · exact ⟨T.cls 71, T.noat 81⟩
theorem m_divmod (T : Tp K mg) : mg "divmod" = none := T.free 108
theorem m_int (T : Tp K mg) : mg "int" = none := T.free 109
theorem m_sum (T : Tp K mg) : mg "sum" = none := T.free 110
theorem m_max (T : Tp K mg) : mg "max" = none := T.free 111
theorem m_min (T : Tp K mg) : mg "min" = none := T.free 112
theorem m_list (T : Tp K mg) : mg "list" = none := T.free 113
theorem m_len (T : Tp K mg) : mg "len" = none := T.free 114
theorem m_zip (T : Tp K mg) : mg "zip" = none := T.free 115
theorem m_isinstance (T : Tp K mg) : mg "isinstance" = none := T.free 116
theorem m_bool (T : Tp K mg) : mg "bool" = none := T.free 117
theorem m_range (T : Tp K mg) : mg "range" = none := T.free 118
end
abbrev R : PySem.W.OpenRow := PySem.W.OpenLaw.row PySem.Challenge.rw_widelanes_k46_fewer_steps
abbrev hk : PySem.W.Hook := He.hookD 4 fa fn
def ob (s : PySem.W.SharedT) : He.AlD := He.obsDG 4 fa fn (HandSHeadRun.getT s)
theorem ob_eq (s : PySem.W.SharedT) : ob s = hk.obs s.abs := He.obsDG_eq (HandSHeadRun.getT_eq s)
theorem run (w : World) : HandSHeadRun.RunEq R (PySem.W.view R.prog [59]) hk ob 4000 ("__name__" :: "HALF" :: "ROUND" :: "wrapped" :: "divided" :: "worked" :: "Joint" :: "Most" :: "Least" :: "Ahead" :: "joint_of" :: "joined" :: "expressions_of" :: "DEEPEST" :: "Story" :: "Block" :: "Frame" :: "Walker" :: "touched_box" :: "sign_told" :: "in_box" :: "working_of" :: "number_of" :: "numbers_of" :: "do_put" :: "do_test" :: "do_leave" :: "do_call" :: "come_to_meeting" :: "do_onward" :: "do_deed" :: "go_on" :: "let_on" :: "alone" :: "_law_cell" :: "_law_mixed" :: "_law_all_whole" :: "_law_names" :: "_law_leaf" :: "_law_place" :: "_law_told" :: "_law_open" :: "_law_call" :: "_law_plain" :: "_law_grow" :: "_law_rows" :: "_law_plan" :: "_law_block" :: "_law_program" :: "_law_letters" :: "_law_begins" :: "_law_puts_fit" :: "_law_counted" :: "_law_shorter" :: "_law_same" :: []) w := by
  intro os
  kernel_rfl
end K46
local macro_rules | `(tactic| walk_at "vc") => `(tactic| simp only [Tl.umClear, Tl.ucPr, Tl.ugLs, Tl.utSdk, Tl.utSm, Tl.umSplit, Tl.umStarts, Tl.umJoin, Tl.ucStr, Tl.ucIntS, Tl.ubInS, Tl.uZiT, Tl.uDisp1, Tl.uIsB, Tl.uSortDI, Tl.op_lane, Tl.op_lanes, Tl.op_mine, Tl.op_num, Tl.op_name, Tl.op_box, Tl.cut_tail, Tl.val_name, Tl.val_row, Tl.val_def, Tl.val_back, Tl.ofS_inj, String.reduceEq, Tl.uDic, Tl.oDA_ki, Tl.oDA_ks, Tl.oDA_t, Tl.oPA_ki, Tl.oPA_ks, Tl.oPA_t, Tl.consK_s, Tl.kT_nil, Tl.kT_i, Tl.kT_s, Tl.uzDict, Tl.uIn, Tl.uRepS, Tl.uRep, Tl.uRepM, Tl.uCatT, Tl.uSlT, Tl.oLD_k, Tl.oLD_t, Tl.uLenD, Tl.z_tDnK, Tl.z_tDnT, Tl.z_tDg, Tl.z_tDi, Tl.z_tDg2, Tl.z_tRe, Tl.z_sRe, Tl.wip, Tl.uObj, Tl.oAt_i, Tl.cxK, Tl.cxKn, true_or, or_true, or_false, false_or, Nat.zero_le, Nat.le_refl, Tl.mup_same, Tl.mup_mup, Tl.uAlt, Tl.z_tFd, Tl.z_sFd, Tl.z_sFa, Tl.z_tMe, Tl.z_tMk, Tl.nthD, Tl.putD, Tl.uFo, Tl.uLcF, Tl.uLcV', Tl.uAsRef, Tl.z_sNx, Tl.z_sSq, Tl.z_sBk, Tl.z_sCt, Tl.z_sDr, Tl.z_sRt, Tl.z_sRtN, Tl.z_sIf, Tl.z_sAs, Tl.z_gN, Tl.z_gSb, Tl.z_tK, Tl.z_tO, Tl.z_tU, Tl.z_tCa, Tl.z_tN, Tl.z_tCs, Tl.z_tAn, Tl.tOr', Tl.z_tNo, Tl.z_tIfE, Tl.z_tCl, Tl.z_tTu, Tl.z_tLi, Tl.z_tLm, Tl.z_tSc, Tl.z_oNo, Tl.z_tMt, Tl.z_tMt0, Tl.z_tYe, Tl.z_tLt, Tl.kit_ii, Tl.kit_ib, Tl.kit_bi, Tl.kit_bb, Tl.kit_si, Tl.kit_ss, Tl.kit_is, Tl.kit_tt, Tl.kit_ll, Tl.kit_lt, Tl.kit_tl, Tl.kit_ts, Tl.kit_ls, Tl.kit_sl, Tl.kit_st, Tl.kit_it, Tl.kit_il, Tl.kit_dd, Tl.kit_ni, Tl.kit_nb, Tl.begin_, Tl.nth, List.map, List.length, List.replicate, List.append, List.set, List.nil_append, List.cons_append, List.append_nil, Nat.reduceAdd, Nat.reduceSub, Nat.zero_add, reduceIte, Bool.false_eq_true, Bool.true_eq_false, Bool.not_eq_true', Bool.not_eq_false', Bool.not_true, Bool.not_false, not_true_eq_false, not_false_eq_true, decide_eq_true_eq, decide_eq_false_iff_not, decide_not, Option.isSome_some, true_and, and_true, Int.reduceLT, Int.reduceLE, Int.reduceNeg, List.cons.injEq, Option.some.injEq, PySem.sizeLine_eq, Nat.reduceLeDiff, List.length_map, List.length_append, List.length_cons, List.length_nil, Tl.oBl_i, Tl.oInt_i, Tl.oStr_i, Tl.oTup_i, Tl.oSome_i, Tl.oBl_if, Tl.uV, Tl.uBo, Tl.uAnV, Tl.uOrV, Tl.uNoV, Tl.uCh, Tl.uNl0, Tl.uCs1, Tl.uTp, Tl.uAg, Tl.uInt, Tl.uInt0, Tl.uNegI, Tl.uEq, Tl.uNe, Tl.dScal_ii, Tl.dScal_ss, Tl.dScal_bb, Tl.dScal_nn, Tl.dScal_ni, Tl.dScal_in, Tl.dScal_is, Tl.dScal_si, Tl.uIsN, Tl.uNotN, Tl.nonD_n, Tl.nonD_i, Tl.nonD_s, Tl.nonD_t, Tl.nonD_l, Tl.nonD_b, Tl.nonD_r, Tl.uCatS, Tl.uCatL, Tl.uCatM, Tl.lstOf_l, Tl.lstOf_c, Tl.lstOf_m, Tl.trkOf_l, Tl.trkOf_m, Tl.tupOf_t, Tl.tupOf_b, Tl.seqOf_t, Tl.seqOf_b, Tl.seqOf_l, Tl.seqOf_c, Tl.seqOf_r, Tl.uIx_t, Tl.uIx_b, Tl.uIx_l, Tl.uIx_c, Tl.uIx_s, Tl.uIx_r, Tl.uYes, Tl.uSlL, Tl.uSlM, Tl.uSlS, Tl.uIsi, Tl.dTy_n, Tl.dTy_b, Tl.dTy_i, Tl.dTy_s, Tl.dTy_t, Tl.dTy_l, Tl.uLen, Tl.lenOf_t, Tl.lenOf_b, Tl.lenOf_l, Tl.lenOf_c, Tl.lenOf_m, Tl.uIntI, Tl.uIntB, Tl.uLs, Tl.uTu, Tl.oL1_i, Tl.oL2_i, Tl.oL3_i, Tl.uR1, Tl.uR2, Tl.uR3, Tl.uEn, Tl.uZi, Tl.uSt, Tl.uRv, Tl.uDivmod, Tl.uList, Tl.uListM, Tl.uSum, Tl.uMax, Tl.uMin, Tl.intLst_l, Tl.intLst_c, Tl.blLst_l, Tl.uMax2, Tl.uMin2, Tl.uAbs, Tl.uAny, Tl.uAll, Tl.mLst_m, Tl.uAppend, Tl.uExtend, Tl.uPop, Tl.uSet, Tl.lMt_l, Tl.isS_m, Tl.atI_0, Tl.atI_1, Tl.atI_2, Tl.atI_3, Tl.atI_4, Tl.atI_5])
local macro_rules | `(tactic| walk_at "vh") => `(tactic| simp only [Tl.umClear, Tl.ucPr, Tl.ugLs, Tl.utSdk, Tl.utSm, Tl.umSplit, Tl.umStarts, Tl.umJoin, Tl.ucStr, Tl.ucIntS, Tl.ubInS, Tl.uZiT, Tl.uDisp1, Tl.uIsB, Tl.uSortDI, Tl.op_lane, Tl.op_lanes, Tl.op_mine, Tl.op_num, Tl.op_name, Tl.op_box, Tl.cut_tail, Tl.val_name, Tl.val_row, Tl.val_def, Tl.val_back, Tl.ofS_inj, String.reduceEq, Tl.uDic, Tl.oDA_ki, Tl.oDA_ks, Tl.oDA_t, Tl.oPA_ki, Tl.oPA_ks, Tl.oPA_t, Tl.consK_s, Tl.kT_nil, Tl.kT_i, Tl.kT_s, Tl.uzDict, Tl.uIn, Tl.uRepS, Tl.uRep, Tl.uRepM, Tl.uCatT, Tl.uSlT, Tl.oLD_k, Tl.oLD_t, Tl.uLenD, Tl.z_tDnK, Tl.z_tDnT, Tl.z_tDg, Tl.z_tDi, Tl.z_tDg2, Tl.z_tRe, Tl.z_sRe, Tl.wip, Tl.uObj, Tl.oAt_i, Tl.cxK, Tl.cxKn, true_or, or_true, or_false, false_or, Nat.zero_le, Nat.le_refl, Tl.mup_same, Tl.mup_mup, Tl.uAlt, Tl.z_tFd, Tl.z_sFd, Tl.z_sFa, Tl.z_tMe, Tl.z_tMk, Tl.nthD, Tl.putD, Tl.uFo, Tl.uLcF, Tl.uLcV', Tl.uAsRef, Tl.z_sNx, Tl.z_sSq, Tl.z_sBk, Tl.z_sCt, Tl.z_sDr, Tl.z_sRt, Tl.z_sRtN, Tl.z_sIf, Tl.z_sAs, Tl.z_gN, Tl.z_gSb, Tl.z_tK, Tl.z_tO, Tl.z_tU, Tl.z_tCa, Tl.z_tN, Tl.z_tCs, Tl.z_tAn, Tl.tOr', Tl.z_tNo, Tl.z_tIfE, Tl.z_tCl, Tl.z_tTu, Tl.z_tLi, Tl.z_tLm, Tl.z_tSc, Tl.z_oNo, Tl.z_tMt, Tl.z_tMt0, Tl.z_tYe, Tl.z_tLt, Tl.kit_ii, Tl.kit_ib, Tl.kit_bi, Tl.kit_bb, Tl.kit_si, Tl.kit_ss, Tl.kit_is, Tl.kit_tt, Tl.kit_ll, Tl.kit_lt, Tl.kit_tl, Tl.kit_ts, Tl.kit_ls, Tl.kit_sl, Tl.kit_st, Tl.kit_it, Tl.kit_il, Tl.kit_dd, Tl.kit_ni, Tl.kit_nb, Tl.begin_, Tl.nth, List.map, List.length, List.replicate, List.append, List.set, List.nil_append, List.cons_append, List.append_nil, Nat.reduceAdd, Nat.reduceSub, Nat.zero_add, reduceIte, Bool.false_eq_true, Bool.true_eq_false, Bool.not_eq_true', Bool.not_eq_false', Bool.not_true, Bool.not_false, not_true_eq_false, not_false_eq_true, decide_eq_true_eq, decide_eq_false_iff_not, decide_not, Option.isSome_some, true_and, and_true, Int.reduceLT, Int.reduceLE, Int.reduceNeg, List.cons.injEq, Option.some.injEq, PySem.sizeLine_eq, Nat.reduceLeDiff, List.length_map, List.length_append, List.length_cons, List.length_nil, Tl.oBl_i, Tl.oInt_i, Tl.oStr_i, Tl.oTup_i, Tl.oSome_i, Tl.oBl_if, Tl.uV, Tl.uBo, Tl.uAnV, Tl.uOrV, Tl.uNoV, Tl.uCh, Tl.uNl0, Tl.uCs1, Tl.uTp, Tl.uAg, Tl.uInt, Tl.uInt0, Tl.uNegI, Tl.uEq, Tl.uNe, Tl.dScal_ii, Tl.dScal_ss, Tl.dScal_bb, Tl.dScal_nn, Tl.dScal_ni, Tl.dScal_in, Tl.dScal_is, Tl.dScal_si, Tl.uIsN, Tl.uNotN, Tl.nonD_n, Tl.nonD_i, Tl.nonD_s, Tl.nonD_t, Tl.nonD_l, Tl.nonD_b, Tl.nonD_r, Tl.uCatS, Tl.uCatL, Tl.uCatM, Tl.lstOf_l, Tl.lstOf_c, Tl.lstOf_m, Tl.trkOf_l, Tl.trkOf_m, Tl.tupOf_t, Tl.tupOf_b, Tl.seqOf_t, Tl.seqOf_b, Tl.seqOf_l, Tl.seqOf_c, Tl.seqOf_r, Tl.uIx_t, Tl.uIx_b, Tl.uIx_l, Tl.uIx_c, Tl.uIx_s, Tl.uIx_r, Tl.uYes, Tl.uSlL, Tl.uSlM, Tl.uSlS, Tl.uIsi, Tl.dTy_n, Tl.dTy_b, Tl.dTy_i, Tl.dTy_s, Tl.dTy_t, Tl.dTy_l, Tl.uLen, Tl.lenOf_t, Tl.lenOf_b, Tl.lenOf_l, Tl.lenOf_c, Tl.lenOf_m, Tl.uIntI, Tl.uIntB, Tl.uLs, Tl.uTu, Tl.oL1_i, Tl.oL2_i, Tl.oL3_i, Tl.uR1, Tl.uR2, Tl.uR3, Tl.uEn, Tl.uZi, Tl.uSt, Tl.uRv, Tl.uDivmod, Tl.uList, Tl.uListM, Tl.uSum, Tl.uMax, Tl.uMin, Tl.intLst_l, Tl.intLst_c, Tl.blLst_l, Tl.uMax2, Tl.uMin2, Tl.uAbs, Tl.uAny, Tl.uAll, Tl.mLst_m, Tl.uAppend, Tl.uExtend, Tl.uPop, Tl.uSet, Tl.lMt_l, Tl.isS_m, Tl.atI_0, Tl.atI_1, Tl.atI_2, Tl.atI_3, Tl.atI_4, Tl.atI_5, *])
namespace K46
open PySem PySem.Spec PyProof.Rows L2 Tl
section
variable {P : Program} {w : World} {K : PySem.W.Frag} {mg : Str → Option Value} {base : Heap}
def sp1 (f : Int → Int) : SpT := fun ds M Q _ => ∃ n, ds = [.int n] ∧ Q (.int (f n)) M
theorem ok_wrapped (T : Tp K mg) : Fn P w K mg base CX0 1 "wrapped" (sp1 wrapF) := by
  refine fn_top T 0 e_wrapped (m_wrapped T) sc_wrapped (by rintro _ M Q Et ⟨n, rfl, _⟩; rfl) (fun cdv A outer s H E hr => ⟨_, (qss_one (qs_ret (q_op oq_sub (q_op oq_mod (q_op oq_addI (qv 0) (q_gint (m_HALF T))) (q_gint (m_ROUND T))) (q_gint (m_HALF T))))), ?_⟩) (fun _ _ _ _ _ _ us hl => match us, hl with | [_], _ => rfl)
  rintro _ M Q Et ⟨n, rfl, h⟩
  walk_at "vc"
  exact h
def spDivided : SpT := fun ds M Q _ => ∃ a b, ds = [.int a, .int b] ∧ inR b ∧ (b = 0 → Q .non M) ∧ (b ≠ 0 → Q (.tup [.int (a.fdiv b), .int (a.fmod b)]) M)
theorem ok_divided (T : Tp K mg) : Fn P w K mg base CX0 1 "divided" spDivided := by
  refine fn_top T 1 e_divided (m_divided T) sc_divided (by rintro _ M Q Et ⟨n, z, rfl, _⟩; rfl) (fun cdv A outer s H E hr => ⟨_, (qss_cons (qs_if (qt_cmp oq_eq (qv 1) q_int)
  (qss_one (qs_ret q_non))
  qss_nil)
 (qss_one (qs_ret (q_callB cq_divmod (m_divmod T) (by decide +kernel) (qa_cons (qv 0) (qa_cons (qv 1) qa_nil)))))), ?_⟩) (fun _ _ _ _ _ _ us hl => match us, hl with | [_, _], _ => rfl)
  rintro _ M Q Et ⟨a, b, rfl, hb, h1, h2⟩
  walk_at "vc"
  split
  · exact h1 (by assumption)
  · exact ⟨inR_div (by assumption) hb, h2 (by assumption)⟩
def intO : Option Int → D
  | none => .non
  | some n => .int n
def spWorked : SpT := fun ds M Q _ => ∃ (o : Op7) (a b : Int), ds = [.str o.s, .int a, .int b] ∧ inR a ∧ inR b ∧ Q (intO (workF o a b)) M
theorem ok_worked (T : Tp K mg) : Fn P w K mg base CX0 2 "worked" spWorked := by
  refine fn_top T 2 e_worked (m_worked T) sc_worked (by rintro _ M Q Et ⟨x, n, z, rfl, _⟩; rfl) (fun cdv A outer s H E hr => ⟨_, (qss_cons (qs_if (qt_w (qw_or (qt_cmp oq_eq (qv 0) q_str) (qw_or1 (qt_cmp oq_eq (qv 0) q_str))))
  (qss_cons (qs_set (i := 3) sc_worked.nd (q_call (ok_divided T) (hr.mono (by decide)) (qa_cons (qv 1) (qa_cons (qv 2) qa_nil))))
 (qss_cons (qs_if (qt_cmp oq_isN (qv 3) q_non)
  (qss_one (qs_ret q_non))
  qss_nil)
 (qss_cons (qs_if (qt_cmp oq_eq (qv 0) q_str)
  (qss_one (qs_ret (q_call (ok_wrapped T) (hr.mono (by decide)) (qa_cons (q_ix (qv 3) q_int) qa_nil))))
  qss_nil)
 (qss_one (qs_ret (q_call (ok_wrapped T) (hr.mono (by decide)) (qa_cons (q_ix (qv 3) q_int) qa_nil)))))))
  qss_nil)
 (qss_cons (qs_if (qt_cmp oq_eq (qv 0) q_str)
  (qss_one (qs_ret (q_callTy cq_int (m_int T) (by decide +kernel) (qa_cons (q_cmp oq_lt (qv 1) (qv 2)) qa_nil))))
  qss_nil)
 (qss_cons (qs_if (qt_cmp oq_eq (qv 0) q_str)
  (qss_one (qs_ret (q_callTy cq_int (m_int T) (by decide +kernel) (qa_cons (q_cmp oq_eq (qv 1) (qv 2)) qa_nil))))
  qss_nil)
 (qss_cons (qs_if (qt_cmp oq_eq (qv 0) q_str)
  (qss_one (qs_ret (q_call (ok_wrapped T) (hr.mono (by decide)) (qa_cons (q_op oq_addI (qv 1) (qv 2)) qa_nil))))
  qss_nil)
 (qss_cons (qs_if (qt_cmp oq_eq (qv 0) q_str)
  (qss_one (qs_ret (q_call (ok_wrapped T) (hr.mono (by decide)) (qa_cons (q_op oq_sub (qv 1) (qv 2)) qa_nil))))
  qss_nil)
 (qss_one (qs_ret (q_call (ok_wrapped T) (hr.mono (by decide)) (qa_cons (q_op oq_mul (qv 1) (qv 2)) qa_nil))))))))), ?_⟩) (fun _ _ _ _ _ _ us hl => match us, hl with | [_, _, _], _ => rfl)
  rintro _ M Q Et ⟨o, a, b, rfl, ha, hb, h⟩
  cases o
  case add => unfold Op7.s; walk_at "vc"; exact ⟨_, rfl, h⟩
  case sub => unfold Op7.s; walk_at "vc"; exact ⟨_, rfl, h⟩
  case mul => unfold Op7.s; walk_at "vc"; exact ⟨inR_mul ha hb, _, rfl, h⟩
  case lt => unfold Op7.s; walk_at "vc"; exact h
  case eq => unfold Op7.s; walk_at "vc"; exact h
  case div =>
    unfold Op7.s; walk_at "vc"
    by_cases e : b = 0
    · exact ⟨a, b, rfl, hb, fun _ => by rw [show workF .div a b = none from if_pos e] at h; exact h, fun e2 => absurd e e2⟩
    · refine ⟨a, b, rfl, hb, fun e2 => absurd e2 e, fun _ => ?_⟩
      rw [show workF .div a b = some (wrapF (a.fdiv b)) from if_neg e] at h
      walk_at "vc"
      exact ⟨_, rfl, h⟩
  case rem =>
    unfold Op7.s; walk_at "vc"
    by_cases e : b = 0
    · exact ⟨a, b, rfl, hb, fun _ => by rw [show workF .rem a b = none from if_pos e] at h; exact h, fun e2 => absurd e e2⟩
    · refine ⟨a, b, rfl, hb, fun e2 => absurd e2 e, fun _ => ?_⟩
      rw [show workF .rem a b = some (wrapF (a.fmod b)) from if_neg e] at h
      walk_at "vc"
      exact ⟨_, rfl, h⟩
def spJi (K : PySem.W.Frag) (c : Str) : SpT := fun ds M Q _ => ∃ a dx b, ds = [.ref a, b] ∧ M a = some (.obj (He.ga K c) dx fl_Joint []) ∧ Q .non (mup M a (.obj (He.ga K c) dx fl_Joint [b]))
theorem ok_Joint___init (T : Tp K mg) : Fi P w K mg base CX0 1 "Joint" (spJi K "Joint") := by
  refine fi_top T e_Joint___init 3 sc_Joint___init (T.mkr 82) (T.glo 83) (by rintro _ M Q Et ⟨n, _, z, rfl, _⟩; rfl) (fun cdv A outer s H E hr => ⟨_, (qss_one (qs_fld 0 fl_Joint (c_Joint_brought T) (qv 0) (qv 1))), ?_⟩) (fun _ _ _ _ _ _ us hl => match us, hl with | [_, _], _ => rfl)
  rintro _ M Q Et ⟨a, dx, b, rfl, hM, h⟩
  walk_at "vh"
theorem ok_Most___init (T : Tp K mg) : Fi P w K mg base CX0 1 "Most" (spJi K "Most") := by
  refine fi_top T e_Most___init 4 sc_Most___init (T.mkr 84) (T.glo 85) (by rintro _ M Q Et ⟨n, _, z, rfl, _⟩; rfl) (fun cdv A outer s H E hr => ⟨_, (qss_one (qs_fld 0 fl_Joint (c_Joint_brought T) (qv 0) (qv 1))), ?_⟩) (fun _ _ _ _ _ _ us hl => match us, hl with | [_, _], _ => rfl)
  rintro _ M Q Et ⟨a, dx, b, rfl, hM, h⟩
  walk_at "vh"
theorem ok_Least___init (T : Tp K mg) : Fi P w K mg base CX0 1 "Least" (spJi K "Least") := by
  refine fi_top T e_Least___init 5 sc_Least___init (T.mkr 86) (T.glo 87) (by rintro _ M Q Et ⟨n, _, z, rfl, _⟩; rfl) (fun cdv A outer s H E hr => ⟨_, (qss_one (qs_fld 0 fl_Joint (c_Joint_brought T) (qv 0) (qv 1))), ?_⟩) (fun _ _ _ _ _ _ us hl => match us, hl with | [_, _], _ => rfl)
  rintro _ M Q Et ⟨a, dx, b, rfl, hM, h⟩
  walk_at "vh"
theorem ok_Ahead___init (T : Tp K mg) : Fi P w K mg base CX0 1 "Ahead" (spJi K "Ahead") := by
  refine fi_top T e_Ahead___init 6 sc_Ahead___init (T.mkr 88) (T.glo 89) (by rintro _ M Q Et ⟨n, _, z, rfl, _⟩; rfl) (fun cdv A outer s H E hr => ⟨_, (qss_one (qs_fld 0 fl_Joint (c_Joint_brought T) (qv 0) (qv 1))), ?_⟩) (fun _ _ _ _ _ _ us hl => match us, hl with | [_, _], _ => rfl)
  rintro _ M Q Et ⟨a, dx, b, rfl, hM, h⟩
  walk_at "vh"
def dO : Option Int → D
  | none => .non
  | some n => .int n
def nums (os : List (Option Int)) : List Int := os.filterMap id
theorem nums_map (os : List (Option Int)) : (os.filter (·.isSome)).map dO = (nums os).map D.int := by
  induction os with
  | nil => rfl
  | cons o t ih =>
    cases o with
    | none => exact ih
    | some n =>
      show dO (some n) :: (t.filter (·.isSome)).map dO = .int n :: (nums t).map D.int
      rw [ih]; rfl
def isJ (K : PySem.W.Frag) (c : Str) (M : MH) (a : Addr) (os : List (Option Int)) : Prop := ∃ dx, M a = some (.obj (He.ga K c) dx fl_Joint [.lst (os.map dO)]) ∧ os.length ≤ 1000
def spWhole (K : PySem.W.Frag) (c : Str) : SpT := fun ds M Q _ => ∃ a os, ds = [.ref a] ∧ isJ K c M a os ∧ Q (.lst ((nums os).map D.int)) M
theorem ok_Joint_whole_numbers (T : Tp K mg) : Fm P w K mg base CX0 1 "Joint" "whole_numbers" (spWhole K "Joint") := by
  refine fm_top T e_Joint_whole_numbers 7 sc_Joint_whole_numbers (T.meth 90) (T.cls 47) (by rintro _ M Q Et ⟨n, _, rfl, _⟩; rfl) (fun cdv A outer s H E hr => ⟨_, (qss_one (qs_ret (q_lc rfl sc_Joint_whole_numbers.nd (qi_list (q_fld 0 fl_Joint (c_Joint_brought T) (qv 0))) (blkOk_by (N := nm_Joint_whole_numbers) (sc := defScope s_Joint_whole_numbers) (own := [(("number" : Str), 1)]) (by decide +kernel)) go_name (fun _ _ _ _ _ => (pg_name (i := 1) sc_Joint_whole_numbers.nd rfl (Or.inl rfl))) (fun _ _ _ _ _ => (qts_one (qt_cmp oq_notN (qv 1) q_non))) (fun _ _ _ _ _ => (qv 1))))), ?_⟩) (fun _ _ _ _ _ _ us hl => match us, hl with | [_], _ => rfl)
  rintro _ M Q Et ⟨a, os, rfl, ⟨dx, hM, hl⟩, h⟩
  walk_at "vh"
  refine lc_filter os dO (·.isSome) dO rfl ?_ ?_ (fun o R1 R0 ho h1 h0 => ?_) ?_
  · rw [PySem.sizeLine_eq]; omega
  · trivial
  · cases o with
    | none => walk_at "vc"; exact h0 rfl
    | some n => walk_at "vc"; exact h1 rfl
  · rw [nums_map]; exact h
theorem ok_Most_whole_numbers (T : Tp K mg) : Fm P w K mg base CX0 1 "Most" "whole_numbers" (spWhole K "Most") := by
  refine fm_top T e_Most_whole_numbers 8 sc_Most_whole_numbers (T.meth 91) (T.cls 49) (by rintro _ M Q Et ⟨n, _, rfl, _⟩; rfl) (fun cdv A outer s H E hr => ⟨_, (qss_one (qs_ret (q_lc rfl sc_Most_whole_numbers.nd (qi_list (q_fld 0 fl_Joint (c_Joint_brought T) (qv 0))) (blkOk_by (N := nm_Most_whole_numbers) (sc := defScope s_Most_whole_numbers) (own := [(("number" : Str), 1)]) (by decide +kernel)) go_name (fun _ _ _ _ _ => (pg_name (i := 1) sc_Most_whole_numbers.nd rfl (Or.inl rfl))) (fun _ _ _ _ _ => (qts_one (qt_cmp oq_notN (qv 1) q_non))) (fun _ _ _ _ _ => (qv 1))))), ?_⟩) (fun _ _ _ _ _ _ us hl => match us, hl with | [_], _ => rfl)
  rintro _ M Q Et ⟨a, os, rfl, ⟨dx, hM, hl⟩, h⟩
  walk_at "vh"
  refine lc_filter os dO (·.isSome) dO rfl ?_ ?_ (fun o R1 R0 ho h1 h0 => ?_) ?_
  · rw [PySem.sizeLine_eq]; omega
  · trivial
  · cases o with
    | none => walk_at "vc"; exact h0 rfl
    | some n => walk_at "vc"; exact h1 rfl
  · rw [nums_map]; exact h
theorem ok_Least_whole_numbers (T : Tp K mg) : Fm P w K mg base CX0 1 "Least" "whole_numbers" (spWhole K "Least") := by
  refine fm_top T e_Least_whole_numbers 9 sc_Least_whole_numbers (T.meth 92) (T.cls 51) (by rintro _ M Q Et ⟨n, _, rfl, _⟩; rfl) (fun cdv A outer s H E hr => ⟨_, (qss_one (qs_ret (q_lc rfl sc_Least_whole_numbers.nd (qi_list (q_fld 0 fl_Joint (c_Joint_brought T) (qv 0))) (blkOk_by (N := nm_Least_whole_numbers) (sc := defScope s_Least_whole_numbers) (own := [(("number" : Str), 1)]) (by decide +kernel)) go_name (fun _ _ _ _ _ => (pg_name (i := 1) sc_Least_whole_numbers.nd rfl (Or.inl rfl))) (fun _ _ _ _ _ => (qts_one (qt_cmp oq_notN (qv 1) q_non))) (fun _ _ _ _ _ => (qv 1))))), ?_⟩) (fun _ _ _ _ _ _ us hl => match us, hl with | [_], _ => rfl)
  rintro _ M Q Et ⟨a, os, rfl, ⟨dx, hM, hl⟩, h⟩
  walk_at "vh"
  refine lc_filter os dO (·.isSome) dO rfl ?_ ?_ (fun o R1 R0 ho h1 h0 => ?_) ?_
  · rw [PySem.sizeLine_eq]; omega
  · trivial
  · cases o with
    | none => walk_at "vc"; exact h0 rfl
    | some n => walk_at "vc"; exact h1 rfl
  · rw [nums_map]; exact h
def spGives (K : PySem.W.Frag) (c : Str) (ok : List (Option Int) → Nat → Int → Prop) : SpT := fun ds M Q _ => ∃ (a : Addr) (os : List (Option Int)) (lane : Nat), ds = [.ref a, .int lane] ∧ isJ K c M a os ∧ nums os ≠ [] ∧ ∀ r, ok os lane r → Q (.int r) M
def isSum (os : List (Option Int)) (_ : Nat) (r : Int) : Prop := r = wrapF (nums os).sum
def isMost (os : List (Option Int)) (_ : Nat) (r : Int) : Prop := r ∈ nums os ∧ ∀ y ∈ nums os, y ≤ r
def isLeast (os : List (Option Int)) (_ : Nat) (r : Int) : Prop := r ∈ nums os ∧ ∀ y ∈ nums os, r ≤ y
def isAhead (os : List (Option Int)) (lane : Nat) (r : Int) : Prop := r = wrapF (nums (os.take lane)).sum
def spGives0 (K : PySem.W.Frag) : SpT := fun ds M Q _ => ∃ (a : Addr) (os : List (Option Int)) (lane : Nat), ds = [.ref a, .int lane] ∧ isJ K "Joint" M a os ∧ ∀ r, isSum os lane r → Q (.int r) M
theorem ok_Joint_gives (T : Tp K mg) : Fm P w K mg base CX0 2 "Joint" "gives" (spGives0 K) := by
  refine fm_top T e_Joint_gives 10 sc_Joint_gives (T.meth 93) (T.cls 47) (by rintro _ M Q Et ⟨n, _, _, rfl, _⟩; rfl) (fun cdv A outer s H E hr => ⟨_, (qss_one (qs_ret (q_call (ok_wrapped T) (hr.mono (by decide)) (qa_cons (q_callB (cq_sum rfl) (m_sum T) (by decide +kernel) (qa_cons (q_meth0 fl_Joint (ok_Joint_whole_numbers T) (hr.mono (by decide)) (qv 0)) qa_nil)) qa_nil)))), ?_⟩) (fun _ _ _ _ _ _ us hl => match us, hl with | [_, _], _ => rfl)
  rintro _ M Q Et ⟨a, os, lane, rfl, hj, h⟩
  have hj2 := hj
  obtain ⟨dx, hM, hl⟩ := hj2
  walk_at "vh"
  refine ⟨a, os, rfl, hj, ?_⟩
  simp only [uSum, intLst_l, oSome_i]
  exact ⟨_, rfl, h _ rfl⟩
theorem ok_Most_gives (T : Tp K mg) : Fm P w K mg base CX0 2 "Most" "gives" (spGives K "Most" isMost) := by
  refine fm_top T e_Most_gives 11 sc_Most_gives (T.meth 94) (T.cls 49) (by rintro _ M Q Et ⟨n, _, _, rfl, _⟩; rfl) (fun cdv A outer s H E hr => ⟨_, (qss_one (qs_ret (q_callB (cq_max rfl) (m_max T) (by decide +kernel) (qa_cons (q_meth0 fl_Joint (ok_Most_whole_numbers T) (hr.mono (by decide)) (qv 0)) qa_nil)))), ?_⟩) (fun _ _ _ _ _ _ us hl => match us, hl with | [_, _], _ => rfl)
  rintro _ M Q Et ⟨a, os, lane, rfl, hj, hne, h⟩
  have hj2 := hj
  obtain ⟨dx, hM, hl⟩ := hj2
  walk_at "vh"
  refine ⟨a, os, rfl, hj, ?_⟩
  simp only [uMax, intLst_l, oSome_i]
  exact ⟨List.length_pos_iff.mpr hne, fun m hm hy => h m ⟨hm, hy⟩⟩
theorem ok_Least_gives (T : Tp K mg) : Fm P w K mg base CX0 2 "Least" "gives" (spGives K "Least" isLeast) := by
  refine fm_top T e_Least_gives 12 sc_Least_gives (T.meth 95) (T.cls 51) (by rintro _ M Q Et ⟨n, _, _, rfl, _⟩; rfl) (fun cdv A outer s H E hr => ⟨_, (qss_one (qs_ret (q_callB (cq_min rfl) (m_min T) (by decide +kernel) (qa_cons (q_meth0 fl_Joint (ok_Least_whole_numbers T) (hr.mono (by decide)) (qv 0)) qa_nil)))), ?_⟩) (fun _ _ _ _ _ _ us hl => match us, hl with | [_, _], _ => rfl)
  rintro _ M Q Et ⟨a, os, lane, rfl, hj, hne, h⟩
  have hj2 := hj
  obtain ⟨dx, hM, hl⟩ := hj2
  walk_at "vh"
  refine ⟨a, os, rfl, hj, ?_⟩
  simp only [uMin, intLst_l, oSome_i]
  exact ⟨List.length_pos_iff.mpr hne, fun m hm hy => h m ⟨hm, hy⟩⟩
theorem cut_take (os : List (Option Int)) (lane : Nat) : Tl.cutD (os.map dO) none (some (lane : Int)) = (os.take lane).map dO := by
  unfold Tl.cutD
  rw [List.map_take]
  rw [HT.sIx_nat, HT.sIx_none, List.drop_zero, Nat.sub_zero, List.take_eq_take_iff]
  omega
theorem ok_Ahead_gives (T : Tp K mg) : Fm P w K mg base CX0 3 "Ahead" "gives" (spGives K "Ahead" isAhead) := by
  refine fm_top T e_Ahead_gives 13 sc_Ahead_gives (T.meth 96) (T.cls 53) (by rintro _ M Q Et ⟨n, _, _, rfl, _⟩; rfl) (fun cdv A outer s H E hr => ⟨_, (qss_cons (qs_set (i := 2) sc_Ahead_gives.nd (q_make fl_Joint (ok_Joint___init T) (hr.mono (by decide)) (qa_cons (q_sliceL (q_fld 0 fl_Joint (c_Joint_brought T) (qv 0)) qo_none (qo_some (qv 1))) qa_nil)))
 (qss_one (qs_ret (q_re (q_meth fl_Joint (ok_Joint_gives T) (hr.mono (by decide)) (qv 2) (qa_cons (qv 1) qa_nil)))))), ?_⟩) (fun _ _ _ _ _ _ us hl => match us, hl with | [_, _], _ => rfl)
  rintro _ M Q Et ⟨a, os, lane, rfl, hj, hne, h⟩
  have hj2 := hj
  obtain ⟨dx, hM, hl⟩ := hj2
  walk_at "vh"
  intro x dx2 hx
  refine ⟨x, dx2, _, rfl, mup_same, ?_⟩
  rw [mup_mup]
  walk_at "vc"
  refine ⟨x, os.take lane, lane, rfl, ⟨dx2, by rw [mup_same, cut_take], by rw [List.length_take]; omega⟩, ?_⟩
  rintro r rfl
  exact ⟨_, M, ReR.new hx, h _ rfl⟩
def clsOf (z : Str) : Str := if z = "most" then "Most" else if z = "least" then "Least" else if z = "ahead" then "Ahead" else "Joint"
def spJointOf (K : PySem.W.Frag) : SpT := fun ds M Q _ => ∃ z b, ds = [.str z, b] ∧ ∀ a dx, M a = none → Q (.ref a) (mup M a (.obj (He.ga K (clsOf z)) dx fl_Joint [b]))
theorem ok_joint_of (T : Tp K mg) : Fn P w K mg base CX0 3 "joint_of" (spJointOf K) := by
  refine fn_top T 14 e_joint_of (m_joint_of T) sc_joint_of (by rintro _ M Q Et ⟨n, _, rfl, _⟩; rfl) (fun cdv A outer s H E hr => ⟨_, (qss_cons (qs_if (qt_cmp oq_eq (qv 0) q_str)
  (qss_one (qs_ret (q_make fl_Joint (ok_Most___init T) (hr.mono (by decide)) (qa_cons (qv 1) qa_nil))))
  qss_nil)
 (qss_cons (qs_if (qt_cmp oq_eq (qv 0) q_str)
  (qss_one (qs_ret (q_make fl_Joint (ok_Least___init T) (hr.mono (by decide)) (qa_cons (qv 1) qa_nil))))
  qss_nil)
 (qss_cons (qs_if (qt_cmp oq_eq (qv 0) q_str)
  (qss_one (qs_ret (q_make fl_Joint (ok_Ahead___init T) (hr.mono (by decide)) (qa_cons (qv 1) qa_nil))))
  qss_nil)
 (qss_one (qs_ret (q_make fl_Joint (ok_Joint___init T) (hr.mono (by decide)) (qa_cons (qv 1) qa_nil))))))), ?_⟩) (fun _ _ _ _ _ _ us hl => match us, hl with | [_, _], _ => rfl)
  rintro _ M Q Et ⟨z, b, rfl, h⟩
  unfold clsOf at h
  walk_at "vc"
  split
  · rename_i e
    simp only [if_pos e] at h
    intro x dx hx
    refine ⟨x, dx, b, rfl, mup_same, rfl, ?_⟩
    rw [mup_mup]
    exact h x dx hx
  · rename_i e
    simp only [if_neg e] at h
    split
    · rename_i e2
      simp only [if_pos e2] at h
      intro x dx hx
      refine ⟨x, dx, b, rfl, mup_same, rfl, ?_⟩
      rw [mup_mup]
      exact h x dx hx
    · rename_i e2
      simp only [if_neg e2] at h
      split
      · rename_i e3
        simp only [if_pos e3] at h
        intro x dx hx
        refine ⟨x, dx, b, rfl, mup_same, rfl, ?_⟩
        rw [mup_mup]
        exact h x dx hx
      · rename_i e3
        simp only [if_neg e3] at h
        intro x dx hx
        refine ⟨x, dx, b, rfl, mup_same, rfl, ?_⟩
        rw [mup_mup]
        exact h x dx hx
def ans (z : Str) (os : List (Option Int)) (lane : Nat) (r : Int) : Prop := if z = "most" then isMost os lane r else if z = "least" then isLeast os lane r else if z = "ahead" then isAhead os lane r else isSum os lane r
def spJoined : SpT := fun ds M Q _ => ∃ (z : Str) (os : List (Option Int)) (lane : Nat), ds = [.str z, .lst (os.map dO), .int lane] ∧ os.length ≤ 1000 ∧ nums os ≠ [] ∧ ∀ r, ans z os lane r → Q (.int r) M
theorem ok_joined (T : Tp K mg) : Fn P w K mg base CX0 4 "joined" spJoined := by
  refine fn_top T 15 e_joined (m_joined T) sc_joined (by rintro _ M Q Et ⟨n, _, _, rfl, _⟩; rfl) (fun cdv A outer s H E hr => ⟨_, (qss_cons (qs_set (i := 3) sc_joined.nd (q_call (ok_joint_of T) (hr.mono (by decide)) (qa_cons (qv 0) (qa_cons (qv 1) qa_nil))))
 (qss_one (qs_ret (q_re (q_alt (q_meth fl_Joint (ok_Joint_gives T) (hr.mono (by decide)) (qv 3) (qa_cons (qv 2) qa_nil)) (q_alt (q_meth fl_Joint (ok_Most_gives T) (hr.mono (by decide)) (qv 3) (qa_cons (qv 2) qa_nil)) (q_alt (q_meth fl_Joint (ok_Least_gives T) (hr.mono (by decide)) (qv 3) (qa_cons (qv 2) qa_nil)) (q_meth fl_Joint (ok_Ahead_gives T) (hr.mono (by decide)) (qv 3) (qa_cons (qv 2) qa_nil))))))))), ?_⟩) (fun _ _ _ _ _ _ us hl => match us, hl with | [_, _, _], _ => rfl)
  rintro _ M Q Et ⟨z, os, lane, rfl, hl, hne, h⟩
  walk_at "vc"
  refine ⟨z, _, rfl, fun x dx hx => ?_⟩
  walk_at "vc"
  unfold ans at h
  have fin : ∀ r, Q (.int r) M → ∃ d' M2, ReR K (.int r) (mup M x (.obj (He.ga K (clsOf z)) dx fl_Joint [.lst (os.map dO)])) d' M2 ∧ Q d' M2 := fun r hq => ⟨_, M, ReR.new hx, hq⟩
  have hj : isJ K (clsOf z) (mup M x (.obj (He.ga K (clsOf z)) dx fl_Joint [.lst (os.map dO)])) x os := ⟨dx, mup_same, hl⟩
  unfold clsOf at hj fin ⊢
  by_cases e : z = "most"
  · simp only [if_pos e] at h hj fin ⊢
    exact .inr (.inl ⟨trivial, x, os, lane, rfl, hj, hne, fun r hr => fin r (h r hr)⟩)
  · simp only [if_neg e] at h hj fin ⊢
    by_cases e2 : z = "least"
    · simp only [if_pos e2] at h hj fin ⊢
      exact .inr (.inr (.inl ⟨trivial, x, os, lane, rfl, hj, hne, fun r hr => fin r (h r hr)⟩))
    · simp only [if_neg e2] at h hj fin ⊢
      by_cases e3 : z = "ahead"
      · simp only [if_pos e3] at h hj fin ⊢
        exact .inr (.inr (.inr ⟨trivial, x, os, lane, rfl, hj, hne, fun r hr => fin r (h r hr)⟩))
      · simp only [if_neg e3] at h hj fin ⊢
        exact .inl ⟨trivial, x, os, lane, rfl, hj, fun r hr => fin r (h r hr)⟩
def spExprsOf : SpT := fun ds M Q _ => ∃ s : Sm, ds = [s.d] ∧ s.exprs.length ≤ 1000 ∧ Q (.lst (s.exprs.map Ex.d)) M
theorem ok_expressions_of (T : Tp K mg) : Fn P w K mg base CX0 1 "expressions_of" spExprsOf := by
  refine fn_top T 16 e_expressions_of (m_expressions_of T) sc_expressions_of (by rintro _ M Q Et ⟨n, rfl, _⟩; rfl) (fun cdv A outer s H E hr => ⟨_, (qss_cons (qs_set (i := 1) sc_expressions_of.nd (q_ix (qv 0) q_int))
 (qss_cons (qs_if (qt_cmp oq_eq (qv 1) q_str)
  (qss_one (qs_ret (q_lst (qa_cons (q_ix (qv 0) q_int) (qa_cons (q_ix (qv 0) q_int) qa_nil)))))
  qss_nil)
 (qss_cons (qs_if (qt_w (qw_or (qt_cmp oq_eq (qv 1) q_str) (qw_or (qt_cmp oq_eq (qv 1) q_str) (qw_or (qt_cmp oq_eq (qv 1) q_str) (qw_or1 (qt_cmp oq_eq (qv 1) q_str))))))
  (qss_one (qs_ret (q_lst (qa_cons (q_ix (qv 0) q_int) qa_nil))))
  qss_nil)
 (qss_cons (qs_if (qt_cmp oq_eq (qv 1) q_str)
  (qss_one (qs_ret (q_lst (qa_cons (q_ix (qv 0) q_int) qa_nil))))
  qss_nil)
 (qss_cons (qs_if (qt_cmp oq_eq (qv 1) q_str)
  (qss_one (qs_ret (q_callTy cq_list (m_list T) (by decide +kernel) (qa_cons (q_ix (qv 0) q_int) qa_nil))))
  qss_nil)
 (qss_cons (qs_if (qt_cmp oq_eq (qv 1) q_str)
  (qss_one (qs_ret (q_lst (qa_cons (q_ix (qv 0) q_int) qa_nil))))
  qss_nil)
 (qss_one (qs_ret (q_lst qa_nil))))))))), ?_⟩) (fun _ _ _ _ _ _ us hl => match us, hl with | [_], _ => rfl)
  rintro _ M Q Et ⟨s, rfl, hl, h⟩
  cases s with
  | call l x f es => unfold Sm.exprs at hl; unfold Sm.d; walk_at "vc"; exact h
  | _ => unfold Sm.d; walk_at "vc"; exact h
end
end K46
namespace K46
open PySem PySem.Spec PyProof.Rows L2 Tl
section
variable {P : Program} {w : World} {K : PySem.W.Frag} {mg : Str → Option Value} {base : Heap}
abbrev WC (K : PySem.W.Frag) : WkC := ⟨He.ga K "Walker", He.ga K "Story", He.ga K "Frame", He.ga K "Block", fl_Walker, fl_Story, fl_Frame, fl_Block⟩
def spBlkI (K : PySem.W.Frag) : SpT := fun ds M Q _ => ∃ a dx b y, ds = [.ref a, b, .str y] ∧ M a = some (.obj (He.ga K "Block") dx fl_Block []) ∧ Q .non (mup M a (.obj (He.ga K "Block") dx fl_Block [b, .int 0, .str y]))
theorem ok_Block___init (T : Tp K mg) : Fi P w K mg base CX0 1 "Block" (spBlkI K) := by
  refine fi_top T e_Block___init 18 sc_Block___init (T.mkr 99) (T.glo 100) (by rintro _ M Q Et ⟨_, _, _, _, rfl, _⟩; rfl) (fun cdv A outer s H E hr => ⟨_, (qss_cons (qs_fld 0 fl_Block (c_Block_body T) (qv 0) (qv 1))
 (qss_cons (qs_fld 1 fl_Block (c_Block_at T) (qv 0) q_int)
 (qss_one (qs_fld 2 fl_Block (c_Block_why T) (qv 0) (qv 2))))), ?_⟩) (fun _ _ _ _ _ _ us hl => match us, hl with | [_, _, _], _ => rfl)
  rintro _ M Q Et ⟨a, dx, b, y, rfl, hM, h⟩
  walk_at "vh"
def spFraI (K : PySem.W.Frag) : SpT := fun ds M Q _ => ∃ a dx n l y, ds = [.ref a, .ref n, .int l, .str y] ∧ M a = some (.obj (He.ga K "Frame") dx fl_Frame []) ∧ Q .non (mup M a (.obj (He.ga K "Frame") dx fl_Frame [.ref n, .int l, .str y]))
theorem ok_Frame___init (T : Tp K mg) : Fi P w K mg base CX0 1 "Frame" (spFraI K) := by
  refine fi_top T e_Frame___init 19 sc_Frame___init (T.mkr 101) (T.glo 102) (by rintro _ M Q Et ⟨_, _, _, _, _, rfl, _⟩; rfl) (fun cdv A outer s H E hr => ⟨_, (qss_cons (qs_fld 0 fl_Frame (c_Frame_names T) (qv 0) (qv 1))
 (qss_cons (qs_fld 1 fl_Frame (c_Frame_last T) (qv 0) (qv 2))
 (qss_one (qs_fld 2 fl_Frame (c_Frame_taker T) (qv 0) (qv 3))))), ?_⟩) (fun _ _ _ _ _ _ us hl => match us, hl with | [_, _, _, _], _ => rfl)
  rintro _ M Q Et ⟨a, dx, n, l, y, rfl, hM, h⟩
  walk_at "vh"
def spGive (K : PySem.W.Frag) : SpT := fun ds M Q _ => ∃ (A : WkA) (c : Lc) (M0 : MH) (s : Ws) (x : Str) (v : Int), ds = [.ref A.w, .str x, .int v] ∧ WkE A (WC K) c M0 M s ∧ s.frs ≠ [] ∧ (∀ f ∈ s.frs, f.names.length ≤ 10000) ∧ ∀ M', WkE A (WC K) c M0 M' (s.give x v) → Q .non M'
theorem ok_Walker_name_given (T : Tp K mg) : Fm P w K mg base CX0 1 "Walker" "name_given" (spGive K) := by
  refine fm_top T e_Walker_name_given 20 sc_Walker_name_given (T.meth 103) (T.cls 71) (by rintro _ M Q Et ⟨A, c, M0, s, x, v, rfl, _⟩; rfl) (fun cdv A outer s H E hr => ⟨_, (qss_cons (qs_set (i := 3) sc_Walker_name_given.nd (q_ix (q_fld 8 fl_Walker (c_Walker_frames T) (qv 0)) (q_un uq_neg q_int)))
 (qss_one (qs_asg (qv 2) (qg_sub (q_fld 0 fl_Frame (c_Frame_names T) (qv 3)) (qv 1) (sq_dict (hu_of hr)))))), ?_⟩) (fun _ _ _ _ _ _ us hl => match us, hl with | [_, _, _], _ => rfl)
  rintro _ M Q Et ⟨A, c, M0, s, x, v, rfl, ⟨⟨bx, tc, pu, fr, bk⟩, hs⟩, hne, hl, h⟩
  have hf := hs.frs
  cases fr with
  | nil => exact absurd hf hne
  | cons e r =>
    obtain ⟨o, dx, n, f⟩ := e
    walk_at "vc"
    rw [hs.w_]
    walk_at "vc"
    rw [lstOf_at hs.f_, FL_push]
    walk_at "vc"
    rw [atI_lst1]
    walk_at "vc"
    rw [hs.fo_]
    walk_at "vc"
    rw [hs.fn_]
    walk_at "vc"
    have hlf := hl f (by rw [hf]; exact List.mem_cons_self ..)
    refine ⟨by unfold nmsD; rw [List.length_map]; omega, ?_⟩
    rw [nms_put]
    refine h _ ?_
    rw [give_eq hf]
    exact ⟨_, hs.give_⟩
def spLeave (K : PySem.W.Frag) : SpT := fun ds M Q _ => ∃ (A : WkA) (c : Lc) (M0 : MH) (s : Ws) (y : Wy), ds = [.ref A.w, .str y.s] ∧ WkE A (WC K) c M0 M s ∧ (∃ b ∈ s.bks, b.why = y) ∧ ∀ M', WkE A (WC K) c M0 M' (s.leave y) → Q .non M'
theorem ok_Walker_leave (T : Tp K mg) : Fm P w K mg base CX0 1 "Walker" "leave" (spLeave K) := by
  refine fm_top T e_Walker_leave 21 sc_Walker_leave (T.meth 104) (T.cls 71) (by rintro _ M Q Et ⟨A, c, M0, s, y, rfl, _⟩; rfl) (fun cdv A outer s H E hr => ⟨_, (qss_cons (qs_set (i := 2) sc_Walker_leave.nd (q_pop (q_fld 9 fl_Walker (c_Walker_blocks T) (qv 0))))
 (qss_one (qs_while PassesOwn.never (qt_cmp oq_ne (q_fld 2 fl_Block (c_Block_why T) (qv 2)) (qv 1))
  (qss_one (qs_set (i := 2) sc_Walker_leave.nd (q_pop (q_fld 9 fl_Walker (c_Walker_blocks T) (qv 0)))))))), ?_⟩) (fun _ _ _ _ _ _ us hl => match us, hl with | [_, _], _ => rfl)
  rintro _ M Q Et ⟨A, c, M0, s, y, rfl, hs, hy, h⟩
  obtain ⟨X0, hs0⟩ := hs
  walk_at "vc"
  rw [hs0.w_]
  walk_at "vc"
  cases hb : s.bks with
  | nil => rw [hb] at hy; obtain ⟨b, hb, _⟩ := hy; cases hb
  | cons b r =>
    obtain ⟨L, o, e1, dx, hs1, e2⟩ := wk_pop ⟨X0, hs0⟩ hb
    refine ⟨is_m e1, ?_⟩
    rw [mLst_at e1]
    walk_at "vc"
    rw [last_app]
    walk_at "vc"
    rw [List.dropLast_concat]
    refine wh_any (fun m τ M1 => ∃ b o dx r, τ = [some (.ref A.w), some (.str y.s), some (.ref o)] ∧ M1 o = some (.obj (He.ga K "Block") dx fl_Block [.lst (stD b.body), .int b.at_, .str b.why.s]) ∧ WkE A (WC K) c M0 M1 { s with bks := r } ∧ r.length = m ∧ leaveF y (b :: r) = leaveF y s.bks ∧ ∃ b' ∈ b :: r, b'.why = y)
      _ ⟨b, o, dx, r, rfl, e2, hs1, rfl, by rw [hb], by rw [← hb]; exact hy⟩ ?_
    rintro m τ M1 ⟨b, o, dx, r, rfl, e2, hs1, rfl, e3, e4⟩
    walk_at "vc"
    rw [e2]
    walk_at "vc"
    by_cases hw : b.why = y
    · rw [if_neg (by rw [wy_inj]; exact fun q => q hw)]
      refine h _ ?_
      rw [leave_hit hw] at e3
      rw [leave_eq e3.symm]
      exact hs1
    · rw [if_pos (by rw [wy_inj]; exact hw)]
      obtain ⟨X1, hs2⟩ := hs1
      rw [hs2.w_]
      walk_at "vc"
      cases r with
      | nil => obtain ⟨b', h1, h2⟩ := e4; rw [List.mem_singleton.mp h1] at h2; exact absurd h2 hw
      | cons b2 r2 =>
        obtain ⟨L, o2, e5, dx2, hs3, e6⟩ := wk_pop ⟨X1, hs2⟩ rfl
        refine ⟨is_m e5, ?_⟩
        rw [mLst_at e5]
        walk_at "vc"
        rw [last_app]
        walk_at "vc"
        rw [List.dropLast_concat]
        refine ⟨_, Nat.lt_succ_self _, b2, o2, dx2, r2, rfl, e6, hs3, rfl, ?_, ?_⟩
        · rw [← e3, leave_miss hw]
        · obtain ⟨b', h1, h2⟩ := e4
          rcases List.mem_cons.mp h1 with rfl | h1
          · exact absurd h2 hw
          · exact ⟨b', h1, h2⟩
def spOut (K : PySem.W.Frag) : SpT := fun ds M Q _ => ∃ (A : WkA) (c : Lc) (M0 : MH) (s : Ws) (v : Int), ds = [.ref A.w, .int v] ∧ WkE A (WC K) c M0 M s ∧ s.frs ≠ [] ∧ (∃ b ∈ s.bks, b.why = .df) ∧ (∀ f ∈ s.frs, f.names.length ≤ 10000) ∧ ∀ M', WkE A (WC K) c M0 M' (s.out v) → Q .non M'
theorem ok_Walker_go_out (T : Tp K mg) : Fm P w K mg base CX0 2 "Walker" "go_out" (spOut K) := by
  refine fm_top T e_Walker_go_out 22 sc_Walker_go_out (T.meth 105) (T.cls 71) (by rintro _ M Q Et ⟨A, c, M0, s, v, rfl, _⟩; rfl) (fun cdv A outer s H E hr => ⟨_, (qss_cons (qs_expr (q_meth fl_Walker (ok_Walker_leave T) (hr.mono (by decide)) (qv 0) (qa_cons q_str qa_nil)))
 (qss_cons (qs_set (i := 2) sc_Walker_go_out.nd (q_pop (q_fld 8 fl_Walker (c_Walker_frames T) (qv 0))))
 (qss_one (qs_if (qt_cmp oq_eq (q_callB cq_len (m_len T) (by decide +kernel) (qa_cons (q_fld 8 fl_Walker (c_Walker_frames T) (qv 0)) qa_nil)) q_int)
  (qss_one (qs_fld 2 fl_Story (c_Story_end T) (q_fld 6 fl_Walker (c_Walker_story T) (qv 0)) (q_tup (qa_cons q_str (qa_cons (q_fld 1 fl_Frame (c_Frame_last T) (qv 2)) qa_nil)))))
  (qss_one (qs_expr (q_meth fl_Walker (ok_Walker_name_given T) (hr.mono (by decide)) (qv 0) (qa_cons (q_fld 2 fl_Frame (c_Frame_taker T) (qv 2)) (qa_cons (qv 1) qa_nil))))))))), ?_⟩) (fun _ _ _ _ _ _ us hl => match us, hl with | [_, _], _ => rfl)
  rintro _ M Q Et ⟨A, c, M0, s, v, rfl, hs, hne, hdf, hl, h⟩
  obtain ⟨X0, hs0⟩ := hs
  walk_at "vc"
  rw [hs0.w_]
  walk_at "vc"
  refine ⟨A, c, M0, s, .df, rfl, ⟨X0, hs0⟩, hdf, fun M1 hs1 => ?_⟩
  obtain ⟨X1, hs1⟩ := hs1
  rw [hs1.w_]
  walk_at "vc"
  cases hf : s.frs with
  | nil => exact absurd hf hne
  | cons f r =>
    obtain ⟨L, o, e1, el, dx, n, hs2, e2⟩ := wk_popF ⟨X1, hs1⟩ (s := s.leave .df) hf
    refine ⟨is_m e1, ?_⟩
    rw [mLst_at e1]
    walk_at "vc"
    rw [last_app]
    walk_at "vc"
    rw [List.dropLast_concat]
    obtain ⟨X2, hs2⟩ := hs2
    rw [hs2.w_]
    walk_at "vc"
    rw [e2]
    walk_at "vc"
    cases r with
    | nil =>
      rw [if_pos (by rw [el]; rfl)]
      rw [hs2.s_]
      walk_at "vc"
      refine h _ ?_
      rw [out_eq0 hf]
      exact ⟨_, hs2.fin_ (f := some (.done, f.last))⟩
    | cons f2 r2 =>
      rw [if_neg (by rw [el, List.length_cons]; omega)]
      refine ⟨A, c, M0, _, f.taker, v, rfl, ⟨X2, hs2⟩, List.cons_ne_nil _ _, fun g hg => hl g (by rw [hf]; exact List.mem_cons_of_mem _ hg), fun M3 hs3 => h _ ?_⟩
      rw [out_eq1 hf (List.cons_ne_nil _ _)]
      exact hs3
def spTouchB (K : PySem.W.Frag) : SpT := fun ds M Q _ => ∃ (A : WkA) (c : Lc) (M0 : MH) (s : Ws) (put : Bool) (p l : Int), ds = [.ref A.w, .str (wS put), .int p, .int l] ∧ WkE A (WC K) c M0 M s ∧ s.tcs ≠ [] ∧ (∀ t ∈ s.tcs, t.length < 16000000) ∧
  ((p < 0 ∨ (s.boxes.length : Int) ≤ p) → ∀ M', WkE A (WC K) c M0 M' (s.end_ .outside l) → Q (.bl false) M') ∧ (¬ (p < 0 ∨ (s.boxes.length : Int) ≤ p) → ∀ M', WkE A (WC K) c M0 M' (s.touch [⟨put, p, l⟩]) → Q (.bl true) M')
theorem ok_touched_box (T : Tp K mg) : Fn P w K mg base CX0 1 "touched_box" (spTouchB K) := by
  refine fn_top T 23 e_touched_box (m_touched_box T) sc_touched_box (by rintro _ M Q Et ⟨A, c, M0, s, y, p, l, rfl, _⟩; rfl) (fun cdv A outer s H E hr => ⟨_, (qss_cons (qs_set (i := 4) sc_touched_box.nd (q_fld 6 fl_Walker (c_Walker_story T) (qv 0)))
 (qss_cons (qs_if (qt_w (qw_or (qt_cmp oq_lt (qv 2) q_int) (qw_or1 (qt_cmp oq_ge (qv 2) (q_callB cq_len (m_len T) (by decide +kernel) (qa_cons (q_fld 4 fl_Walker (c_Walker_boxes T) (qv 0)) qa_nil))))))
  (qss_cons (qs_fld 2 fl_Story (c_Story_end T) (qv 4) (q_tup (qa_cons q_str (qa_cons (qv 3) qa_nil))))
 (qss_one (qs_ret q_bl)))
  qss_nil)
 (qss_cons (qs_expr (q_append (q_ix (q_fld 4 fl_Story (c_Story_touches T) (qv 4)) (q_un uq_neg q_int)) (qa_cons (q_tup (qa_cons (qv 1) (qa_cons (qv 2) (qa_cons (qv 3) qa_nil)))) qa_nil)))
 (qss_one (qs_ret q_bl))))), ?_⟩) (fun _ _ _ _ _ _ us hl => match us, hl with | [_, _, _, _], _ => rfl)
  rintro _ M Q Et ⟨A, c, M0, s, y, p, l, rfl, ⟨⟨bx, tc, pu, fr, bk⟩, hs⟩, hne, hl, h1, h2⟩
  walk_at "vc"
  rw [hs.w_]
  walk_at "vc"
  rw [show lenOf M (.ref bx) = some s.boxes.length by unfold lenOf; dsimp only; rw [hs.x_]; dsimp only; rw [List.length_map]]
  walk_at "vc"
  have hout : (p < 0 ∨ (s.boxes.length : Int) ≤ p) → oAt (M A.s) fun C dx fl' ds => C = He.ga K (Str.ofString "Story") ∧ fl' = fl_Story ∧ 2 ≤ ds.length ∧ Q (D.bl false) (mup M A.s (MO.obj C dx fl_Story (putD ds 2 (D.tup [D.str (Str.ofString "outside"), D.int l])))) := by
    intro hp
    rw [hs.s_]
    walk_at "vc"
    exact h1 hp _ ⟨_, hs.fin_ (f := some (.outside, l))⟩
  split
  · exact hout (Or.inl (by assumption))
  · split
    · exact hout (Or.inr (by assumption))
    · rename_i n1 n2
      rw [hs.s_]
      walk_at "vc"
      have ht := hs.tcs
      cases tc with
      | nil => exact absurd ht hne
      | cons e r =>
        obtain ⟨q, t⟩ := e
        have hq : M q = some (.lst (t.map Th.d)) := hs.tc_ (q := (q, t)) (List.mem_cons_self ..)
        rw [lstOf_at hs.T_, TL_push]
        walk_at "vc"
        rw [atI_lst1]
        walk_at "vc"
        have hlt := hl t (by rw [ht]; exact List.mem_cons_self ..)
        refine ⟨is_m hq, ap_m hq ⟨by rw [List.length_map]; omega, ?_⟩⟩
        refine h2 (fun q => q.elim n1 n2) _ ?_
        rw [touch_eq ht, show t.map Th.d ++ [D.tup [.str (wS y), .int p, .int l]] = (t ++ [Th.mk y p l]).map Th.d by rw [List.map_append]; rfl]
        exact ⟨_, hs.touch_⟩
def spSign (K : PySem.W.Frag) : SpT := fun ds M Q _ => ∃ (A : WkA) (c : Lc) (M0 : MH) (s : Ws) (x : Str), ds = [.ref A.w, .str x] ∧ WkE A (WC K) c M0 M s ∧ Q (.int (if x = "lane" then c.lane else if x = "lanes" then c.lanes else c.mine)) M
theorem ok_sign_told (T : Tp K mg) : Fn P w K mg base CX0 1 "sign_told" (spSign K) := by
  refine fn_top T 24 e_sign_told (m_sign_told T) sc_sign_told (by rintro _ M Q Et ⟨A, c, M0, s, y, rfl, _⟩; rfl) (fun cdv A outer s H E hr => ⟨_, (qss_cons (qs_if (qt_cmp oq_eq (qv 1) q_str)
  (qss_one (qs_ret (q_fld 1 fl_Walker (c_Walker_lane T) (qv 0))))
  qss_nil)
 (qss_cons (qs_if (qt_cmp oq_eq (qv 1) q_str)
  (qss_one (qs_ret (q_fld 2 fl_Walker (c_Walker_lanes T) (qv 0))))
  qss_nil)
 (qss_one (qs_ret (q_fld 3 fl_Walker (c_Walker_mine T) (qv 0)))))), ?_⟩) (fun _ _ _ _ _ _ us hl => match us, hl with | [_, _], _ => rfl)
  rintro _ M Q Et ⟨A, c, M0, s, x, rfl, ⟨X, hs⟩, h⟩
  walk_at "vc"
  rw [hs.w_]
  walk_at "vc"
  split
  · rename_i e; rw [if_pos e] at h; exact h
  · rename_i e
    rw [if_neg e] at h
    split
    · rename_i e2; rw [if_pos e2] at h; exact h
    · rename_i e2; rw [if_neg e2] at h; exact h
def spInBox (K : PySem.W.Frag) : SpT := fun ds M Q _ => ∃ (A : WkA) (c : Lc) (M0 : MH) (s : Ws) (l : Int) (po : Option Int), ds = [.ref A.w, .int l, intO po] ∧ WkE A (WC K) c M0 M s ∧ s.tcs ≠ [] ∧ (∀ t ∈ s.tcs, t.length < 16000000) ∧
  (po = none → Q .non M) ∧ ∀ p, po = some p → ((p < 0 ∨ (s.boxes.length : Int) ≤ p) → ∀ M', WkE A (WC K) c M0 M' (s.end_ .outside l) → Q .non M') ∧ (¬ (p < 0 ∨ (s.boxes.length : Int) ≤ p) → ∀ M', WkE A (WC K) c M0 M' (s.touch [⟨false, p, l⟩]) → Q (.int (s.boxes.getD p.toNat 0)) M')
theorem ok_in_box (T : Tp K mg) : Fn P w K mg base CX0 2 "in_box" (spInBox K) := by
  refine fn_top T 25 e_in_box (m_in_box T) sc_in_box (by rintro _ M Q Et ⟨A, c, M0, s, l, po, rfl, _⟩; rfl) (fun cdv A outer s H E hr => ⟨_, (qss_cons (qs_if (qt_w (qw_or (qt_cmp oq_isN (qv 2) q_non) (qw_or1 (qt_not (qt_val (q_call (ok_touched_box T) (hr.mono (by decide)) (qa_cons (qv 0) (qa_cons q_str (qa_cons (qv 2) (qa_cons (qv 1) qa_nil))))))))))
  (qss_one (qs_ret q_non))
  qss_nil)
 (qss_one (qs_ret (q_ix (q_fld 4 fl_Walker (c_Walker_boxes T) (qv 0)) (qv 2))))), ?_⟩) (fun _ _ _ _ _ _ us hl => match us, hl with | [_, _, _], _ => rfl)
  rintro _ M Q Et ⟨A, c, M0, s, l, po, rfl, hs, hne, hl, h1, h2⟩
  cases po with
  | none =>
    unfold intO
    walk_at "vc"
    exact h1 rfl
  | some p =>
    unfold intO
    walk_at "vc"
    refine ⟨A, c, M0, s, false, p, l, rfl, hs, hne, hl, fun hp M1 hs1 => ?_, fun hp M1 hs1 => ?_⟩
    · walk_at "vc"
      exact (h2 p rfl).1 hp M1 hs1
    · obtain ⟨X1, hs1'⟩ := hs1
      walk_at "vc"
      rw [hs1'.w_]
      walk_at "vc"
      rw [lstOf_at hs1'.x_]
      walk_at "vc"
      rw [touch_boxes, atI_mapD 0 (by omega) (by omega)]
      walk_at "vc"
      have := (h2 p rfl).2 hp M1 ⟨X1, hs1'⟩
      exact this
def resO : Ew ⊕ Int → Option Int
  | .inl _ => none
  | .inr v => some v
/-- what reckoning an expression does -/
def numQ (K : PySem.W.Frag) (A : WkA) (c : Lc) (M0 : MH) (s : Ws) (l : Int) (r : List Int × (Ew ⊕ Int)) (Q : D → MH → Prop) : Prop := ∀ M', WkE A (WC K) c M0 M' (s.read l r) → Q (intO (resO r.2)) M'
structure numP (K : PySem.W.Frag) (A : WkA) (c : Lc) (M0 M : MH) (s : Ws) (e : Ex) : Prop where
  wk : WkE A (WC K) c M0 M s
  lc : okLc c
  ne : s.tcs ≠ []
  tl : ∀ t ∈ s.tcs, t.length + e.bxs < 16000000
  fr : s.frs ≠ []
  nm : ∀ p ∈ s.names, inR p.2
  bx : ∀ v ∈ s.boxes, inR v
  ok : e.okv
def spNum (K : PySem.W.Frag) (n : Nat) : SpT := fun ds M Q _ => ∃ (A : WkA) (c : Lc) (M0 : MH) (s : Ws) (l : Int) (e : Ex), ds = [.ref A.w, .int l, e.d] ∧ e.deep < n ∧ numP K A c M0 M s e ∧ numQ K A c M0 s l (evE c s.names s.boxes e) Q
def spWork (K : PySem.W.Frag) (n : Nat) : SpT := fun ds M Q _ => ∃ (A : WkA) (c : Lc) (M0 : MH) (s : Ws) (l : Int) (o : Op7) (a b : Ex), ds = [.ref A.w, .int l, .tup [.str o.s, a.d, b.d]] ∧ a.deep < n ∧ b.deep < n ∧ numP K A c M0 M s (.op o a b) ∧ numQ K A c M0 s l (evE c s.names s.boxes (.op o a b)) Q
theorem ok_working_of (T : Tp K mg) {k n : Nat} (hb : Fn P w K mg base CX0 k "number_of" (spNum K n)) (hk20 : 20 ≤ k) : Fn P w K mg base CX0 (k + 1) "working_of" (spWork K n) := by
  refine fn_top T 26 e_working_of (m_working_of T) sc_working_of (by rintro _ M Q Et ⟨A, c, M0, s, l, o, a, b, rfl, _⟩; rfl) (fun cdv A outer s H E hr => ⟨_, (qss_cons (qs_set (i := 3) sc_working_of.nd (q_call hb (hr.mono (by omega)) (qa_cons (qv 0) (qa_cons (qv 1) (qa_cons (q_ix (qv 2) q_int) qa_nil)))))
 (qss_cons (qs_if (qt_cmp oq_isN (qv 3) q_non)
  (qss_one (qs_ret q_non))
  qss_nil)
 (qss_cons (qs_set (i := 4) sc_working_of.nd (q_call hb (hr.mono (by omega)) (qa_cons (qv 0) (qa_cons (qv 1) (qa_cons (q_ix (qv 2) q_int) qa_nil)))))
 (qss_cons (qs_if (qt_cmp oq_isN (qv 4) q_non)
  (qss_one (qs_ret q_non))
  qss_nil)
 (qss_cons (qs_set (i := 5) sc_working_of.nd (q_call (ok_worked T) (hr.mono (by omega)) (qa_cons (q_ix (qv 2) q_int) (qa_cons (qv 3) (qa_cons (qv 4) qa_nil)))))
 (qss_cons (qs_if (qt_cmp oq_isN (qv 5) q_non)
  (qss_cons (qs_set (i := 6) sc_working_of.nd (q_fld 6 fl_Walker (c_Walker_story T) (qv 0)))
 (qss_one (qs_fld 2 fl_Story (c_Story_end T) (qv 6) (q_tup (qa_cons q_str (qa_cons (qv 1) qa_nil))))))
  qss_nil)
 (qss_one (qs_ret (qv 5))))))))), ?_⟩) (fun _ _ _ _ _ _ us hl => match us, hl with | [_, _, _], _ => rfl)
  rintro _ M Q Et ⟨A, c, M0, s, l, o, a, b, rfl, ha, hb, hp, h⟩
  have hop := @evE_op c s.names s.boxes o a b
  have htl := hp.tl
  unfold Ex.bxs at htl
  have ia := ev_ok hp.lc hp.nm hp.bx a hp.ok.1
  have ib := ev_ok hp.lc hp.nm hp.bx b hp.ok.2
  walk_at "vc"
  refine ⟨A, c, M0, s, l, a, rfl, ha, ⟨hp.wk, hp.lc, hp.ne, fun t ht => by have := htl t ht; omega, hp.fr, hp.nm, hp.bx, hp.ok.1⟩, fun M1 hs1 => ?_⟩
  generalize evE c s.names s.boxes a = ra at hop ia hs1 ⊢
  obtain ⟨rs, f | x⟩ := ra
  · unfold resO intO
    walk_at "vc"
    have := h M1 (by rw [hop]; exact hs1)
    rw [hop] at this
    exact this
  · have hs1' : WkE A (WC K) c M0 M1 (s.touch (rdT l rs)) := hs1
    unfold resO intO
    walk_at "vc"
    refine ⟨A, c, M0, _, l, b, rfl, hb, ⟨hs1', hp.lc, touch_ne hp.ne, ?_, by rw [touch_frs]; exact hp.fr, by rw [touch_names]; exact hp.nm, by rw [touch_boxes]; exact hp.bx, hp.ok.2⟩, fun M2 hs2 => ?_⟩
    · have h1 := ia.1
      intro t ht
      obtain ⟨t0, ht0⟩ := List.exists_mem_of_ne_nil _ hp.ne
      have ht00 := htl t0 ht0
      have := touch_len (s := s) (t := rdT l rs) (n := 16000000 - a.bxs - b.bxs) (m := 16000000 - b.bxs) (fun x hx => by have := htl x hx; omega) (by unfold rdT; rw [List.length_map]; dsimp only at h1; omega) t ht
      omega
    rw [touch_names, touch_boxes] at hs2 ⊢
    generalize evE c s.names s.boxes b = rb at hop ib hs2 ⊢
    obtain ⟨qs, f | y⟩ := rb
    · walk_at "vc"
      have e2 : WkE A (WC K) c M0 M2 (((s.touch (rdT l rs)).touch (rdT l qs)).end_ f l) := hs2
      rw [touch_touch, ← rdT_app] at e2
      have := h M2 (by rw [hop]; exact e2)
      rw [hop] at this
      exact this
    · walk_at "vc"
      have e2 : WkE A (WC K) c M0 M2 ((s.touch (rdT l rs)).touch (rdT l qs)) := hs2
      rw [touch_touch, ← rdT_app] at e2
      unfold resO intO
      walk_at "vc"
      have hop' := hop
      dsimp only at hop' ia ib
      refine ⟨o, x, y, rfl, ia.2 x rfl, ib.2 y rfl, ?_⟩
      cases hw : workF o x y with
      | none =>
        rw [hw] at hop'
        obtain ⟨X2, hs3⟩ := e2
        unfold intO
        walk_at "vc"
        rw [hs3.w_]
        walk_at "vc"
        rw [hs3.s_]
        walk_at "vc"
        have h3 := h _ (by rw [hop']; exact ⟨X2, hs3.fin_ (f := some (.nought, l))⟩)
        rw [hop'] at h3
        exact h3
      | some v =>
        rw [hw] at hop'
        unfold intO
        walk_at "vc"
        have h3 := h M2 (by rw [hop']; exact e2)
        rw [hop'] at h3
        exact h3
theorem ok_number_of (T : Tp K mg) : ∀ n, Fn P w K mg base CX0 (2 * n + 20) "number_of" (spNum K n)
  | 0 => by
    refine fn_top T 27 e_number_of (m_number_of T) sc_number_of (by rintro _ M Q Et ⟨A, c, M0, s, l, e, rfl, _⟩; rfl) (fun cdv A outer s H E hr => ⟨_, qss_never, ?_⟩) (fun _ _ _ _ _ _ us hl => match us, hl with | [_, _, _], _ => rfl)
    rintro _ M Q Et ⟨A, c, M0, s, l, e, rfl, hd, _⟩
    omega
  | n + 1 => by
    have ih := ok_number_of T n
    refine fn_top T 27 e_number_of (m_number_of T) sc_number_of (by rintro _ M Q Et ⟨A, c, M0, s, l, e, rfl, _⟩; rfl) (fun cdv A outer s H E hr => ⟨_, (qss_cons (qs_set (i := 3) sc_number_of.nd (q_ix (qv 2) q_int))
 (qss_cons (qs_if (qt_cmp oq_eq (qv 3) q_str)
  (qss_one (qs_ret (q_ix (qv 2) q_int)))
  qss_nil)
 (qss_cons (qs_if (qt_cmp oq_eq (qv 3) q_str)
  (qss_one (qs_ret (q_dget2 (hu_of hr) (q_fld 0 fl_Frame (c_Frame_names T) (q_ix (q_fld 8 fl_Walker (c_Walker_frames T) (qv 0)) (q_un uq_neg q_int))) (q_ix (qv 2) q_int) q_int)))
  qss_nil)
 (qss_cons (qs_if (qt_w (qw_or (qt_cmp oq_eq (qv 3) q_str) (qw_or (qt_cmp oq_eq (qv 3) q_str) (qw_or1 (qt_cmp oq_eq (qv 3) q_str)))))
  (qss_one (qs_ret (q_call (ok_sign_told T) (hr.mono (by omega)) (qa_cons (qv 0) (qa_cons (qv 3) qa_nil)))))
  qss_nil)
 (qss_cons (qs_if (qt_cmp oq_eq (qv 3) q_str)
  (qss_one (qs_ret (q_call (ok_in_box T) (hr.mono (by omega)) (qa_cons (qv 0) (qa_cons (qv 1) (qa_cons (q_call ih (hr.mono (by omega)) (qa_cons (qv 0) (qa_cons (qv 1) (qa_cons (q_ix (qv 2) q_int) qa_nil)))) qa_nil))))))
  qss_nil)
 (qss_one (qs_ret (q_call (ok_working_of T ih (by omega)) (hr.mono (by omega)) (qa_cons (qv 0) (qa_cons (qv 1) (qa_cons (qv 2) qa_nil))))))))))), ?_⟩) (fun _ _ _ _ _ _ us hl => match us, hl with | [_, _, _], _ => rfl)
    rintro _ M Q Et ⟨A, c, M0, s, l, e, rfl, hd, hp, h⟩
    obtain ⟨X, hs⟩ := hp.wk
    have h0 : ∀ v, evE c s.names s.boxes e = ([], .inr v) → Q (.int v) M := by
      intro v hv
      have := h M (by rw [hv]; show WkE _ _ _ _ _ (s.touch []); rw [touch_nil]; exact hp.wk)
      rw [hv] at this
      exact this
    cases e with
    | num i => unfold Ex.d; walk_at "vc"; exact h0 _ rfl
    | nam x =>
      unfold Ex.d
      walk_at "vc"
      rw [hs.w_]
      walk_at "vc"
      obtain ⟨bx, tc, pu, fr, bk⟩ := X
      have hf := hs.frs
      cases fr with
      | nil => exact absurd hf hp.fr
      | cons e r =>
        obtain ⟨o, dx, n1, f⟩ := e
        rw [lstOf_at hs.f_, FL_push]
        walk_at "vc"
        rw [atI_lst1]
        walk_at "vc"
        rw [hs.fo_]
        walk_at "vc"
        refine ⟨⟨n1, _, rfl, hs.fn_, True.intro⟩, ?_⟩
        rw [hs.fn_]
        walk_at "vc"
        rw [nms_val]
        have h1 := h0 (getN s.names x) rfl
        rw [names_eq hf] at h1
        unfold getN at h1
        cases hv : f.names.find? fun p => decide (p.1 = x) with
        | none => rw [hv] at h1; exact h1
        | some p => rw [hv] at h1; exact h1
    | lane => unfold Ex.d; walk_at "vc"; exact ⟨A, c, M0, s, _, rfl, hp.wk, by rw [if_pos rfl]; exact h0 _ rfl⟩
    | lanes => unfold Ex.d; walk_at "vc"; exact ⟨A, c, M0, s, _, rfl, hp.wk, by rw [if_neg (by decide), if_pos rfl]; exact h0 _ rfl⟩
    | mine => unfold Ex.d; walk_at "vc"; exact ⟨A, c, M0, s, _, rfl, hp.wk, by rw [if_neg (by decide), if_neg (by decide)]; exact h0 _ rfl⟩
    | box e =>
      have hbx := @evE_box c s.names s.boxes e
      have htl := hp.tl
      unfold Ex.bxs at htl
      have ia := ev_ok hp.lc hp.nm hp.bx e hp.ok
      unfold Ex.deep at hd
      unfold Ex.d; walk_at "vc"
      refine ⟨A, c, M0, s, l, e, rfl, by omega, ⟨hp.wk, hp.lc, hp.ne, fun t ht => by have := htl t ht; omega, hp.fr, hp.nm, hp.bx, hp.ok⟩, fun M1 hs1 => ?_⟩
      show spInBox K [D.ref A.w, D.int l, intO (resO (evE c s.names s.boxes e).2)] M1 Q Et0
      generalize evE c s.names s.boxes e = ra at hbx ia hs1 ⊢
      obtain ⟨rs, f | p⟩ := ra
      · refine ⟨A, c, M0, _, l, none, rfl, hs1, touch_ne hp.ne, ?_, fun _ => ?_, fun p hq => (by cases hq)⟩
        · obtain ⟨t0, ht0⟩ := List.exists_mem_of_ne_nil _ hp.ne
          have ht00 := htl t0 ht0
          have h1 := ia.1
          exact touch_len (s := s) (t := rdT l rs) (n := 16000000 - e.bxs) (fun x hx => by have := htl x hx; omega) (by unfold rdT; rw [List.length_map]; dsimp only at h1; omega)
        · have := h M1 (by rw [hbx]; exact hs1)
          rw [hbx] at this
          exact this
      · have hs1' : WkE A (WC K) c M0 M1 (s.touch (rdT l rs)) := hs1
        refine ⟨A, c, M0, _, l, some p, rfl, hs1', touch_ne hp.ne, ?_, fun hq => (by cases hq), fun p' hq => ?_⟩
        · obtain ⟨t0, ht0⟩ := List.exists_mem_of_ne_nil _ hp.ne
          have ht00 := htl t0 ht0
          have h1 := ia.1
          exact touch_len (s := s) (t := rdT l rs) (n := 16000000 - e.bxs) (fun x hx => by have := htl x hx; omega) (by unfold rdT; rw [List.length_map]; dsimp only at h1; omega)
        · cases hq
          rw [touch_boxes, touch_touch]
          dsimp only at hbx
          refine ⟨fun hout M2 hs2 => ?_, fun hin M2 hs2 => ?_⟩
          · rw [if_pos hout] at hbx
            have := h M2 (by rw [hbx]; exact hs2)
            rw [hbx] at this
            exact this
          · rw [if_neg hin] at hbx
            have := h M2 (by rw [hbx]; show WkE _ _ _ _ _ (s.touch (rdT l (rs ++ [p]))); rw [rdT_app]; exact hs2)
            rw [hbx] at this
            exact this
    | op o a b =>
      unfold Ex.deep at hd
      unfold Ex.d; walk_at "vc"
      exact ⟨A, c, M0, s, l, o, a, b, rfl, by omega, by omega, hp, h⟩
def resL : Ew ⊕ List Int → D
  | .inl _ => .non
  | .inr vs => .lst (vs.map .int)
structure numsP (K : PySem.W.Frag) (A : WkA) (c : Lc) (M0 M : MH) (s : Ws) (d : Sm) : Prop where
  wk : WkE A (WC K) c M0 M s
  lc : okLc c
  ne : s.tcs ≠ []
  tl : ∀ t ∈ s.tcs, t.length + bxsL d.exprs < 16000000
  fr : s.frs ≠ []
  nm : ∀ p ∈ s.names, inR p.2
  bx : ∀ v ∈ s.boxes, inR v
  ok : okWd c.pg d
def spNums (K : PySem.W.Frag) : SpT := fun ds M Q _ => ∃ (A : WkA) (c : Lc) (M0 : MH) (s : Ws) (d : Sm), ds = [.ref A.w, d.d] ∧ numsP K A c M0 M s d ∧ ∀ M', WkE A (WC K) c M0 M' (s.read d.line (evEs c s.names s.boxes d.exprs)) → Q (resL (evEs c s.names s.boxes d.exprs).2) M'
theorem ok_numbers_of (T : Tp K mg) : Fn P w K mg base CX0 45 "numbers_of" (spNums K) := by
  refine fn_top T 28 e_numbers_of (m_numbers_of T) sc_numbers_of (by rintro _ M Q Et ⟨A, c, M0, s, d, rfl, _⟩; rfl) (fun cdv A outer s H E hr => ⟨_, (qss_cons (qs_set (i := 2) sc_numbers_of.nd (q_lstM qa_nil))
 (qss_cons (qs_for PassesOwn.never rfl (qi_list (q_call (ok_expressions_of T) (hr.mono (by decide)) (qa_cons (qv 1) qa_nil))) (qg_name (i := 3) sc_numbers_of.nd)
  (qss_cons (qs_set (i := 4) sc_numbers_of.nd (q_call (ok_number_of T 12) (hr.mono (by decide)) (qa_cons (qv 0) (qa_cons (q_ix (qv 1) q_int) (qa_cons (qv 3) qa_nil)))))
 (qss_cons (qs_if (qt_cmp oq_isN (qv 4) q_non)
  (qss_one (qs_ret q_non))
  qss_nil)
 (qss_one (qs_expr (q_append (qv 2) (qa_cons (qv 4) qa_nil)))))))
 (qss_one (qs_ret (q_re (qv 2)))))), ?_⟩) (fun _ _ _ _ _ _ us hl => match us, hl with | [_, _], _ => rfl)
  rintro _ M Q Et ⟨A, c, M0, s, d, rfl, hp, h⟩
  walk_at "vc"
  intro p hp0
  refine ⟨d, rfl, hp.ok.len, ?_⟩
  walk_at "vc"
  have hbl := evs_ok hp.lc hp.nm hp.bx d.exprs fun e he => (hp.ok.ex e he).2
  obtain ⟨l0, hM0⟩ := hp.wk.lift (o := .lst []) hp0
  have htl := hp.tl
  refine for_map d.exprs Ex.d rfl (fun ys τ M1 => (∃ rs vs, evEs c s.names s.boxes ys = (rs, .inr vs) ∧ WkE A (WC K) c (mup M0 p (.lst (vs.map .int))) M1 (s.touch (rdT d.line rs))) ∧ ∃ v3 v4, τ = [some (.ref A.w), some d.d, some (.ref p), v3, v4])
    ⟨⟨[], [], rfl, by show WkE _ _ _ _ _ (s.touch []); rw [touch_nil]; exact l0⟩, none, none, rfl⟩ (fun _ _ _ _ => trivial) ?_ ?_
  · rintro ys e zs τ M1 Nx hx ⟨⟨rs, vs, hev, hs1⟩, v3, v4, rfl⟩ hN
    have hmem : e ∈ d.exprs := by rw [hx]; simp
    have hsum : bxsL d.exprs = bxsL ys + (e.bxs + bxsL zs) := by unfold bxsL; rw [hx, List.map_append, List.sum_append, List.map_cons, List.sum_cons]
    have hys := evs_ok hp.lc hp.nm hp.bx ys fun e he => (hp.ok.ex e (by rw [hx]; exact List.mem_append_left _ he)).2
    rw [hev] at hys
    have hlen := hp.ok.len
    rw [hx, List.length_append, List.length_cons] at hlen
    have hl1 := hys.1
    have hl2 := (hys.2 vs rfl).1
    dsimp only at hl1
    rw [sm_d]
    walk_at "vc"
    have hone := evEs_inr (c := c) (ns := s.names) (bx := s.boxes) ys e zs hev
    refine ⟨A, c, _, _, d.line, e, rfl, (hp.ok.ex e hmem).1, ⟨hs1, hp.lc, touch_ne hp.ne, ?_, by rw [touch_frs]; exact hp.fr, by rw [touch_names]; exact hp.nm, by rw [touch_boxes]; exact hp.bx, (hp.ok.ex e hmem).2⟩, fun M2 hs2 => ?_⟩
    · intro t ht
      obtain ⟨t0, ht0⟩ := List.exists_mem_of_ne_nil _ hp.ne
      have ht00 := htl t0 ht0
      have := touch_len (s := s) (t := rdT d.line rs) (n := 16000000 - bxsL ys - e.bxs) (m := 16000000 - e.bxs) (fun x hx => by have := htl x hx; omega) (by unfold rdT; rw [List.length_map]; omega) t ht
      omega
    rw [touch_names, touch_boxes] at hs2 ⊢
    rcases hq : evE c s.names s.boxes e with ⟨qs, f | v⟩
    · rw [hq] at hs2
      unfold resO intO
      walk_at "vc"
      have h1 := hone.1 qs f hq
      rw [← hx] at h1
      have e2 : WkE A (WC K) c (mup M0 p (.lst (vs.map .int))) M2 (((s.touch (rdT d.line rs)).touch (rdT d.line qs)).end_ f d.line) := hs2
      rw [touch_touch, ← rdT_app] at e2
      have h2 := h M2 (by rw [h1]; exact e2.leave hM0)
      rw [h1] at h2
      exact h2
    · rw [hq] at hs2
      unfold resO intO
      have e2 : WkE A (WC K) c (mup M0 p (.lst (vs.map .int))) M2 ((s.touch (rdT d.line rs)).touch (rdT d.line qs)) := hs2
      rw [touch_touch, ← rdT_app] at e2
      walk_at "vc"
      refine ⟨is_m e2.there, ap_m e2.there ⟨by rw [List.length_map]; omega, hN _ _ ⟨⟨_, _, hone.2 qs v hq, ?_⟩, _, _, by rw [sm_d]⟩⟩⟩
      rw [show vs.map D.int ++ [.int v] = (vs ++ [v]).map .int by rw [List.map_append]; rfl]
      exact e2.base
  · rintro τ M1 ⟨⟨rs, vs, hev, hs1⟩, v3, v4, rfl⟩
    walk_at "vc"
    rw [hev] at h
    exact ⟨_, _, ReR.freeze hs1.there, h _ (hs1.del hM0)⟩
end
end K46
namespace K46
open PySem PySem.Spec PyProof.Rows L2 Tl
section
variable {P : Program} {w : World} {K : PySem.W.Frag} {mg : Str → Option Value} {base : Heap}
def spPutB (K : PySem.W.Frag) : SpT := fun ds M Q _ => ∃ (A : WkA) (c : Lc) (M0 : MH) (s : Ws) (l p v : Int), ds = [.ref A.w, .int l, .int p, .int v] ∧ WkE A (WC K) c M0 M s ∧ s.tcs ≠ [] ∧ (∀ t ∈ s.tcs, t.length < 16000000) ∧ s.pus ≠ [] ∧ (∀ t ∈ s.pus, t.length < 16000000) ∧ ∀ M', WkE A (WC K) c M0 M' (s.putB l p v) → Q .non M'
theorem ok_do_put (T : Tp K mg) : Fn P w K mg base CX0 2 "do_put" (spPutB K) := by
  refine fn_top T 29 e_do_put (m_do_put T) sc_do_put (by rintro _ M Q Et ⟨A, c, M0, s, l, p, v, rfl, _⟩; rfl) (fun cdv A outer s H E hr => ⟨_, (qss_one (qs_if (qt_val (q_call (ok_touched_box T) (hr.mono (by decide)) (qa_cons (qv 0) (qa_cons q_str (qa_cons (qv 2) (qa_cons (qv 1) qa_nil))))))
  (qss_cons (qs_asg (qv 3) (qg_sub (q_fld 4 fl_Walker (c_Walker_boxes T) (qv 0)) (qv 2) sq_list))
 (qss_cons (qs_set (i := 4) sc_do_put.nd (q_ix (q_fld 5 fl_Story (c_Story_puts T) (q_fld 6 fl_Walker (c_Walker_story T) (qv 0))) (q_un uq_neg q_int)))
 (qss_one (qs_asg (qv 3) (qg_sub (qv 4) (qv 2) (sq_dict (hu_of hr)))))))
  qss_nil)), ?_⟩) (fun _ _ _ _ _ _ us hl => match us, hl with | [_, _, _, _], _ => rfl)
  rintro _ M Q Et ⟨A, c, M0, s, l, p, v, rfl, hs, hne, hl, hne2, hl2, h⟩
  walk_at "vc"
  refine ⟨A, c, M0, s, true, p, l, rfl, hs, hne, hl, fun hp M1 hs1 => ?_, fun hp M1 hs1 => ?_⟩
  · walk_at "vc"
    refine h M1 ?_
    unfold Ws.putB
    rw [if_pos hp]
    exact hs1
  · obtain ⟨⟨bx, tc, pu, fr, bk⟩, hs1⟩ := hs1
    walk_at "vc"
    rw [hs1.w_]
    walk_at "vc"
    obtain ⟨k, rfl⟩ : ∃ k : Nat, p = k := ⟨p.toNat, by omega⟩
    rw [mLst_at hs1.x_, touch_boxes]
    walk_at "vc"
    rw [ix_nat (by omega)]
    walk_at "vc"
    have hs2 := hs1.boxes_ (l := s.boxes.set k v)
    rw [show (s.boxes.map D.int).set k (D.int v) = (s.boxes.set k v).map .int by rw [List.map_set]]
    generalize mup M1 bx (.lst ((s.boxes.set k v).map .int)) = M2 at hs2 ⊢
    rw [hs2.w_]
    walk_at "vc"
    rw [hs2.s_]
    walk_at "vc"
    have hpu : (s.touch [Th.mk true k l]).pus = s.pus := by unfold Ws.touch; split <;> rfl
    have hp2 := hs2.pus
    cases pu with
    | nil => rw [← hpu] at hne2; exact absurd hp2 hne2
    | cons e r =>
      obtain ⟨q, t⟩ := e
      have hq : M2 q = some (.dK (pusD t)) := hs2.pu_ (q := (q, t)) (List.mem_cons_self ..)
      rw [lstOf_at hs2.P_, PL_push]
      walk_at "vc"
      rw [atI_lst1]
      walk_at "vc"
      rw [hq]
      walk_at "vc"
      have hp3 : s.pus = t :: r.map (·.2) := hpu.symm.trans hp2
      have hlt := hl2 t (by rw [hp3]; exact List.mem_cons_self ..)
      refine ⟨by unfold pusD; rw [List.length_map]; omega, ?_⟩
      rw [pus_put]
      refine h _ ?_
      unfold Ws.putB
      rw [if_neg hp, hp3]
      exact ⟨_, hs2.puts_⟩
theorem push_goal {A : WkA} {c : Lc} {M0 M1 : MH} {X1 : WkX} {s1 : Ws} {b2 : List Sm} {y : Wy} {Q : D → MH → Prop} (hs1 : WkS A (WC K) c M0 M1 X1 s1) (hl : s1.bks.length ≤ 10001) (h : ∀ M', WkE A (WC K) c M0 M' (s1.push b2 y) → Q .non M') :
    oAt (M1 A.w) fun C x fl' ds => C = He.ga K (Str.ofString "Walker") ∧ fl' = fl_Walker ∧ oSome (nthD ds 9) fun d => (lstOf M1 d).isSome = true ∧ ∀ (x dx : Addr), M1 x = none → spBlkI K [D.ref x, D.lst (stD b2), D.str y.s] (mup M1 x (MO.obj (He.ga K (Str.ofString "Block")) dx fl_Block [])) (fun v M2 => v = D.non ∧ mAppend d [D.ref x] M2 fun x M1 => Q D.non M1) Et0 := by
  rw [hs1.w_]
  walk_at "vc"
  refine ⟨is_m hs1.k_, fun x dx hx => ⟨x, dx, _, _, rfl, mup_same, rfl, ?_⟩⟩
  rw [mup_mup]
  have hc := hs1.cel.fresh (o := bkO (WC K) (x, dx, ⟨b2, 0, y⟩)) hx
  have hk : (mup M1 x (bkO (WC K) (x, dx, ⟨b2, 0, y⟩))) A.k = some (.lst X1.KL) := hc.at_ (A.k, .lst X1.KL) (List.mem_cons_of_mem _ (List.mem_append_left _ (by unfold WkA.fix; simp)))
  refine ap_m hk ⟨?_, h _ ⟨_, hs1.push_ hc⟩⟩
  rw [hs1.bks, List.length_map] at hl
  unfold WkX.KL
  rw [List.length_reverse, List.length_map]
  omega
def spTest (K : PySem.W.Frag) : SpT := fun ds M Q _ => ∃ (A : WkA) (c : Lc) (M0 : MH) (s : Ws) (d : Sm) (vs : List Int), ds = [.ref A.w, d.d, .int (hd vs)] ∧ WkE A (WC K) c M0 M s ∧ s.bks ≠ [] ∧ s.bks.length ≤ 10000 ∧ (d.word = "if" ∨ d.word = "while") ∧ ∀ M', WkE A (WC K) c M0 M' (s.onward c d vs) → Q .non M'
theorem ok_do_test (T : Tp K mg) : Fn P w K mg base CX0 3 "do_test" (spTest K) := by
  refine fn_top T 30 e_do_test (m_do_test T) sc_do_test (by rintro _ M Q Et ⟨A, c, M0, s, d, vs, rfl, _⟩; rfl) (fun cdv A outer s H E hr => ⟨_, (qss_cons (qs_set (i := 3) sc_do_test.nd (q_ix (q_fld 9 fl_Walker (c_Walker_blocks T) (qv 0)) (q_un uq_neg q_int)))
 (qss_one (qs_if (qt_cmp oq_eq (q_ix (qv 1) q_int) q_str)
  (qss_one (qs_if (qt_cmp oq_ne (qv 2) q_int)
  (qss_one (qs_expr (q_append (q_fld 9 fl_Walker (c_Walker_blocks T) (qv 0)) (qa_cons (q_make fl_Block (ok_Block___init T) (hr.mono (by decide)) (qa_cons (q_ix (qv 1) q_int) (qa_cons q_str qa_nil))) qa_nil))))
  (qss_one (qs_fldaug 1 fl_Block (c_Block_at T) oq_iaddI (qv 3) q_int))))
  (qss_cons (qs_fldaug 1 fl_Block (c_Block_at T) oq_iaddI (qv 3) q_int)
 (qss_one (qs_if (qt_cmp oq_ne (qv 2) q_int)
  (qss_one (qs_expr (q_append (q_fld 9 fl_Walker (c_Walker_blocks T) (qv 0)) (qa_cons (q_make fl_Block (ok_Block___init T) (hr.mono (by decide)) (qa_cons (q_ix (qv 1) q_int) (qa_cons q_str qa_nil))) qa_nil))))
  (qss_one (qs_if (qt_cmp oq_notN (q_ix (qv 1) q_int) q_non)
  (qss_one (qs_expr (q_append (q_fld 9 fl_Walker (c_Walker_blocks T) (qv 0)) (qa_cons (q_make fl_Block (ok_Block___init T) (hr.mono (by decide)) (qa_cons (q_ix (qv 1) q_int) (qa_cons q_str qa_nil))) qa_nil))))
  qss_nil)))))))), ?_⟩) (fun _ _ _ _ _ _ us hl => match us, hl with | [_, _, _], _ => rfl)
  rintro _ M Q Et ⟨A, c, M0, s, d, vs, rfl, hs, hne, hl, hd, h⟩
  obtain ⟨⟨bx, tc, pu, fr, bk⟩, hs⟩ := hs
  walk_at "vc"
  rw [hs.w_]
  walk_at "vc"
  have hb := hs.bks
  cases bk with
  | nil => exact absurd hb hne
  | cons e r =>
    obtain ⟨o, dx, b⟩ := e
    rw [lstOf_at hs.k_, KL_push]
    walk_at "vc"
    rw [atI_lst1]
    walk_at "vc"
    have hl1 : ({ s with bks := { b with at_ := b.at_ + 1 } :: r.map (·.2.2) } : Ws).bks.length ≤ 10001 := by rw [hb] at hl; simp only [List.map_cons, List.length_cons] at hl ⊢; omega
    have hs1 := hs.block_ (b' := { b with at_ := b.at_ + 1 })
    have hn : s.next = { s with bks := { b with at_ := b.at_ + 1 } :: r.map (·.2.2) } := next_eq hb
    cases d with
    | whl l e b2 =>
      unfold Sm.d
      walk_at "vc"
      split
      · rename_i h0
        rw [show s.onward c (.whl l e b2) vs = s.push b2 .wh from if_neg h0] at h
        exact push_goal (y := .wh) hs (by omega) h
      · rename_i h0
        rw [show s.onward c (.whl l e b2) vs = s.next from if_pos (Decidable.not_not.mp h0), hn] at h
        rw [hs.bo_]
        walk_at "vc"
        exact h _ ⟨_, hs1⟩
    | if1 l e b2 =>
      unfold Sm.d
      walk_at "vc"
      rw [hs.bo_]
      walk_at "vc"
      split
      · rename_i h0
        rw [show s.onward c (.if1 l e b2) vs = s.next.push b2 .iff from if_neg h0, hn] at h
        exact push_goal (y := .iff) hs1 hl1 h
      · rename_i h0
        rw [show s.onward c (.if1 l e b2) vs = s.next from if_pos (Decidable.not_not.mp h0), hn] at h
        exact h _ ⟨_, hs1⟩
    | if2 l e b2 b3 =>
      unfold Sm.d
      walk_at "vc"
      rw [hs.bo_]
      walk_at "vc"
      split
      · rename_i h0
        rw [show s.onward c (.if2 l e b2 b3) vs = s.next.push b2 .iff from if_neg h0, hn] at h
        exact push_goal (y := .iff) hs1 hl1 h
      · rename_i h0
        rw [show s.onward c (.if2 l e b2 b3) vs = s.next.push b3 .iff from if_pos (Decidable.not_not.mp h0), hn] at h
        exact push_goal (y := .iff) hs1 hl1 h
    | _ => exfalso; rcases hd with hd | hd <;> (unfold Sm.word at hd; simp only [ofS_inj, String.reduceEq] at hd)
def spDoLeave (K : PySem.W.Frag) : SpT := fun ds M Q _ => ∃ (A : WkA) (c : Lc) (M0 : MH) (s : Ws) (br : Bool), ds = [.ref A.w, .str (if br = true then Str.ofString "break" else Str.ofString "again")] ∧ WkE A (WC K) c M0 M s ∧ (∃ b ∈ s.bks, b.why = .wh) ∧ (s.leave .wh).bks ≠ [] ∧ ∀ M', WkE A (WC K) c M0 M' (if br = true then (s.leave .wh).next else s.leave .wh) → Q .non M'
theorem ok_do_leave (T : Tp K mg) : Fn P w K mg base CX0 2 "do_leave" (spDoLeave K) := by
  refine fn_top T 31 e_do_leave (m_do_leave T) sc_do_leave (by rintro _ M Q Et ⟨A, c, M0, s, br, rfl, _⟩; rfl) (fun cdv A outer s H E hr => ⟨_, (qss_cons (qs_expr (q_meth fl_Walker (ok_Walker_leave T) (hr.mono (by decide)) (qv 0) (qa_cons q_str qa_nil)))
 (qss_one (qs_if (qt_cmp oq_eq (qv 1) q_str)
  (qss_cons (qs_set (i := 2) sc_do_leave.nd (q_ix (q_fld 9 fl_Walker (c_Walker_blocks T) (qv 0)) (q_un uq_neg q_int)))
 (qss_one (qs_fldaug 1 fl_Block (c_Block_at T) oq_iaddI (qv 2) q_int)))
  qss_nil))), ?_⟩) (fun _ _ _ _ _ _ us hl => match us, hl with | [_, _], _ => rfl)
  rintro _ M Q Et ⟨A, c, M0, s, br, rfl, hs, hw, hne, h⟩
  obtain ⟨X0, hs0⟩ := hs
  walk_at "vc"
  rw [hs0.w_]
  walk_at "vc"
  refine ⟨A, c, M0, s, .wh, rfl, ⟨X0, hs0⟩, hw, fun M1 hs1 => ?_⟩
  cases br with
  | false =>
    rw [if_neg (by decide)] at h ⊢
    exact h M1 hs1
  | true =>
    rw [if_pos rfl] at h ⊢
    obtain ⟨⟨bx, tc, pu, fr, bk⟩, hs⟩ := hs1
    walk_at "vc"
    rw [hs.w_]
    walk_at "vc"
    have hb := hs.bks
    cases bk with
    | nil => exact absurd hb hne
    | cons e r =>
      obtain ⟨o, dx, b⟩ := e
      rw [lstOf_at hs.k_, KL_push]
      walk_at "vc"
      rw [atI_lst1]
      walk_at "vc"
      rw [hs.bo_]
      walk_at "vc"
      have hs1 := hs.block_ (b' := { b with at_ := b.at_ + 1 })
      rw [next_eq hb] at h
      exact h _ ⟨_, hs1⟩
def spCall (K : PySem.W.Frag) : SpT := fun ds M Q _ => ∃ (A : WkA) (c : Lc) (M0 : MH) (s : Ws) (l : Int) (x f : Str) (es : List Ex) (vs : List Int), ds = [.ref A.w, Sm.d (.call l x f es), .lst (vs.map .int)] ∧ WkE A (WC K) c M0 M s ∧ okLc c ∧ (∃ o ∈ c.pg, o.name = f) ∧ s.bks.length ≤ 10000 ∧ ∀ M', WkE A (WC K) c M0 M' (s.callD c l x f vs) → Q .non M'
theorem ok_do_call (T : Tp K mg) : Fn P w K mg base CX0 3 "do_call" (spCall K) := by
  refine fn_top T 32 e_do_call (m_do_call T) sc_do_call (by rintro _ M Q Et ⟨A, c, M0, s, l, x, f, es, vs, rfl, _⟩; rfl) (fun cdv A outer s H E hr => ⟨_, (qss_one (qs_if (qt_cmp oq_ge (q_callB cq_len (m_len T) (by decide +kernel) (qa_cons (q_fld 8 fl_Walker (c_Walker_frames T) (qv 0)) qa_nil)) (q_gint (m_DEEPEST T)))
  (qss_one (qs_fld 2 fl_Story (c_Story_end T) (q_fld 6 fl_Walker (c_Walker_story T) (qv 0)) (q_tup (qa_cons q_str (qa_cons (q_ix (qv 1) q_int) qa_nil)))))
  (qss_cons (qs_set (i := 3) sc_do_call.nd (q_dget (hu_of hr) (q_fld 0 fl_Walker (c_Walker_defs T) (qv 0)) (q_ix (qv 1) q_int)))
 (qss_cons (qs_set (i := 4) sc_do_call.nd q_dnewK)
 (qss_cons (qs_for PassesOwn.never rfl (qi_zip (m_zip T) (qa_cons (q_ix (qv 3) q_int) (qa_cons (qv 2) qa_nil))) (qg_tup (n := 2) rfl (qgs_cons (qg_name (i := 5) sc_do_call.nd) (qgs_cons (qg_name (i := 6) sc_do_call.nd) qgs_nil)))
  (qss_one (qs_asg (qv 6) (qg_sub (qv 4) (qv 5) (sq_dict (hu_of hr))))))
 (qss_cons (qs_expr (q_append (q_fld 8 fl_Walker (c_Walker_frames T) (qv 0)) (qa_cons (q_make fl_Frame (ok_Frame___init T) (hr.mono (by decide)) (qa_cons (qv 4) (qa_cons (q_ix (qv 3) q_int) (qa_cons (q_ix (qv 1) q_int) qa_nil)))) qa_nil)))
 (qss_one (qs_expr (q_append (q_fld 9 fl_Walker (c_Walker_blocks T) (qv 0)) (qa_cons (q_make fl_Block (ok_Block___init T) (hr.mono (by decide)) (qa_cons (q_ix (qv 3) q_int) (qa_cons q_str qa_nil))) qa_nil)))))))))), ?_⟩) (fun _ _ _ _ _ _ us hl => match us, hl with | [_, _, _], _ => rfl)
  rintro _ M Q Et ⟨A, c, M0, s, l, x, f, es, vs, rfl, hs, hc, hf, hbl, h⟩
  obtain ⟨X0, hs0⟩ := hs
  unfold Sm.d
  walk_at "vc"
  rw [hs0.w_]
  walk_at "vc"
  rw [show lenOf M (.ref A.f) = some s.frs.length by unfold lenOf; dsimp only; rw [hs0.f_]; dsimp only; rw [hs0.frs]; unfold WkX.FL; rw [List.length_reverse, List.length_map, List.length_map]]
  walk_at "vc"
  unfold Ws.callD at h
  split
  · rename_i h6
    rw [if_pos (by omega)] at h
    rw [hs0.s_]
    walk_at "vc"
    exact h _ ⟨X0, hs0.fin_ (f := some (.deep, l))⟩
  · rename_i h6
    rw [if_neg (by omega)] at h
    rw [hs0.d_]
    walk_at "vc"
    rw [defs_val hf]
    have hdf := hc.df _ (defOf_mem hf).1
    generalize defOf c.pg f = o at h hdf ⊢
    walk_at "vc"
    intro p hp
    unfold Df.d
    walk_at "vc"
    rw [zip_ps]
    refine for_map (o.ps.zip vs) _ rfl (fun ys τ M1 => M1 = mup M p (.dK (nmsD (ys.foldl (fun ns p => putN ns p.1 p.2) []))) ∧ ∃ v5 v6, τ = [some (.ref A.w), some (D.tup [.str "call", .int l, .str x, .str f, .lst (es.map Ex.d)]), some (.lst (vs.map .int)), some o.d, some (.ref p), v5, v6])
      ⟨rfl, none, none, by unfold Df.d; rfl⟩ (fun _ _ _ _ => trivial) ?_ ?_
    · rintro ys e zs τ M1 Nx hx ⟨rfl, v5, v6, rfl⟩ hN
      have hlen := congrArg List.length hx
      rw [List.length_zip, List.length_append, List.length_cons] at hlen
      have hps := hdf.1
      have hfl := foldN_len ys
      walk_at "vc"
      refine ⟨by unfold nmsD; rw [List.length_map]; omega, ?_⟩
      rw [nms_put, ← zipN_snoc]
      exact hN _ _ ⟨rfl, _, _, rfl⟩
    · rintro τ M1 ⟨rfl, v5, v6, rfl⟩
      unfold Df.d
      rw [show (o.ps.zip vs).foldl (fun ns p => putN ns p.1 p.2) [] = zipN o.ps vs from rfl]
      have hc1 := hs0.cel.fresh (o := .dK (nmsD (zipN o.ps vs))) hp
      generalize mup M p (.dK (nmsD (zipN o.ps vs))) = M1 at hc1 ⊢
      walk_at "vc"
      have hw1 : M1 A.w = some (.obj (He.ga K "Walker") A.wx fl_Walker [.ref A.d, .int c.lane, .int c.lanes, .int c.mine, .ref X0.x, .int c.most, .ref A.s, waitD s.wait, .ref A.f, .ref A.k]) := hc1.at_ (A.w, A.wO (WC K) c X0.x s) (List.mem_cons_of_mem _ (List.mem_append_left _ (by unfold WkA.fix; simp)))
      rw [hw1]
      walk_at "vc"
      have hf1 : M1 A.f = some (.lst X0.FL) := hc1.at_ (A.f, .lst X0.FL) (List.mem_cons_of_mem _ (List.mem_append_left _ (by unfold WkA.fix; simp)))
      refine ⟨is_m hf1, fun q dx hq => ⟨q, dx, _, _, _, rfl, mup_same, rfl, ?_⟩⟩
      rw [mup_mup]
      have hc2 := hc1.fresh (o := frO (WC K) (q, dx, p, ⟨zipN o.ps vs, o.last, x⟩)) hq
      have hf2 : (mup M1 q (frO (WC K) (q, dx, p, ⟨zipN o.ps vs, o.last, x⟩))) A.f = some (.lst X0.FL) := hc2.at_ (A.f, .lst X0.FL) (List.mem_cons_of_mem _ (List.mem_cons_of_mem _ (List.mem_append_left _ (by unfold WkA.fix; simp))))
      refine ap_m hf2 ⟨?_, ?_⟩
      · have := congrArg List.length hs0.frs
        rw [List.length_map] at this
        unfold WkX.FL
        rw [List.length_reverse, List.length_map]
        omega
      · have hs1 := hs0.pushF_ hc2
        exact push_goal (y := .df) hs1 (by show s.bks.length ≤ 10001; omega) h
def spMeet (K : PySem.W.Frag) : SpT := fun ds M Q _ => ∃ (A : WkA) (c : Lc) (M0 : MH) (s : Ws) (d : Sm) (vs : List Int), ds = [.ref A.w, d.d, .lst (vs.map .int)] ∧ WkE A (WC K) c M0 M s ∧ s.brought.length ≤ 10000 ∧ ((∃ l, d = .meet l ∧ ∀ M', WkE A (WC K) c M0 M' { s with brought := s.brought ++ [(l, 0)], wait := some d } → Q .non M') ∨
  (∃ l x w e v t, d = .join l x w e ∧ vs = v :: t ∧ ∀ M', WkE A (WC K) c M0 M' { s with brought := s.brought ++ [(l, v)], wait := some d } → Q .non M'))
theorem ok_come_to_meeting (T : Tp K mg) : Fn P w K mg base CX0 1 "come_to_meeting" (spMeet K) := by
  refine fn_top T 33 e_come_to_meeting (m_come_to_meeting T) sc_come_to_meeting (by rintro _ M Q Et ⟨A, c, M0, s, d, vs, rfl, _⟩; rfl) (fun cdv A outer s H E hr => ⟨_, (qss_cons (qs_set (i := 3) sc_come_to_meeting.nd q_int)
 (qss_cons (qs_if (qt_cmp oq_eq (q_ix (qv 1) q_int) q_str)
  (qss_one (qs_set (i := 3) sc_come_to_meeting.nd (q_ix (qv 2) q_int)))
  qss_nil)
 (qss_cons (qs_expr (q_append (q_fld 3 fl_Story (c_Story_brought T) (q_fld 6 fl_Walker (c_Walker_story T) (qv 0))) (qa_cons (q_tup (qa_cons (q_ix (qv 1) q_int) (qa_cons (qv 3) qa_nil))) qa_nil)))
 (qss_one (qs_fld 7 fl_Walker (c_Walker_waiting T) (qv 0) (qv 1)))))), ?_⟩) (fun _ _ _ _ _ _ us hl => match us, hl with | [_, _, _], _ => rfl)
  rintro _ M Q Et ⟨A, c, M0, s, d, vs, rfl, ⟨X, hs⟩, hl, h⟩
  have fin : ∀ (l v : Int) (d' : Sm), (∀ M', WkE A (WC K) c M0 M' { s with brought := s.brought ++ [(l, v)], wait := some d' } → Q .non M') → Q .non (mup (mup M A.b (.lst (s.brought.map brD ++ [.tup [.int l, .int v]]))) A.w (.obj (He.ga K "Walker") A.wx fl_Walker [.ref A.d, .int c.lane, .int c.lanes, .int c.mine, .ref X.x, .int c.most, .ref A.s, d'.d, .ref A.f, .ref A.k])) := by
    intro l v d' hq
    refine hq _ ?_
    have h1 := hs.brought_ (l := s.brought ++ [(l, v)])
    rw [List.map_append] at h1
    exact ⟨X, h1.wait_ (d := some d')⟩
  have hw1 : ∀ l v, (mup M A.b (.lst (s.brought.map brD ++ [.tup [.int l, .int v]]))) A.w = some (.obj (He.ga K "Walker") A.wx fl_Walker [.ref A.d, .int c.lane, .int c.lanes, .int c.mine, .ref X.x, .int c.most, .ref A.s, waitD s.wait, .ref A.f, .ref A.k]) := by
    intro l v
    have h1 := hs.brought_ (l := s.brought ++ [(l, v)])
    rw [List.map_append] at h1
    exact h1.w_
  rcases h with ⟨l, rfl, h⟩ | ⟨l, x, w, e, v, t, rfl, rfl, h⟩
  · have hf := fin l 0 _ h
    unfold Sm.d at hf ⊢
    walk_at "vc"
    rw [hs.w_]
    walk_at "vc"
    rw [hs.s_]
    walk_at "vc"
    refine ⟨is_m hs.b_, ap_m hs.b_ ⟨by rw [List.length_map]; omega, ?_⟩⟩
    rw [hw1]
    walk_at "vc"
    exact hf
  · have hf := fin l v _ h
    unfold Sm.d at hf ⊢
    walk_at "vc"
    rw [hs.w_]
    walk_at "vc"
    rw [hs.s_]
    walk_at "vc"
    refine ⟨is_m hs.b_, ap_m hs.b_ ⟨by rw [List.length_map]; omega, ?_⟩⟩
    rw [hw1]
    walk_at "vc"
    exact hf
structure onP (K : PySem.W.Frag) (A : WkA) (c : Lc) (M0 M : MH) (s : Ws) (d : Sm) (vs : List Int) : Prop where
  wk : WkE A (WC K) c M0 M s
  lc : okLc c
  ok : okWn c 1 s
  rn : s.run
  inw : ∃ lp : Prop, (lp → inW s.bks) ∧ inLp lp d
  okd : okWd c.pg d
  few : vs.length = d.exprs.length
def spOnward (K : PySem.W.Frag) : SpT := fun ds M Q _ => ∃ (A : WkA) (c : Lc) (M0 : MH) (s : Ws) (d : Sm) (vs : List Int), ds = [.ref A.w, d.d, .lst (vs.map .int)] ∧ onP K A c M0 M s d vs ∧ ¬ (d.word = "if" ∨ d.word = "while") ∧ ∀ M', WkE A (WC K) c M0 M' (s.onward c d vs) → Q .non M'
theorem vs1 {vs : List Int} (h : vs.length = 1) : ∃ v, vs = [v] := by
  match vs, h with
  | [v], _ => exact ⟨v, rfl⟩
theorem vs2 {vs : List Int} (h : vs.length = 2) : ∃ v u, vs = [v, u] := by
  match vs, h with
  | [v, u], _ => exact ⟨v, u, rfl⟩
theorem ok_do_onward (T : Tp K mg) : Fn P w K mg base CX0 4 "do_onward" (spOnward K) := by
  refine fn_top T 34 e_do_onward (m_do_onward T) sc_do_onward (by rintro _ M Q Et ⟨A, c, M0, s, d, vs, rfl, _⟩; rfl) (fun cdv A outer s H E hr => ⟨_, (qss_cons (qs_set (i := 3) sc_do_onward.nd (q_ix (qv 1) q_int))
 (qss_cons (qs_set (i := 4) sc_do_onward.nd (q_ix (q_fld 9 fl_Walker (c_Walker_blocks T) (qv 0)) (q_un uq_neg q_int)))
 (qss_cons (qs_fldaug 1 fl_Block (c_Block_at T) oq_iaddI (qv 4) q_int)
 (qss_one (qs_if (qt_cmp oq_eq (qv 3) q_str)
  (qss_one (qs_expr (q_meth fl_Walker (ok_Walker_name_given T) (hr.mono (by decide)) (qv 0) (qa_cons (q_ix (qv 1) q_int) (qa_cons (q_ix (qv 2) q_int) qa_nil)))))
  (qss_one (qs_if (qt_cmp oq_eq (qv 3) q_str)
  (qss_one (qs_expr (q_call (ok_do_put T) (hr.mono (by decide)) (qa_cons (qv 0) (qa_cons (q_ix (qv 1) q_int) (qa_cons (q_ix (qv 2) q_int) (qa_cons (q_ix (qv 2) q_int) qa_nil)))))))
  (qss_one (qs_if (qt_cmp oq_eq (qv 3) q_str)
  (qss_one (qs_expr (q_append (q_fld 0 fl_Story (c_Story_told T) (q_fld 6 fl_Walker (c_Walker_story T) (qv 0))) (qa_cons (q_ix (qv 2) q_int) qa_nil))))
  (qss_one (qs_if (qt_cmp oq_eq (qv 3) q_str)
  (qss_one (qs_expr (q_call (ok_do_call T) (hr.mono (by decide)) (qa_cons (qv 0) (qa_cons (qv 1) (qa_cons (qv 2) qa_nil))))))
  (qss_one (qs_if (qt_cmp oq_eq (qv 3) q_str)
  (qss_one (qs_expr (q_meth fl_Walker (ok_Walker_go_out T) (hr.mono (by decide)) (qv 0) (qa_cons (q_ix (qv 2) q_int) qa_nil))))
  (qss_one (qs_if (qt_cmp oq_eq (qv 3) q_str)
  (qss_one (qs_fld 2 fl_Story (c_Story_end T) (q_fld 6 fl_Walker (c_Walker_story T) (qv 0)) (q_tup (qa_cons q_str (qa_cons (q_ix (qv 1) q_int) qa_nil)))))
  (qss_one (qs_if (qt_w (qw_or (qt_cmp oq_eq (qv 3) q_str) (qw_or1 (qt_cmp oq_eq (qv 3) q_str))))
  (qss_one (qs_expr (q_call (ok_do_leave T) (hr.mono (by decide)) (qa_cons (qv 0) (qa_cons (qv 3) qa_nil)))))
  (qss_one (qs_expr (q_call (ok_come_to_meeting T) (hr.mono (by decide)) (qa_cons (qv 0) (qa_cons (qv 1) (qa_cons (qv 2) qa_nil))))))))))))))))))))))), ?_⟩) (fun _ _ _ _ _ _ us hl => match us, hl with | [_, _, _], _ => rfl)
  rintro _ M Q Et ⟨A, c, M0, s, d, vs, rfl, hp, hnw, h⟩
  obtain ⟨⟨⟨bx, tc, pu, fr, bk⟩, hs⟩, hc, ok, rn, ⟨lp, hlp, hlpd⟩, okd, few⟩ := hp
  have hb := hs.bks
  have hne := ok.ne rn.2
  have hmost := hc.most
  have hst := ok.st
  have okx := ok.next
  have xst : s.next.steps = s.steps := next_steps
  have xfr : s.next.frs ≠ [] := okx.run (next_fin.trans rn.2)
  have xnm : ∀ f ∈ s.next.frs, f.names.length ≤ 10000 := fun f hf => by have := (okx.nms f hf).2; have := okx.tcs_len; omega
  have xtc : ∀ t ∈ s.next.tcs, t.length < 16000000 := fun t ht => by have := okx.tcl t ht; omega
  have xpu : ∀ t ∈ s.next.pus, t.length < 16000000 := fun t ht => by have := okx.pul t ht; omega
  have xbk : s.next.bks.length ≤ 10000 := by have := okx.bkl; omega
  cases bk with
  | nil => exact absurd hb hne
  | cons e r =>
    obtain ⟨o, dx, b⟩ := e
    have hs1 : WkS A (WC K) c M0 (mup M o (.obj (He.ga K "Block") dx fl_Block [.lst (stD b.body), .int ((b.at_ : Int) + 1), .str b.why.s])) ⟨bx, tc, pu, fr, (o, dx, { b with at_ := b.at_ + 1 }) :: r⟩ { s with bks := { b with at_ := b.at_ + 1 } :: r.map (·.2.2) } := hs.block_ (b' := { b with at_ := b.at_ + 1 })
    have hnx := next_eq hb
    cases d with
    | set l x e =>
      unfold Sm.d
      walk_at "vc"
      rw [hs.w_]
      walk_at "vc"
      rw [lstOf_at hs.k_, KL_push]
      walk_at "vc"
      rw [atI_lst1]
      walk_at "vc"
      rw [hs.bo_]
      walk_at "vc"
      generalize mup M o (.obj (He.ga K "Block") dx fl_Block [.lst (stD b.body), .int ((b.at_ : Int) + 1), .str b.why.s]) = M1 at hs1 ⊢
      rw [← hnx] at hs1
      obtain ⟨v, rfl⟩ := vs1 few
      rw [hs1.w_]
      walk_at "vc"
      exact ⟨A, c, M0, s.next, x, v, rfl, ⟨_, hs1⟩, xfr, xnm, h⟩
    | put l p q =>
      unfold Sm.d
      walk_at "vc"
      rw [hs.w_]
      walk_at "vc"
      rw [lstOf_at hs.k_, KL_push]
      walk_at "vc"
      rw [atI_lst1]
      walk_at "vc"
      rw [hs.bo_]
      walk_at "vc"
      generalize mup M o (.obj (He.ga K "Block") dx fl_Block [.lst (stD b.body), .int ((b.at_ : Int) + 1), .str b.why.s]) = M1 at hs1 ⊢
      rw [← hnx] at hs1
      obtain ⟨v, u, rfl⟩ := vs2 few
      walk_at "vc"
      exact ⟨A, c, M0, s.next, l, v, u, rfl, ⟨_, hs1⟩, okx.tcn.2, xtc, fun e => okx.tcn.2 (List.length_eq_zero_iff.mp (by rw [okx.tcn.1, e]; rfl)), xpu, h⟩
    | tell l e =>
      unfold Sm.d
      walk_at "vc"
      rw [hs.w_]
      walk_at "vc"
      rw [lstOf_at hs.k_, KL_push]
      walk_at "vc"
      rw [atI_lst1]
      walk_at "vc"
      rw [hs.bo_]
      walk_at "vc"
      generalize mup M o (.obj (He.ga K "Block") dx fl_Block [.lst (stD b.body), .int ((b.at_ : Int) + 1), .str b.why.s]) = M1 at hs1 ⊢
      rw [← hnx] at hs1
      obtain ⟨v, rfl⟩ := vs1 few
      rw [hs1.w_]
      walk_at "vc"
      rw [hs1.s_]
      walk_at "vc"
      have h2 := hs1.told_ (l := s.next.told ++ [v])
      rw [List.map_append] at h2
      refine ⟨is_m hs1.t_, ap_m hs1.t_ ⟨by have := okx.told; rw [List.length_map]; omega, h _ ?_⟩⟩
      rw [next_told] at h2 ⊢
      exact ⟨_, h2⟩
    | call l x f es =>
      unfold Sm.d
      walk_at "vc"
      rw [hs.w_]
      walk_at "vc"
      rw [lstOf_at hs.k_, KL_push]
      walk_at "vc"
      rw [atI_lst1]
      walk_at "vc"
      rw [hs.bo_]
      walk_at "vc"
      generalize mup M o (.obj (He.ga K "Block") dx fl_Block [.lst (stD b.body), .int ((b.at_ : Int) + 1), .str b.why.s]) = M1 at hs1 ⊢
      rw [← hnx] at hs1
      exact ⟨A, c, M0, s.next, l, x, f, es, vs, by unfold Sm.d; rfl, ⟨_, hs1⟩, hc, okd.fnd _ _ _ _ rfl, xbk, h⟩
    | ret l e =>
      unfold Sm.d
      walk_at "vc"
      rw [hs.w_]
      walk_at "vc"
      rw [lstOf_at hs.k_, KL_push]
      walk_at "vc"
      rw [atI_lst1]
      walk_at "vc"
      rw [hs.bo_]
      walk_at "vc"
      generalize mup M o (.obj (He.ga K "Block") dx fl_Block [.lst (stD b.body), .int ((b.at_ : Int) + 1), .str b.why.s]) = M1 at hs1 ⊢
      rw [← hnx] at hs1
      obtain ⟨v, rfl⟩ := vs1 few
      rw [hs1.w_]
      walk_at "vc"
      exact ⟨A, c, M0, s.next, v, rfl, ⟨_, hs1⟩, xfr, has_df (by rw [okx.nd]; exact fun e => xfr (List.length_eq_zero_iff.mp e)), xnm, h⟩
    | stop l =>
      unfold Sm.d
      walk_at "vc"
      rw [hs.w_]
      walk_at "vc"
      rw [lstOf_at hs.k_, KL_push]
      walk_at "vc"
      rw [atI_lst1]
      walk_at "vc"
      rw [hs.bo_]
      walk_at "vc"
      generalize mup M o (.obj (He.ga K "Block") dx fl_Block [.lst (stD b.body), .int ((b.at_ : Int) + 1), .str b.why.s]) = M1 at hs1 ⊢
      rw [← hnx] at hs1
      rw [hs1.w_]
      walk_at "vc"
      rw [hs1.s_]
      walk_at "vc"
      exact h _ ⟨_, hs1.fin_ (f := some (.done, l))⟩
    | brk l =>
      unfold Sm.d
      walk_at "vc"
      rw [hs.w_]
      walk_at "vc"
      rw [lstOf_at hs.k_, KL_push]
      walk_at "vc"
      rw [atI_lst1]
      walk_at "vc"
      rw [hs.bo_]
      walk_at "vc"
      generalize mup M o (.obj (He.ga K "Block") dx fl_Block [.lst (stD b.body), .int ((b.at_ : Int) + 1), .str b.why.s]) = M1 at hs1 ⊢
      rw [← hnx] at hs1
      have hw : inW s.next.bks := by rw [inW_next]; exact hlp hlpd
      exact ⟨A, c, M0, s.next, true, rfl, ⟨_, hs1⟩, has_wh hw, (leave_wh okx.bk hw).1, h⟩
    | agn l =>
      unfold Sm.d
      walk_at "vc"
      rw [hs.w_]
      walk_at "vc"
      rw [lstOf_at hs.k_, KL_push]
      walk_at "vc"
      rw [atI_lst1]
      walk_at "vc"
      rw [hs.bo_]
      walk_at "vc"
      generalize mup M o (.obj (He.ga K "Block") dx fl_Block [.lst (stD b.body), .int ((b.at_ : Int) + 1), .str b.why.s]) = M1 at hs1 ⊢
      rw [← hnx] at hs1
      have hw : inW s.next.bks := by rw [inW_next]; exact hlp hlpd
      exact ⟨A, c, M0, s.next, false, rfl, ⟨_, hs1⟩, has_wh hw, (leave_wh okx.bk hw).1, h⟩
    | meet l =>
      unfold Sm.d
      walk_at "vc"
      rw [hs.w_]
      walk_at "vc"
      rw [lstOf_at hs.k_, KL_push]
      walk_at "vc"
      rw [atI_lst1]
      walk_at "vc"
      rw [hs.bo_]
      walk_at "vc"
      generalize mup M o (.obj (He.ga K "Block") dx fl_Block [.lst (stD b.body), .int ((b.at_ : Int) + 1), .str b.why.s]) = M1 at hs1 ⊢
      rw [← hnx] at hs1
      exact ⟨A, c, M0, s.next, .meet l, vs, by unfold Sm.d; rfl, ⟨_, hs1⟩, by have := okx.brt; omega, Or.inl ⟨l, rfl, fun M' hm => h M' (by have := hm; rw [next_brt] at this; exact this)⟩⟩
    | join l x w e =>
      unfold Sm.d
      walk_at "vc"
      rw [hs.w_]
      walk_at "vc"
      rw [lstOf_at hs.k_, KL_push]
      walk_at "vc"
      rw [atI_lst1]
      walk_at "vc"
      rw [hs.bo_]
      walk_at "vc"
      generalize mup M o (.obj (He.ga K "Block") dx fl_Block [.lst (stD b.body), .int ((b.at_ : Int) + 1), .str b.why.s]) = M1 at hs1 ⊢
      rw [← hnx] at hs1
      obtain ⟨v, rfl⟩ := vs1 few
      exact ⟨A, c, M0, s.next, .join l x w e, [v], by unfold Sm.d; rfl, ⟨_, hs1⟩, by have := okx.brt; omega, Or.inr ⟨l, x, w, e, v, [], rfl, rfl, fun M' hm => h M' (by have := hm; rw [next_brt] at this; exact this)⟩⟩
    | if1 l e b2 => exact absurd (Or.inl rfl) hnw
    | if2 l e b2 b3 => exact absurd (Or.inl rfl) hnw
    | whl l e b2 => exact absurd (Or.inr rfl) hnw
structure deP (K : PySem.W.Frag) (A : WkA) (c : Lc) (M0 M : MH) (s : Ws) (d : Sm) : Prop where
  wk : WkE A (WC K) c M0 M s
  lc : okLc c
  ok : okWn c 0 s
  rn : s.run
  inw : ∃ lp : Prop, (lp → inW s.bks) ∧ inLp lp d
  okd : okWd c.pg d
def spDeed (K : PySem.W.Frag) : SpT := fun ds M Q _ => ∃ (A : WkA) (c : Lc) (M0 : MH) (s : Ws) (d : Sm), ds = [.ref A.w, d.d] ∧ deP K A c M0 M s d ∧ ∀ M', WkE A (WC K) c M0 M' (s.deed c d) → Q .non M'
theorem ok_do_deed (T : Tp K mg) : Fn P w K mg base CX0 46 "do_deed" (spDeed K) := by
  refine fn_top T 35 e_do_deed (m_do_deed T) sc_do_deed (by rintro _ M Q Et ⟨A, c, M0, s, d, rfl, _⟩; rfl) (fun cdv A outer s H E hr => ⟨_, (qss_cons (qs_set (i := 2) sc_do_deed.nd (q_fld 6 fl_Walker (c_Walker_story T) (qv 0)))
 (qss_one (qs_if (qt_cmp oq_ge (q_fld 1 fl_Story (c_Story_steps T) (qv 2)) (q_fld 5 fl_Walker (c_Walker_most T) (qv 0)))
  (qss_one (qs_fld 2 fl_Story (c_Story_end T) (qv 2) (q_tup (qa_cons q_str (qa_cons (q_ix (qv 1) q_int) qa_nil)))))
  (qss_cons (qs_fldaug 1 fl_Story (c_Story_steps T) oq_iaddI (qv 2) q_int)
 (qss_cons (qs_expr (q_append (q_fld 6 fl_Story (c_Story_lines T) (qv 2)) (qa_cons (q_ix (qv 1) q_int) qa_nil)))
 (qss_cons (qs_set (i := 3) sc_do_deed.nd (q_call (ok_numbers_of T) (hr.mono (by decide)) (qa_cons (qv 0) (qa_cons (qv 1) qa_nil))))
 (qss_one (qs_if (qt_cmp oq_notN (qv 3) q_non)
  (qss_one (qs_if (qt_w (qw_or (qt_cmp oq_eq (q_ix (qv 1) q_int) q_str) (qw_or1 (qt_cmp oq_eq (q_ix (qv 1) q_int) q_str))))
  (qss_one (qs_expr (q_call (ok_do_test T) (hr.mono (by decide)) (qa_cons (qv 0) (qa_cons (qv 1) (qa_cons (q_ix (qv 3) q_int) qa_nil))))))
  (qss_one (qs_expr (q_call (ok_do_onward T) (hr.mono (by decide)) (qa_cons (qv 0) (qa_cons (qv 1) (qa_cons (qv 3) qa_nil))))))))
  qss_nil)))))))), ?_⟩) (fun _ _ _ _ _ _ us hl => match us, hl with | [_, _], _ => rfl)
  rintro _ M Q Et ⟨A, c, M0, s, d, rfl, hp, h⟩
  obtain ⟨⟨X, hs⟩, hc, ok, rn, hin, okd⟩ := hp
  rw [sm_d]
  walk_at "vc"
  rw [hs.w_]
  walk_at "vc"
  rw [hs.s_]
  walk_at "vc"
  have hmost := hc.most
  have hst := ok.st
  unfold Ws.deed at h
  split
  · rename_i ht
    rw [if_pos (by omega)] at h
    exact h _ ⟨X, hs.fin_ (f := some (.tired, d.line))⟩
  · rename_i ht
    rw [if_neg (by omega)] at h
    have hs1 : WkS A (WC K) c M0 (mup M A.s (.obj (He.ga K "Story") A.sx fl_Story [.ref A.t, .int ((s.steps : Int) + 1), finD s.fin, .ref A.b, .ref A.T, .ref A.P, .ref A.l])) X { s with steps := s.steps + 1 } := hs.steps_ (n := s.steps + 1)
    generalize mup M A.s (.obj (He.ga K "Story") A.sx fl_Story [.ref A.t, .int ((s.steps : Int) + 1), finD s.fin, .ref A.b, .ref A.T, .ref A.P, .ref A.l]) = M1 at hs1 ⊢
    have hs2 : WkS A (WC K) c M0 (mup M1 A.l (.lst (s.lines.map .int ++ [.int d.line]))) X (s.count d.line) := by
      have := hs1.lines_ (l := s.lines ++ [d.line])
      rw [List.map_append] at this
      exact this
    refine ⟨is_m hs1.l_, ap_m hs1.l_ ⟨by have := ok.lines; rw [List.length_map]; show s.lines.length < _; omega, ?_⟩⟩
    generalize mup M1 A.l (.lst (s.lines.map .int ++ [.int d.line])) = M2 at hs2 ⊢
    have hbx := okd.bx
    refine ⟨A, c, M0, s.count d.line, d, by rw [sm_d], ⟨⟨X, hs2⟩, hc, ok.tcn.2, fun t ht => by have := ok.tcl t ht; omega, ok.run rn.2, ok.names, ok.bx, okd⟩, fun M3 hs3 => ?_⟩
    have hev := evs_ok hc ok.names ok.bx d.exprs fun e he => (okd.ex e he).2
    have e0 : evEs c (s.count d.line).names (s.count d.line).boxes d.exprs = evEs c s.names s.boxes d.exprs := rfl
    rw [e0] at hs3 ⊢
    rcases he : evEs c s.names s.boxes d.exprs with ⟨rs, f | vs⟩
    · rw [he] at h hs3
      unfold resL
      walk_at "vc"
      exact h M3 hs3
    · rw [he] at h hs3 hev
      have hs4 : WkE A (WC K) c M0 M3 ((s.count d.line).touch (rdT d.line rs)) := hs3
      have hvl := (hev.2 vs rfl).1
      have h1 := ok.count (l := d.line) (rs := rdT d.line rs) (by omega) (by have := hev.1; dsimp only at this; unfold rdT; rw [List.length_map]; omega)
      have hb1 : ((s.count d.line).touch (rdT d.line rs)).bks = s.bks := touch_bks
      have hr1 : ((s.count d.line).touch (rdT d.line rs)).run := ⟨touch_wait.trans rn.1, touch_fin.trans rn.2⟩
      dsimp only at h
      generalize (s.count d.line).touch (rdT d.line rs) = s1 at h hs4 h1 hb1 hr1
      unfold resL
      walk_at "vc"
      have test : d.word = "if" ∨ d.word = "while" → oSome (atI (vs.map D.int) 0) fun x => spTest K [D.ref A.w, .tup (.str d.word :: .int d.line :: d.rest), x] M3 (fun x M1 => Q D.non M1) Et0 := by
        intro hw
        have hone : d.exprs.length = 1 := by cases d <;> first | rfl | (exfalso; rcases hw with hw | hw <;> (unfold Sm.word at hw; simp only [ofS_inj, String.reduceEq] at hw))
        obtain ⟨v, rfl⟩ := vs1 (hvl.trans hone)
        refine (show spTest K [D.ref A.w, .tup (.str d.word :: .int d.line :: d.rest), .int v] M3 (fun x M1 => Q D.non M1) Et0 from ?_)
        exact ⟨A, c, M0, s1, d, [v], by rw [sm_d]; rfl, hs4, by rw [hb1]; exact ok.ne rn.2, by have := ok.bkl; rw [hb1]; omega, hw, h⟩
      split
      · exact test (Or.inl (by assumption))
      · split
        · exact test (Or.inr (by assumption))
        · rename_i n1 n2
          obtain ⟨lp, hlp, hlpd⟩ := hin
          exact ⟨A, c, M0, s1, d, vs, by rw [sm_d], ⟨hs4, hc, h1, hr1, ⟨lp, by rw [hb1]; exact hlp, hlpd⟩, okd, hvl⟩, fun q => q.elim n1 n2, h⟩
def spGoOn (K : PySem.W.Frag) : SpT := fun ds M Q _ => ∃ (A : WkA) (c : Lc) (M0 : MH) (s : Ws), ds = [.ref A.w] ∧ WkE A (WC K) c M0 M s ∧ okLc c ∧ okWs c s ∧ ∀ M', WkE A (WC K) c M0 M' (s.go c) → Q .non M'
theorem ok_go_on (T : Tp K mg) : Fn P w K mg base CX0 47 "go_on" (spGoOn K) := by
  refine fn_top T 36 e_go_on (m_go_on T) sc_go_on (by rintro _ M Q Et ⟨A, c, M0, s, rfl, _⟩; rfl) (fun cdv A outer s H E hr => ⟨_, (qss_one (qs_while PassesOwn.never (qt_w (qw_and (qt_cmp oq_isN (q_fld 7 fl_Walker (c_Walker_waiting T) (qv 0)) q_non) (qw_and1 (qt_cmp oq_isN (q_fld 2 fl_Story (c_Story_end T) (q_fld 6 fl_Walker (c_Walker_story T) (qv 0))) q_non))))
  (qss_cons (qs_set (i := 1) sc_go_on.nd (q_ix (q_fld 9 fl_Walker (c_Walker_blocks T) (qv 0)) (q_un uq_neg q_int)))
 (qss_one (qs_if (qt_cmp oq_lt (q_fld 1 fl_Block (c_Block_at T) (qv 1)) (q_callB cq_len (m_len T) (by decide +kernel) (qa_cons (q_fld 0 fl_Block (c_Block_body T) (qv 1)) qa_nil)))
  (qss_one (qs_expr (q_call (ok_do_deed T) (hr.mono (by decide)) (qa_cons (qv 0) (qa_cons (q_ix (q_fld 0 fl_Block (c_Block_body T) (qv 1)) (q_fld 1 fl_Block (c_Block_at T) (qv 1))) qa_nil)))))
  (qss_one (qs_if (qt_cmp oq_eq (q_fld 2 fl_Block (c_Block_why T) (qv 1)) q_str)
  (qss_one (qs_expr (q_meth fl_Walker (ok_Walker_go_out T) (hr.mono (by decide)) (qv 0) (qa_cons q_int qa_nil))))
  (qss_one (qs_expr (q_pop (q_fld 9 fl_Walker (c_Walker_blocks T) (qv 0)))))))))))), ?_⟩) (fun _ _ _ _ _ _ us hl => match us, hl with | [_], _ => rfl)
  rintro _ M Q Et ⟨A, c, M0, s, rfl, hs, hc, ok, h⟩
  walk_at "vc"
  refine wh_any (fun m τ M1 => ∃ s', WkE A (WC K) c M0 M1 s' ∧ okWs c s' ∧ s'.go c = s.go c ∧ (s'.run → s'.mu c < m) ∧ ∃ v1, τ = [some (.ref A.w), v1]) (s.mu c + 1) ⟨s, hs, ok, rfl, fun _ => Nat.lt_succ_self _, none, rfl⟩ ?_
  rintro m τ M1 ⟨s1, ⟨X1, hs1⟩, ok1, hg, hm, v1, rfl⟩
  walk_at "vc"
  rw [hs1.w_]
  walk_at "vc"
  by_cases hr : s1.run
  · have hm1 := hm hr
    have hturn : ∀ M2 s2, s2 = s1.turn c → WkE A (WC K) c M0 M2 s2 → ∃ m', m' < m ∧ ∃ s', WkE A (WC K) c M0 M2 s' ∧ okWs c s' ∧ s'.go c = s.go c ∧ (s'.run → s'.mu c < m') := by
      rintro M2 s2 rfl hs2
      exact ⟨s1.mu c, hm1, s1.turn c, hs2, ok1.turn hc hr, (go_turn hc ok1 hr).trans hg, fun h2 => mu_turn hr (ok1.ne hr.2) h2⟩
    rw [hr.1]
    unfold waitD
    walk_at "vc"
    rw [hs1.s_]
    walk_at "vc"
    rw [hr.2]
    unfold finD
    walk_at "vc"
    obtain ⟨bx, tc, pu, fr, bk⟩ := X1
    have hb := hs1.bks
    have hok := ok1.bk
    cases bk with
    | nil => exact absurd hb (ok1.ne hr.2)
    | cons e r =>
      obtain ⟨o, dx, b⟩ := e
      rw [hb] at hok
      obtain ⟨⟨lp, hlp, hwb⟩, hbot, hrest⟩ := hok
      rw [lstOf_at hs1.k_, KL_push]
      walk_at "vc"
      rw [atI_lst1]
      walk_at "vc"
      rw [hs1.bo_]
      walk_at "vc"
      rw [stD_len]
      have htd : ∀ {x}, b.body[b.at_]? = x → s1.turn c = (match x with
        | some d => s1.deed c d
        | none => if b.why = .df then s1.out 0 else { s1 with bks := r.map (·.2.2) }) := by
        rintro x rfl
        unfold Ws.turn
        rw [hb]
        rfl
      split
      · rename_i hlt
        have hlt2 : b.at_ < b.body.length := by omega
        rw [stD_map, atI_nat (v := (b.body[b.at_]).d) (by rw [List.getElem?_map, List.getElem?_eq_getElem hlt2]; rfl)]
        walk_at "vc"
        have hd := htd (List.getElem?_eq_getElem hlt2)
        have hin := inLps_at hwb (List.getElem_mem hlt2)
        refine ⟨A, c, M0, s1, _, rfl, ⟨⟨_, hs1⟩, hc, ok1, hr, ⟨lp, by rw [hb]; exact hlp, hin.2.1⟩, hin.1⟩, fun M2 hs2 => ?_⟩
        obtain ⟨m', h1, s', h2⟩ := hturn M2 _ hd.symm hs2
        exact ⟨m', h1, s', h2.1, h2.2.1, h2.2.2.1, h2.2.2.2, _, rfl⟩
      · rename_i hge
        have hd := htd (List.getElem?_eq_none (by omega))
        by_cases hw : b.why = .df
        · rw [if_pos (show b.why.s = Str.ofString "def" by rw [hw]; rfl)]
          dsimp only at hd
          rw [if_pos hw] at hd
          rw [hs1.w_]
          walk_at "vc"
          have hmost := hc.most
          have hst := ok1.st
          refine ⟨A, c, M0, s1, 0, rfl, ⟨_, hs1⟩, ok1.run hr.2, has_df (by rw [ok1.nd]; exact fun e => ok1.run hr.2 (List.length_eq_zero_iff.mp e)), fun f hf => by have := (ok1.nms f hf).2; have := ok1.tcs_len; omega, fun M2 hs2 => ?_⟩
          obtain ⟨m', h1, s', h2⟩ := hturn M2 _ hd.symm hs2
          exact ⟨m', h1, s', h2.1, h2.2.1, h2.2.2.1, h2.2.2.2, _, rfl⟩
        · rw [if_neg (show ¬ b.why.s = Str.ofString "def" from fun e => hw ((wy_inj (b := .df)).mp e))]
          dsimp only at hd
          rw [if_neg hw] at hd
          rw [hs1.w_]
          walk_at "vc"
          obtain ⟨L, o2, e1, dx2, hs2, e2⟩ := wk_pop ⟨_, hs1⟩ hb
          refine ⟨is_m e1, ?_⟩
          rw [mLst_at e1]
          walk_at "vc"
          rw [last_app]
          walk_at "vc"
          rw [List.dropLast_concat]
          obtain ⟨m', h1, s', h2⟩ := hturn _ _ hd.symm hs2
          exact ⟨m', h1, s', h2.1, h2.2.1, h2.2.2.1, h2.2.2.2, _, rfl⟩
  · have hq : Q .non M1 := h M1 (by rw [← hg, go_stop hr]; exact ⟨X1, hs1⟩)
    cases hw : s1.wait with
    | some d =>
      rw [show waitD (some d) = .tup (.str d.word :: .int d.line :: d.rest) from sm_d d]
      walk_at "vc"
      exact hq
    | none =>
      unfold waitD
      walk_at "vc"
      rw [hs1.s_]
      walk_at "vc"
      cases hf : s1.fin with
      | none => exact absurd ⟨hw, hf⟩ hr
      | some f =>
        unfold finD
        walk_at "vc"
        exact hq
end
end K46
namespace K46
open PySem PySem.Spec PyProof.Rows L2 Tl
section
variable {P : Program} {w : World} {K : PySem.W.Frag} {mg : Str → Option Value} {base : Heap}
theorem dO_eq : dO = optD := by funext o; cases o <;> rfl
theorem join_ans {z : Str} {os : List (Option Int)} {lane : Nat} {r : Int} (h : ans z os lane r) : joinF z os lane = r := by
  unfold ans at h
  unfold joinF
  split
  · rename_i e; rw [if_pos e] at h; exact join_most h.1 h.2
  · rename_i e
    rw [if_neg e] at h
    split
    · rename_i e2; rw [if_pos e2] at h; exact join_least h.1 h.2
    · rename_i e2
      rw [if_neg e2] at h
      split
      · rename_i e3; rw [if_pos e3] at h; exact h.symm
      · rename_i e3; rw [if_neg e3] at h; exact h.symm
def spLetOn (K : PySem.W.Frag) : SpT := fun ds M Q _ => ∃ (A : WkA) (c : Lc) (M0 : MH) (s : Ws) (d : Sm) (t : Lt), ds = [.ref A.w, t.d] ∧ WkE A (WC K) c M0 M s ∧ okWs c s ∧ okLc c ∧ 0 ≤ c.lane ∧ okLt t ∧ s.wait = some d ∧ ∀ M', WkE A (WC K) c M0 M' (s.letOn c t) → Q .non M'
theorem ok_let_on (T : Tp K mg) : Fn P w K mg base CX0 5 "let_on" (spLetOn K) := by
  refine fn_top T 37 e_let_on (m_let_on T) sc_let_on (by rintro _ M Q Et ⟨A, c, M0, s, d, t, rfl, _⟩; rfl) (fun cdv A outer s H E hr => ⟨_, (qss_cons (qs_set (i := 2) sc_let_on.nd (q_fld 7 fl_Walker (c_Walker_waiting T) (qv 0)))
 (qss_cons (qs_fld 7 fl_Walker (c_Walker_waiting T) (qv 0) q_non)
 (qss_cons (qs_fld 4 fl_Walker (c_Walker_boxes T) (qv 0) (q_callTy cq_listM (m_list T) (by decide +kernel) (qa_cons (q_ix (qv 1) q_int) qa_nil)))
 (qss_cons (qs_expr (q_append (q_fld 4 fl_Story (c_Story_touches T) (q_fld 6 fl_Walker (c_Walker_story T) (qv 0))) (qa_cons (q_lstM qa_nil) qa_nil)))
 (qss_cons (qs_expr (q_append (q_fld 5 fl_Story (c_Story_puts T) (q_fld 6 fl_Walker (c_Walker_story T) (qv 0))) (qa_cons q_dnewK qa_nil)))
 (qss_one (qs_if (qt_cmp oq_eq (q_ix (qv 2) q_int) q_str)
  (qss_one (qs_expr (q_meth fl_Walker (ok_Walker_name_given T) (hr.mono (by decide)) (qv 0) (qa_cons (q_ix (qv 2) q_int) (qa_cons (q_call (ok_joined T) (hr.mono (by decide)) (qa_cons (q_ix (qv 2) q_int) (qa_cons (q_ix (qv 1) q_int) (qa_cons (q_fld 1 fl_Walker (c_Walker_lane T) (qv 0)) qa_nil)))) qa_nil)))))
  qss_nil))))))), ?_⟩) (fun _ _ _ _ _ _ us hl => match us, hl with | [_, _], _ => rfl)
  rintro _ M Q Et ⟨A, c, M0, s, d, t, rfl, ⟨X, hs⟩, ok, hc, hln, ht, hw, h⟩
  unfold Lt.d
  walk_at "vc"
  rw [hs.w_, hw]
  rw [show waitD (some d) = .tup (.str d.word :: .int d.line :: d.rest) from sm_d d]
  walk_at "vc"
  have hs1 : WkS A (WC K) c M0 (mup M A.w (.obj (He.ga K "Walker") A.wx fl_Walker [.ref A.d, .int c.lane, .int c.lanes, .int c.mine, .ref X.x, .int c.most, .ref A.s, .non, .ref A.f, .ref A.k])) X { s with wait := none } := hs.wait_ (d := none)
  generalize mup M A.w (.obj (He.ga K "Walker") A.wx fl_Walker [.ref A.d, .int c.lane, .int c.lanes, .int c.mine, .ref X.x, .int c.most, .ref A.s, .non, .ref A.f, .ref A.k]) = M1 at hs1 ⊢
  intro p hp
  have hc1 := hs1.cel.fresh (o := .lst (t.bs.map .int)) hp
  have hw1 : (mup M1 p (.lst (t.bs.map .int))) A.w = some (.obj (He.ga K "Walker") A.wx fl_Walker [.ref A.d, .int c.lane, .int c.lanes, .int c.mine, .ref X.x, .int c.most, .ref A.s, .non, .ref A.f, .ref A.k]) :=
    hc1.at_ (A.w, A.wO (WC K) c X.x { s with wait := none }) (List.mem_cons_of_mem _ (List.mem_append_left _ (by unfold WkA.fix; simp)))
  rw [hw1]
  walk_at "vc"
  have hs2 : WkS A (WC K) c M0 (mup (mup M1 p (.lst (t.bs.map .int))) A.w (.obj (He.ga K "Walker") A.wx fl_Walker [.ref A.d, .int c.lane, .int c.lanes, .int c.mine, .ref p, .int c.most, .ref A.s, .non, .ref A.f, .ref A.k])) { X with x := p } { s with wait := none, boxes := t.bs } := hs1.box_ (x := p) (l := t.bs) hc1
  generalize mup (mup M1 p (.lst (t.bs.map .int))) A.w (.obj (He.ga K "Walker") A.wx fl_Walker [.ref A.d, .int c.lane, .int c.lanes, .int c.mine, .ref p, .int c.most, .ref A.s, .non, .ref A.f, .ref A.k]) = M2 at hs2 ⊢
  rw [hs2.s_]
  walk_at "vc"
  have hmost := hc.most
  have hst := ok.st
  have htl := ok.tcs_len
  refine ⟨is_m hs2.T_, fun q hq => ?_⟩
  have hc2 := hs2.cel.fresh (o := .lst (([] : List Th).map Th.d)) hq
  have hT : (mup M2 q (.lst (([] : List Th).map Th.d))) A.T = some (.lst X.TL) := hc2.at_ (A.T, .lst X.TL) (List.mem_cons_of_mem _ (List.mem_append_left _ (by unfold WkA.fix; simp [WkX.TL])))
  refine ap_m hT ⟨by have := ok.tcs_len; have h2 := congrArg List.length hs.tcs; rw [List.length_map] at h2; unfold WkX.TL; rw [List.length_reverse, List.length_map]; omega, ?_⟩
  have hs3 := hs2.pushT_ (t := []) hc2
  rw [show WkX.TL { X with x := p } = X.TL from rfl] at hs3
  change WkS A (WC K) c M0 (mup (mup M2 q (.lst [])) A.T (.lst (X.TL ++ [.ref q]))) _ _ at hs3
  generalize mup (mup M2 q (.lst [])) A.T (.lst (X.TL ++ [.ref q])) = M3 at hs3 ⊢
  rw [hs3.w_]
  walk_at "vc"
  rw [hs3.s_]
  walk_at "vc"
  refine ⟨is_m hs3.P_, fun q2 hq2 => ?_⟩
  have hc3 := hs3.cel.fresh (o := .dK (pusD [])) hq2
  have hP : (mup M3 q2 (.dK (pusD []))) A.P = some (.lst X.PL) := hc3.at_ (A.P, .lst X.PL) (List.mem_cons_of_mem _ (List.mem_append_left _ (by unfold WkA.fix; simp [WkX.PL])))
  refine ap_m hP ⟨by have := ok.tcn.1; have h2 := congrArg List.length hs.pus; rw [List.length_map] at h2; unfold WkX.PL; rw [List.length_reverse, List.length_map]; omega, ?_⟩
  have hs4 := hs3.pushP_ (t := []) hc3
  change WkS A (WC K) c M0 (mup (mup M3 q2 (.dK [])) A.P (.lst (X.PL ++ [.ref q2]))) _ (s.free t.bs) at hs4
  generalize mup (mup M3 q2 (.dK [])) A.P (.lst (X.PL ++ [.ref q2])) = M4 at hs4 ⊢
  unfold Ws.letOn at h
  rw [hw] at h
  have hfree := ok.free hw ht.bs ht.bl
  cases d with
  | join l x w e =>
    unfold Sm.word Sm.line Sm.rest
    walk_at "vc"
    rw [hs4.w_]
    walk_at "vc"
    refine ⟨w, t.os, c.lane.toNat, by rw [dO_eq, Int.toNat_of_nonneg hln], ht.os, ht.ne, fun r hr => ?_⟩
    have hn : ∀ f ∈ (s.free t.bs).frs, f.names.length ≤ 10000 := fun f hf => by
      have h2 := (hfree.1.nms f hf).2
      have h3 := hfree.1.tcs_len
      have h4 : (s.free t.bs).steps = s.steps := rfl
      omega
    refine ⟨A, c, M0, s.free t.bs, x, r, rfl, ⟨_, hs4⟩, ok.run (ok.wf (by rw [hw]; rfl)), hn, fun M' hm => h M' ?_⟩
    cases join_ans hr
    exact hm
  | _ => unfold Sm.word; walk_at "vc"; exact h _ ⟨_, hs4⟩
def spStoI (K : PySem.W.Frag) : SpT := fun ds M Q _ => ∃ a dx M0, ds = [.ref a] ∧ M0 a = none ∧ M = mup M0 a (.obj (He.ga K "Story") dx fl_Story []) ∧ ∀ t b T0 q P0 p l M', Cel M0 M' [(l, .lst []), (P0, .lst [.ref p]), (p, .dK []), (T0, .lst [.ref q]), (q, .lst []), (b, .lst []), (t, .lst []), (a, .obj (He.ga K "Story") dx fl_Story [.ref t, .int 0, .non, .ref b, .ref T0, .ref P0, .ref l])] → Q .non M'
theorem ok_Story___init (T : Tp K mg) : Fi P w K mg base CX0 1 "Story" (spStoI K) := by
  refine fi_top T e_Story___init 17 sc_Story___init (T.mkr 97) (T.glo 98) (by rintro _ M Q Et ⟨_, _, _, rfl, _⟩; rfl) (fun cdv A outer s H E hr => ⟨_, (qss_cons (qs_fld 0 fl_Story (c_Story_told T) (qv 0) (q_lstM qa_nil))
 (qss_cons (qs_fld 1 fl_Story (c_Story_steps T) (qv 0) q_int)
 (qss_cons (qs_fld 2 fl_Story (c_Story_end T) (qv 0) q_non)
 (qss_cons (qs_fld 3 fl_Story (c_Story_brought T) (qv 0) (q_lstM qa_nil))
 (qss_cons (qs_fld 4 fl_Story (c_Story_touches T) (qv 0) (q_lstM (qa_cons (q_lstM qa_nil) qa_nil)))
 (qss_cons (qs_fld 5 fl_Story (c_Story_puts T) (qv 0) (q_lstM (qa_cons q_dnewK qa_nil)))
 (qss_one (qs_fld 6 fl_Story (c_Story_lines T) (qv 0) (q_lstM qa_nil))))))))), ?_⟩) (fun _ _ _ _ _ _ us hl => match us, hl with | [_], _ => rfl)
  rintro _ M Q Et ⟨a, dx, M0, rfl, h0, rfl, h⟩
  have c0 := (Cel.nil (M := M0)).fresh (o := .obj (He.ga K "Story") dx fl_Story []) h0
  walk_at "vc"
  generalize mup M0 a (.obj (He.ga K "Story") dx fl_Story []) = M1 at c0 ⊢
  intro t ht
  have c1 := c0.fresh (o := .lst []) ht
  generalize mup M1 t (.lst []) = M2 at c1 ⊢
  rw [show M2 a = some (.obj (He.ga K "Story") dx fl_Story []) from c1.at_ (a, _) (by simp)]
  walk_at "vc"
  have c2 : Cel M0 (mup M2 a (.obj (He.ga K "Story") dx fl_Story [.ref t, .int 0, .non])) _ := c1.set_ 1 (a := a) (o' := .obj (He.ga K "Story") dx fl_Story [.ref t, .int 0, .non]) rfl
  dsimp only [List.set] at c2
  generalize mup M2 a (.obj (He.ga K "Story") dx fl_Story [.ref t, .int 0, .non]) = M3 at c2 ⊢
  intro b hb
  have c3 := c2.fresh (o := .lst []) hb
  generalize mup M3 b (.lst []) = M4 at c3 ⊢
  rw [show M4 a = some (.obj (He.ga K "Story") dx fl_Story [.ref t, .int 0, .non]) from c3.at_ (a, _) (by simp)]
  walk_at "vc"
  have c4 : Cel M0 (mup M4 a (.obj (He.ga K "Story") dx fl_Story [.ref t, .int 0, .non, .ref b])) _ := c3.set_ 2 (a := a) (o' := .obj (He.ga K "Story") dx fl_Story [.ref t, .int 0, .non, .ref b]) rfl
  dsimp only [List.set] at c4
  generalize mup M4 a (.obj (He.ga K "Story") dx fl_Story [.ref t, .int 0, .non, .ref b]) = M5 at c4 ⊢
  intro q hq
  have c5 := c4.fresh (o := .lst []) hq
  generalize mup M5 q (.lst []) = M6 at c5 ⊢
  intro T0 hT0
  have c6 := c5.fresh (o := .lst [.ref q]) hT0
  generalize mup M6 T0 (.lst [.ref q]) = M7 at c6 ⊢
  rw [show M7 a = some (.obj (He.ga K "Story") dx fl_Story [.ref t, .int 0, .non, .ref b]) from c6.at_ (a, _) (by simp)]
  walk_at "vc"
  have c7 : Cel M0 (mup M7 a (.obj (He.ga K "Story") dx fl_Story [.ref t, .int 0, .non, .ref b, .ref T0])) _ := c6.set_ 4 (a := a) (o' := .obj (He.ga K "Story") dx fl_Story [.ref t, .int 0, .non, .ref b, .ref T0]) rfl
  dsimp only [List.set] at c7
  generalize mup M7 a (.obj (He.ga K "Story") dx fl_Story [.ref t, .int 0, .non, .ref b, .ref T0]) = M8 at c7 ⊢
  intro p hp
  have c8 := c7.fresh (o := .dK []) hp
  generalize mup M8 p (.dK []) = M9 at c8 ⊢
  intro P0 hP0
  have c9 := c8.fresh (o := .lst [.ref p]) hP0
  generalize mup M9 P0 (.lst [.ref p]) = M10 at c9 ⊢
  rw [show M10 a = some (.obj (He.ga K "Story") dx fl_Story [.ref t, .int 0, .non, .ref b, .ref T0]) from c9.at_ (a, _) (by simp)]
  walk_at "vc"
  have c10 : Cel M0 (mup M10 a (.obj (He.ga K "Story") dx fl_Story [.ref t, .int 0, .non, .ref b, .ref T0, .ref P0])) _ := c9.set_ 6 (a := a) (o' := .obj (He.ga K "Story") dx fl_Story [.ref t, .int 0, .non, .ref b, .ref T0, .ref P0]) rfl
  dsimp only [List.set] at c10
  generalize mup M10 a (.obj (He.ga K "Story") dx fl_Story [.ref t, .int 0, .non, .ref b, .ref T0, .ref P0]) = M11 at c10 ⊢
  intro l hl
  have c11 := c10.fresh (o := .lst []) hl
  generalize mup M11 l (.lst []) = M12 at c11 ⊢
  rw [show M12 a = some (.obj (He.ga K "Story") dx fl_Story [.ref t, .int 0, .non, .ref b, .ref T0, .ref P0]) from c11.at_ (a, _) (by simp)]
  walk_at "vc"
  have c12 : Cel M0 (mup M12 a (.obj (He.ga K "Story") dx fl_Story [.ref t, .int 0, .non, .ref b, .ref T0, .ref P0, .ref l])) _ := c11.set_ 7 (a := a) (o' := .obj (He.ga K "Story") dx fl_Story [.ref t, .int 0, .non, .ref b, .ref T0, .ref P0, .ref l]) rfl
  dsimp only [List.set] at c12
  generalize mup M12 a (.obj (He.ga K "Story") dx fl_Story [.ref t, .int 0, .non, .ref b, .ref T0, .ref P0, .ref l]) = M13 at c12 ⊢
  exact h t b T0 q P0 p l _ c12
def isRow (M : MH) (d : D) (bs : List Int) : Prop := d = .lst (bs.map .int) ∨ ∃ q, d = .ref q ∧ M q = some (.lst (bs.map .int))
theorem isRow.at_ {M M' : MH} {d : D} {bs : List Int} (h : isRow M d bs) (ho : ∀ a o, M a = some o → M' a = some o) : lstOf M' d = some (bs.map .int) := by
  rcases h with rfl | ⟨q, rfl, hq⟩
  · rfl
  · exact lstOf_at (ho q _ hq)
def spWkI (K : PySem.W.Frag) : SpT := fun ds M Q _ => ∃ (a dx : Addr) (M0 : MH) (pg : Pg) (lane lanes mine : Int) (bs : List Int) (bd : D) (most : Nat), ds = [.ref a, .lst (pgD pg), .int lane, .int lanes, .int mine, bd, .int most] ∧ M0 a = none ∧ M = mup M0 a (.obj (He.ga K "Walker") dx fl_Walker []) ∧ isRow M0 bd bs ∧ bs.length ≤ 1000 ∧
  (pg.map (·.name)).Nodup ∧ pg.length ≤ 1000 ∧ (∃ o ∈ pg, o.name = Str.ofString "main") ∧ ∀ A M', A.w = a → WkE A (WC K) (Lc.mk lane lanes (wrapF mine) most pg) M0 M' (start (Lc.mk lane lanes (wrapF mine) most pg) (bs.map wrapF)) → Q .non M'
theorem ok_Walker___init (T : Tp K mg) : Fi P w K mg base CX0 3 "Walker" (spWkI K) := by
  refine fi_top T e_Walker___init 38 sc_Walker___init (T.mkr 106) (T.glo 107) (by rintro _ M Q Et ⟨_, _, _, _, _, _, _, _, _, _, rfl, _⟩; rfl) (fun cdv A outer s H E hr => ⟨_, (qss_cons (qs_fld 0 fl_Walker (c_Walker_defs T) (qv 0) q_dnewK)
 (qss_cons (qs_for PassesOwn.never rfl (qi_list (qv 1)) (qg_name (i := 7) sc_Walker___init.nd)
  (qss_one (qs_asg (qv 7) (qg_sub (q_fld 0 fl_Walker (c_Walker_defs T) (qv 0)) (q_ix (qv 7) q_int) (sq_dict (hu_of hr))))))
 (qss_cons (qs_fld 1 fl_Walker (c_Walker_lane T) (qv 0) (qv 2))
 (qss_cons (qs_fld 2 fl_Walker (c_Walker_lanes T) (qv 0) (qv 3))
 (qss_cons (qs_fld 3 fl_Walker (c_Walker_mine T) (qv 0) (q_call (ok_wrapped T) (hr.mono (by decide)) (qa_cons (qv 4) qa_nil)))
 (qss_cons (qs_fld 4 fl_Walker (c_Walker_boxes T) (qv 0) (q_lcV rfl sc_Walker___init.nd (qi_list (qv 5)) (blkOk_by (N := nm_Walker___init) (sc := defScope s_Walker___init) (own := [(("number" : Str), 9)]) (by decide +kernel)) go_name (fun _ _ _ _ _ => (pg_name (i := 9) sc_Walker___init.nd rfl (Or.inl rfl))) (fun _ _ _ _ _ => qts_nil) (fun _ _ _ _ _ => (q_call (ok_wrapped T) (hr.mono (by decide)) (qa_cons (qv 9) qa_nil)))))
 (qss_cons (qs_fld 5 fl_Walker (c_Walker_most T) (qv 0) (qv 6))
 (qss_cons (qs_fld 6 fl_Walker (c_Walker_story T) (qv 0) (q_make0 fl_Story (ok_Story___init T) (hr.mono (by decide))))
 (qss_cons (qs_fld 7 fl_Walker (c_Walker_waiting T) (qv 0) q_non)
 (qss_cons (qs_set (i := 8) sc_Walker___init.nd (q_dget (hu_of hr) (q_fld 0 fl_Walker (c_Walker_defs T) (qv 0)) q_str))
 (qss_cons (qs_fld 8 fl_Walker (c_Walker_frames T) (qv 0) (q_lstM (qa_cons (q_make fl_Frame (ok_Frame___init T) (hr.mono (by decide)) (qa_cons q_dnewK (qa_cons (q_ix (qv 8) q_int) (qa_cons q_str qa_nil)))) qa_nil)))
 (qss_one (qs_fld 9 fl_Walker (c_Walker_blocks T) (qv 0) (q_lstM (qa_cons (q_make fl_Block (ok_Block___init T) (hr.mono (by decide)) (qa_cons (q_ix (qv 8) q_int) (qa_cons q_str qa_nil))) qa_nil))))))))))))))), ?_⟩) (fun _ _ _ _ _ _ us hl => match us, hl with | [_, _, _, _, _, _, _], _ => rfl)
  rintro _ M Q Et ⟨a, dx, M0, pg, lane, lanes, mine, bs, bd, most, rfl, h0, rfl, hbd, hbl, hnd, hpl, hmain, h⟩
  have c0 := (Cel.nil (M := M0)).fresh (o := .obj (He.ga K "Walker") dx fl_Walker []) h0
  walk_at "vc"
  generalize mup M0 a (.obj (He.ga K "Walker") dx fl_Walker []) = M1 at c0 ⊢
  intro d hd
  have c1 := c0.fresh (o := .dK []) hd
  generalize mup M1 d (.dK []) = M2 at c1 ⊢
  rw [show M2 a = some (.obj (He.ga K "Walker") dx fl_Walker []) from c1.at_ (a, _) (by simp)]
  walk_at "vc"
  have c2 : Cel M0 (mup M2 a (.obj (He.ga K "Walker") dx fl_Walker [.ref d])) _ := c1.set_ 1 (a := a) (o' := .obj (He.ga K "Walker") dx fl_Walker [.ref d]) rfl
  dsimp only [List.set] at c2
  generalize mup M2 a (.obj (He.ga K "Walker") dx fl_Walker [.ref d]) = M3 at c2 ⊢
  refine for_map pg Df.d rfl (fun ys τ M1 => Cel M0 M1 [(d, .dK (defsD ys)), (a, .obj (He.ga K "Walker") dx fl_Walker [.ref d])] ∧ ∃ v7 v8 v9, τ = [some (.ref a), some (.lst (pgD pg)), some (.int lane), some (.int lanes), some (.int mine), some bd, some (.int most), v7, v8, v9]) ⟨c2, none, none, none, rfl⟩ (fun _ _ _ _ => trivial) ?_ ?_
  · rintro ys o zs τ M4 Nx hx ⟨c3, v7, v8, v9, rfl⟩ hN
    have hle := congrArg List.length hx
    rw [List.length_append, List.length_cons] at hle
    have hno : o.name ∉ ys.map (·.name) := by
      rw [hx, List.map_append, List.map_cons, List.nodup_append] at hnd
      exact fun hm => hnd.2.2 _ hm _ (List.mem_cons_self ..) rfl
    rw [show o.d = .tup [.str o.name, .lst (o.ps.map .str), .lst (stD o.body), .int o.first, .int o.last] from rfl]
    walk_at "vc"
    rw [show M4 a = some (.obj (He.ga K "Walker") dx fl_Walker [.ref d]) from c3.at_ (a, _) (by simp)]
    walk_at "vc"
    rw [show M4 d = some (.dK (defsD ys)) from c3.at_ (d, _) (by simp)]
    walk_at "vc"
    refine ⟨by unfold defsD; rw [List.length_map]; omega, hN _ _ ⟨?_, _, _, _, rfl⟩⟩
    rw [show putM (defsD ys) (.inr o.name) (.tup [.str o.name, .lst (o.ps.map .str), .lst (stD o.body), .int o.first, .int o.last]) = defsD (ys ++ [o]) from defs_put hno]
    exact c3.set_ 0 (a := d) (o' := .dK (defsD (ys ++ [o]))) rfl
  · rintro τ M4 ⟨c3, v7, v8, v9, rfl⟩
    walk_at "vc"
    rw [show M4 a = some (.obj (He.ga K "Walker") dx fl_Walker [.ref d]) from c3.at_ (a, _) (by simp)]
    walk_at "vc"
    refine ⟨mine, rfl, ?_⟩
    walk_at "vc"
    have c4 : Cel M0 (mup M4 a (.obj (He.ga K "Walker") dx fl_Walker [.ref d, .int lane, .int lanes, .int (wrapF mine)])) _ := c3.set_ 1 (a := a) (o' := .obj (He.ga K "Walker") dx fl_Walker [.ref d, .int lane, .int lanes, .int (wrapF mine)]) rfl
    dsimp only [List.set] at c4
    generalize mup M4 a (.obj (He.ga K "Walker") dx fl_Walker [.ref d, .int lane, .int lanes, .int (wrapF mine)]) = M5 at c4 ⊢
    rw [hbd.at_ c4.old]
    walk_at "vc"
    refine lc_map bs D.int (fun v => .int (wrapF v)) rfl (by rw [PySem.sizeLine_eq]; omega) (hbd.at_ c4.old) (fun v R R0 ho h1 => ?_) ?_
    · walk_at "vc"
      exact ⟨v, rfl, h1⟩
    walk_at "vc"
    intro x0 hx0
    rw [show bs.map (fun v => D.int (wrapF v)) = (bs.map wrapF).map .int by rw [List.map_map]; rfl]
    have c5 := c4.fresh (o := .lst ((bs.map wrapF).map .int)) hx0
    generalize mup M5 x0 (.lst ((bs.map wrapF).map .int)) = M6 at c5 ⊢
    rw [show M6 a = some (.obj (He.ga K "Walker") dx fl_Walker [.ref d, .int lane, .int lanes, .int (wrapF mine)]) from c5.at_ (a, _) (by simp)]
    walk_at "vc"
    have c6 : Cel M0 (mup M6 a (.obj (He.ga K "Walker") dx fl_Walker [.ref d, .int lane, .int lanes, .int (wrapF mine), .ref x0, .int most])) _ := c5.set_ 2 (a := a) (o' := .obj (He.ga K "Walker") dx fl_Walker [.ref d, .int lane, .int lanes, .int (wrapF mine), .ref x0, .int most]) rfl
    dsimp only [List.set] at c6
    generalize mup M6 a (.obj (He.ga K "Walker") dx fl_Walker [.ref d, .int lane, .int lanes, .int (wrapF mine), .ref x0, .int most]) = M7 at c6 ⊢
    intro st sdx hst
    refine ⟨st, sdx, M7, rfl, hst, rfl, fun t b T0 q P0 p l M8 cs => ⟨rfl, ?_⟩⟩
    have c7 := c6.glue cs
    dsimp only [List.cons_append, List.nil_append] at c7
    rw [show M8 a = some (.obj (He.ga K "Walker") dx fl_Walker [.ref d, .int lane, .int lanes, .int (wrapF mine), .ref x0, .int most]) from c7.at_ (a, _) (by simp)]
    walk_at "vc"
    have c8 : Cel M0 (mup M8 a (.obj (He.ga K "Walker") dx fl_Walker [.ref d, .int lane, .int lanes, .int (wrapF mine), .ref x0, .int most, .ref st, .non])) _ := c7.set_ 10 (a := a) (o' := .obj (He.ga K "Walker") dx fl_Walker [.ref d, .int lane, .int lanes, .int (wrapF mine), .ref x0, .int most, .ref st, .non]) rfl
    dsimp only [List.set] at c8
    generalize mup M8 a (.obj (He.ga K "Walker") dx fl_Walker [.ref d, .int lane, .int lanes, .int (wrapF mine), .ref x0, .int most, .ref st, .non]) = M9 at c8 ⊢
    rw [show M9 d = some (.dK (defsD pg)) from c8.at_ (d, _) (by simp)]
    walk_at "vc"
    rw [defs_val hmain]
    walk_at "vc"
    have hmo : defOf pg (Str.ofString "main") = mainOf pg := rfl
    rw [hmo]
    generalize hgo : mainOf pg = o
    unfold Df.d
    intro n0 hn0
    have c9 := c8.fresh (o := .dK []) hn0
    generalize mup M9 n0 (.dK []) = M10 at c9 ⊢
    walk_at "vc"
    intro f0 fdx hf0
    refine ⟨f0, fdx, n0, _, _, rfl, mup_same, rfl, ?_⟩
    rw [mup_mup]
    have c10 := c9.fresh (o := .obj (He.ga K "Frame") fdx fl_Frame [.ref n0, .int o.last, .str ""]) hf0
    generalize mup M10 f0 (.obj (He.ga K "Frame") fdx fl_Frame [.ref n0, .int o.last, .str ""]) = M11 at c10 ⊢
    intro F0 hF0
    have c11 := c10.fresh (o := .lst [.ref f0]) hF0
    generalize mup M11 F0 (.lst [.ref f0]) = M12 at c11 ⊢
    rw [show M12 a = some (.obj (He.ga K "Walker") dx fl_Walker [.ref d, .int lane, .int lanes, .int (wrapF mine), .ref x0, .int most, .ref st, .non]) from c11.at_ (a, _) (by simp)]
    walk_at "vc"
    have c12 : Cel M0 (mup M12 a (.obj (He.ga K "Walker") dx fl_Walker [.ref d, .int lane, .int lanes, .int (wrapF mine), .ref x0, .int most, .ref st, .non, .ref F0])) _ := c11.set_ 13 (a := a) (o' := .obj (He.ga K "Walker") dx fl_Walker [.ref d, .int lane, .int lanes, .int (wrapF mine), .ref x0, .int most, .ref st, .non, .ref F0]) rfl
    dsimp only [List.set] at c12
    generalize mup M12 a (.obj (He.ga K "Walker") dx fl_Walker [.ref d, .int lane, .int lanes, .int (wrapF mine), .ref x0, .int most, .ref st, .non, .ref F0]) = M13 at c12 ⊢
    intro b0 bdx hb0
    refine ⟨b0, bdx, _, _, rfl, mup_same, rfl, ?_⟩
    rw [mup_mup]
    have c13 := c12.fresh (o := .obj (He.ga K "Block") bdx fl_Block [.lst (stD o.body), .int 0, .str "def"]) hb0
    generalize mup M13 b0 (.obj (He.ga K "Block") bdx fl_Block [.lst (stD o.body), .int 0, .str "def"]) = M14 at c13 ⊢
    intro K0 hK0
    have c14 := c13.fresh (o := .lst [.ref b0]) hK0
    generalize mup M14 K0 (.lst [.ref b0]) = M15 at c14 ⊢
    rw [show M15 a = some (.obj (He.ga K "Walker") dx fl_Walker [.ref d, .int lane, .int lanes, .int (wrapF mine), .ref x0, .int most, .ref st, .non, .ref F0]) from c14.at_ (a, _) (by simp)]
    walk_at "vc"
    have c15 : Cel M0 (mup M15 a (.obj (He.ga K "Walker") dx fl_Walker [.ref d, .int lane, .int lanes, .int (wrapF mine), .ref x0, .int most, .ref st, .non, .ref F0, .ref K0])) _ := c14.set_ 15 (a := a) (o' := .obj (He.ga K "Walker") dx fl_Walker [.ref d, .int lane, .int lanes, .int (wrapF mine), .ref x0, .int most, .ref st, .non, .ref F0, .ref K0]) rfl
    dsimp only [List.set] at c15
    generalize mup M15 a (.obj (He.ga K "Walker") dx fl_Walker [.ref d, .int lane, .int lanes, .int (wrapF mine), .ref x0, .int most, .ref st, .non, .ref F0, .ref K0]) = M16 at c15 ⊢
    refine h ⟨a, st, d, t, b, l, T0, P0, F0, K0, dx, sdx⟩ _ rfl ⟨⟨x0, [(q, [])], [(p, [])], [(f0, fdx, n0, ⟨[], o.last, Str.ofString ""⟩)], [(b0, bdx, ⟨o.body, 0, .df⟩)]⟩, ?_, rfl, rfl, by rw [← hgo]; rfl, by rw [← hgo]; rfl⟩
    exact c15.perm (List.Perm.map (fun n => ([(K0, .lst [.ref b0]), (b0, .obj (He.ga K "Block") bdx fl_Block [.lst (stD o.body), .int 0, .str "def"]), (F0, .lst [.ref f0]), (f0, .obj (He.ga K "Frame") fdx fl_Frame [.ref n0, .int o.last, .str ""]), (n0, .dK []), (l, .lst []), (P0, .lst [.ref p]), (p, .dK []), (T0, .lst [.ref q]), (q, .lst []), (b, .lst []), (t, .lst []), (st, .obj (He.ga K "Story") sdx fl_Story [.ref t, .int 0, .non, .ref b, .ref T0, .ref P0, .ref l]), (x0, .lst ((bs.map wrapF).map .int)), (d, .dK (defsD pg)), (a, .obj (He.ga K "Walker") dx fl_Walker [.ref d, .int lane, .int lanes, .int (wrapF mine), .ref x0, .int most, .ref st, .non, .ref F0, .ref K0])] : List (Addr × MO)).getD n (a, .lst [])) (show [0, 1, 2, 3, 4, 5, 6, 7, 8, 9, 10, 11, 12, 13, 14, 15].Perm [15, 12, 14, 11, 10, 5, 8, 6, 13, 2, 0, 9, 7, 3, 4, 1] by decide))
def spAlone (K : PySem.W.Frag) : SpT := fun ds M Q _ => ∃ (pg : Pg) (lane lanes mine : Int) (bs : List Int) (bd : D) (most : Nat) (ls : List Lt), ds = [.lst (pgD pg), .int lane, .int lanes, .int mine, bd, .int most, .lst (ls.map Lt.d)] ∧ isRow M bd bs ∧ bs.length ≤ 1000 ∧
  okLc (Lc.mk lane lanes (wrapF mine) most pg) ∧ 0 ≤ lane ∧ (∃ o ∈ pg, o.name = Str.ofString "main") ∧ (∀ t ∈ ls, okLt t) ∧ ∀ A M', StoE A (WC K) M M' (storyF (Lc.mk lane lanes (wrapF mine) most pg) (bs.map wrapF) ls) → Q (.ref A.s) M'
theorem ok_alone (T : Tp K mg) : Fn P w K mg base CX0 48 "alone" (spAlone K) := by
  refine fn_top T 39 e_alone (m_alone T) sc_alone (by rintro _ M Q Et ⟨_, _, _, _, _, _, _, _, rfl, _⟩; rfl) (fun cdv A outer s H E hr => ⟨_, (qss_cons (qs_set (i := 7) sc_alone.nd (q_make fl_Walker (ok_Walker___init T) (hr.mono (by decide)) (qa_cons (qv 0) (qa_cons (qv 1) (qa_cons (qv 2) (qa_cons (qv 3) (qa_cons (qv 4) (qa_cons (qv 5) qa_nil))))))))
 (qss_cons (qs_expr (q_call (ok_go_on T) (hr.mono (by decide)) (qa_cons (qv 7) qa_nil)))
 (qss_cons (qs_for PassesOwn.never rfl (qi_list (qv 6)) (qg_name (i := 8) sc_alone.nd)
  (qss_one (qs_if (qt_cmp oq_notN (q_fld 7 fl_Walker (c_Walker_waiting T) (qv 7)) q_non)
  (qss_cons (qs_expr (q_call (ok_let_on T) (hr.mono (by decide)) (qa_cons (qv 7) (qa_cons (qv 8) qa_nil))))
 (qss_one (qs_expr (q_call (ok_go_on T) (hr.mono (by decide)) (qa_cons (qv 7) qa_nil)))))
  qss_nil)))
 (qss_one (qs_ret (q_fld 6 fl_Walker (c_Walker_story T) (qv 7))))))), ?_⟩) (fun _ _ _ _ _ _ us hl => match us, hl with | [_, _, _, _, _, _, _], _ => rfl)
  rintro _ M Q Et ⟨pg, lane, lanes, mine, bs, bd, most, ls, rfl, hbd, hbl, hc, hln, hm, hls, h⟩
  walk_at "vc"
  intro a dx ha
  refine ⟨a, dx, M, pg, lane, lanes, mine, bs, bd, most, rfl, ha, rfl, hbd, hbl, hc.nd, hc.few, hm, fun A M1 hA hs => ⟨rfl, ?_⟩⟩
  subst hA
  have ok0 := start_ok hc hm (bs := bs.map wrapF) (fun v hv => by obtain ⟨u, _, rfl⟩ := List.mem_map.mp hv; exact wrap_in u) (by rw [List.length_map]; exact hbl)
  refine ⟨A, _, M, _, rfl, hs, hc, ok0, fun M2 hs2 => ?_⟩
  have ok1 := (go_ok hc ok0).1
  unfold storyF at h
  generalize (start (Lc.mk lane lanes (wrapF mine) most pg) (bs.map wrapF)).go (Lc.mk lane lanes (wrapF mine) most pg) = s0 at h hs2 ok1
  refine for_map ls Lt.d rfl (fun ys τ M1 => WkE A (WC K) (Lc.mk lane lanes (wrapF mine) most pg) M M1 (s0.letters (Lc.mk lane lanes (wrapF mine) most pg) ys) ∧ ∃ v8, τ = [some (.lst (pgD pg)), some (.int lane), some (.int lanes), some (.int mine), some bd, some (.int most), some (.lst (ls.map Lt.d)), some (.ref A.w), v8]) ⟨hs2, none, rfl⟩ (fun _ _ _ _ => trivial) ?_ ?_
  · rintro ys t zs τ M3 Nx hx ⟨hs3, v8, rfl⟩ hN
    have ok3 := ok1.letters hc ys _ (fun x hx2 => hls x (by rw [hx]; exact List.mem_append_left _ hx2))
    have ht : okLt t := hls t (by rw [hx]; simp)
    have e1 := letters_app (c := Lc.mk lane lanes (wrapF mine) most pg) ys [t] s0
    generalize s0.letters (Lc.mk lane lanes (wrapF mine) most pg) ys = s3 at hs3 ok3 e1
    obtain ⟨X3, hs3⟩ := hs3
    walk_at "vc"
    rw [hs3.w_]
    walk_at "vc"
    cases hw : s3.wait with
    | none =>
      unfold waitD
      walk_at "vc"
      refine hN _ _ ⟨?_, _, rfl⟩
      rw [e1, show s3.letters (Lc.mk lane lanes (wrapF mine) most pg) [t] = s3 from if_neg (by rw [hw]; decide)]
      exact ⟨X3, hs3⟩
    | some d =>
      rw [show waitD (some d) = .tup (.str d.word :: .int d.line :: d.rest) from sm_d d]
      walk_at "vc"
      refine ⟨A, _, M, s3, d, t, rfl, ⟨X3, hs3⟩, ok3, hc, hln, ht, hw, fun M4 hs4 => ?_⟩
      walk_at "vc"
      refine ⟨A, _, M, _, rfl, hs4, hc, ok3.letOn hw ht, fun M5 hs5 => hN _ _ ⟨?_, _, rfl⟩⟩
      rw [e1, show s3.letters (Lc.mk lane lanes (wrapF mine) most pg) [t] = (s3.letOn (Lc.mk lane lanes (wrapF mine) most pg) t).go (Lc.mk lane lanes (wrapF mine) most pg) from if_pos (by rw [hw]; rfl)]
      exact hs5
  · rintro τ M3 ⟨hs3, v8, rfl⟩
    have hst := hs3.story
    obtain ⟨X3, hs3⟩ := hs3
    walk_at "vc"
    rw [hs3.w_]
    walk_at "vc"
    exact h A M3 hst
end
end K46
local macro_rules | `(tactic| walk_at "vc") => `(tactic| simp only [Tl.pl_names, Tl.pl_defs, Tl.pl_room, Tl.pl_main, Tl.pl_opened, Tl.p3_defs, Tl.nw_worth, Tl.nw_lane, Tl.nw_mine, Tl.nw_names, Tl.nw_boxes, Tl.nw_letters, Tl.nw_most, Tl.nw_told, Tl.nw_lines, Tl.nw_brought, Tl.nw_touches, Tl.nw_puts, Tl.nw_end, Tl.nw_over, Tl.uDispV, Tl.uVals0, Tl.uVals1, Tl.uUpd, Tl.umClear, Tl.ucPr, Tl.ugLs, Tl.utSdk, Tl.utSm, Tl.umSplit, Tl.umStarts, Tl.umJoin, Tl.ucStr, Tl.ucIntS, Tl.ubInS, Tl.uZiT, Tl.uDisp1, Tl.uIsB, Tl.uSortDI, Tl.op_lane, Tl.op_lanes, Tl.op_mine, Tl.op_num, Tl.op_name, Tl.op_box, Tl.cut_tail, Tl.val_name, Tl.val_row, Tl.val_def, Tl.val_back, Tl.ofS_inj, String.reduceEq, Tl.uDic, Tl.oDA_ki, Tl.oDA_ks, Tl.oDA_t, Tl.oPA_ki, Tl.oPA_ks, Tl.oPA_t, Tl.consK_s, Tl.kT_nil, Tl.kT_i, Tl.kT_s, Tl.uzDict, Tl.uIn, Tl.uRepS, Tl.uRep, Tl.uRepM, Tl.uCatT, Tl.uSlT, Tl.oLD_k, Tl.oLD_t, Tl.uLenD, Tl.z_tDnK, Tl.z_tDnT, Tl.z_tDg, Tl.z_tDi, Tl.z_tDg2, Tl.z_tRe, Tl.z_sRe, Tl.wip, Tl.uObj, Tl.oAt_i, Tl.cxK, Tl.cxKn, true_or, or_true, or_false, false_or, Nat.zero_le, Nat.le_refl, Tl.mup_same, Tl.mup_mup, Tl.uAlt, Tl.z_tFd, Tl.z_sFd, Tl.z_sFa, Tl.z_tMe, Tl.z_tMk, Tl.nthD, Tl.putD, Tl.uFo, Tl.uLcF, Tl.uLcV', Tl.uAsRef, Tl.z_sNx, Tl.z_sSq, Tl.z_sBk, Tl.z_sCt, Tl.z_sDr, Tl.z_sRt, Tl.z_sRtN, Tl.z_sIf, Tl.z_sAs, Tl.z_gN, Tl.z_gSb, Tl.z_tK, Tl.z_tO, Tl.z_tU, Tl.z_tCa, Tl.z_tN, Tl.z_tCs, Tl.z_tAn, Tl.tOr', Tl.z_tNo, Tl.z_tIfE, Tl.z_tCl, Tl.z_tTu, Tl.z_tLi, Tl.z_tLm, Tl.z_tSc, Tl.z_oNo, Tl.z_tMt, Tl.z_tMt0, Tl.z_tYe, Tl.z_tLt, Tl.kit_ii, Tl.kit_ib, Tl.kit_bi, Tl.kit_bb, Tl.kit_si, Tl.kit_ss, Tl.kit_is, Tl.kit_tt, Tl.kit_ll, Tl.kit_lt, Tl.kit_tl, Tl.kit_ts, Tl.kit_ls, Tl.kit_sl, Tl.kit_st, Tl.kit_it, Tl.kit_il, Tl.kit_dd, Tl.kit_ni, Tl.kit_nb, Tl.begin_, Tl.nth, List.map, List.length, List.replicate, List.append, List.set, List.nil_append, List.cons_append, List.append_nil, Nat.reduceAdd, Nat.reduceSub, Nat.zero_add, reduceIte, Bool.false_eq_true, Bool.true_eq_false, Bool.not_eq_true', Bool.not_eq_false', Bool.not_true, Bool.not_false, not_true_eq_false, not_false_eq_true, decide_eq_true_eq, decide_eq_false_iff_not, decide_not, Option.isSome_some, true_and, and_true, Int.reduceLT, Int.reduceLE, Int.reduceNeg, List.cons.injEq, Option.some.injEq, PySem.sizeLine_eq, Nat.reduceLeDiff, List.length_map, List.length_append, List.length_cons, List.length_nil, Tl.oBl_i, Tl.oInt_i, Tl.oStr_i, Tl.oTup_i, Tl.oSome_i, Tl.oBl_if, Tl.uV, Tl.uBo, Tl.uAnV, Tl.uOrV, Tl.uNoV, Tl.uCh, Tl.uNl0, Tl.uCs1, Tl.uTp, Tl.uAg, Tl.uInt, Tl.uInt0, Tl.uNegI, Tl.uEq, Tl.uNe, Tl.dScal_ii, Tl.dScal_ss, Tl.dScal_bb, Tl.dScal_nn, Tl.dScal_ni, Tl.dScal_in, Tl.dScal_is, Tl.dScal_si, Tl.uIsN, Tl.uNotN, Tl.nonD_n, Tl.nonD_i, Tl.nonD_s, Tl.nonD_t, Tl.nonD_l, Tl.nonD_b, Tl.nonD_r, Tl.uCatS, Tl.uCatL, Tl.uCatM, Tl.lstOf_l, Tl.lstOf_c, Tl.lstOf_m, Tl.trkOf_l, Tl.trkOf_m, Tl.tupOf_t, Tl.tupOf_b, Tl.seqOf_t, Tl.seqOf_b, Tl.seqOf_l, Tl.seqOf_c, Tl.seqOf_r, Tl.uIx_t, Tl.uIx_b, Tl.uIx_l, Tl.uIx_c, Tl.uIx_s, Tl.uIx_r, Tl.uYes, Tl.uSlL, Tl.uSlM, Tl.uSlS, Tl.uIsi, Tl.dTy_n, Tl.dTy_b, Tl.dTy_i, Tl.dTy_s, Tl.dTy_t, Tl.dTy_l, Tl.uLen, Tl.lenOf_t, Tl.lenOf_b, Tl.lenOf_l, Tl.lenOf_c, Tl.lenOf_m, Tl.uIntI, Tl.uIntB, Tl.uLs, Tl.uTu, Tl.oL1_i, Tl.oL2_i, Tl.oL3_i, Tl.uR1, Tl.uR2, Tl.uR3, Tl.uEn, Tl.uZi, Tl.uSt, Tl.uRv, Tl.uDivmod, Tl.uList, Tl.uListM, Tl.uSum, Tl.uMax, Tl.uMin, Tl.intLst_l, Tl.intLst_c, Tl.blLst_l, Tl.uMax2, Tl.uMin2, Tl.uAbs, Tl.uAny, Tl.uAll, Tl.mLst_m, Tl.uAppend, Tl.uExtend, Tl.uPop, Tl.uSet, Tl.lMt_l, Tl.isS_m, Tl.atI_0, Tl.atI_1, Tl.atI_2, Tl.atI_3, Tl.atI_4, Tl.atI_5])
local macro_rules | `(tactic| walk_at "vh") => `(tactic| simp only [Tl.pl_names, Tl.pl_defs, Tl.pl_room, Tl.pl_main, Tl.pl_opened, Tl.p3_defs, Tl.nw_worth, Tl.nw_lane, Tl.nw_mine, Tl.nw_names, Tl.nw_boxes, Tl.nw_letters, Tl.nw_most, Tl.nw_told, Tl.nw_lines, Tl.nw_brought, Tl.nw_touches, Tl.nw_puts, Tl.nw_end, Tl.nw_over, Tl.uDispV, Tl.uVals0, Tl.uVals1, Tl.uUpd, Tl.umClear, Tl.ucPr, Tl.ugLs, Tl.utSdk, Tl.utSm, Tl.umSplit, Tl.umStarts, Tl.umJoin, Tl.ucStr, Tl.ucIntS, Tl.ubInS, Tl.uZiT, Tl.uDisp1, Tl.uIsB, Tl.uSortDI, Tl.op_lane, Tl.op_lanes, Tl.op_mine, Tl.op_num, Tl.op_name, Tl.op_box, Tl.cut_tail, Tl.val_name, Tl.val_row, Tl.val_def, Tl.val_back, Tl.ofS_inj, String.reduceEq, Tl.uDic, Tl.oDA_ki, Tl.oDA_ks, Tl.oDA_t, Tl.oPA_ki, Tl.oPA_ks, Tl.oPA_t, Tl.consK_s, Tl.kT_nil, Tl.kT_i, Tl.kT_s, Tl.uzDict, Tl.uIn, Tl.uRepS, Tl.uRep, Tl.uRepM, Tl.uCatT, Tl.uSlT, Tl.oLD_k, Tl.oLD_t, Tl.uLenD, Tl.z_tDnK, Tl.z_tDnT, Tl.z_tDg, Tl.z_tDi, Tl.z_tDg2, Tl.z_tRe, Tl.z_sRe, Tl.wip, Tl.uObj, Tl.oAt_i, Tl.cxK, Tl.cxKn, true_or, or_true, or_false, false_or, Nat.zero_le, Nat.le_refl, Tl.mup_same, Tl.mup_mup, Tl.uAlt, Tl.z_tFd, Tl.z_sFd, Tl.z_sFa, Tl.z_tMe, Tl.z_tMk, Tl.nthD, Tl.putD, Tl.uFo, Tl.uLcF, Tl.uLcV', Tl.uAsRef, Tl.z_sNx, Tl.z_sSq, Tl.z_sBk, Tl.z_sCt, Tl.z_sDr, Tl.z_sRt, Tl.z_sRtN, Tl.z_sIf, Tl.z_sAs, Tl.z_gN, Tl.z_gSb, Tl.z_tK, Tl.z_tO, Tl.z_tU, Tl.z_tCa, Tl.z_tN, Tl.z_tCs, Tl.z_tAn, Tl.tOr', Tl.z_tNo, Tl.z_tIfE, Tl.z_tCl, Tl.z_tTu, Tl.z_tLi, Tl.z_tLm, Tl.z_tSc, Tl.z_oNo, Tl.z_tMt, Tl.z_tMt0, Tl.z_tYe, Tl.z_tLt, Tl.kit_ii, Tl.kit_ib, Tl.kit_bi, Tl.kit_bb, Tl.kit_si, Tl.kit_ss, Tl.kit_is, Tl.kit_tt, Tl.kit_ll, Tl.kit_lt, Tl.kit_tl, Tl.kit_ts, Tl.kit_ls, Tl.kit_sl, Tl.kit_st, Tl.kit_it, Tl.kit_il, Tl.kit_dd, Tl.kit_ni, Tl.kit_nb, Tl.begin_, Tl.nth, List.map, List.length, List.replicate, List.append, List.set, List.nil_append, List.cons_append, List.append_nil, Nat.reduceAdd, Nat.reduceSub, Nat.zero_add, reduceIte, Bool.false_eq_true, Bool.true_eq_false, Bool.not_eq_true', Bool.not_eq_false', Bool.not_true, Bool.not_false, not_true_eq_false, not_false_eq_true, decide_eq_true_eq, decide_eq_false_iff_not, decide_not, Option.isSome_some, true_and, and_true, Int.reduceLT, Int.reduceLE, Int.reduceNeg, List.cons.injEq, Option.some.injEq, PySem.sizeLine_eq, Nat.reduceLeDiff, List.length_map, List.length_append, List.length_cons, List.length_nil, Tl.oBl_i, Tl.oInt_i, Tl.oStr_i, Tl.oTup_i, Tl.oSome_i, Tl.oBl_if, Tl.uV, Tl.uBo, Tl.uAnV, Tl.uOrV, Tl.uNoV, Tl.uCh, Tl.uNl0, Tl.uCs1, Tl.uTp, Tl.uAg, Tl.uInt, Tl.uInt0, Tl.uNegI, Tl.uEq, Tl.uNe, Tl.dScal_ii, Tl.dScal_ss, Tl.dScal_bb, Tl.dScal_nn, Tl.dScal_ni, Tl.dScal_in, Tl.dScal_is, Tl.dScal_si, Tl.uIsN, Tl.uNotN, Tl.nonD_n, Tl.nonD_i, Tl.nonD_s, Tl.nonD_t, Tl.nonD_l, Tl.nonD_b, Tl.nonD_r, Tl.uCatS, Tl.uCatL, Tl.uCatM, Tl.lstOf_l, Tl.lstOf_c, Tl.lstOf_m, Tl.trkOf_l, Tl.trkOf_m, Tl.tupOf_t, Tl.tupOf_b, Tl.seqOf_t, Tl.seqOf_b, Tl.seqOf_l, Tl.seqOf_c, Tl.seqOf_r, Tl.uIx_t, Tl.uIx_b, Tl.uIx_l, Tl.uIx_c, Tl.uIx_s, Tl.uIx_r, Tl.uYes, Tl.uSlL, Tl.uSlM, Tl.uSlS, Tl.uIsi, Tl.dTy_n, Tl.dTy_b, Tl.dTy_i, Tl.dTy_s, Tl.dTy_t, Tl.dTy_l, Tl.uLen, Tl.lenOf_t, Tl.lenOf_b, Tl.lenOf_l, Tl.lenOf_c, Tl.lenOf_m, Tl.uIntI, Tl.uIntB, Tl.uLs, Tl.uTu, Tl.oL1_i, Tl.oL2_i, Tl.oL3_i, Tl.uR1, Tl.uR2, Tl.uR3, Tl.uEn, Tl.uZi, Tl.uSt, Tl.uRv, Tl.uDivmod, Tl.uList, Tl.uListM, Tl.uSum, Tl.uMax, Tl.uMin, Tl.intLst_l, Tl.intLst_c, Tl.blLst_l, Tl.uMax2, Tl.uMin2, Tl.uAbs, Tl.uAny, Tl.uAll, Tl.mLst_m, Tl.uAppend, Tl.uExtend, Tl.uPop, Tl.uSet, Tl.lMt_l, Tl.isS_m, Tl.atI_0, Tl.atI_1, Tl.atI_2, Tl.atI_3, Tl.atI_4, Tl.atI_5, *])
namespace K46
open PySem PySem.Spec PyProof.Rows L2 Tl
section
variable {P : Program} {w : World} {K : PySem.W.Frag} {mg : Str → Option Value} {base : Heap}
def spCell : SpT := fun ds M Q _ => ∃ (ns : List Int) (k : Nat), ds = [.scr (ns.map .int), .int k] ∧ ∀ r : Int, Q (.int r) M
theorem ok_l_cell (T : Tp K mg) : Fn P w K mg base CX0 1 "_law_cell" spCell := by
  refine fn_top T 40 e_l_cell (m_l_cell T) sc_l_cell (by rintro _ M Q Et ⟨n, _, rfl, _⟩; rfl) (fun cdv A outer s H E hr => ⟨_, (qss_cons (qs_if (qt_cmp oq_lt (qv 1) (q_callB cq_len (m_len T) (by decide +kernel) (qa_cons (qv 0) qa_nil)))
  (qss_one (qs_ret (q_ix (qv 0) (qv 1))))
  qss_nil)
 (qss_one (qs_ret q_int))), ?_⟩) (fun _ _ _ _ _ _ us hl => match us, hl with | [_, _], _ => rfl)
  rintro _ M Q Et ⟨ns, k, rfl, h⟩
  walk_at "vc"
  split
  · rename_i hk
    have hk2 : k < ns.length := by omega
    rw [atI_nat (v := .int ns[k]) (by rw [List.getElem?_map, List.getElem?_eq_getElem hk2]; rfl)]
    exact h _
  · exact h _
def spMixed : SpT := fun ds M Q _ => ∃ (c k : Int), ds = [.int c, .int k] ∧ (-100000 ≤ k ∧ k ≤ 100000) ∧ ∀ r : Int, (0 ≤ r ∧ r ≤ 2147483648) → Q (.int r) M
theorem ok_l_mixed (T : Tp K mg) : Fn P w K mg base CX0 1 "_law_mixed" spMixed := by
  refine fn_top T 41 e_l_mixed (m_l_mixed T) sc_l_mixed (by rintro _ M Q Et ⟨n, _, rfl, _⟩; rfl) (fun cdv A outer s H E hr => ⟨_, (qss_cons (qs_set (i := 2) sc_l_mixed.nd (q_op oq_mod (q_op oq_addI (q_op oq_addI (q_op oq_mod (qv 0) q_int) (q_op oq_mul q_int (qv 1))) q_int) q_int))
 (qss_cons (qs_set (i := 2) sc_l_mixed.nd (q_op oq_mod (q_op oq_mul (qv 2) (qv 2)) q_int))
 (qss_one (qs_ret (q_op oq_fdiv (q_op oq_mod (q_op oq_mul (qv 2) (q_op oq_addI (qv 2) q_int)) q_int) q_int))))), ?_⟩) (fun _ _ _ _ _ _ us hl => match us, hl with | [_, _], _ => rfl)
  rintro _ M Q Et ⟨c, k, rfl, hk, h⟩
  walk_at "vc"
  generalize hu : (c % 2147483647 + 16807 * k + 7) % 2147483629 = u
  have bu := modB (a := c % 2147483647 + 16807 * k + 7) (b := 2147483629) (by decide)
  rw [hu] at bu
  generalize hv : u * u % 2147483587 = v
  have bv := modB (a := u * u) (b := 2147483587) (by decide)
  rw [hv] at bv
  have bw := modB (a := v * (v + 48271)) (b := 2147483579) (by decide)
  refine ⟨wm60 (by omega) (by omega), wm60 (by omega) (by omega), wm60 (by omega) (by omega), wd60 (by decide) (by decide), h _ ?_⟩
  omega
def spAllWhole : SpT := fun ds M Q _ => ∃ (ns : List Int) (d : D), ds = [d] ∧ lstOf M d = some (ns.map .int) ∧ ns.length < 16000000 ∧ Q (.bl true) M
theorem ok_l_all_whole (T : Tp K mg) : Fn P w K mg base CX0 1 "_law_all_whole" spAllWhole := by
  refine fn_top T 42 e_l_all_whole (m_l_all_whole T) sc_l_all_whole (by rintro _ M Q Et ⟨ns, d, rfl, _⟩; rfl) (fun cdv A outer s H E hr => ⟨_, (qss_one (qs_ret (q_cmp oq_eq (q_callB cq_len (m_len T) (by decide +kernel) (qa_cons (q_lc rfl sc_l_all_whole.nd (qi_list (qv 0)) (blkOk_by (N := nm_l_all_whole) (sc := defScope s_l_all_whole) (own := [(("_law_x" : Str), 1)]) (by decide +kernel)) go_name (fun _ _ _ _ _ => (pg_name (i := 1) sc_l_all_whole.nd rfl (Or.inl rfl))) (fun _ _ _ _ _ => (qts_one (qt_w (qw_or (qt_not (qt_val (q_callB cq_isi (m_isinstance T) (by decide +kernel) (qa_cons (qv 1) (qa_cons (q_ty "int" (m_int T) (by decide +kernel)) qa_nil))))) (qw_or1 (qt_val (q_callB cq_isi (m_isinstance T) (by decide +kernel) (qa_cons (qv 1) (qa_cons (q_ty "bool" (m_bool T) (by decide +kernel)) qa_nil))))))))) (fun _ _ _ _ _ => (qv 1))) qa_nil)) q_int))), ?_⟩) (fun _ _ _ _ _ _ us hl => match us, hl with | [_], _ => rfl)
  rintro _ M Q Et ⟨ns, d, rfl, hd, hl, h⟩
  walk_at "vc"
  rw [hd]
  walk_at "vc"
  refine lc_filter ns D.int (fun _ => false) D.int rfl (by rw [sizeLine_eq]; omega) hd (fun o R1 R0 ho h1 h2 => ?_) ?_
  · walk_at "vc"
    exact h2 rfl
  · rw [show (ns.filter fun _ => false) = [] from by simp]
    walk_at "vc"
    exact h
def spNames : SpT := fun ds M Q _ => ∃ (c : Int), ds = [.int c] ∧ Q (.lst (((List.range 9).map (nm44 c)).map .str)) M
theorem ok_l_names (T : Tp K mg) : Fn P w K mg base CX0 1 "_law_names" spNames := by
  refine fn_top T 43 e_l_names (m_l_names T) sc_l_names (by rintro _ M Q Et ⟨c, rfl, _⟩; rfl) (fun cdv A outer s H E hr => ⟨_, (qss_cons (qs_set (i := 1) sc_l_names.nd (q_op oq_addI q_int (q_op oq_mod (qv 0) q_int)))
 (qss_cons (qs_set (i := 2) sc_l_names.nd (q_op oq_mod (q_op oq_fdiv (qv 0) q_int) (qv 1)))
 (qss_cons (qs_set (i := 3) sc_l_names.nd q_str)
 (qss_cons (qs_set (i := 4) sc_l_names.nd (q_lstM qa_nil))
 (qss_cons (qs_for PassesOwn.never rfl (qi_range1 (m_range T) (qa_cons q_int qa_nil)) (qg_name (i := 5) sc_l_names.nd)
  (qss_cons (qs_set (i := 6) sc_l_names.nd (q_ix (qv 3) (q_op oq_mod (q_op oq_addI (q_op oq_fdiv (qv 0) q_int) (qv 5)) q_int)))
 (qss_one (qs_expr (q_append (qv 4) (qa_cons (q_op oq_addS (q_op oq_addS (q_op oq_repS q_str (qv 2)) (qv 6)) (q_op oq_repS q_str (q_op oq_sub (q_op oq_sub (qv 1) q_int) (qv 2)))) qa_nil))))))
 (qss_one (qs_ret (q_re (qv 4))))))))), ?_⟩) (fun _ _ _ _ _ _ us hl => match us, hl with | [_], _ => rfl)
  rintro _ M Q Et ⟨c, rfl, h⟩
  walk_at "vc"
  have b1 := modB (a := c) (b := 8) (by decide)
  have b2 := modB (a := c / 8) (b := 1 + c % 8) (by omega)
  have hlet : Str.ofString "abcdefghijklmnopqrstuvwxyz" = letters := rfl
  have hLl : letters.length = 26 := by decide +kernel
  have lq : (Str.ofString "q").length = 1 := by decide +kernel
  refine ⟨wd60 (by decide) (by decide), by omega, fun p hp => ?_⟩
  refine for_any (fun i τ M1 => M1 = mup M p (.lst (((List.range i).map (nm44 c)).map .str)) ∧ ∃ v5 v6, τ = [some (.int c), some (.int (1 + c % 8)), some (.int (c / 8 % (1 + c % 8))), some (.str letters), some (.ref p), v5, v6]) ⟨rfl, none, none, rfl⟩ (fun _ _ _ _ => trivial) ?_ ?_
  · rintro i x τ M1 hx ⟨rfl, v5, v6, rfl⟩
    obtain ⟨hi, rfl⟩ := rng_get hx
    have hi : i < 9 := hi
    have hc := sign_get (c / 64 + (i : Int))
    walk_at "vc"
    simp only [hc]
    walk_at "vc"
    have r1 := len_repS (z := Str.ofString "q") (n := c / 8 % (1 + c % 8)) (by omega)
    have r2 := len_repS (z := Str.ofString "q") (n := 1 + c % 8 - 1 - c / 8 % (1 + c % 8)) (by omega)
    have l1 : (⟨#[signF (c / 64 + (i : Int))]⟩ : Str).length = 1 := rfl
    rw [lq] at r1 r2
    rw [len_app, l1, List.length_range, hLl, lq]
    refine ⟨wd60 (by decide) (by decide), by decide, by omega, by omega, by omega, by omega, by omega, ?_, _, _, rfl, rfl⟩
    rw [List.range_succ, List.map_append, List.map_append]
    rfl
  · rintro τ M1 ⟨rfl, v5, v6, rfl⟩
    walk_at "vc"
    exact ⟨_, M, ReR.made hp, h⟩
theorem sel_ints {Z : Int → Prop} {xs : List D} {ys : List D} (h : Sel (fun _ y => ∃ n, y = D.int n ∧ Z n) (fun _ => False) xs ys) : ∃ ns : List Int, ys = ns.map .int ∧ ns.length = xs.length ∧ ∀ n ∈ ns, Z n := by
  induction h with
  | nil => exact ⟨[], rfl, rfl, fun n hn => by cases hn⟩
  | keep h t ih =>
    obtain ⟨n, rfl, hn⟩ := h
    obtain ⟨ns, rfl, hl, hz⟩ := ih
    refine ⟨n :: ns, rfl, congrArg (· + 1) hl, fun m hm => ?_⟩
    rcases List.mem_cons.mp hm with rfl | hm
    · exact hn
    · exact hz m hm
  | drop h t ih => exact h.elim
theorem nums_app {os : List (Option Int)} {v : Option Int} : numsO (os ++ [v]) = numsO os ++ numsO [v] := by unfold numsO; rw [List.filterMap_append]
/-- a letter as drawn -/
structure okL45 (lanes lane room : Nat) (t : Lt) : Prop where
  os : t.os.length = lanes
  rng : ∀ v ∈ numsO t.os, inR v
  own : ∃ v, t.os[lane]? = some (some v)
  bs : ∀ v ∈ t.bs, inR v
  bl : t.bs.length = room
  line : ∃ i : Int, t.line = .int i ∧ 0 ≤ i ∧ i ≤ 1000
def spLetters : SpT := fun ds M Q _ => ∃ (ns : List Int) (many lanes lane room : Nat), ds = [.scr (ns.map .int), .int many, .int lanes, .int lane, .int room] ∧ many ≤ 5 ∧ lanes ≤ 8 ∧ lane < lanes ∧ room ≤ 12 ∧ ∀ ls : List Lt, ls.length = many → (∀ t ∈ ls, okL45 lanes lane room t) → Q (.lst (ls.map Lt.d)) M
theorem ok_l_letters (T : Tp K mg) : Fn P w K mg base CX0 2 "_law_letters" spLetters := by
  refine fn_top T 55 e_l_letters (m_l_letters T) sc_l_letters (by rintro _ M Q Et ⟨ns, many, lanes, lane, room, rfl, _⟩; rfl) (fun cdv A outer s H E hr => ⟨_, (qss_cons (qs_set (i := 5) sc_l_letters.nd (q_lstM qa_nil))
 (qss_cons (qs_for PassesOwn.never rfl (qi_range1 (m_range T) (qa_cons (qv 1) qa_nil)) (qg_name (i := 6) sc_l_letters.nd)
  (qss_cons (qs_set (i := 7) sc_l_letters.nd (q_op oq_addI (q_call (ok_l_cell T) (hr.mono (by decide)) (qa_cons (qv 0) (qa_cons (q_op oq_addI q_int (q_op oq_mul q_int (qv 6))) qa_nil))) (q_call (ok_l_cell T) (hr.mono (by decide)) (qa_cons (qv 0) (qa_cons q_int qa_nil)))))
 (qss_cons (qs_set (i := 8) sc_l_letters.nd (q_lstM qa_nil))
 (qss_cons (qs_for PassesOwn.never rfl (qi_range1 (m_range T) (qa_cons (qv 2) qa_nil)) (qg_name (i := 9) sc_l_letters.nd)
  (qss_cons (qs_set (i := 10) sc_l_letters.nd (q_call (ok_l_mixed T) (hr.mono (by decide)) (qa_cons (qv 7) (qa_cons (q_op oq_addI (q_op oq_addI (q_op oq_mul q_int (qv 6)) (qv 9)) q_int) qa_nil))))
 (qss_one (qs_if (qt_w (qw_and (qt_cmp oq_eq (q_op oq_mod (qv 10) q_int) q_int) (qw_and1 (qt_cmp oq_ne (qv 9) (qv 3)))))
  (qss_one (qs_expr (q_append (qv 8) (qa_cons q_non qa_nil))))
  (qss_one (qs_expr (q_append (qv 8) (qa_cons (q_op oq_sub (q_op oq_mod (q_op oq_mul (q_op oq_fdiv (qv 10) q_int) q_int) q_int) q_int) qa_nil))))))))
 (qss_cons (qs_setLc (i := 11) (own := [(("_law_k" : Str), 9)]) (lv_lcF go_name) rfl sc_l_letters.nd (qi_range1 (m_range T) (qa_cons (qv 4) qa_nil)) (blkOk_by (N := nm_l_letters) (sc := defScope s_l_letters) (own := [(("_law_k" : Str), 9)]) (by decide +kernel)) (fun _ _ _ _ _ => (pg_name (i := 9) sc_l_letters.nd rfl (Or.inl rfl))) (fun _ _ _ _ _ => qts_nil) (fun _ _ _ _ _ => (q_op oq_sub (q_op oq_mod (q_op oq_mul (q_call (ok_l_mixed T) (hr.mono (by decide)) (qa_cons (qv 7) (qa_cons (q_op oq_addI (q_op oq_addI (q_op oq_mul q_int (qv 6)) (qv 9)) q_int) qa_nil))) q_int) q_int) q_int)) (sw_true rfl rfl rfl (by decide +kernel)))
 (qss_one (qs_expr (q_append (qv 5) (qa_cons (q_re (q_tup (qa_cons (q_op oq_addI q_int (q_op oq_mod (q_call (ok_l_mixed T) (hr.mono (by decide)) (qa_cons (qv 7) (qa_cons (q_op oq_addI (qv 6) q_int) qa_nil))) q_int)) (qa_cons (qv 8) (qa_cons (qv 11) qa_nil))))) qa_nil)))))))))
 (qss_one (qs_ret (q_re (qv 5)))))), ?_⟩) (fun _ _ _ _ _ _ us hl => match us, hl with | [_, _, _, _, _], _ => rfl)
  rintro _ M Q Et ⟨ns, many, lanes, lane, room, rfl, hm, hls, hln, hrm, h⟩
  walk_at "vc"
  intro p hp
  have own : ∀ (x : Int), inR (x % 4294967296 - 2147483648) := fun x => by
    have b := modB (a := x) (b := 4294967296) (by decide)
    exact ⟨by omega, by omega⟩
  refine ⟨⟨by omega, by omega⟩, ?_⟩
  have c0 : Cel M M [] := Cel.nil
  have c1 := c0.fresh (o := .lst (([] : List Lt).map Lt.d)) hp
  change ForGo _ _ _ _ _ (mup M p (.lst (([] : List Lt).map Lt.d)))
  generalize mup M p (.lst (([] : List Lt).map Lt.d)) = M1 at c1 ⊢
  refine for_any (fun j τ M' => ∃ (ls : List Lt) (v6 v7 v8 v9 v10 v11 : Option D), ls.length = j ∧ (∀ t ∈ ls, okL45 lanes lane room t) ∧ Cel M M' [(p, .lst (ls.map Lt.d))] ∧ τ = [some (.scr (ns.map .int)), some (.int many), some (.int lanes), some (.int lane), some (.int room), some (.ref p), v6, v7, v8, v9, v10, v11])
    ⟨[], none, none, none, none, none, none, rfl, fun t ht => (by cases ht), c1, rfl⟩ (fun _ _ _ _ => trivial) ?_ ?_
  · rintro j x τ M2 hx ⟨ls, v6, v7, v8, v9, v10, v11, hlj, hok, hc, rfl⟩
    obtain ⟨hj, rfl⟩ := rng_get hx
    have hj : j < many := by simpa using hj
    walk_at "vc"
    refine ⟨wm60 (by omega) (by omega), ns, 4 + 7 * j, by rw [Int.natCast_add, Int.natCast_mul]; rfl, fun r4 => ?_⟩
    walk_at "vc"
    refine ⟨ns, 2, rfl, fun r2 => ?_⟩
    walk_at "vc"
    intro q hq
    refine ⟨⟨by omega, by omega⟩, ?_⟩
    have d1 := hc.fresh (o := .lst (([] : List (Option Int)).map optD)) hq
    change ForGo _ _ _ _ _ (mup M2 q (.lst (([] : List (Option Int)).map optD)))
    generalize mup M2 q (.lst (([] : List (Option Int)).map optD)) = M3 at d1 ⊢
    refine for_any (fun k τ M' => ∃ (os : List (Option Int)) (v9 v10 : Option D), os.length = k ∧ (∀ v ∈ numsO os, inR v) ∧ (lane < k → ∃ v, os[lane]? = some (some v)) ∧ Cel M M' [(q, .lst (os.map optD)), (p, .lst (ls.map Lt.d))] ∧ τ = [some (.scr (ns.map .int)), some (.int many), some (.int lanes), some (.int lane), some (.int room), some (.ref p), some (.int (j : Nat)), some (.int (r4 + r2)), some (.ref q), v9, v10, v11])
      ⟨[], _, _, rfl, fun v hv => (by cases hv), fun h => absurd h (Nat.not_lt_zero _), d1, rfl⟩ (fun _ _ _ _ => trivial) ?_ ?_
    · rintro k x τ M4 hx ⟨os, v9, v10, hol, hor, hoo, hc4, rfl⟩
      obtain ⟨hk, rfl⟩ := rng_get hx
      have hk : k < lanes := by simpa using hk
      have kq : M4 q = some (.lst (os.map optD)) := hc4.at_ (q, _) (by simp)
      walk_at "vc"
      refine ⟨wm60 (by omega) (by omega), r4 + r2, _, rfl, by omega, fun rn hrn => ?_⟩
      walk_at "vc"
      have app : ∀ v : Option Int, os.map optD ++ [optD v] = (os ++ [v]).map optD := fun v => by rw [List.map_append]; rfl
      have hc5 : ∀ v : Option Int, Cel M (mup M4 q (.lst ((os ++ [v]).map optD))) [(q, .lst ((os ++ [v]).map optD)), (p, .lst (ls.map Lt.d))] := fun v => hc4.set_ 0 (a := q) (o' := .lst ((os ++ [v]).map optD)) rfl
      have keep : ∀ v : Option Int, (v = none → k ≠ lane) → lane < k + 1 → ∃ u, (os ++ [v])[lane]? = some (some u) := fun v hv hlt => by
        by_cases e : lane < k
        · obtain ⟨u, hu⟩ := hoo e
          exact ⟨u, by rw [List.getElem?_append_left (by omega)]; exact hu⟩
        · have e2 : lane = k := by omega
          cases v with
          | none => exact absurd e2.symm (hv rfl)
          | some u => exact ⟨u, by rw [List.getElem?_append_right (by omega), hol, e2, Nat.sub_self]; rfl⟩
      rw [mLst_at kq]
      walk_at "vc"
      have non : k ≠ lane → ∀ x7 v9', ∃ (os' : List (Option Int)) (v9 v10 : Option D), os'.length = k + 1 ∧ (∀ v ∈ numsO os', inR v) ∧ (lane < k + 1 → ∃ v, os'[lane]? = some (some v)) ∧ Cel M (mup M4 q (.lst (os.map optD ++ [D.non]))) [(q, .lst (os'.map optD)), (p, .lst (ls.map Lt.d))] ∧ x7 = v9 ∧ v9' = v10 := fun hk x7 v9' =>
        ⟨os ++ [none], _, _, by rw [List.length_append, hol]; rfl, by rw [nums_app]; show ∀ v ∈ numsO os ++ [], _; rw [List.append_nil]; exact hor, keep none (fun _ => hk), by have := hc5 none; rw [← app none] at this; rw [← app none]; exact this, rfl, rfl⟩
      have som : ∀ x, ∀ x7 v9', ∃ (os' : List (Option Int)) (v9 v10 : Option D), os'.length = k + 1 ∧ (∀ v ∈ numsO os', inR v) ∧ (lane < k + 1 → ∃ v, os'[lane]? = some (some v)) ∧ Cel M (mup M4 q (.lst (os.map optD ++ [D.int (x % 4294967296 - 2147483648)]))) [(q, .lst (os'.map optD)), (p, .lst (ls.map Lt.d))] ∧ x7 = v9 ∧ v9' = v10 := fun x x7 v9' =>
        ⟨os ++ [some (x % 4294967296 - 2147483648)], _, _, by rw [List.length_append, hol]; rfl, by
          rw [nums_app]
          intro v hv
          rcases List.mem_append.mp hv with hv | hv
          · exact hor v hv
          · cases List.mem_singleton.mp hv; exact own x, keep _ (fun e => by cases e), by have := hc5 (some (x % 4294967296 - 2147483648)); rw [← app] at this; rw [← app]; exact this, rfl, rfl⟩
      split
      · split
        · exact ⟨is_m kq, by omega, non (by omega) _ _⟩
        · exact ⟨is_m kq, wd60 (by decide) (by decide), wm60 (by omega) (by omega), by omega, som _ _ _⟩
      · exact ⟨is_m kq, wd60 (by decide) (by decide), wm60 (by omega) (by omega), by omega, som _ _ _⟩
    · rintro τ M4 ⟨os, v9, v10, hol, hor, hoo, hc4, rfl⟩
      walk_at "vc"
      refine ⟨⟨by omega, by omega⟩, ?_⟩
      refine lc_sel (fun _ y => ∃ n, y = D.int n ∧ inR n) (fun _ => False) ?_ trivial (fun i x R1 R0 hx h1 h0 => ?_) fun acc hs => ?_
      · show (List.map _ _).length < _
        rw [sizeLine_eq, List.length_map, List.length_range]; omega
      · obtain ⟨hi, rfl⟩ := rng_get hx
        have hi : i < room := by simpa using hi
        walk_at "vc"
        refine ⟨wm60 (by omega) (by omega), r4 + r2, _, rfl, by omega, fun rn hrn => ?_⟩
        walk_at "vc"
        exact ⟨wm60 (by omega) (by omega), h1 _ ⟨_, rfl, own _⟩⟩
      · obtain ⟨bs, rfl, hbl, hbr⟩ := sel_ints hs
        have kp : M4 p = some (.lst (ls.map Lt.d)) := hc4.at_ (p, _) (by simp)
        have kq : M4 q = some (.lst (os.map optD)) := hc4.at_ (q, _) (by simp)
        refine ⟨is_m kp, r4 + r2, _, rfl, by omega, fun rl hrl => ?_⟩
        walk_at "vc"
        have br := modB (a := rl) (b := 200) (by decide)
        have hc6 : Cel M (mdel M4 q) [(p, .lst (ls.map Lt.d))] := Cel.del (pre := []) hc4
        refine ⟨_, mdel M4 q, ReR.tup_freeze [D.int (1 + rl % 200)] [.lst (bs.map .int)] kq, ?_⟩
        have kp6 : mdel M4 q p = some (.lst (ls.map Lt.d)) := hc6.at_ (p, _) (by simp)
        rw [mLst_at kp6]
        walk_at "vc"
        have hlst : ls.map Lt.d ++ [D.tup [D.int (1 + rl % 200), D.lst (os.map optD), D.lst (bs.map .int)]] = (ls ++ [(⟨.int (1 + rl % 200), os, bs⟩ : Lt)]).map Lt.d := by rw [List.map_append]; rfl
        refine ⟨by omega, ls ++ [⟨.int (1 + rl % 200), os, bs⟩], _, _, _, _, _, _, by rw [List.length_append, hlj]; rfl, fun t ht => ?_, ?_, rfl, rfl, rfl, rfl, rfl, rfl⟩
        · rcases List.mem_append.mp ht with ht | ht
          · exact hok t ht
          · cases List.mem_singleton.mp ht
            exact ⟨by show os.length = lanes; simpa using hol, hor, hoo (by simpa using hln), hbr, by rw [hbl]; simp, ⟨_, rfl, by omega, by omega⟩⟩
        · show Cel M (mup (mdel M4 q) p (.lst (ls.map Lt.d ++ [D.tup [D.int (1 + rl % 200), D.lst (os.map optD), D.lst (bs.map .int)]]))) _
          rw [hlst]
          exact hc6.set_ 0 (a := p) (o' := .lst ((ls ++ [(⟨.int (1 + rl % 200), os, bs⟩ : Lt)]).map Lt.d)) rfl
  · rintro τ M2 ⟨ls, v6, v7, v8, v9, v10, v11, hlj, hok, hc, rfl⟩
    have kp : M2 p = some (.lst (ls.map Lt.d)) := hc.at_ (p, _) (by simp)
    walk_at "vc"
    exact ⟨_, M, ReR.trans (ReR.freeze kp) (ReR.drop (Cel.del (pre := []) hc).old), h ls (by simpa using hlj) hok⟩
/-- an expression drawn by a number, by the plan -/
def spEx (d b : Nat) : SpT := fun ds M Q _ => ∃ (n : Int) (a : Addr) (p : Pl6), ds = [.int n, .ref a] ∧ M a = some (.dK (planD p)) ∧ okP6 p ∧ (0 ≤ n ∧ n ≤ 2147483648) ∧ ∀ e : Ex, okX d b e → Q e.d M
theorem dr_in (x : Int) : inR (x % 1999999999 - 999999999) := by
  have b := modB (a := x) (b := 1999999999) (by decide)
  exact ⟨by omega, by omega⟩
theorem small_in {i : Int} (h1 : -10 ≤ i) (h2 : i ≤ 100) : inR i := ⟨by omega, by omega⟩
theorem ok_l_leaf (T : Tp K mg) : Fn P w K mg base CX0 1 "_law_leaf" (spEx 1 0) := by
  refine fn_top T 44 e_l_leaf (m_l_leaf T) sc_l_leaf (by rintro _ M Q Et ⟨n, a, p, rfl, _⟩; rfl) (fun cdv A outer s H E hr => ⟨_, (qss_cons (qs_set (i := 2) sc_l_leaf.nd (q_op oq_mod (qv 0) q_int))
 (qss_cons (qs_set (i := 3) sc_l_leaf.nd (q_op oq_fdiv (qv 0) q_int))
 (qss_cons (qs_if (qt_cmp oq_lt (qv 2) q_int)
  (qss_one (qs_ret (q_tup (qa_cons q_str (qa_cons (q_ix (q_dget (hu_of hr) (qv 1) q_str) (q_op oq_mod (qv 3) q_int)) qa_nil)))))
  qss_nil)
 (qss_cons (qs_if (qt_cmp oq_lt (qv 2) q_int)
  (qss_one (qs_ret (q_ix (q_lst (qa_cons (q_tup (qa_cons q_str qa_nil)) (qa_cons (q_tup (qa_cons q_str qa_nil)) (qa_cons (q_tup (qa_cons q_str qa_nil)) qa_nil)))) (q_op oq_mod (qv 3) q_int))))
  qss_nil)
 (qss_cons (qs_if (qt_cmp oq_eq (qv 2) q_int)
  (qss_one (qs_ret (q_tup (qa_cons q_str (qa_cons (q_op oq_sub (q_op oq_mod (q_op oq_mul (qv 3) q_int) q_int) q_int) qa_nil)))))
  qss_nil)
 (qss_one (qs_ret (q_tup (qa_cons q_str (qa_cons (q_op oq_mod (qv 3) q_int) qa_nil)))))))))), ?_⟩) (fun _ _ _ _ _ _ us hl => match us, hl with | [_, _], _ => rfl)
  rintro _ M Q Et ⟨n, a, p, rfl, ha, hp, hn, h⟩
  walk_at "vh"
  have b9 := modB (a := n / 8) (b := 9) (by decide)
  have b5 := modB (a := n / 8) (b := 5) (by decide)
  obtain ⟨x, _, hx, e⟩ := nm_at hp b9.1 b9.2
  obtain ⟨y, hy, e2⟩ := sign3_at (n := n / 8)
  rw [e, e2]
  walk_at "vc"
  refine ⟨wd60 (by decide) (by decide), ?_⟩
  split
  · exact h (.nam x) (x_nam hx)
  · split
    · exact h y hy
    · split
      · exact ⟨wm60 (by omega) (by omega), h (.num _) (x_num (dr_in _))⟩
      · exact h (.num _) (x_num (small_in (by omega) (by omega)))
theorem ok_l_place (T : Tp K mg) : Fn P w K mg base CX0 2 "_law_place" (spEx 2 1) := by
  refine fn_top T 45 e_l_place (m_l_place T) sc_l_place (by rintro _ M Q Et ⟨n, a, p, rfl, _⟩; rfl) (fun cdv A outer s H E hr => ⟨_, (qss_cons (qs_set (i := 2) sc_l_place.nd (q_op oq_mod (qv 0) q_int))
 (qss_cons (qs_set (i := 3) sc_l_place.nd (q_op oq_fdiv (qv 0) q_int))
 (qss_cons (qs_if (qt_cmp oq_lt (qv 2) q_int)
  (qss_one (qs_ret (q_ix (q_lst (qa_cons (q_tup (qa_cons q_str qa_nil)) (qa_cons (q_tup (qa_cons q_str (qa_cons (q_tup (qa_cons q_str qa_nil)) (qa_cons (q_tup (qa_cons q_str (qa_cons (q_op oq_mod (qv 3) q_int) qa_nil))) qa_nil)))) qa_nil))) (q_op oq_mod (qv 2) q_int))))
  qss_nil)
 (qss_cons (qs_if (qt_cmp oq_eq (qv 2) q_int)
  (qss_one (qs_ret (q_tup (qa_cons q_str (qa_cons (q_op oq_mod (qv 3) (q_op oq_addI (q_dget (hu_of hr) (qv 1) q_str) q_int)) qa_nil)))))
  qss_nil)
 (qss_cons (qs_if (qt_cmp oq_eq (qv 2) q_int)
  (qss_one (qs_ret (q_tup (qa_cons q_str (qa_cons (q_tup (qa_cons q_str qa_nil)) qa_nil)))))
  qss_nil)
 (qss_one (qs_ret (q_tup (qa_cons q_str (qa_cons (q_call (ok_l_leaf T) (hr.mono (by decide)) (qa_cons (qv 3) (qa_cons (qv 1) qa_nil))) (qa_cons (q_tup (qa_cons q_str (qa_cons (q_callB (cq_max2 rfl) (m_max T) (by decide +kernel) (qa_cons q_int (qa_cons (q_dget (hu_of hr) (qv 1) q_str) qa_nil))) qa_nil))) qa_nil))))))))))), ?_⟩) (fun _ _ _ _ _ _ us hl => match us, hl with | [_, _], _ => rfl)
  rintro _ M Q Et ⟨n, a, p, rfl, ha, hp, hn, h⟩
  have hrm := hp.room
  walk_at "vh"
  have b3 := modB (a := n / 8) (b := 3) (by decide)
  have br := modB (a := n / 8) (b := (p.room : Int) + 1) (by omega)
  refine ⟨wd60 (by decide) (by decide), ?_⟩
  split
  · rcases two_of (n := n % 8) (x := D.tup [D.str (Str.ofString "lane")]) (y := D.tup [D.str (Str.ofString "+"), D.tup [D.str (Str.ofString "lane")], D.tup [D.str (Str.ofString "num"), D.int (n / 8 % 3)]]) with e | e
    · rw [e]
      exact h .lane (x_lane.mono (by decide) (by decide))
    · rw [e]
      exact h (.op .add .lane (.num (n / 8 % 3))) ((x_op x_lane (x_num (small_in (by omega) (by omega)))).mono (by decide) (by decide))
  · split
    · exact ⟨by omega, h (.num _) ((x_num (small_in (by omega) (by omega))).mono (by decide) (by decide))⟩
    · split
      · exact h (.box .lane) (x_box x_lane)
      · refine ⟨n / 8, a, p, rfl, ha, hp, by omega, fun e he => ?_⟩
        dsimp only
        rw [ha]
        walk_at "vc"
        refine h (.op .rem e (.num _)) ((x_op he (x_num (small_in ?_ ?_))).mono (by decide) (by decide))
        · split <;> omega
        · split <;> omega
theorem ok_l_told (T : Tp K mg) : Fn P w K mg base CX0 3 "_law_told" (spEx 4 2) := by
  refine fn_top T 46 e_l_told (m_l_told T) sc_l_told (by rintro _ M Q Et ⟨n, a, p, rfl, _⟩; rfl) (fun cdv A outer s H E hr => ⟨_, (qss_cons (qs_set (i := 2) sc_l_told.nd (q_op oq_mod (qv 0) q_int))
 (qss_cons (qs_set (i := 3) sc_l_told.nd (q_op oq_fdiv (qv 0) q_int))
 (qss_cons (qs_set (i := 4) sc_l_told.nd (q_ix (q_lst (qa_lits (ds := [.str "+", .str "-", .str "*", .str "div", .str "rem", .str "<", .str "="]) rfl)) (q_op oq_mod (qv 3) q_int)))
 (qss_cons (qs_if (qt_cmp oq_lt (qv 2) q_int)
  (qss_one (qs_ret (q_call (ok_l_leaf T) (hr.mono (by decide)) (qa_cons (qv 3) (qa_cons (qv 1) qa_nil)))))
  qss_nil)
 (qss_cons (qs_if (qt_cmp oq_lt (qv 2) q_int)
  (qss_one (qs_ret (q_tup (qa_cons (qv 4) (qa_cons (q_call (ok_l_leaf T) (hr.mono (by decide)) (qa_cons (q_op oq_fdiv (qv 3) q_int) (qa_cons (qv 1) qa_nil))) (qa_cons (q_call (ok_l_leaf T) (hr.mono (by decide)) (qa_cons (q_op oq_fdiv (qv 3) q_int) (qa_cons (qv 1) qa_nil))) qa_nil))))))
  qss_nil)
 (qss_cons (qs_if (qt_cmp oq_eq (qv 2) q_int)
  (qss_one (qs_ret (q_tup (qa_cons q_str (qa_cons (q_call (ok_l_place T) (hr.mono (by decide)) (qa_cons (qv 3) (qa_cons (qv 1) qa_nil))) qa_nil)))))
  qss_nil)
 (qss_one (qs_ret (q_tup (qa_cons (qv 4) (qa_cons (q_tup (qa_cons q_str (qa_cons (q_call (ok_l_place T) (hr.mono (by decide)) (qa_cons (q_op oq_fdiv (qv 3) q_int) (qa_cons (qv 1) qa_nil))) qa_nil))) (qa_cons (q_call (ok_l_leaf T) (hr.mono (by decide)) (qa_cons (q_op oq_fdiv (qv 3) q_int) (qa_cons (qv 1) qa_nil))) qa_nil)))))))))))), ?_⟩) (fun _ _ _ _ _ _ us hl => match us, hl with | [_, _], _ => rfl)
  rintro _ M Q Et ⟨n, a, p, rfl, ha, hp, hn, h⟩
  walk_at "vh"
  obtain ⟨o, eo⟩ := op7_at (n := n / 8)
  rw [eo]
  walk_at "vc"
  refine ⟨wd60 (by decide) (by decide), ?_⟩
  split
  · exact ⟨n / 8, a, p, rfl, ha, hp, by omega, fun e he => h e (he.mono (by decide) (by decide))⟩
  · split
    · refine ⟨wd60 (by decide) (by decide), n / 8 / 7, a, p, rfl, ha, hp, by omega, fun e1 he1 => ⟨wd60 (by decide) (by decide), n / 8 / 911, a, p, rfl, ha, hp, by omega, fun e2 he2 => ?_⟩⟩
      exact h (.op o e1 e2) ((x_op he1 he2).mono (by decide) (by decide))
    · split
      · exact ⟨n / 8, a, p, rfl, ha, hp, by omega, fun e he => h (.box e) ((x_box he).mono (by decide) (by decide))⟩
      · refine ⟨wd60 (by decide) (by decide), n / 8 / 7, a, p, rfl, ha, hp, by omega, fun e1 he1 => ⟨wd60 (by decide) (by decide), n / 8 / 911, a, p, rfl, ha, hp, by omega, fun e2 he2 => ?_⟩⟩
        exact h (.op o (.box e1) e2) ((x_op (x_box he1) (he2.mono (by decide) (Nat.le_refl _))).mono (by decide) (by decide))
end
end K46
namespace K46
open PySem PySem.Spec PyProof.Rows L2 Tl
section
variable {P : Program} {w : World} {K : PySem.W.Frag} {mg : Str → Option Value} {base : Heap}
theorem lenOf_at {M : MH} {a : Addr} {ds : List D} {n : Nat} (h : M a = some (.lst ds)) (hn : ds.length = n) : lenOf M (.ref a) = some n := by unfold lenOf; dsimp only; rw [h]; dsimp only; rw [hn]
def fsP (p : Pl6) : List Str := p.dfs.map (·.1)
theorem p_set {fs : List Str} {mn : Bool} {l : Int} {x : Str} {e : Ex} (hx : shN x) (he : okX 4 2 e) : p46 fs mn (.set l x e) := ⟨by show 1 ≤ 3; decide, fun y hy => by rw [List.mem_singleton.mp hy]; exact he, hx, fun _ _ _ _ q => (by cases q), fun _ _ _ q => (by cases q)⟩
theorem p_put {fs : List Str} {mn : Bool} {l : Int} {a e : Ex} (ha : okX 4 2 a) (he : okX 4 2 e) : p46 fs mn (.put l a e) := ⟨by show 2 ≤ 3; decide, (fun y hy => by
  rcases List.mem_cons.mp hy with rfl | hy
  · exact ha
  · rw [List.mem_singleton.mp hy]; exact he), trivial, fun _ _ _ _ q => (by cases q), fun _ _ _ q => (by cases q)⟩
theorem p_tell {fs : List Str} {mn : Bool} {l : Int} {e : Ex} (he : okX 4 2 e) : p46 fs mn (.tell l e) := ⟨by show 1 ≤ 3; decide, fun y hy => by rw [List.mem_singleton.mp hy]; exact he, trivial, fun _ _ _ _ q => (by cases q), fun _ _ _ q => (by cases q)⟩
theorem p_ret {fs : List Str} {l : Int} {e : Ex} (he : okX 4 2 e) : p46 fs false (.ret l e) := ⟨by show 1 ≤ 3; decide, fun y hy => by rw [List.mem_singleton.mp hy]; exact he, trivial, fun _ _ _ _ q => (by cases q), fun q => (by cases q)⟩
theorem p_join {fs : List Str} {mn : Bool} {l : Int} {x w : Str} {e : Ex} (hx : shN x) (hw : shN w) (he : okX 4 2 e) : p46 fs mn (.join l x w e) := ⟨by show 1 ≤ 3; decide, fun y hy => by rw [List.mem_singleton.mp hy]; exact he, ⟨hx, hw⟩, fun _ _ _ _ q => (by cases q), fun _ _ _ q => (by cases q)⟩
theorem p_nil {fs : List Str} {mn : Bool} {s : Sm} (h : s.exprs = []) (hn : s.nmOk) (h1 : ∀ l x f es, s ≠ .call l x f es) (h2 : ∀ l e, s ≠ .ret l e) : p46 fs mn s := ⟨by rw [h]; exact Nat.zero_le _, (fun y hy => by rw [h] at hy; cases hy), hn, fun l x f es q => absurd q (h1 l x f es), fun _ => h2⟩
theorem p_call {fs : List Str} {mn : Bool} {l : Int} {x f : Str} {es : List Ex} (hx : shN x) (hf : shN f) (h3 : es.length ≤ 3) (he : ∀ e ∈ es, okX 4 2 e) (hm : f ∈ fs) (hn : f ≠ Str.ofString "main") : p46 fs mn (.call l x f es) := ⟨h3, he, ⟨hx, hf⟩, fun _ _ _ _ q => (by cases q; exact ⟨hm, hn⟩), fun _ _ _ q => (by cases q)⟩
theorem lp_up {lp : Prop} {s : Sm} (hp : isPl s) (h : inLp False s) : inLp lp s := by
  cases s <;> first | exact hp.elim | exact h.elim | trivial
theorem four_at {n : Int} : ∃ x, shN x ∧ atI [D.str (Str.ofString "sum"), D.str (Str.ofString "most"), D.str (Str.ofString "least"), D.str (Str.ofString "ahead")] (n % 4) = some (.str x) := by
  have := modB (a := n) (b := 4) (by decide)
  by_cases e : n % 4 = 0
  · exact ⟨Str.ofString "sum", by decide +kernel, by rw [e]; exact atI_0⟩
  · by_cases e2 : n % 4 = 1
    · exact ⟨Str.ofString "most", by decide +kernel, by rw [e2]; exact atI_1⟩
    · by_cases e3 : n % 4 = 2
      · exact ⟨Str.ofString "least", by decide +kernel, by rw [e3]; exact atI_2⟩
      · exact ⟨Str.ofString "ahead", by decide +kernel, by rw [show n % 4 = 3 by omega]; exact atI_3⟩
theorem pile_flat {z : Zp} : (pile6 z).all flatD = true := by
  unfold pile6
  rw [List.all_map, List.all_eq_true]
  intro x _
  rfl
theorem pile_in {z : Zp} (h : ((pile6 z).any fun y => eqD y (D.str (Str.ofString "while"))) = true) : Str.ofString "while" ∈ z.ks := by
  unfold pile6 at h
  rw [List.any_map, List.any_eq_true] at h
  obtain ⟨x, hx, e⟩ := h
  have e2 : x = Str.ofString "while" := of_decide_eq_true e
  rw [← e2]
  exact List.mem_reverse.mp hx
theorem sel_exs {Z : Ex → Prop} {xs : List D} {ys : List D} (h : Sel (fun _ y => ∃ n, y = Ex.d n ∧ Z n) (fun _ => False) xs ys) : ∃ ns : List Ex, ys = ns.map Ex.d ∧ ns.length = xs.length ∧ ∀ n ∈ ns, Z n := by
  induction h with
  | nil => exact ⟨[], rfl, rfl, fun n hn => by cases hn⟩
  | keep h t ih =>
    obtain ⟨n, rfl, hn⟩ := h
    obtain ⟨ns, rfl, hl, hz⟩ := ih
    refine ⟨n :: ns, rfl, congrArg (· + 1) hl, fun m hm => ?_⟩
    rcases List.mem_cons.mp hm with rfl | hm
    · exact hn
    · exact hz m hm
  | drop h t ih => exact h.elim
theorem oDA_nm {M : MH} {a : Addr} {p : Pl6} {F : Option D → Prop} (h : M a = some (.dK (planD p))) : oDA (M a) (.str (Str.ofString "names")) F = F (some (.lst (p.nms.map .str))) := by
  rw [h]
  show F (valD (planD p) (.inr (Str.ofString "names"))) = _
  rw [pl_names]
def spCall6 : SpT := fun ds M Q _ => ∃ (a : Addr) (p : Pl6) (x : Str) (n : Int), ds = [.ref a, .str x, .int n] ∧ M a = some (.dK (planD p)) ∧ okP6 p ∧ shN x ∧ (0 ≤ n ∧ n ≤ 2147483648) ∧ ∀ s, isPl s → p46 (fsP p) p.mn s → inLp False s → Q (.tup (.str s.wd :: s.tail)) M
theorem ok_l_call (T : Tp K mg) : Fn P w K mg base CX0 2 "_law_call" spCall6 := by
  refine fn_top T 48 e_l_call (m_l_call T) sc_l_call (by rintro _ M Q Et ⟨a, p, x, n, rfl, _⟩; rfl) (fun cdv A outer s H E hr => ⟨_, (qss_cons (qs_setLc (i := 4) (own := [(("_law_one" : Str), 3)]) (lv_lcF go_name) rfl sc_l_call.nd (qi_list (q_dget (hu_of hr) (qv 0) q_str)) (blkOk_by (N := nm_l_call) (sc := defScope s_l_call) (own := [(("_law_one" : Str), 3)]) (by decide +kernel)) (fun _ _ _ _ _ => (pg_name (i := 3) sc_l_call.nd rfl (Or.inl rfl))) (fun _ _ _ _ _ => (qts_one (qt_cmp oq_ne (q_ix (qv 3) q_int) q_str))) (fun _ _ _ _ _ => (qv 3)) (sw_true rfl rfl rfl (by decide +kernel)))
 (qss_cons (qs_if (qt_cmp oq_eq (q_callB cq_len (m_len T) (by decide +kernel) (qa_cons (qv 4) qa_nil)) q_int)
  (qss_one (qs_ret (q_tup (qa_cons q_str (qa_cons (q_tup (qa_cons q_str (qa_cons (qv 1) qa_nil))) qa_nil)))))
  qss_nil)
 (qss_cons (qs_set (i := 3) sc_l_call.nd (q_ix (qv 4) (q_op oq_mod (qv 2) (q_callB cq_len (m_len T) (by decide +kernel) (qa_cons (qv 4) qa_nil)))))
 (qss_cons (qs_setLc (i := 5) (own := [(("_law_k" : Str), 6)]) (lv_lcF go_name) rfl sc_l_call.nd (qi_range1 (m_range T) (qa_cons (q_callB cq_len (m_len T) (by decide +kernel) (qa_cons (q_ix (qv 3) q_int) qa_nil)) qa_nil)) (blkOk_by (N := nm_l_call) (sc := defScope s_l_call) (own := [(("_law_k" : Str), 6)]) (by decide +kernel)) (fun _ _ _ _ _ => (pg_name (i := 6) sc_l_call.nd rfl (Or.inl rfl))) (fun _ _ _ _ _ => qts_nil) (fun _ _ _ _ _ => (q_call (ok_l_leaf T) (hr.mono (by decide)) (qa_cons (q_op oq_fdiv (qv 2) (q_op oq_addI (q_op oq_mul q_int (qv 6)) q_int)) (qa_cons (qv 0) qa_nil)))) (sw_true rfl rfl rfl (by decide +kernel)))
 (qss_one (qs_ret (q_tup (qa_cons q_str (qa_cons (qv 1) (qa_cons (q_ix (qv 3) q_int) (qa_cons (qv 5) qa_nil))))))))))), ?_⟩) (fun _ _ _ _ _ _ us hl => match us, hl with | [_, _, _], _ => rfl)
  rintro _ M Q Et ⟨a, p, x, n, rfl, ha, hp, hx, hn, h⟩
  walk_at "vh"
  refine lc_filter p.dfs dfhD (fun d => decide (d.1 ≠ Str.ofString "main")) dfhD rfl (by have := hp.dl; rw [sizeLine_eq]; omega) trivial (fun d R1 R0 hd h1 h0 => ?_) ?_
  · unfold dfhD
    walk_at "vc"
    split
    · rename_i q
      exact h1 (decide_eq_true q)
    · rename_i q
      exact h0 (decide_eq_false q)
  have hfl : ∀ d ∈ p.dfs.filter (fun d => decide (d.1 ≠ Str.ofString "main")), d ∈ p.dfs ∧ d.1 ≠ Str.ofString "main" := fun d hd => by
    have := List.mem_filter.mp hd
    exact ⟨this.1, of_decide_eq_true this.2⟩
  generalize p.dfs.filter (fun d => decide (d.1 ≠ Str.ofString "main")) = os at hfl ⊢
  walk_at "vc"
  by_cases h0 : os = []
  · subst h0
    rw [if_pos (show ((([] : List (Str × List Str)).length : Int)) = 0 from rfl)]
    exact h (.tell 0 (.nam x)) trivial (p_tell ((x_nam hx).mono (by decide) (by decide))) trivial
  · have hpos : 0 < os.length := List.length_pos_iff.mpr h0
    rw [if_neg (by omega)]
    have bo := modB (a := n) (b := (os.length : Int)) (by omega)
    have hat : ∃ d ∈ os, atI (os.map dfhD) (n % (os.length : Int)) = some (dfhD d) := by
      have hi : (n % (os.length : Int)).toNat < os.length := by omega
      refine ⟨os[(n % (os.length : Int)).toNat], List.getElem_mem _, ?_⟩
      have : atI (os.map dfhD) (((n % (os.length : Int)).toNat : Nat) : Int) = some (dfhD os[(n % (os.length : Int)).toNat]) := atI_nat (by
        rw [List.getElem?_map, List.getElem?_eq_getElem hi]
        rfl)
      rw [show (((n % (os.length : Int)).toNat : Nat) : Int) = n % (os.length : Int) by omega] at this
      exact this
    obtain ⟨d, hd, ed⟩ := hat
    obtain ⟨hd1, hd2⟩ := hfl d hd
    obtain ⟨hdn, hdl, hdx⟩ := hp.dn d hd1
    rw [ed]
    unfold dfhD
    walk_at "vc"
    refine ⟨by omega, ⟨by omega, by omega⟩, ?_⟩
    refine lc_sel (fun _ y => ∃ e, y = Ex.d e ∧ okX 1 0 e) (fun _ => False) ?_ trivial (fun i y R1 R0 hy h1 h0 => ?_) fun acc hs => ?_
    · show (List.map _ _).length < _
      rw [sizeLine_eq, List.length_map, List.length_range]; omega
    · obtain ⟨hi, rfl⟩ := rng_get hy
      have hi : i < d.2.length := by simpa using hi
      walk_at "vc"
      refine ⟨wm60 (by omega) (by omega), wd60 (by omega) (by omega), n / (3 * (i : Int) + 4), a, p, rfl, ha, hp, ?_, fun e he => h1 _ ⟨e, rfl, he⟩⟩
      have q1 := Int.ediv_le_self (3 * (i : Int) + 4) hn.1
      have q2 := Int.ediv_nonneg hn.1 (show 0 ≤ 3 * (i : Int) + 4 by omega)
      omega
    · obtain ⟨es, rfl, hel, hee⟩ := sel_exs hs
      have hel : es.length ≤ 3 := by rw [hel, List.length_map, List.length_range]; omega
      exact h (.call 0 x d.1 es) trivial (p_call hx hdn hel (fun e he => (hee e he).mono (by decide) (by decide)) (List.mem_map.mpr ⟨d, hd1, rfl⟩) hd2) trivial
def spPlain6 : SpT := fun ds M Q _ => ∃ (a : Addr) (p : Pl6) (k n : Int) (z : Zp), ds = [.ref a, .int k, .int n] ∧ M a = some (.dK (planD p)) ∧ M p.op = some (.lst (pile6 z)) ∧ okP6 p ∧ (0 ≤ k ∧ k < 24) ∧ (0 ≤ n ∧ n ≤ 2147483648) ∧ ∀ s, isPl s → p46 (fsP p) p.mn s → inLp z.inW s → Q (.tup (.str s.wd :: s.tail)) M
theorem ok_l_plain (T : Tp K mg) : Fn P w K mg base CX0 4 "_law_plain" spPlain6 := by
  refine fn_top T 49 e_l_plain (m_l_plain T) sc_l_plain (by rintro _ M Q Et ⟨a, p, k, n, z, rfl, _⟩; rfl) (fun cdv A outer s H E hr => ⟨_, (qss_cons (qs_set (i := 3) sc_l_plain.nd (q_ix (q_dget (hu_of hr) (qv 0) q_str) (q_op oq_mod (qv 2) q_int)))
 (qss_cons (qs_set (i := 4) sc_l_plain.nd (q_call (ok_l_told T) (hr.mono (by decide)) (qa_cons (q_op oq_fdiv (qv 2) q_int) (qa_cons (qv 0) qa_nil))))
 (qss_cons (qs_if (qt_cmp oq_lt (qv 1) q_int)
  (qss_one (qs_ret (q_tup (qa_cons q_str (qa_cons (qv 3) (qa_cons (qv 4) qa_nil))))))
  qss_nil)
 (qss_cons (qs_if (qt_cmp oq_lt (qv 1) q_int)
  (qss_one (qs_ret (q_tup (qa_cons q_str (qa_cons (q_call (ok_l_place T) (hr.mono (by decide)) (qa_cons (q_op oq_fdiv (qv 2) q_int) (qa_cons (qv 0) qa_nil))) (qa_cons (qv 4) qa_nil))))))
  qss_nil)
 (qss_cons (qs_if (qt_w (qw_and (qt_cmp oq_eq (qv 1) q_int) (qw_and1 (qt_cmp oq_inQ q_str (q_dget (hu_of hr) (qv 0) q_str)))))
  (qss_one (qs_ret (q_tup (qa_cons (q_ix (q_lst (qa_cons q_str (qa_cons q_str qa_nil))) (q_op oq_mod (qv 2) q_int)) qa_nil))))
  qss_nil)
 (qss_cons (qs_if (qt_cmp oq_eq (qv 1) q_int)
  (qss_one (qs_ret (q_call (ok_l_call T) (hr.mono (by decide)) (qa_cons (qv 0) (qa_cons (qv 3) (qa_cons (q_op oq_fdiv (qv 2) q_int) qa_nil))))))
  qss_nil)
 (qss_cons (qs_if (qt_cmp oq_eq (qv 1) q_int)
  (qss_one (qs_ret (q_tup (qa_cons q_str qa_nil))))
  qss_nil)
 (qss_cons (qs_if (qt_cmp oq_eq (qv 1) q_int)
  (qss_one (qs_ret (q_tup (qa_cons q_str (qa_cons (qv 3) (qa_cons (q_ix (q_lst (qa_lits (ds := [.str "sum", .str "most", .str "least", .str "ahead"]) rfl)) (q_op oq_mod (q_op oq_fdiv (qv 2) q_int) q_int)) (qa_cons (qv 4) qa_nil)))))))
  qss_nil)
 (qss_cons (qs_if (qt_w (qw_and (qt_cmp oq_eq (qv 1) q_int) (qw_and1 (qt_cmp oq_eq (q_op oq_mod (qv 2) q_int) q_int))))
  (qss_one (qs_ret (q_tup (qa_cons q_str qa_nil))))
  qss_nil)
 (qss_cons (qs_if (qt_w (qw_and (qt_cmp oq_eq (qv 1) q_int) (qw_and1 (qt_not (qt_val (q_dget (hu_of hr) (qv 0) q_str))))))
  (qss_one (qs_ret (q_tup (qa_cons q_str (qa_cons (qv 4) qa_nil)))))
  qss_nil)
 (qss_one (qs_ret (q_tup (qa_cons q_str (qa_cons (qv 4) qa_nil))))))))))))))), ?_⟩) (fun _ _ _ _ _ _ us hl => match us, hl with | [_, _, _], _ => rfl)
  rintro _ M Q Et ⟨a, p, k, n, z, rfl, ha, hop, hp, hk, hn, h⟩
  walk_at "vc"
  rw [oDA_nm ha, oSome_i, uIx_l]
  have b9 := modB (a := n) (b := 9) (by decide)
  obtain ⟨x, _, hx, e⟩ := nm_at hp b9.1 b9.2
  rw [e, oSome_i]
  refine ⟨wd60 (by decide) (by decide), n / 9, a, p, rfl, ha, hp, by omega, fun e he => ?_⟩
  have tel : Q (.tup [.str (Str.ofString "tell"), e.d]) M := h (.tell 0 e) trivial (p_tell he) trivial
  dsimp only
  by_cases k5 : k < 5
  · rw [if_pos k5]
    exact h (.set 0 x e) trivial (p_set hx he) trivial
  rw [if_neg k5]
  by_cases k8 : k < 8
  · rw [if_pos k8]
    exact ⟨wd60 (by decide) (by decide), n / 5, a, p, rfl, ha, hp, by omega, fun e2 he2 => h (.put 0 e2 e) trivial (p_put (he2.mono (by decide) (by decide)) he) trivial⟩
  rw [if_neg k8]
  have mnv : oDA (M a) (D.str (Str.ofString "main")) fun r => oSome r fun d => oBl d fun c => if c = false then Q (D.tup [D.str (Str.ofString "return"), e.d]) M else Q (D.tup [D.str (Str.ofString "tell"), e.d]) M := by
    rw [ha]
    walk_at "vc"
    split
    · rename_i hm
      exact h (.ret 0 e) trivial (by rw [hm]; exact p_ret he) trivial
    · exact tel
  have rest : (if k = 19 then CDivW n 5 ∧ spCall6 [D.ref a, D.str x, D.int (n / 5)] M Q Et0 else
      if k = 20 then Q (D.tup [D.str (Str.ofString "meet")]) M else
      if k = 21 then CDivW n 6 ∧ oSome (atI [D.str (Str.ofString "sum"), D.str (Str.ofString "most"), D.str (Str.ofString "least"), D.str (Str.ofString "ahead")] (n / 6 % 4)) fun d_1 => Q (D.tup [D.str (Str.ofString "join"), D.str x, d_1, e.d]) M else
      if k = 22 then if n % 3 = 0 then Q (D.tup [D.str (Str.ofString "stop")]) M else
          if k = 22 then oDA (M a) (D.str (Str.ofString "main")) fun r => oSome r fun d => oBl d fun c => if c = false then Q (D.tup [D.str (Str.ofString "return"), e.d]) M else Q (D.tup [D.str (Str.ofString "tell"), e.d]) M else Q (D.tup [D.str (Str.ofString "tell"), e.d]) M
      else if k = 22 then oDA (M a) (D.str (Str.ofString "main")) fun r => oSome r fun d => oBl d fun c => if c = false then Q (D.tup [D.str (Str.ofString "return"), e.d]) M else Q (D.tup [D.str (Str.ofString "tell"), e.d]) M else Q (D.tup [D.str (Str.ofString "tell"), e.d]) M) := by
    by_cases k19 : k = 19
    · rw [if_pos k19]
      exact ⟨wd60 (by decide) (by decide), a, p, x, n / 5, rfl, ha, hp, hx, by omega, fun s h1 h2 h3 => h s h1 h2 (lp_up h1 h3)⟩
    rw [if_neg k19]
    by_cases k20 : k = 20
    · rw [if_pos k20]
      exact h (.meet 0) trivial (p_nil rfl trivial (fun _ _ _ _ q => (by cases q)) (fun _ _ q => (by cases q))) trivial
    rw [if_neg k20]
    by_cases k21 : k = 21
    · rw [if_pos k21]
      obtain ⟨jw, hjw, je⟩ := four_at (n := n / 6)
      rw [je]
      exact ⟨wd60 (by decide) (by decide), h (.join 0 x jw e) trivial (p_join hx hjw he) trivial⟩
    rw [if_neg k21]
    by_cases k22 : k = 22
    · rw [if_pos k22]
      by_cases n3 : n % 3 = 0
      · rw [if_pos n3]
        exact h (.stop 0) trivial (p_nil rfl trivial (fun _ _ _ _ q => (by cases q)) (fun _ _ q => (by cases q))) trivial
      · rw [if_neg n3, if_pos k22]
        exact mnv
    · rw [if_neg k22, if_neg k22]
      exact tel
  by_cases k18 : k = 18
  · rw [if_pos k18]
    have e1 : ∀ F : Option D → Prop, oDA (M a) (.str (Str.ofString "opened")) F = F (some (.ref p.op)) := fun F => by
      rw [ha]
      show F (valD (planD p) (.inr (Str.ofString "opened"))) = _
      rw [pl_opened]
    rw [e1]
    simp only [oSome_i]
    have e2 : seqOf M (.ref p.op) = some (pile6 z) := by rw [seqOf_r]; exact lstOf_at hop
    rw [e2]
    simp only [oSome_i]
    refine ⟨rfl, pile_flat, ?_⟩
    by_cases hw : ((pile6 z).any fun y => eqD y (D.str (Str.ofString "while"))) = true
    · rw [if_pos hw]
      have hin := pile_in hw
      rcases two_of (n := n) (x := D.str (Str.ofString "break")) (y := D.str (Str.ofString "again")) with e3 | e3
      · rw [e3]
        exact h (.brk 0) trivial (p_nil rfl trivial (fun _ _ _ _ q => (by cases q)) (fun _ _ q => (by cases q))) (ks_inW6 hin)
      · rw [e3]
        exact h (.agn 0) trivial (p_nil rfl trivial (fun _ _ _ _ q => (by cases q)) (fun _ _ q => (by cases q))) (ks_inW6 hin)
    · rw [if_neg hw]
      exact rest
  · rw [if_neg k18]
    exact rest
def spOpen6 : SpT := fun ds M Q _ => ∃ (a r : Addr) (p : Pl6) (k n o : Int) (z : Zp) (Pre : List D), ds = [.ref a, .ref r, .int k, .int n] ∧ M a = some (.dK (planD p)) ∧ M p.op = some (.lst (pile6 z)) ∧ M r = some (.lst (Pre ++ txs6 z.tx)) ∧ r ≠ p.op ∧ okP6 p ∧ (9 ≤ k ∧ k < 14) ∧ (0 ≤ n ∧ n ≤ 2147483648) ∧ okYl (fsP p) p.mn o z ∧ z.ks.length < 5 ∧ Pre.length + z.tx.length ≤ 10000 ∧
  ∀ z', okYl (fsP p) p.mn o z' → z'.ks.length ≤ 5 → z'.tx.length ≤ z.tx.length + 2 → Q .non (mup (mup M r (.lst (Pre ++ txs6 z'.tx))) p.op (.lst (pile6 z')))
theorem ok_l_open (T : Tp K mg) : Fn P w K mg base CX0 4 "_law_open" spOpen6 := by
  refine fn_top T 47 e_l_open (m_l_open T) sc_l_open (by rintro _ M Q Et ⟨a, r, p, k, n, o, z, Pre, rfl, _⟩; rfl) (fun cdv A outer s H E hr => ⟨_, (qss_cons (qs_set (i := 4) sc_l_open.nd (q_ix (q_dget (hu_of hr) (qv 0) q_str) (q_op oq_mod (qv 3) q_int)))
 (qss_cons (qs_set (i := 5) sc_l_open.nd (q_tup (qa_cons q_str (qa_cons (q_tup (qa_cons q_str (qa_cons (qv 4) qa_nil))) (qa_cons (q_tup (qa_cons q_str (qa_cons (q_op oq_addI q_int (q_op oq_mod (q_op oq_fdiv (qv 3) q_int) q_int)) qa_nil))) qa_nil)))))
 (qss_cons (qs_if (qt_cmp oq_lt (qv 2) q_int)
  (qss_one (qs_expr (q_append (qv 1) (qa_cons (q_tup (qa_cons q_str (qa_cons (q_ix (q_lst (qa_cons (qv 5) (qa_cons (q_call (ok_l_told T) (hr.mono (by decide)) (qa_cons (q_op oq_fdiv (qv 3) q_int) (qa_cons (qv 0) qa_nil))) qa_nil))) (q_op oq_mod (qv 2) q_int)) qa_nil))) qa_nil))))
  (qss_cons (qs_set (i := 6) sc_l_open.nd (q_callTy cq_int (m_int T) (by decide +kernel) (qa_cons (q_cmp oq_eq (q_op oq_mod (q_op oq_fdiv (qv 3) q_int) q_int) q_int) qa_nil)))
 (qss_cons (qs_expr (q_append (qv 1) (qa_cons (q_tup (qa_cons q_str (qa_cons (q_ix (q_lst (qa_cons (qv 5) (qa_cons (q_call (ok_l_told T) (hr.mono (by decide)) (qa_cons (q_op oq_fdiv (qv 3) q_int) (qa_cons (qv 0) qa_nil))) qa_nil))) (qv 6)) qa_nil))) qa_nil)))
 (qss_one (qs_expr (q_append (qv 1) (qa_cons (q_tup (qa_cons q_str (qa_cons (qv 4) (qa_cons (q_tup (qa_cons q_str (qa_cons (q_tup (qa_cons q_str (qa_cons (qv 4) qa_nil))) (qa_cons (q_tup (qa_cons q_str (qa_cons q_int qa_nil))) qa_nil)))) qa_nil)))) qa_nil)))))))
 (qss_one (qs_expr (q_append (q_dget (hu_of hr) (qv 0) q_str) (qa_cons (q_ix (q_lst (qa_cons q_str (qa_cons q_str qa_nil))) (q_op oq_fdiv (qv 2) q_int)) qa_nil))))))), ?_⟩) (fun _ _ _ _ _ _ us hl => match us, hl with | [_, _, _, _], _ => rfl)
  rintro _ M Q Et ⟨a, r, p, k, n, o, z, Pre, rfl, ha, hop, hrr, hro, hp, hk, hn, hz, hz5, hpre, h⟩
  walk_at "vc"
  rw [oDA_nm ha, oSome_i, uIx_l]
  have b6 := modB (a := n) (b := 6) (by decide)
  obtain ⟨x, _, hx, e⟩ := nm_at hp b6.1 (by omega)
  rw [e, oSome_i]
  have har : a ≠ r := fun q => by rw [q, hrr] at ha; cases ha
  have hpl : (pile6 z).length = z.ks.length := by unfold pile6; rw [List.length_map, List.length_reverse]
  have hrl : (Pre ++ txs6 z.tx).length ≤ 10000 := by unfold txs6; rw [List.length_append, List.length_map]; exact hpre
  have fin : ∀ (L : List D) (w : Str) (z' : Zp), atI [D.str (Str.ofString "if"), D.str (Str.ofString "while")] (k / 12) = some (.str w) → z'.ks = w :: z.ks → L = Pre ++ txs6 z'.tx → okYl (fsP p) p.mn o z' → z'.tx.length ≤ z.tx.length + 2 →
      oDA (mup M r (.lst L) a) (D.str (Str.ofString "opened")) fun r_1 => oSome r_1 fun d_1 => (lstOf (mup M r (.lst L)) d_1).isSome = true ∧ CDivW k 12 ∧ oSome (atI [D.str (Str.ofString "if"), D.str (Str.ofString "while")] (k / 12)) fun d_2 => mAppend d_1 [d_2] (mup M r (.lst L)) fun x M1 => Q D.non M1 := fun L w z' h1 h2 h3 h4 h5 => by
    have ka : (mup M r (.lst L)) a = some (.dK (planD p)) := by rw [mup_ne har]; exact ha
    have ko : (mup M r (.lst L)) p.op = some (.lst (pile6 z)) := by rw [mup_ne fun q => hro q.symm]; exact hop
    rw [ka]
    walk_at "vc"
    rw [h1]
    walk_at "vc"
    rw [mLst_at ko]
    walk_at "vc"
    refine ⟨is_m ko, wd60 (by decide) (by decide), by omega, ?_⟩
    have := h z' h4 (by rw [h2, List.length_cons]; omega) h5
    rw [← h3, show pile6 z' = pile6 z ++ [.str w] from by unfold pile6; rw [h2, List.reverse_cons, List.map_append]; rfl] at this
    exact this
  have htest : t46 (.op .lt (.nam x) (.num (1 + n / 6 % 4))) := (x_op (x_nam hx) (x_num (by have := modB (a := n / 6) (b := 4) (by decide); exact ⟨by omega, by omega⟩))).mono (by decide) (by decide)
  refine ⟨wd60 (by decide) (by decide), ?_⟩
  by_cases k12 : k < 12
  · rw [if_pos k12]
    refine ⟨is_m hrr, wd60 (by decide) (by decide), n / 7, a, p, rfl, ha, hp, by omega, fun e1 he1 => ?_⟩
    dsimp only
    have go : ∀ e2 : Ex, t46 e2 → oSome (mLst M r) fun ds => ds.length < 16777216 ∧ oDA (mup M r (MO.lst (ds ++ [D.tup [D.str (Str.ofString "if"), e2.d]])) a) (D.str (Str.ofString "opened")) fun r_1 => oSome r_1 fun d_1 => (lstOf (mup M r (MO.lst (ds ++ [D.tup [D.str (Str.ofString "if"), e2.d]]))) d_1).isSome = true ∧ CDivW k 12 ∧ oSome (atI [D.str (Str.ofString "if"), D.str (Str.ofString "while")] (k / 12)) fun d_2 => mAppend d_1 [d_2] (mup M r (MO.lst (ds ++ [D.tup [D.str (Str.ofString "if"), e2.d]]))) fun x M1 => Q D.non M1 := fun e2 he2 => by
      rw [mLst_at hrr, oSome_i]
      refine ⟨by omega, ?_⟩
      obtain ⟨z', g1, g2, g3⟩ := y_if hz he2 (by omega)
      refine fin _ (Str.ofString "if") z' ?_ g2 ?_ g3 (by rw [g1, List.length_append]; show _ + 1 ≤ _; omega)
      · rw [show k / 12 = 0 by omega]; exact atI_0
      · rw [g1, txs6_app, List.append_assoc]; rfl
    rcases two_of (n := k) (x := (Ex.op .lt (.nam x) (.num (1 + n / 6 % 4))).d) (y := e1.d) with q | q
    · rw [show [D.tup [D.str (Str.ofString "<"), D.tup [D.str (Str.ofString "name"), D.str x], D.tup [D.str (Str.ofString "num"), D.int (1 + n / 6 % 4)]], e1.d] = [(Ex.op .lt (.nam x) (.num (1 + n / 6 % 4))).d, e1.d] from rfl, q, oSome_i]
      exact go _ htest
    · rw [show [D.tup [D.str (Str.ofString "<"), D.tup [D.str (Str.ofString "name"), D.str x], D.tup [D.str (Str.ofString "num"), D.int (1 + n / 6 % 4)]], e1.d] = [(Ex.op .lt (.nam x) (.num (1 + n / 6 % 4))).d, e1.d] from rfl, q, oSome_i]
      exact go _ he1
  · rw [if_neg k12]
    refine ⟨wd60 (by decide) (by decide), is_m hrr, wd60 (by decide) (by decide), n / 7, a, p, rfl, ha, hp, by omega, fun e1 he1 => ?_⟩
    dsimp only
    have ex2 : ∃ e2 : Ex, t46 e2 ∧ atI [D.tup [D.str (Str.ofString "<"), D.tup [D.str (Str.ofString "name"), D.str x], D.tup [D.str (Str.ofString "num"), D.int (1 + n / 6 % 4)]], e1.d] (if n / 24 % 4 = 0 then 1 else 0) = some e2.d := by
      by_cases q : n / 24 % 4 = 0
      · exact ⟨e1, he1, by rw [if_pos q]; exact atI_1⟩
      · exact ⟨_, htest, by rw [if_neg q]; exact atI_0⟩
    obtain ⟨e2, he2, q⟩ := ex2
    rw [q, oSome_i, mLst_at hrr, oSome_i]
    refine ⟨by omega, by omega, ?_⟩
    obtain ⟨z', g1, g2, g3, g4⟩ := y_whl hz he2 (by omega)
    obtain ⟨z2, j1, j2, j3⟩ := y_pl (s := .set 0 x (.op .add (.nam x) (.num 1))) g3 trivial (p_set hx ((x_op (x_nam hx) (x_num (i := 1) ⟨by decide, by decide⟩)).mono (by decide) (by decide))) trivial (by rw [g2, List.length_cons]; omega)
    refine fin _ (Str.ofString "while") z2 ?_ (by rw [j2, g2]) ?_ j3 (by rw [j1, g1, List.length_append, List.length_append]; show _ + 1 + 1 ≤ _; omega)
    · rw [show k / 12 = 1 by omega]; exact atI_1
    · rw [j1, g1, txs6_app, txs6_app, List.append_assoc, List.append_assoc, List.append_assoc]; rfl
theorem asE_at {M : MH} {a : Addr} {ds : List D} (h : M a = some (.lst ds)) : asD M (.ref a) = some (.lst ds) := by unfold asD; dsimp only; rw [h]
theorem mup_comm {M : MH} {a b : Addr} {o u : MO} (h : a ≠ b) : mup (mup M a o) b u = mup (mup M b u) a o := by
  funext x
  unfold mup
  by_cases h1 : x = a
  · subst h1
    simp only [if_neg h, if_true]
  · simp only [if_neg h1]
theorem cut_last {xs : List D} {x : D} : Tl.cutD (xs ++ [x]) (some (-1)) none = [x] := by
  unfold Tl.cutD
  rw [HT.sIx_none]
  have : HT.sIx (xs ++ [x]).length 0 (some (-1)) = xs.length := by
    unfold HT.sIx
    rw [List.length_append, List.length_singleton]
    simp
    omega
  rw [this, List.length_append, List.length_singleton, show xs.length + 1 - xs.length = 1 by omega, List.drop_left]
  rfl
theorem ix_last {n : Nat} : ixN (n + 1) (-1) = some n := by
  unfold ixN
  rw [if_neg (by omega), if_pos (by omega)]
  congr 1
  omega
theorem kd_ok : ∀ k : Kd, PyData.strOk k.w = true
  | .iff _ => show PyData.strOk (Str.ofString "if") = true by decide +kernel
  | .els _ _ => show PyData.strOk (Str.ofString "else") = true by decide +kernel
  | .whl _ => show PyData.strOk (Str.ofString "while") = true by decide +kernel
theorem ks_ok : ∀ z : Zp, ∀ x ∈ z.ks, PyData.strOk x = true
  | .top b, x, hx => by cases hx
  | .inn k l z b, x, hx => by
    rcases List.mem_cons.mp hx with rfl | hx
    · exact kd_ok k
    · exact ks_ok z x hx
theorem pile_ok (z : Zp) : okDs 2 (pile6 z) ∧ plDs (pile6 z) := by
  unfold pile6
  have : ∀ xs : List Str, (∀ x ∈ xs, PyData.strOk x = true) → okDs 2 (xs.map D.str) ∧ plDs (xs.map D.str) := fun xs => by
    induction xs with
    | nil => intro _; exact ⟨okDs_nil, by unfold plDs; trivial⟩
    | cons x t ih =>
      intro hx
      obtain ⟨i1, i2⟩ := ih fun y hy => hx y (List.mem_cons_of_mem _ hy)
      exact ⟨okDs_cons (okD_str (hx x (List.mem_cons_self ..))) i1, by rw [List.map_cons, plDs]; exact ⟨by unfold plD; trivial, i2⟩⟩
  exact this _ fun x hx => ks_ok z x (List.mem_reverse.mp hx)
def spGrow6 : SpT := fun ds M Q _ => ∃ (a r : Addr) (p : Pl6) (c o : Int) (z : Zp) (Pre : List D), ds = [.ref a, .ref r, .int c] ∧ M a = some (.dK (planD p)) ∧ M p.op = some (.lst (pile6 z)) ∧ M r = some (.lst (Pre ++ txs6 z.tx)) ∧ r ≠ p.op ∧ okP6 p ∧ okYl (fsP p) p.mn o z ∧ z.ks.length ≤ 5 ∧ Pre.length + z.tx.length ≤ 10000 ∧
  ∀ z', okYl (fsP p) p.mn o z' → z'.ks.length ≤ 5 → z'.tx.length ≤ z.tx.length + 2 → Q .non (mup (mup M r (.lst (Pre ++ txs6 z'.tx))) p.op (.lst (pile6 z')))
theorem ok_l_grow (T : Tp K mg) : Fn P w K mg base CX0 5 "_law_grow" spGrow6 := by
  refine fn_top T 50 e_l_grow (m_l_grow T) sc_l_grow (by rintro _ M Q Et ⟨a, r, p, c, o, z, Pre, rfl, _⟩; rfl) (fun cdv A outer s H E hr => ⟨_, (qss_cons (qs_set (i := 3) sc_l_grow.nd (q_call (ok_l_mixed T) (hr.mono (by decide)) (qa_cons (qv 2) (qa_cons (q_callB cq_len (m_len T) (by decide +kernel) (qa_cons (qv 1) qa_nil)) qa_nil))))
 (qss_cons (qs_set (i := 4) sc_l_grow.nd (q_op oq_mod (q_call (ok_l_mixed T) (hr.mono (by decide)) (qa_cons (qv 2) (qa_cons (q_op oq_addI (q_callB cq_len (m_len T) (by decide +kernel) (qa_cons (qv 1) qa_nil)) q_int) qa_nil))) q_int))
 (qss_cons (qs_set (i := 5) sc_l_grow.nd (q_dget (hu_of hr) (qv 0) q_str))
 (qss_one (qs_if (qt_w (qw_and (qt_chain oq_lt oq_lt q_int (qv 4) q_int) (qw_and1 (qt_cmp oq_lt (q_callB cq_len (m_len T) (by decide +kernel) (qa_cons (qv 5) qa_nil)) q_int))))
  (qss_one (qs_expr (q_call (ok_l_open T) (hr.mono (by decide)) (qa_cons (qv 0) (qa_cons (qv 1) (qa_cons (qv 4) (qa_cons (qv 3) qa_nil)))))))
  (qss_one (qs_if (qt_w (qw_and (qt_cmp oq_eq (qv 4) q_int) (qw_and1 (qt_cmp (oq_eqD (un64 hr)) (q_sliceL (qv 5) (qo_some (q_un uq_neg q_int)) qo_none) (q_lst (qa_cons q_str qa_nil))))))
  (qss_cons (qs_asg q_str (qg_sub (qv 5) (q_un uq_neg q_int) sq_list))
 (qss_one (qs_expr (q_append (qv 1) (qa_cons (q_tup (qa_cons q_str qa_nil)) qa_nil)))))
  (qss_one (qs_if (qt_w (qw_and (qt_chain oq_lt oq_lt q_int (qv 4) q_int) (qw_and1 (qt_cmp (oq_neD (un64 hr)) (qv 5) (q_lst qa_nil)))))
  (qss_cons (qs_expr (q_pop (qv 5)))
 (qss_one (qs_expr (q_append (qv 1) (qa_cons (q_tup (qa_cons q_str qa_nil)) qa_nil)))))
  (qss_one (qs_expr (q_append (qv 1) (qa_cons (q_call (ok_l_plain T) (hr.mono (by decide)) (qa_cons (qv 0) (qa_cons (qv 4) (qa_cons (qv 3) qa_nil)))) qa_nil))))))))))))), ?_⟩) (fun _ _ _ _ _ _ us hl => match us, hl with | [_, _, _], _ => rfl)
  rintro _ M Q Et ⟨a, r, p, c, o, z, Pre, rfl, ha, hop, hrr, hro, hp, hz, hz5, hpre, h⟩
  have har : a ≠ r := fun q => by rw [q, hrr] at ha; cases ha
  have hpl : (pile6 z).length = z.ks.length := by unfold pile6; rw [List.length_map, List.length_reverse]
  have hrl : (Pre ++ txs6 z.tx).length = Pre.length + z.tx.length := by unfold txs6; rw [List.length_append, List.length_map]
  walk_at "vc"
  rw [lenOf_at hrr hrl]
  walk_at "vc"
  refine ⟨c, _, rfl, by omega, fun n hn => ?_⟩
  walk_at "vc"
  rw [lenOf_at hrr hrl]
  walk_at "vc"
  refine ⟨c, _, rfl, by omega, fun k0 hk0 => ?_⟩
  walk_at "vc"
  have b24 := modB (a := k0) (b := 24) (by decide)
  generalize k0 % 24 = k at b24 ⊢
  have plain : (lstOf M (D.ref r)).isSome = true ∧ spPlain6 [D.ref a, D.int k, D.int n] M (fun x M1 => oSome (mLst M1 r) fun ds => ds.length < 16777216 ∧ Q D.non (mup M1 r (MO.lst (ds ++ [x])))) Et0 := by
    refine ⟨is_m hrr, a, p, k, n, z, rfl, ha, hop, hp, b24, hn, fun s h1 h2 h3 => ?_⟩
    dsimp only
    rw [mLst_at hrr, oSome_i]
    refine ⟨by omega, ?_⟩
    obtain ⟨z', g1, g2, g3⟩ := y_pl hz h1 h2 h3 hz5
    have := h z' g3 (by rw [g2]; exact hz5) (by rw [g1, List.length_append]; show _ + 1 ≤ _; omega)
    rw [show pile6 z' = pile6 z from by unfold pile6; rw [g2], g1, mup_idem (by rw [mup_ne fun q => hro q.symm]; exact hop), txs6_app, ← List.append_assoc] at this
    have e : D.tup (.str s.wd :: s.tail) = (Tx.pln (s.to 0)).d := by cases s <;> rfl
    rw [e]
    exact this
  have e1 : ∀ F : Option D → Prop, oDA (M a) (.str (Str.ofString "opened")) F = F (some (.ref p.op)) := fun F => by
    rw [ha]
    show F (valD (planD p) (.inr (Str.ofString "opened"))) = _
    rw [pl_opened]
  rw [e1, oSome_i]
  have endd : bNeD (.ref p.op) (D.lst []) M fun x M1 => oBl x fun c => if c = true then (lstOf M1 (.ref p.op)).isSome = true ∧ mPop (.ref p.op) [] M1 fun x M1 => (lstOf M1 (D.ref r)).isSome = true ∧ oSome (mLst M1 r) fun ds => ds.length < 16777216 ∧ Q D.non (mup M1 r (MO.lst (ds ++ [D.tup [D.str (Str.ofString "end")]])))
      else (lstOf M1 (D.ref r)).isSome = true ∧ spPlain6 [D.ref a, D.int k, D.int n] M1 (fun x M1 => oSome (mLst M1 r) fun ds => ds.length < 16777216 ∧ Q D.non (mup M1 r (MO.lst (ds ++ [x])))) Et0 := by
    cases hks : z.ks with
    | nil =>
      have e0 : pile6 z = [] := by unfold pile6; rw [hks]; rfl
      rw [e0] at hop
      refine neD_same 2 (asE_at hop) rfl (okD_lst okDs_nil) ?_
      rw [oBl_i, if_neg (by decide)]
      exact plain
    | cons w rr =>
      obtain ⟨q1, q2⟩ := pile_ok z
      have ep : pile6 z = rr.reverse.map D.str ++ [.str w] := by unfold pile6; rw [hks, List.reverse_cons, List.map_append]; rfl
      refine neD_pl 3 (asE_at hop) rfl (okD_lst q1) (okD_lst okDs_nil) (by unfold plD; exact q2) (by unfold plD plDs; trivial) fun b hb => ?_
      cases b with
      | true =>
        have := D.lst.inj (hb.mp rfl)
        rw [ep] at this
        exact absurd this (by simp)
      | false =>
        show oBl (D.bl true) _
        rw [oBl_i, if_pos rfl]
        refine ⟨is_m hop, ?_⟩
        rw [uPop, mLst_at hop, oSome_i, ep, List.getLast?_concat, oSome_i, List.dropLast_concat]
        have hr2 : (mup M p.op (.lst (rr.reverse.map D.str))) r = some (.lst (Pre ++ txs6 z.tx)) := by rw [mup_ne hro]; exact hrr
        refine ⟨is_m hr2, ?_⟩
        rw [mLst_at hr2, oSome_i]
        refine ⟨by omega, ?_⟩
        obtain ⟨z', g1, g2, g3⟩ := y_fin hz hks
        have := h z' g3 (by rw [g2]; have := congrArg List.length hks; rw [List.length_cons] at this; omega) (by rw [g1, List.length_append]; show _ + 1 ≤ _; omega)
        rw [show pile6 z' = rr.reverse.map D.str from by unfold pile6; rw [g2], g1, txs6_app, ← List.append_assoc, mup_comm hro] at this
        exact this
  by_cases k9 : 8 < k ∧ k < 14
  · rw [if_pos k9.1, if_pos k9.2, lenOf_at hop hpl, oSome_i]
    by_cases k5 : (z.ks.length : Int) < 5
    · rw [if_pos k5]
      exact ⟨a, r, p, k, n, o, z, Pre, rfl, ha, hop, hrr, hro, hp, by omega, hn, hz, by omega, hpre, h⟩
    · rw [if_neg k5, if_neg (by omega), if_neg (by omega)]
      exact plain
  by_cases k14 : k = 14
  · subst k14
    rw [if_pos (by decide), if_neg (by decide), if_pos rfl, lstOf_at hop, oSome_i]
    cases hks : z.ks with
    | nil =>
      have e0 : pile6 z = [] := by unfold pile6; rw [hks]; rfl
      rw [e0, show Tl.cutD ([] : List D) (some (-1)) none = [] from rfl]
      refine eqD_pl 2 rfl rfl (okD_lst okDs_nil) (okD_lst (okDs_cons (okD_str (by decide +kernel)) okDs_nil)) (by unfold plD plDs; trivial) (by unfold plD plDs plD plDs; exact ⟨trivial, trivial⟩) fun b hb => ?_
      cases b with
      | true => exact absurd (hb.mp rfl) (fun q => by cases q)
      | false =>
        rw [oBl_i, if_neg (by decide), if_neg (by decide)]
        exact plain
    | cons w rr =>
      have ep : pile6 z = rr.reverse.map D.str ++ [.str w] := by unfold pile6; rw [hks, List.reverse_cons, List.map_append]; rfl
      rw [ep, cut_last]
      have kw := ks_ok z w (by rw [hks]; exact List.mem_cons_self ..)
      refine eqD_pl 2 rfl rfl (okD_lst (okDs_cons (okD_str kw) okDs_nil)) (okD_lst (okDs_cons (okD_str (by decide +kernel)) okDs_nil)) (by unfold plD plDs plD plDs; exact ⟨trivial, trivial⟩) (by unfold plD plDs plD plDs; exact ⟨trivial, trivial⟩) fun b hb => ?_
      cases b with
      | false =>
        rw [oBl_i, if_neg (by decide), if_neg (by decide)]
        exact plain
      | true =>
        have hw2 : w = Str.ofString "if" := D.str.inj (List.cons.inj (D.lst.inj (hb.mp rfl))).1
        subst hw2
        rw [oBl_i, if_pos rfl, uSet, mLst_at hop, oSome_i, ep, List.length_append, List.length_singleton, ix_last, oSome_i, List.set_append_right _ _ (Nat.le_refl _), Nat.sub_self]
        have hr2 : (mup M p.op (.lst (rr.reverse.map D.str ++ [D.str (Str.ofString "if")].set 0 (.str (Str.ofString "else"))))) r = some (.lst (Pre ++ txs6 z.tx)) := by rw [mup_ne hro]; exact hrr
        refine ⟨is_m hr2, ?_⟩
        rw [mLst_at hr2, oSome_i]
        refine ⟨by omega, ?_⟩
        obtain ⟨z', g1, g2, g3⟩ := y_els hz hks
        have := h z' g3 (by rw [g2]; have := congrArg List.length hks; rw [List.length_cons] at this ⊢; omega) (by rw [g1, List.length_append]; show _ + 1 ≤ _; omega)
        rw [show pile6 z' = rr.reverse.map D.str ++ [D.str (Str.ofString "if")].set 0 (.str (Str.ofString "else")) from by unfold pile6; rw [g2, List.reverse_cons, List.map_append]; rfl, g1, txs6_app, ← List.append_assoc, mup_comm hro] at this
        exact this
  by_cases k17 : 14 < k ∧ k < 18
  · rw [if_pos (by omega), if_neg (by omega), if_neg k14, if_pos k17.1, if_pos k17.2]
    exact endd
  · by_cases k8 : 8 < k
    · rw [if_pos k8, if_neg (by omega), if_neg k14]
      by_cases q : 14 < k
      · rw [if_pos q, if_neg (by omega)]
        exact plain
      · rw [if_neg q]
        exact plain
    · rw [if_neg k8, if_neg k14, if_neg (by omega)]
      exact plain
end
end K46
namespace K46
open PySem PySem.Spec PyProof.Rows L2 Tl
section
variable {P : Program} {w : World} {K : PySem.W.Frag} {mg : Str → Option Value} {base : Heap}
def dfN (d : Df) : Str × List Str := (d.name, d.ps)
def spRows6 : SpT := fun ds M Q _ => ∃ (a : Addr) (p : Pl6) (cs : List Int), ds = [.ref a, .lst (cs.map .int)] ∧ M a = some (.dK (plan3 p)) ∧ okP6 p ∧ cs.length ≤ 80 ∧ ∀ pg M', pg.map dfN = p.dfs → (∀ d ∈ pg, okD6 (fsP p) d) → pgN 1 pg → (pgTx pg).length ≤ 600 → (∀ b o, b ≠ a → M b = some o → M' b = some o) → Q (.lst (txs6 (pgTx pg))) M'
theorem ok_l_rows (T : Tp K mg) : Fn P w K mg base CX0 6 "_law_rows" spRows6 := by
  refine fn_top T 51 e_l_rows (m_l_rows T) sc_l_rows (by rintro _ M Q Et ⟨a, p, cs, rfl, _⟩; rfl) (fun cdv A outer s H E hr => ⟨_, (qss_cons (qs_set (i := 2) sc_l_rows.nd (q_lstM qa_nil))
 (qss_cons (qs_set (i := 3) sc_l_rows.nd (q_op oq_fdiv (q_callB cq_len (m_len T) (by decide +kernel) (qa_cons (qv 1) qa_nil)) q_int))
 (qss_cons (qs_set (i := 4) sc_l_rows.nd q_int)
 (qss_cons (qs_for PassesOwn.never rfl (qi_list (q_dget (hu_of hr) (qv 0) q_str)) (qg_tup (n := 2) rfl (qgs_cons (qg_name (i := 5) sc_l_rows.nd) (qgs_cons (qg_name (i := 6) sc_l_rows.nd) qgs_nil)))
  (qss_cons (qs_set (i := 7) sc_l_rows.nd (qv 3))
 (qss_cut (qs_if (qt_cmp oq_eq (qv 5) q_str)
  (qss_one (qs_set (i := 7) sc_l_rows.nd (q_op oq_sub (q_callB cq_len (m_len T) (by decide +kernel) (qa_cons (qv 1) qa_nil)) (q_op oq_mul (qv 3) (q_op oq_sub (q_callB cq_len (m_len T) (by decide +kernel) (qa_cons (q_dget (hu_of hr) (qv 0) q_str) qa_nil)) q_int)))))
  qss_nil)
 (qss_cons (qs_expr (q_update (qv 0) (q_disp (vps_cons (q_cmp oq_eq (qv 5) q_str) (vps_cons (q_lstM qa_nil) vps_nil)) (by simp) (by simp) (by first | decide +kernel | (dsimp only [List.map]; decide +kernel)))))
 (qss_cons (qs_expr (q_append (qv 2) (qa_cons (q_tup (qa_cons q_str (qa_cons (qv 5) (qa_cons (qv 6) qa_nil)))) qa_nil)))
 (qss_cut (qs_for PassesOwn.never rfl (qi_list (q_sliceL (qv 1) (qo_some (qv 4)) (qo_some (q_op oq_addI (qv 4) (qv 7))))) (qg_name (i := 8) sc_l_rows.nd)
  (qss_one (qs_expr (q_call (ok_l_grow T) (hr.mono (by decide)) (qa_cons (qv 0) (qa_cons (qv 2) (qa_cons (qv 8) qa_nil)))))))
 (qss_cons (qs_set (i := 2) sc_l_rows.nd (q_op oq_catM (qv 2) (q_op oq_rep (q_lst (qa_cons (q_tup (qa_cons q_str qa_nil)) qa_nil)) (q_op oq_addI (q_callB cq_len (m_len T) (by decide +kernel) (qa_cons (q_dget (hu_of hr) (qv 0) q_str) qa_nil)) q_int))))
 (qss_one (qs_set (i := 4) sc_l_rows.nd (q_op oq_addI (qv 4) (qv 7)))))))))))
 (qss_one (qs_ret (q_re (qv 2)))))))), ?_⟩) (fun _ _ _ _ _ _ us hl => match us, hl with | [_, _], _ => rfl)
  rintro _ M Q Et ⟨a, p, cs, rfl, ha, hp, hcl, h⟩
  walk_at "vc"
  intro r hr0
  refine ⟨wd60 (by decide) (by decide), ?_⟩
  have har : a ≠ r := fun q => by rw [q, hr0] at ha; cases ha
  have ha1 : (mup M r (.lst [])) a = some (.dK (plan3 p)) := by rw [mup_ne har]; exact ha
  rw [ha1]
  walk_at "vc"
  have hdl := hp.dl
  refine for_map p.dfs dfhD rfl (fun ys τ M' => ∃ (pg : Pg) (r : Addr) (st : Int) (kv : List (Key × D)) (v5 v6 v7 v8 : Option D), pg.map dfN = ys ∧ (∀ d ∈ pg, okD6 (fsP p) d) ∧ pgN 1 pg ∧ (pgTx pg).length ≤ 180 * ys.length ∧ M r = none ∧ M' r = some (.lst (txs6 (pgTx pg))) ∧ M' a = some (.dK kv) ∧
      (∀ b op, mergeM kv ([kS "main", kS "opened"].zip [D.bl b, .ref op]) = planD { p with mn := b, op := op }) ∧ valD kv (.inr (Str.ofString "defs")) = some (.lst (p.dfs.map dfhD)) ∧ kv.length ≤ 5 ∧ (∀ b o, b ≠ a → M b = some o → M' b = some o) ∧ τ = [some (.ref a), some (.lst (cs.map .int)), some (.ref r), some (.int ((cs.length : Int) / 6)), some (.int st), v5, v6, v7, v8])
    ⟨[], r, 0, plan3 p, none, none, none, none, rfl, fun d hd => (by cases hd), trivial, Nat.zero_le _, hr0, mup_same, ha1, fun b op => plan_first, p3_defs, by show 3 ≤ 5; decide, fun b o hb e => by rw [mup_ne (fun q => by rw [q, hr0] at e; cases e)]; exact e, rfl⟩ (fun _ _ _ _ => trivial) ?_ ?_
  · rintro ys x zs τ M' Nx hx ⟨pg, r, st, kv, v5, v6, v7, v8, hpg, hok, hnm, hln, hr0, hr, hka, hkv, hkd, hkl, hold, rfl⟩ hN
    obtain ⟨nm, ps⟩ := x
    have hxm : (nm, ps) ∈ p.dfs := by rw [hx]; simp
    obtain ⟨hn1, hn2, hn3⟩ := hp.dn _ hxm
    dsimp only at hn1 hn2 hn3
    unfold dfhD
    walk_at "vc"
    refine cut_by (fun τ M1 => ∃ sz : Int, M1 = M' ∧ τ = [some (.ref a), some (.lst (cs.map .int)), some (.ref r), some (.int ((cs.length : Int) / 6)), some (.int st), some (.str nm), some (.lst (ps.map .str)), some (.int sz), v8]) ?_ ?_
    · walk_at "vc"
      have e1 : ∀ F : Option D → Prop, oDA (M' a) (.str (Str.ofString "defs")) F = F (some (.lst (p.dfs.map dfhD))) := fun F => by
        rw [hka]
        show F (valD kv (.inr (Str.ofString "defs"))) = _
        rw [hkd]
      split
      · rw [e1]
        walk_at "vc"
        exact ⟨wm60 (by omega) (by omega), _, rfl⟩
      · exact ⟨_, rfl⟩
    rintro τ M1 ⟨sz, rfl, rfl⟩
    walk_at "vc"
    refine ⟨⟨a, _, rfl, hka, trivial⟩, fun op hop x2 hx2 => ?_⟩
    have d1 : a ≠ op := fun q => by rw [q, hop] at hka; cases hka
    have d2 : r ≠ op := fun q => by rw [q, hop] at hr; cases hr
    have gop : M op = none := by
      cases e : M op with
      | none => rfl
      | some o => have := hold op o d1.symm e; rw [hop] at this; cases this
    have h1a : (mup M1 op (.lst [])) a = some (.dK kv) := by rw [mup_ne d1]; exact hka
    have h1r : (mup M1 op (.lst [])) r = some (.lst (txs6 (pgTx pg))) := by rw [mup_ne d2]; exact hr
    have d3 : a ≠ x2 := fun q => by rw [q, hx2] at h1a; cases h1a
    have d4 : r ≠ x2 := fun q => by rw [q, hx2] at h1r; cases h1r
    have d5 : op ≠ x2 := fun q => by rw [← q, mup_same] at hx2; cases hx2
    have dra : r ≠ a := fun q => by rw [q, hka] at hr; cases hr
    change sUpd _ _ (mup (mup M1 op (.lst [])) x2 (.dK ([kS "main", kS "opened"].zip [D.bl (decide (nm = Str.ofString "main")), D.ref op]))) _
    refine ⟨a, x2, kv, _, rfl, rfl, d3, by rw [mup_ne d3]; exact h1a, mup_same, by rw [sizeLine_eq]; show kv.length + 2 ≤ _; omega, ?_⟩
    rw [hkv]
    have gold : ∀ b o, b ≠ a → M b = some o → (mup (mup (mup M1 op (.lst [])) x2 (.dK ([kS "main", kS "opened"].zip [D.bl (decide (nm = Str.ofString "main")), D.ref op]))) a (.dK (planD { p with mn := decide (nm = Str.ofString "main"), op := op }))) b = some o := fun b o hb e => by
      have e2 := hold b o hb e
      have n1 : b ≠ op := fun q => by rw [q, hop] at e2; cases e2
      have e3 : (mup M1 op (.lst [])) b = some o := by rw [mup_ne n1]; exact e2
      have n2 : b ≠ x2 := fun q => by rw [q, hx2] at e3; cases e3
      rw [mup_ne hb, mup_ne n2, mup_ne n1]
      exact e2
    have ga : (mup (mup (mup M1 op (.lst [])) x2 (.dK ([kS "main", kS "opened"].zip [D.bl (decide (nm = Str.ofString "main")), D.ref op]))) a (.dK (planD { p with mn := decide (nm = Str.ofString "main"), op := op }))) a = some (.dK (planD { p with mn := decide (nm = Str.ofString "main"), op := op })) := mup_same
    have go : (mup (mup (mup M1 op (.lst [])) x2 (.dK ([kS "main", kS "opened"].zip [D.bl (decide (nm = Str.ofString "main")), D.ref op]))) a (.dK (planD { p with mn := decide (nm = Str.ofString "main"), op := op }))) op = some (.lst []) := by rw [mup_ne d1.symm, mup_ne d5]; exact mup_same
    have gr : (mup (mup (mup M1 op (.lst [])) x2 (.dK ([kS "main", kS "opened"].zip [D.bl (decide (nm = Str.ofString "main")), D.ref op]))) a (.dK (planD { p with mn := decide (nm = Str.ofString "main"), op := op }))) r = some (.lst (txs6 (pgTx pg))) := by rw [mup_ne dra, mup_ne d4]; exact h1r
    generalize mup (mup (mup M1 op (.lst [])) x2 (.dK ([kS "main", kS "opened"].zip [D.bl (decide (nm = Str.ofString "main")), D.ref op]))) a (.dK (planD { p with mn := decide (nm = Str.ofString "main"), op := op })) = M2 at gold ga go gr ⊢
    clear hold hka hkv hkd hkl h1a h1r hop hx2 d3 d4 d5 hr
    have hlt : (txs6 (pgTx pg)).length ≤ 180 * ys.length := by unfold txs6; rw [List.length_map]; exact hln
    have hyl := congrArg List.length hx
    rw [List.length_append, List.length_cons] at hyl
    refine ⟨is_m gr, ?_⟩
    rw [mLst_at gr, oSome_i]
    refine ⟨by omega, ?_⟩
    have hold3 : ∀ b o, b ≠ a → M b = some o → (mup M2 r (.lst (txs6 (pgTx pg) ++ [D.tup [.str (Str.ofString "def"), .str nm, .lst (ps.map .str)]]))) b = some o := fun b o hb e => by
      rw [mup_ne fun q => by rw [q, hr0] at e; cases e]
      exact gold b o hb e
    have ga3 : (mup M2 r (.lst (txs6 (pgTx pg) ++ [D.tup [.str (Str.ofString "def"), .str nm, .lst (ps.map .str)]]))) a = some (.dK (planD { p with mn := decide (nm = Str.ofString "main"), op := op })) := by rw [mup_ne dra.symm]; exact ga
    have go3 : (mup M2 r (.lst (txs6 (pgTx pg) ++ [D.tup [.str (Str.ofString "def"), .str nm, .lst (ps.map .str)]]))) op = some (.lst (pile6 (.top []))) := by rw [mup_ne d2.symm]; exact go
    have gr3 : (mup M2 r (.lst (txs6 (pgTx pg) ++ [D.tup [.str (Str.ofString "def"), .str nm, .lst (ps.map .str)]]))) r = some (.lst ((txs6 (pgTx pg) ++ [D.tup [.str (Str.ofString "def"), .str nm, .lst (ps.map .str)]]) ++ txs6 (Zp.top []).tx)) := by
      rw [tx_top, txB_nil, show txs6 [] = [] from rfl, List.append_nil]
      exact mup_same
    generalize mup M2 r (.lst (txs6 (pgTx pg) ++ [D.tup [.str (Str.ofString "def"), .str nm, .lst (ps.map .str)]])) = M3 at hold3 ga3 go3 gr3 ⊢
    clear gold ga go gr
    have hpl : (txs6 (pgTx pg) ++ [D.tup [.str (Str.ofString "def"), .str nm, .lst (ps.map .str)]]).length ≤ 180 * ys.length + 1 := by rw [List.length_append]; show _ + 1 ≤ _; omega
    have epre : txs6 (pgTx pg) ++ [D.tup [.str (Str.ofString "def"), .str nm, .lst (ps.map .str)]] = txs6 (pgTx pg ++ [.dff [.str nm, .lst (ps.map .str)]]) := by rw [txs6_app]; rfl
    generalize txs6 (pgTx pg) ++ [D.tup [.str (Str.ofString "def"), .str nm, .lst (ps.map .str)]] = Pre at hpl gr3 epre ⊢
    have hp2 : okP6 { p with mn := decide (nm = Str.ofString "main"), op := op } := ⟨hp.nl, hp.ns, hp.dl, hp.dn, hp.room⟩
    refine cut_by (fun τ M4 => ∃ (z : Zp) (v8 : Option D), okYl (fsP p) (decide (nm = Str.ofString "main")) (1 + (pgTx pg).length + 1) z ∧ z.ks.length ≤ 5 ∧ z.tx.length ≤ 160 ∧ M4 a = some (.dK (planD { p with mn := decide (nm = Str.ofString "main"), op := op })) ∧ M4 op = some (.lst (pile6 z)) ∧ M4 r = some (.lst (Pre ++ txs6 z.tx)) ∧ (∀ b o, b ≠ a → M b = some o → M4 b = some o) ∧ τ = [some (.ref a), some (.lst (cs.map .int)), some (.ref r), some (.int ((cs.length : Int) / 6)), some (.int st), some (.str nm), some (.lst (ps.map .str)), some (.int sz), v8]) ?_ ?_
    · walk_at "vc"
      rw [cut_map]
      have hcl2 : (cutA cs (some st) (some (st + sz))).length ≤ 80 := by
        have := cut_len (xs := cs.map D.int) (lo := some st) (hi := some (st + sz))
        rw [cut_map, List.length_map, List.length_map] at this
        omega
      generalize cutA cs (some st) (some (st + sz)) = xs at hcl2 ⊢
      refine for_map xs D.int rfl (fun us τ M4 => ∃ (z : Zp) (v8 : Option D), okYl (fsP p) (decide (nm = Str.ofString "main")) (1 + (pgTx pg).length + 1) z ∧ z.ks.length ≤ 5 ∧ z.tx.length ≤ 2 * us.length ∧ M4 a = some (.dK (planD { p with mn := decide (nm = Str.ofString "main"), op := op })) ∧ M4 op = some (.lst (pile6 z)) ∧ M4 r = some (.lst (Pre ++ txs6 z.tx)) ∧ (∀ b o, b ≠ a → M b = some o → M4 b = some o) ∧ τ = [some (.ref a), some (.lst (cs.map .int)), some (.ref r), some (.int ((cs.length : Int) / 6)), some (.int st), some (.str nm), some (.lst (ps.map .str)), some (.int sz), v8])
        ⟨.top [], v8, y_top, Nat.zero_le _, by rw [tx_top, txB_nil]; exact Nat.zero_le _, ga3, go3, gr3, hold3, rfl⟩ (fun _ _ _ _ => trivial) ?_ ?_
      · rintro us x vs τ M4 Ny hx3 ⟨z, v8, hz, hk5, htl, ka, ko, kr, hold4, rfl⟩ hM
        have hul := congrArg List.length hx3
        rw [List.length_append, List.length_cons] at hul
        walk_at "vc"
        refine ⟨a, r, { p with mn := decide (nm = Str.ofString "main"), op := op }, x, _, z, Pre, rfl, ka, ko, kr, d2, hp2, hz, hk5, by omega, fun z' h1 h2 h3 => hM _ _ ⟨z', _, h1, h2, by rw [List.length_append]; show _ ≤ 2 * (us.length + 1); omega, ?_, mup_same, ?_, fun b o hb e => ?_, rfl⟩⟩
        · rw [mup_ne d1, mup_ne dra.symm]; exact ka
        · rw [mup_ne d2]; exact mup_same
        · rw [mup_ne (fun q => (by rw [q, gop] at e; cases e)), mup_ne (fun q => (by rw [q, hr0] at e; cases e))]
          exact hold4 b o hb e
      · rintro τ M4 ⟨z, v8, hz, hk5, htl, ka, ko, kr, hold4, rfl⟩
        exact ⟨z, v8, hz, hk5, by omega, ka, ko, kr, hold4, rfl⟩
    rintro τ M4 ⟨z, v8, hz, hk5, htl, ka, ko, kr, hold4, rfl⟩
    have hpk : (pile6 z).length = z.ks.length := by unfold pile6; rw [List.length_map, List.length_reverse]
    obtain ⟨t1, t2, t3⟩ := yall hz
    walk_at "vc"
    rw [ka]
    walk_at "vc"
    rw [lenOf_at ko hpk, lstOf_at kr]
    walk_at "vc"
    have hfl : (List.replicate ((z.ks.length : Int) + 1).toNat [D.tup [D.str (Str.ofString "end")]]).flatten = txs6 (List.replicate (z.ks.length + 1) Tx.fin) := by
      rw [show ((z.ks.length : Int) + 1).toNat = z.ks.length + 1 by omega]
      generalize z.ks.length + 1 = k
      induction k with
      | zero => rfl
      | succ k ih => rw [List.replicate_succ, List.replicate_succ, List.flatten_cons, ih]; rfl
    rw [hfl]
    have htxl : (txs6 z.tx).length = z.tx.length := List.length_map ..
    have hrp : (txs6 (List.replicate (z.ks.length + 1) Tx.fin)).length = z.ks.length + 1 := by unfold txs6; rw [List.length_map, List.length_replicate]
    refine ⟨⟨by omega, by omega⟩, by omega, fun r2 hr2 => ?_⟩
    have hr20 : M r2 = none := by
      cases e : M r2 with
      | none => rfl
      | some o =>
        have n1 : r2 ≠ a := fun q => by rw [q, ka] at hr2; cases hr2
        have := hold4 r2 o n1 e
        rw [hr2] at this
        cases this
    have n2 : a ≠ r2 := fun q => by rw [← q, ka] at hr2; cases hr2
    have eT : Pre ++ txs6 z.tx ++ txs6 (List.replicate (z.ks.length + 1) Tx.fin) = txs6 (pgTx (pg ++ [⟨nm, ps, z.all, 1 + (pgTx pg).length, 1 + (pgTx pg).length + 1 + (txB z.all).length⟩])) := by
      rw [epre, ← txs6_app, ← txs6_app, pgTx_app]
      congr 1
      show _ = pgTx pg ++ (Tx.dff [.str nm, .lst (ps.map .str)] :: (txB z.all ++ [.fin]) ++ [])
      rw [t3, List.replicate_succ', List.append_nil]
      simp only [List.append_assoc, List.cons_append, List.nil_append]
    have hzl : (txB z.all).length = z.tx.length + z.ks.length := by rw [t3, List.length_append, List.length_replicate]
    rw [eT]
    refine hN _ _ ⟨pg ++ [⟨nm, ps, z.all, 1 + (pgTx pg).length, 1 + (pgTx pg).length + 1 + (txB z.all).length⟩], r2, _, planD { p with mn := decide (nm = Str.ofString "main"), op := op }, _, _, _, _, by rw [List.map_append, hpg]; rfl, fun d hd => ?_, pgN_app hnm ⟨rfl, t1, rfl, trivial⟩, ?_, hr20, mup_same, by rw [mup_ne n2]; exact ka, fun b op' => plan_next, pl_defs, by show 5 ≤ 5; decide, fun b o hb e => ?_, rfl⟩
    · rcases List.mem_append.mp hd with hd | hd
      · exact hok d hd
      · cases List.mem_singleton.mp hd
        exact ⟨hn1, hn2, hn3, t2⟩
    · rw [pgTx_app, List.length_append, List.length_append]
      show _ + (Tx.dff _ :: (txB z.all ++ [Tx.fin]) ++ []).length ≤ 180 * (ys.length + 1)
      rw [List.append_nil, List.length_cons, List.length_append, hzl]
      show _ + (_ + 1 + 1) ≤ _
      omega
    · rw [mup_ne (fun q => (by rw [q, hr20] at e; cases e))]
      exact hold4 b o hb e
  · rintro τ M' ⟨pg, r, st, kv, v5, v6, v7, v8, hpg, hok, hnm, hln, hr0, hr, hka, hkv, hkd, hkl, hold, rfl⟩
    walk_at "vc"
    refine ⟨_, _, ReR.freeze hr, h pg _ hpg hok hnm (by omega) fun b o hb e => ?_⟩
    unfold mdel
    rw [if_neg (fun q => by rw [q, hr0] at e; cases e)]
    exact hold b o hb e
end
end K46
namespace K46
open PySem PySem.Spec PyProof.Rows L2 Tl
section
variable {P : Program} {w : World} {K : PySem.W.Frag} {mg : Str → Option Value} {base : Heap}
def txsD (R : List Tx) : List D := R.map Tx.d
mutual
theorem lp_true : ∀ s : Sm, inLp True s
  | .if1 _ _ b => by unfold inLp; exact lps_true b
  | .if2 _ _ b c => by unfold inLp; exact ⟨lps_true b, lps_true c⟩
  | .whl _ _ b => by unfold inLp; exact lps_true b
  | .brk _ => trivial
  | .agn _ => trivial
  | .set .. => trivial
  | .put .. => trivial
  | .tell .. => trivial
  | .ret .. => trivial
  | .stop _ => trivial
  | .meet _ => trivial
  | .join .. => trivial
  | .call .. => trivial
theorem lps_true : ∀ b : List Sm, inLps True b
  | [] => by unfold inLps; trivial
  | s :: t => by unfold inLps; exact ⟨lp_true s, lps_true t⟩
end
theorem len_tx : ∀ b : List Sm, b.length ≤ (txB b).length
  | [] => Nat.zero_le _
  | s :: t => by
    rw [txB_cons, List.length_append, List.length_cons]
    have := txS_pos s
    have := len_tx t
    omega
theorem seg_blk {R : List Tx} {o : Nat} {T : List Sm} (hsg : ∀ i, i < (txB T).length → R[o + i]? = (txB T)[i]?) (hnm : nmB ((o : Int) + 1) T) : ∃ qt, BlkOk R qt o (enP []) True T := by
  obtain ⟨qt, _, _, hp⟩ := parB_ok T o [] (fun _ => 0)
  exact ⟨qt, hsg, hnm, hp, lps_true T⟩
theorem stD_snoc {T : List Sm} {k : Nat} {s : Sm} (h : T[k]? = some s) : stD (T.take (k + 1)) = stD (T.take k) ++ [s.d] := by
  rw [stD_map, stD_map, List.take_add_one, h, List.map_append]; rfl
theorem tx_lt {T : List Sm} {k : Nat} {s : Sm} (h : T[k]? = some s) : (txS s).length ≤ (txB T).length := by
  induction T generalizing k with
  | nil => cases h
  | cons x t ih =>
    rw [txB_cons, List.length_append]
    cases k with
    | zero => cases h; omega
    | succ k => have := ih (k := k) h; omega
/-- the block at a row, to the row behind it -/
def spBlock (n : Nat) : SpT := fun ds M Q _ => ∃ (R : List Tx) (o : Nat) (T : List Sm) (x : Tx), ds = [.lst (txsD R), .int o] ∧ (∀ i, i < (txB T).length → R[o + i]? = (txB T)[i]?) ∧ R[o + (txB T).length]? = some x ∧ (x = .fin ∨ x = .els) ∧ nmB ((o : Int) + 1) T ∧ deeps T + 1 ≤ n ∧ (txB T).length ≤ 1000 ∧ Q (.tup [.lst (stD T), .int ((o + (txB T).length : Nat) : Int)]) M
theorem ok_l_block (T : Tp K mg) : ∀ n, Fn P w K mg base CX0 (n + 1) "_law_block" (spBlock n)
  | 0 => by
    refine fn_top T 53 e_l_block (m_l_block T) sc_l_block (by rintro _ M Q Et ⟨R, o, T, x, rfl, _⟩; rfl) (fun cdv A outer s H E hr => ⟨_, qss_never, ?_⟩) (fun _ _ _ _ _ _ us hl => match us, hl with | [_, _], _ => rfl)
    rintro _ M Q Et ⟨R, o, T, x, rfl, _, _, _, _, hd, _⟩
    omega
  | n + 1 => by
    have ih := ok_l_block T n
    refine fn_top T 53 e_l_block (m_l_block T) sc_l_block (by rintro _ M Q Et ⟨R, o, T, x, rfl, _⟩; rfl) (fun cdv A outer s H E hr => ⟨_, (qss_cons (qs_set (i := 2) sc_l_block.nd (q_lstM qa_nil))
 (qss_cons (qs_while PassesOwn.never (qt_w (qw_and (qt_cmp oq_ne (q_ix (q_ix (qv 0) (qv 1)) q_int) q_str) (qw_and1 (qt_cmp oq_ne (q_ix (q_ix (qv 0) (qv 1)) q_int) q_str))))
  (qss_cons (qs_set (i := 3) sc_l_block.nd (q_ix (qv 0) (qv 1)))
 (qss_cons (qs_set (i := 4) sc_l_block.nd (q_op oq_addI (qv 1) q_int))
 (qss_cons (qs_if (qt_cmp oq_eq (q_ix (qv 3) q_int) q_str)
  (qss_cons (qs_asg (q_call ih (hr.mono (by omega)) (qa_cons (qv 0) (qa_cons (q_op oq_addI (qv 1) q_int) qa_nil))) (qg_tup (n := 2) rfl (qgs_cons (qg_name (i := 5) sc_l_block.nd) (qgs_cons (qg_name (i := 1) sc_l_block.nd) qgs_nil))))
 (qss_cons (qs_set (i := 6) sc_l_block.nd q_non)
 (qss_cons (qs_if (qt_cmp oq_eq (q_ix (q_ix (qv 0) (qv 1)) q_int) q_str)
  (qss_one (qs_asg (q_call ih (hr.mono (by omega)) (qa_cons (qv 0) (qa_cons (q_op oq_addI (qv 1) q_int) qa_nil))) (qg_tup (n := 2) rfl (qgs_cons (qg_name (i := 6) sc_l_block.nd) (qgs_cons (qg_name (i := 1) sc_l_block.nd) qgs_nil)))))
  qss_nil)
 (qss_one (qs_expr (q_append (qv 2) (qa_cons (q_tup (qa_cons q_str (qa_cons (qv 4) (qa_cons (q_ix (qv 3) q_int) (qa_cons (qv 5) (qa_cons (qv 6) qa_nil)))))) qa_nil)))))))
  (qss_one (qs_if (qt_cmp oq_eq (q_ix (qv 3) q_int) q_str)
  (qss_cons (qs_asg (q_call ih (hr.mono (by omega)) (qa_cons (qv 0) (qa_cons (q_op oq_addI (qv 1) q_int) qa_nil))) (qg_tup (n := 2) rfl (qgs_cons (qg_name (i := 7) sc_l_block.nd) (qgs_cons (qg_name (i := 1) sc_l_block.nd) qgs_nil))))
 (qss_one (qs_expr (q_append (qv 2) (qa_cons (q_tup (qa_cons q_str (qa_cons (qv 4) (qa_cons (q_ix (qv 3) q_int) (qa_cons (qv 7) qa_nil))))) qa_nil)))))
  (qss_one (qs_expr (q_append (qv 2) (qa_cons (q_op oq_catT (q_tup (qa_cons (q_ix (qv 3) q_int) (qa_cons (qv 4) qa_nil))) (q_sliceT (qv 3) (qo_some q_int) qo_none)) qa_nil)))))))
 (qss_one (qs_set (i := 1) sc_l_block.nd (q_op oq_addI (qv 1) q_int)))))))
 (qss_one (qs_ret (q_re (q_tup (qa_cons (qv 2) (qa_cons (qv 1) qa_nil)))))))), ?_⟩) (fun _ _ _ _ _ _ us hl => match us, hl with | [_, _], _ => rfl)
    rintro _ M Q Et ⟨R, o, T, x, rfl, hsg, hx, hxx, hnm, hd, hTl, h⟩
    walk_at "vc"
    intro p hp
    have c0 : Cel M (mup M p (.lst (stD []))) [(p, .lst (stD []))] := Cel.nil.fresh hp
    change sWh _ _ _ _ (mup M p (.lst (stD [])))
    generalize mup M p (.lst (stD [])) = M1 at c0 ⊢
    have rowAt : ∀ (k : Nat) (y : Tx), R[k]? = some y → atI (txsD R) (k : Int) = some y.d := fun k y hy => atI_nat (by unfold txsD; rw [List.getElem?_map, hy]; rfl)
    refine wh_any (fun m τ M' => ∃ (k : Nat) (v3 v4 v5 v6 v7 : Option D), k + m = T.length ∧ Cel M M' [(p, .lst (stD (T.take k)))] ∧ τ = [some (.lst (txsD R)), some (.int ((o + lnB (T.take k) : Nat) : Int)), some (.ref p), v3, v4, v5, v6, v7]) T.length
      ⟨0, none, none, none, none, none, by omega, c0, by rw [List.take_zero, show lnB [] = 0 from by unfold lnB; rw [txB_nil]; rfl, Nat.add_zero]⟩ ?_
    rintro m τ M' ⟨k, v3, v4, v5, v6, v7, hkm, hc, rfl⟩
    have kp : M' p = some (.lst (stD (T.take k))) := hc.at_ (p, _) (by simp)
    walk_at "vc"
    by_cases hk : k < T.length
    · obtain ⟨qt, blk⟩ := seg_blk hsg hnm
      have hd1 : T[k]? = some T[k] := List.getElem?_eq_getElem hk
      have hdm : T[k].deep ≤ deeps T := deeps_mem (List.getElem_mem hk)
      have htl := len_tx T
      have hst := blk.at_ hd1
      have htk := lnB_take hd1
      have hsn := stD_snoc hd1
      have htx := tx_lt hd1
      generalize T[k] = s at hd1 hdm hst htk hsn htx
      have hcel : ∀ d, d = s.d → Cel M (mup M' p (.lst (stD (T.take k) ++ [d]))) [(p, .lst (stD (T.take (k + 1))))] := fun d e1 => by
        subst e1
        rw [hsn]
        exact hc.set_ 0 (a := p) (o' := .lst (stD (T.take k) ++ [s.d])) rfl
      have hstl : (stD (T.take k)).length ≤ 1000 := by rw [stD_map, List.length_map, List.length_take]; omega
      generalize hao : o + lnB (T.take k) = a at hst ⊢
      have hln : s.line = (a : Int) + 1 := nmS_line hst.nm
      have row0 : ∀ x, (txS s)[0]? = some x → atI (txsD R) (a : Int) = some x.d := fun x hx => rowAt a x (by have := hst.sg 0 (txS_pos s); rw [Nat.add_zero] at this; rw [this]; exact hx)
      have hpos : o + lnB (T.take (k + 1)) = a + (txS s).length := by rw [htk]; omega
      have fin1 : ∀ (a' : Int) (d : D) (V3 V4 V5 V6 V7 : Option D), d = s.d → a' = ((a + (txS s).length : Nat) : Int) → ∃ m', m' < m ∧ ∃ (k' : Nat) (v3 v4 v5 v6 v7 : Option D), k' + m' = T.length ∧ Cel M (mup M' p (.lst (stD (T.take k) ++ [d]))) [(p, .lst (stD (T.take k')))] ∧ D.int a' = D.int ((o + lnB (T.take k') : Nat) : Int) ∧ V3 = v3 ∧ V4 = v4 ∧ V5 = v5 ∧ V6 = v6 ∧ V7 = v7 := fun a' d V3 V4 V5 V6 V7 e1 e2 =>
        ⟨m - 1, by omega, k + 1, V3, V4, V5, V6, V7, by omega, hcel d e1, by rw [hpos, e2], rfl, rfl, rfl, rfl, rfl⟩
      have plain : isPl s → (txS s).length = 1 ∧ R[a]? = some (.pln (s.to 0)) ∧ s.d = .tup (.str s.wd :: .int ((a : Int) + 1) :: s.tail) := fun hp => by
        have e := pl_tx hp
        refine ⟨by rw [e]; rfl, ?_, ?_⟩
        · have := hst.sg 0 (txS_pos s); rw [Nat.add_zero] at this; rw [this, e]; rfl
        · have := pl_row hp s.line
          rw [to_self, hln] at this
          exact this
      cases s with
      | if1 l e b =>
        obtain ⟨w1, w2, w3, w4, w5, w6⟩ := stm_if1 hst
        have hbl : (txB b).length + 2 ≤ (txB T).length := by rw [txS_if1, List.length_cons, List.length_append, List.length_singleton] at htx; omega
        have hbd : deeps b + 1 ≤ n := by have : (Sm.if1 l e b).deep = deeps b + 1 := rfl; omega
        rw [rowAt _ _ w1]
        unfold Tx.d
        walk_at "vc"
        refine ⟨R, a + 1, b, .fin, rfl, w2.sg, w3, Or.inl rfl, w2.nm, hbd, by omega, ?_⟩
        walk_at "vc"
        rw [show atI (txsD R) ((a + 1 + (txB b).length : Nat) : Int) = some (Tx.fin).d from rowAt _ _ w3]
        unfold Tx.d
        walk_at "vc"
        rw [mLst_at kp]
        walk_at "vc"
        exact ⟨is_m kp, by omega, fin1 _ _ _ _ _ _ _ (by rw [w6]; unfold Sm.d; rfl) (by rw [txS_if1, List.length_cons, List.length_append, List.length_singleton]; omega)⟩
      | if2 l e b c =>
        obtain ⟨w1, w2, w3, w4, w5, w6, w7, w8, w9⟩ := stm_if2 hst
        have hbl : (txB b).length + (txB c).length + 3 ≤ (txB T).length := by rw [txS_if2, List.length_cons, List.length_append, List.length_cons, List.length_append, List.length_singleton] at htx; omega
        have hbd : max (deeps b) (deeps c) + 1 ≤ n := by have : (Sm.if2 l e b c).deep = max (deeps b) (deeps c) + 1 := rfl; omega
        rw [rowAt _ _ w1]
        unfold Tx.d
        walk_at "vc"
        refine ⟨R, a + 1, b, .els, rfl, w2.sg, w3, Or.inr rfl, w2.nm, by omega, by omega, ?_⟩
        walk_at "vc"
        rw [show atI (txsD R) ((a + 1 + (txB b).length : Nat) : Int) = some (Tx.els).d from rowAt _ _ w3]
        unfold Tx.d
        walk_at "vc"
        refine ⟨R, a + 1 + lnB b + 1, c, .fin, rfl, w4.sg, w5, Or.inl rfl, w4.nm, by omega, by omega, ?_⟩
        walk_at "vc"
        rw [mLst_at kp]
        walk_at "vc"
        exact ⟨is_m kp, by omega, fin1 _ _ _ _ _ _ _ (by rw [w9]; unfold Sm.d; rfl) (by rw [txS_if2, List.length_cons, List.length_append, List.length_cons, List.length_append, List.length_singleton]; unfold lnB; omega)⟩
      | whl l e b =>
        obtain ⟨w1, w2, w3, w4, w5, w6⟩ := stm_whl hst
        have hbl : (txB b).length + 2 ≤ (txB T).length := by rw [txS_whl, List.length_cons, List.length_append, List.length_singleton] at htx; omega
        have hbd : deeps b + 1 ≤ n := by have : (Sm.whl l e b).deep = deeps b + 1 := rfl; omega
        rw [rowAt _ _ w1]
        unfold Tx.d
        walk_at "vc"
        refine ⟨R, a + 1, b, .fin, rfl, w2.sg, w3, Or.inl rfl, w2.nm, hbd, by omega, ?_⟩
        walk_at "vc"
        rw [mLst_at kp]
        walk_at "vc"
        exact ⟨is_m kp, by omega, fin1 _ _ _ _ _ _ _ (by rw [w6]; unfold Sm.d; rfl) (by rw [txS_whl, List.length_cons, List.length_append, List.length_singleton]; omega)⟩
      | _ =>
        obtain ⟨q1, q2, q3⟩ := plain trivial
        rw [rowAt _ _ q2]
        unfold Tx.d Sm.to Sm.wd Sm.tail
        walk_at "vc"
        rw [mLst_at kp]
        walk_at "vc"
        exact ⟨is_m kp, by omega, fin1 _ _ _ _ _ _ _ (by rw [q3]; rfl) (by rw [q1]; omega)⟩
    · have hkT : lnB (T.take k) = (txB T).length := lnB_all (by omega)
      rw [hkT, rowAt _ _ hx]
      rcases hxx with rfl | rfl
      · unfold Tx.d
        walk_at "vc"
        exact ⟨_, M, ReR.trans (ReR.tup_freeze [] [.int ((o + (txB T).length : Nat) : Int)] kp) (ReR.drop (Cel.del (pre := []) hc).old), by rw [List.take_of_length_le (by omega)]; exact h⟩
      · unfold Tx.d
        walk_at "vc"
        exact ⟨_, M, ReR.trans (ReR.tup_freeze [] [.int ((o + (txB T).length : Nat) : Int)] kp) (ReR.drop (Cel.del (pre := []) hc).old), by rw [List.take_of_length_le (by omega)]; exact h⟩
theorem pgN_split : ∀ {a b : Pg} {n : Int}, pgN n (a ++ b) → pgN (n + (pgTx a).length) b
  | [], b, n, h => by
    have : n + ((pgTx []).length : Int) = n := by show n + ((0 : Nat) : Int) = n; omega
    rw [this]
    exact h
  | d :: t, b, n, h => by
    have e : (pgTx (d :: t)).length = (dfTx d).length + (pgTx t).length := by show (dfTx d ++ pgTx t).length = _; rw [List.length_append]
    have := pgN_split (a := t) (b := b) h.2.2.2
    rw [e]
    rw [show n + ((dfTx d).length : Int) + ((pgTx t).length : Int) = n + (((dfTx d).length + (pgTx t).length : Nat) : Int) by omega] at this
    exact this
def spProgram6 : SpT := fun ds M Q _ => ∃ (pg : Pg), ds = [.lst (txs6 (pgTx pg))] ∧ pgN 1 pg ∧ (∀ d ∈ pg, deeps d.body ≤ 7) ∧ (pgTx pg).length ≤ 1000 ∧ Q (.lst (pgD pg)) M
theorem ok_l_program (T : Tp K mg) : Fn P w K mg base CX0 13 "_law_program" spProgram6 := by
  refine fn_top T 54 e_l_program (m_l_program T) sc_l_program (by rintro _ M Q Et ⟨pg, rfl, _⟩; rfl) (fun cdv A outer s H E hr => ⟨_, (qss_cons (qs_set (i := 1) sc_l_program.nd (q_lstM qa_nil))
 (qss_cons (qs_set (i := 2) sc_l_program.nd q_int)
 (qss_cons (qs_while PassesOwn.never (qt_cmp oq_lt (qv 2) (q_callB cq_len (m_len T) (by decide +kernel) (qa_cons (qv 0) qa_nil)))
  (qss_cons (qs_asg (q_call (ok_l_block T 8) (hr.mono (by decide)) (qa_cons (qv 0) (qa_cons (q_op oq_addI (qv 2) q_int) qa_nil))) (qg_tup (n := 2) rfl (qgs_cons (qg_name (i := 3) sc_l_program.nd) (qgs_cons (qg_name (i := 4) sc_l_program.nd) qgs_nil))))
 (qss_cons (qs_expr (q_append (qv 1) (qa_cons (q_tup (qa_cons (q_ix (q_ix (qv 0) (qv 2)) q_int) (qa_cons (q_callTy cq_list (m_list T) (by decide +kernel) (qa_cons (q_ix (q_ix (qv 0) (qv 2)) q_int) qa_nil)) (qa_cons (qv 3) (qa_cons (q_op oq_addI (qv 2) q_int) (qa_cons (q_op oq_addI (qv 4) q_int) qa_nil)))))) qa_nil)))
 (qss_one (qs_set (i := 2) sc_l_program.nd (q_op oq_addI (qv 4) q_int))))))
 (qss_one (qs_ret (q_re (qv 1))))))), ?_⟩) (fun _ _ _ _ _ _ us hl => match us, hl with | [_], _ => rfl)
  rintro _ M Q Et ⟨pg, rfl, hnm, hdp, hl, h⟩
  walk_at "vc"
  intro p hp
  have c0 : Cel M (mup M p (.lst (pgD []))) [(p, .lst (pgD []))] := Cel.nil.fresh hp
  change sWh _ _ _ _ (mup M p (.lst (pgD [])))
  generalize mup M p (.lst (pgD [])) = M1 at c0 ⊢
  have rowAt : ∀ (k : Nat) (y : Tx), (pgTx pg)[k]? = some y → atI (txs6 (pgTx pg)) (k : Int) = some y.d := fun k y hy => atI_nat (by unfold txs6; rw [List.getElem?_map, hy]; rfl)
  have hlen : (txs6 (pgTx pg)).length = (pgTx pg).length := List.length_map ..
  refine wh_any (fun m τ M' => ∃ (pre post : Pg) (v3 v4 : Option D), pg = pre ++ post ∧ post.length = m ∧ Cel M M' [(p, .lst (pgD pre))] ∧ τ = [some (.lst (txs6 (pgTx pg))), some (.ref p), some (.int ((pgTx pre).length : Nat)), v3, v4]) pg.length
    ⟨[], pg, none, none, rfl, rfl, c0, rfl⟩ ?_
  rintro m τ M' ⟨pre, post, v3, v4, epg, hpm, hc, rfl⟩
  have kp : M' p = some (.lst (pgD pre)) := hc.at_ (p, _) (by simp)
  walk_at "vc"
  rw [hlen]
  cases post with
  | nil =>
    rw [List.append_nil] at epg
    rw [if_neg (by rw [epg]; omega)]
    refine ⟨_, M, ReR.trans (ReR.freeze kp) (ReR.drop (Cel.del (pre := []) hc).old), ?_⟩
    rw [← epg]
    exact h
  | cons d t =>
    have eall : pgTx pg = pgTx pre ++ (Tx.dff [.str d.name, .lst (d.ps.map .str)] :: (txB d.body ++ ([.fin] ++ pgTx t))) := by
      rw [epg, pgTx_app]
      show pgTx pre ++ ((Tx.dff [.str d.name, .lst (d.ps.map .str)] :: (txB d.body ++ [.fin])) ++ pgTx t) = _
      simp only [List.cons_append, List.append_assoc]
    obtain ⟨n1, n2, n3, n4⟩ := pgN_split (a := pre) (b := d :: t) (by rw [← epg]; exact hnm)
    have hdl : (txB d.body).length + 2 + (pgTx pre).length ≤ (pgTx pg).length := by
      have := congrArg List.length eall
      rw [List.length_append, List.length_cons, List.length_append, List.length_append, List.length_singleton] at this
      omega
    have r0 : (pgTx pg)[(pgTx pre).length]? = some (Tx.dff [.str d.name, .lst (d.ps.map .str)]) := by
      rw [eall, List.getElem?_append_right (Nat.le_refl _), Nat.sub_self]
      rfl
    have r1 : ∀ i, i < (txB d.body).length → (pgTx pg)[(pgTx pre).length + 1 + i]? = (txB d.body)[i]? := fun i hi => by
      rw [eall, List.getElem?_append_right (by omega), show (pgTx pre).length + 1 + i - (pgTx pre).length = i + 1 by omega, List.getElem?_cons_succ, List.getElem?_append_left hi]
    have r2 : (pgTx pg)[(pgTx pre).length + 1 + (txB d.body).length]? = some Tx.fin := by
      rw [eall, List.getElem?_append_right (by omega), show (pgTx pre).length + 1 + (txB d.body).length - (pgTx pre).length = (txB d.body).length + 1 by omega, List.getElem?_cons_succ, List.getElem?_append_right (Nat.le_refl _), Nat.sub_self]
      rfl
    rw [if_pos (by omega)]
    refine ⟨pgTx pg, (pgTx pre).length + 1, d.body, .fin, by rw [Int.natCast_add]; rfl, r1, r2, Or.inl rfl, ?_, ?_, by omega, ?_⟩
    · rw [show (((pgTx pre).length + 1 : Nat) : Int) + 1 = 1 + ((pgTx pre).length : Int) + 1 by omega]
      exact n2
    · have := hdp d (by rw [epg]; simp)
      omega
    walk_at "vc"
    rw [rowAt _ _ r0]
    unfold Tx.d
    walk_at "vc"
    rw [mLst_at kp, oSome_i]
    have hpl : (pgD pre).length = pre.length := List.length_map ..
    have hpre : pre.length ≤ (pgTx pre).length := by
      have : ∀ l : Pg, l.length ≤ (pgTx l).length := fun l => by
        induction l with
        | nil => exact Nat.zero_le _
        | cons d t ih =>
          show t.length + 1 ≤ ((Tx.dff _ :: _) ++ pgTx t).length
          rw [List.length_append, List.length_cons]
          omega
      exact this pre
    have hdl2 : (pgTx (pre ++ [d])).length = (pgTx pre).length + ((txB d.body).length + 2) := by
      rw [pgTx_app, List.length_append]
      show _ + ((Tx.dff _ :: (txB d.body ++ [Tx.fin])) ++ []).length = _
      rw [List.append_nil, List.length_cons, List.length_append]
      rfl
    refine ⟨is_m kp, by omega, t.length, by rw [← hpm]; exact Nat.lt_succ_self _, pre ++ [d], t, _, _, by rw [epg, List.append_assoc]; rfl, rfl, ?_, by rw [hdl2]; congr 1; omega, rfl, rfl⟩
    have e2 : pgD pre ++ [D.tup [D.str d.name, D.lst (d.ps.map .str), D.lst (stD d.body), D.int (((pgTx pre).length : Int) + 1), D.int ((((pgTx pre).length + 1 + (txB d.body).length : Nat) : Int) + 1)]] = pgD (pre ++ [d]) := by
      unfold pgD
      rw [List.map_append]
      congr 1
      show [_] = [d.d]
      unfold Df.d
      rw [show d.first = ((pgTx pre).length : Int) + 1 by omega, show d.last = (((pgTx pre).length + 1 + (txB d.body).length : Nat) : Int) + 1 by omega]
    rw [e2]
    exact hc.set_ 0 (a := p) (o' := .lst (pgD (pre ++ [d]))) rfl
end
end K46
namespace K46
open PySem PySem.Spec PyProof.Rows L2 Tl
section
variable {P : Program} {w : World} {K : PySem.W.Frag} {mg : Str → Option Value} {base : Heap}
theorem sel_strs {Z : Str → Prop} {xs : List D} {ys : List D} (h : Sel (fun _ y => ∃ n, y = D.str n ∧ Z n) (fun _ => False) xs ys) : ∃ ns : List Str, ys = ns.map .str ∧ ns.length = xs.length ∧ ∀ n ∈ ns, Z n := by
  induction h with
  | nil => exact ⟨[], rfl, rfl, fun n hn => by cases hn⟩
  | keep h t ih =>
    obtain ⟨n, rfl, hn⟩ := h
    obtain ⟨ns, rfl, hl, hz⟩ := ih
    refine ⟨n :: ns, rfl, congrArg (· + 1) hl, fun m hm => ?_⟩
    rcases List.mem_cons.mp hm with rfl | hm
    · exact hn
    · exact hz m hm
  | drop h t ih => exact h.elim
def spPlan6 : SpT := fun ds M Q _ => ∃ (ns : List Int) (room : Nat), ds = [.scr (ns.map .int), .int room] ∧ room ≤ 12 ∧ ∀ p a M', okP6 p → (p.dfs.map (·.1)).Nodup → Str.ofString "main" ∈ p.dfs.map (·.1) → p.room = room → M a = none → M' a = some (.dK (plan3 p)) → (∀ b o, M b = some o → M' b = some o) → Q (.ref a) M'
theorem ok_l_plan (T : Tp K mg) : Fn P w K mg base CX0 2 "_law_plan" spPlan6 := by
  refine fn_top T 52 e_l_plan (m_l_plan T) sc_l_plan (by rintro _ M Q Et ⟨ns, room, rfl, _⟩; rfl) (fun cdv A outer s H E hr => ⟨_, (qss_cons (qs_set (i := 2) sc_l_plan.nd (q_call (ok_l_mixed T) (hr.mono (by decide)) (qa_cons (q_call (ok_l_cell T) (hr.mono (by decide)) (qa_cons (qv 0) (qa_cons q_int qa_nil))) (qa_cons q_int qa_nil))))
 (qss_cons (qs_set (i := 3) sc_l_plan.nd (q_call (ok_l_names T) (hr.mono (by decide)) (qa_cons (q_call (ok_l_mixed T) (hr.mono (by decide)) (qa_cons (q_call (ok_l_cell T) (hr.mono (by decide)) (qa_cons (qv 0) (qa_cons q_int qa_nil))) (qa_cons q_int qa_nil))) qa_nil)))
 (qss_cons (qs_set (i := 4) sc_l_plan.nd (q_op oq_addI q_int (q_op oq_mod (qv 2) q_int)))
 (qss_cons (qs_set (i := 5) sc_l_plan.nd (q_lstM qa_nil))
 (qss_cons (qs_for PassesOwn.never rfl (qi_range1 (m_range T) (qa_cons (qv 4) qa_nil)) (qg_name (i := 6) sc_l_plan.nd)
  (qss_one (qs_expr (q_append (qv 5) (qa_cons (q_tup (qa_cons (q_ix (qv 3) (q_op oq_addI q_int (qv 6))) (qa_cons (q_lc rfl sc_l_plan.nd (qi_range1 (m_range T) (qa_cons (q_op oq_mod (q_call (ok_l_mixed T) (hr.mono (by decide)) (qa_cons (qv 2) (qa_cons (qv 6) qa_nil))) q_int) qa_nil)) (blkOk_by (N := nm_l_plan) (sc := defScope s_l_plan) (own := [(("_law_j" : Str), 7)]) (by decide +kernel)) go_name (fun _ _ _ _ _ => (pg_name (i := 7) sc_l_plan.nd rfl (Or.inl rfl))) (fun _ _ _ _ _ => qts_nil) (fun _ _ _ _ _ => (q_ix (qv 3) (q_op oq_mod (q_op oq_addI (qv 6) (qv 7)) q_int)))) qa_nil))) qa_nil)))))
 (qss_cons (qs_asg (q_tup (qa_cons q_str (qa_cons (q_lst qa_nil) qa_nil))) (qg_sub (qv 5) (q_op oq_mod (q_op oq_fdiv (qv 2) q_int) (qv 4)) sq_list))
 (qss_one (qs_ret (q_disp (vps_cons (q_re (qv 3)) (vps_cons (q_re (qv 5)) (vps_cons (q_re (qv 1)) vps_nil))) (by simp) (by simp) (by first | decide +kernel | (dsimp only [List.map]; decide +kernel))))))))))), ?_⟩) (fun _ _ _ _ _ _ us hl => match us, hl with | [_, _], _ => rfl)
  rintro _ M Q Et ⟨ns, room, rfl, hrm, h⟩
  walk_at "vc"
  refine ⟨ns, 2, rfl, fun r2 => ⟨r2, 602, rfl, by decide, fun rs hrs => ?_⟩⟩
  walk_at "vc"
  refine ⟨ns, 1, rfl, fun r1 => ⟨r1, 601, rfl, by decide, fun rn hrn => ⟨rn, rfl, ?_⟩⟩⟩
  walk_at "vc"
  intro q hq
  have b3 := modB (a := rs) (b := 3) (by decide)
  obtain ⟨many, hmany⟩ : ∃ k : Nat, 1 + rs % 3 = (k : Int) := ⟨(1 + rs % 3).toNat, (Int.toNat_of_nonneg (by omega)).symm⟩
  rw [hmany]
  have hm3 : 1 ≤ many ∧ many ≤ 3 := by omega
  refine ⟨⟨by omega, by omega⟩, ?_⟩
  have hnmsl : ((List.range 9).map (nm44 rn)).length = 9 := by rw [List.length_map, List.length_range]
  have nmat : ∀ k : Nat, k < 9 → atI (((List.range 9).map (nm44 rn)).map D.str) (k : Int) = some (.str (nm44 rn k)) := fun k hk => atI_nat (by
    rw [List.getElem?_map, List.getElem?_map, List.getElem?_range hk]
    rfl)
  have nmz : ∀ i : Int, 0 ≤ i → i < 9 → atI (((List.range 9).map (nm44 rn)).map D.str) i = some (.str (nm44 rn i.toNat)) := fun i h0 h9 => by
    have := nmat i.toNat (by omega)
    rw [Int.toNat_of_nonneg h0] at this
    exact this
  have c0 : Cel M (mup M q (.lst (([] : List (Str × List Str)).map dfhD))) [(q, .lst (([] : List (Str × List Str)).map dfhD))] := Cel.nil.fresh hq
  change ForGo _ _ _ _ _ (mup M q (.lst (([] : List (Str × List Str)).map dfhD)))
  generalize mup M q (.lst (([] : List (Str × List Str)).map dfhD)) = M1 at c0 ⊢
  refine for_any (fun i τ M' => ∃ (ds : List (Str × List Str)) (v6 v7 : Option D), ds.length = i ∧ (∀ j (hj : j < ds.length), ds[j].1 = nm44 rn (6 + j)) ∧ (∀ d ∈ ds, d.2.length ≤ 3 ∧ ∀ x ∈ d.2, shN x) ∧ Cel M M' [(q, .lst (ds.map dfhD))] ∧ τ = [some (.scr (ns.map .int)), some (.int room), some (.int rs), some (.lst (((List.range 9).map (nm44 rn)).map .str)), some (.int (many : Nat)), some (.ref q), v6, v7])
    ⟨[], none, none, rfl, fun j hj => absurd hj (Nat.not_lt_zero _), fun d hd => (by cases hd), c0, rfl⟩ (fun _ _ _ _ => trivial) ?_ ?_
  · rintro i x τ M2 hx ⟨ds, v6, v7, hdl, hd1, hd2, hc, rfl⟩
    obtain ⟨hi, rfl⟩ := rng_get hx
    have hi : i < many := by simpa using hi
    have kq : M2 q = some (.lst (ds.map dfhD)) := hc.at_ (q, _) (by simp)
    walk_at "vc"
    rw [show (6 : Int) + (i : Int) = ((6 + i : Nat) : Int) by omega, nmat (6 + i) (by omega)]
    walk_at "vc"
    refine ⟨is_m kq, rs, _, rfl, by omega, fun rj hrj => ?_⟩
    walk_at "vc"
    have b4 := modB (a := rj) (b := 4) (by decide)
    refine ⟨⟨by omega, by omega⟩, ?_⟩
    refine lc_sel (fun _ y => ∃ x, y = D.str x ∧ shN x) (fun _ => False) ?_ trivial (fun j y R1 R0 hy h1 h0 => ?_) fun acc hs => ?_
    · show (List.map _ _).length < _
      rw [sizeLine_eq, List.length_map, List.length_range]; omega
    · obtain ⟨hj, rfl⟩ := rng_get hy
      have b6 := modB (a := (i : Int) + (j : Int)) (b := 6) (by decide)
      walk_at "vc"
      rw [nmz _ b6.1 (by omega)]
      walk_at "vc"
      exact h1 _ ⟨_, rfl, nm44_sh _ _⟩
    · obtain ⟨ps, rfl, hpl, hps⟩ := sel_strs hs
      have hpl3 : ps.length ≤ 3 := by rw [hpl, List.length_map, List.length_range]; omega
      rw [mLst_at kq]
      walk_at "vc"
      have e2 : ds.map dfhD ++ [D.tup [.str (nm44 rn (6 + i)), .lst (ps.map .str)]] = (ds ++ [(nm44 rn (6 + i), ps)]).map dfhD := by rw [List.map_append]; rfl
      rw [e2]
      refine ⟨by omega, ds ++ [(nm44 rn (6 + i), ps)], _, _, by rw [List.length_append, hdl]; rfl, fun j hj => ?_, fun d hd => ?_, hc.set_ 0 (a := q) (o' := .lst ((ds ++ [(nm44 rn (6 + i), ps)]).map dfhD)) rfl, rfl, rfl⟩
      · rw [List.length_append, List.length_singleton] at hj
        by_cases hj2 : j < ds.length
        · rw [List.getElem_append_left hj2]
          exact hd1 j hj2
        · have : j = i := by omega
          subst this
          rw [List.getElem_append_right (by omega)]
          simp [hdl]
      · rcases List.mem_append.mp hd with hd | hd
        · exact hd2 d hd
        · cases List.mem_singleton.mp hd
          exact ⟨hpl3, hps⟩
  · rintro τ M2 ⟨ds, v6, v7, hdl, hd1, hd2, hc, rfl⟩
    have hdl : ds.length = many := by simpa using hdl
    have kq : M2 q = some (.lst (ds.map dfhD)) := hc.at_ (q, _) (by simp)
    have bm := modB (a := rs / 3) (b := (many : Int)) (by omega)
    walk_at "vc"
    have hj : (rs / 3 % (many : Int)).toNat < ds.length := by omega
    generalize hjj : (rs / 3 % (many : Int)).toNat = j at hj
    have ixp : ixN (ds.map dfhD).length (rs / 3 % (many : Int)) = some j := by
      unfold ixN
      rw [List.length_map, if_pos (by omega), if_pos (by omega), hjj]
    refine ⟨wd60 (by decide) (by decide), by omega, ?_⟩
    rw [mLst_at kq, oSome_i, ixp, oSome_i]
    have e3 : (ds.map dfhD).set j (D.tup [D.str (Str.ofString "main"), D.lst []]) = (ds.set j (Str.ofString "main", [])).map dfhD := by rw [List.map_set]; rfl
    rw [e3]
    have hc2 : Cel M (mup M2 q (.lst ((ds.set j (Str.ofString "main", [])).map dfhD))) [(q, .lst ((ds.set j (Str.ofString "main", [])).map dfhD))] := hc.set_ 0 (a := q) (o' := .lst ((ds.set j (Str.ofString "main", [])).map dfhD)) rfl
    generalize mup M2 q (.lst ((ds.set j (Str.ofString "main", [])).map dfhD)) = M3 at hc2 ⊢
    have kq3 : M3 q = some (.lst ((ds.set j (Str.ofString "main", [])).map dfhD)) := hc2.at_ (q, _) (by simp)
    refine ⟨_, _, ReR.refl, _, _, ReR.freeze kq3, _, _, ReR.refl, fun a ha => ?_⟩
    have hc4 : Cel M (mdel M3 q) [] := Cel.del (pre := []) hc2
    have ha0 : M a = none := by
      cases e : M a with
      | none => rfl
      | some o => have := hc4.old a o e; rw [ha] at this; cases this
    refine h ⟨(List.range 9).map (nm44 rn), ds.set j (Str.ofString "main", []), room, false, 0⟩ a _ ⟨hnmsl, fun x hx => ?_, ?_, fun d hd => ?_, hrm⟩ ?_ ?_ rfl ha0 mup_same fun b o e => ?_
    · obtain ⟨k, _, rfl⟩ := List.mem_map.mp hx
      exact nm44_sh _ _
    · show (ds.set j (Str.ofString "main", [])).length ≤ 3
      rw [List.length_set]; omega
    · rcases List.mem_or_eq_of_mem_set hd with hd | rfl
      · obtain ⟨k, hk, rfl⟩ := List.mem_iff_getElem.mp hd
        have := hd2 _ hd
        exact ⟨by rw [hd1 k hk]; exact nm44_sh _ _, this.1, this.2⟩
      · exact ⟨by decide +kernel, Nat.zero_le _, fun x hx => by cases hx⟩
    · show ((ds.set j (Str.ofString "main", [])).map (·.1)).Nodup
      rw [List.map_set]
      refine List.pairwise_iff_getElem.mpr fun u v hu hv huv => ?_
      simp only [List.length_set, List.length_map] at hu hv
      rw [List.getElem_set, List.getElem_set]
      have du := hd1 u hu
      have dv := hd1 v hv
      simp only [List.getElem_map]
      split
      · rw [if_neg (by omega), dv]
        exact fun e => nm44_main e.symm
      · split
        · rw [du]
          exact nm44_main
        · rw [du, dv]
          intro e
          have := nm44_inj (by omega) (by omega) e
          omega
    · show Str.ofString "main" ∈ (ds.set j (Str.ofString "main", [])).map (·.1)
      rw [List.map_set]
      exact List.mem_set (by rw [List.length_map]; exact hj) _
    · have := hc4.old b o e
      rw [mup_ne fun q2 => by rw [q2, ha] at this; cases this]
      exact this
end
end K46
namespace K46
open PySem PySem.Spec PyProof.Rows L2 Tl
section
variable {P : Program} {w : World} {K : PySem.W.Frag} {mg : Str → Option Value} {base : Heap}
def extM (M M1 : MH) : Prop := ∀ a o, M a = some o → M1 a = some o
theorem th_ok (rs : List Th) : okDs 2 (rs.map Th.d) := okDs_of fun d hd => by
  obtain ⟨t, _, rfl⟩ := List.mem_map.mp hd
  unfold Th.d
  exact okD_tup (okDs_cons (okD_str (by cases t.put <;> decide +kernel)) (okDs_cons okD_int (okDs_cons okD_int okDs_nil)))
theorem fin_ok (f : Option (Ew × Int)) : okD 2 (finD f) := by
  cases f with
  | none => exact okD_non
  | some f =>
    unfold finD
    exact okD_tup (okDs_cons (okD_str (by cases f.1 <;> decide +kernel)) (okDs_cons okD_int okDs_nil))
theorem br_ok (rs : List (Int × Int)) : okDs 2 (rs.map brD) := okDs_of fun d hd => by
  obtain ⟨t, _, rfl⟩ := List.mem_map.mp hd
  unfold brD
  exact okD_tup (okDs_cons okD_int (okDs_cons okD_int okDs_nil))
theorem asD_at {M : MH} {a : Addr} {ds : List D} (h : M a = some (.lst ds)) : asD M (.ref a) = some (.lst ds) := by unfold asD; dsimp only; rw [h]
theorem asD_fin {M : MH} {f : Option (Ew × Int)} : asD M (finD f) = some (finD f) := by cases f <;> rfl
theorem mapM_cells {M : MH} : ∀ (L : List (Addr × List Th)), (∀ q ∈ L, M q.1 = some (.lst (q.2.map Th.d))) → (L.map fun q => D.ref q.1).mapM (asD M) = some (L.map fun q => .lst (q.2.map Th.d))
  | [], _ => rfl
  | q :: t, h => by
    rw [List.map_cons, List.mapM_cons, asD_at (h q (List.mem_cons_self ..)), mapM_cells t fun x hx => h x (List.mem_cons_of_mem _ hx)]
    rfl
theorem mapM_refL {M : MH} {TC : List (Addr × List Th)} {tc : List (List Th)} (e : TC.map (·.2) = tc) (h : ∀ q ∈ TC, M q.1 = some (.lst (q.2.map Th.d))) : (refL TC).mapM (asD M) = some (tc.reverse.map fun t => .lst (t.map Th.d)) := by
  unfold refL
  rw [mapM_cells TC.reverse fun q hq => h q (List.mem_reverse.mp hq), ← e, ← List.map_reverse, List.map_map]
  rfl
theorem pus_cells {M : MH} : ∀ (L : List (Addr × Pus)), (∀ q ∈ L, M q.1 = some (.dK (pusD q.2)) ∧ (q.2.map (·.1)).Nodup) → isPus M (L.map fun q => D.ref q.1) (L.map (·.2))
  | [], _ => .nil
  | q :: t, h => .cons ⟨q.1, rfl, h q (List.mem_cons_self ..)⟩ (pus_cells t fun x hx => h x (List.mem_cons_of_mem _ hx))
theorem pus_refL {M : MH} {PC : List (Addr × Pus)} {pu : List Pus} (e : PC.map (·.2) = pu) (h : ∀ q ∈ PC, M q.1 = some (.dK (pusD q.2))) (nd : ∀ p ∈ pu, (p.map (·.1)).Nodup) : isPus M (refL PC) pu.reverse := by
  have := pus_cells (M := M) PC.reverse fun q hq => ⟨h q (List.mem_reverse.mp hq), nd _ (by rw [← e]; exact List.mem_map.mpr ⟨q, List.mem_reverse.mp hq, rfl⟩)⟩
  rw [show PC.reverse.map (·.2) = pu.reverse from by rw [List.map_reverse, e]] at this
  exact this
def spBegins : SpT := fun ds M Q _ => ∃ (x y : D) (a b : List D), ds = [x, y] ∧ asD M x = some (.lst a) ∧ lstOf M x = some a ∧ dTy M x = some "list" ∧ lenOf M x = some a.length ∧ lstOf M y = some (a ++ b) ∧ okDs 60 a ∧ Q (.bl true) M
theorem ok_l_begins (T : Tp K mg) : Fn P w K mg base CX0 1 "_law_begins" spBegins := by
  refine fn_top T 56 e_l_begins (m_l_begins T) sc_l_begins (by rintro _ M Q Et ⟨x, y, a, b, rfl, _⟩; rfl) (fun cdv A outer s H E hr => ⟨_, (qss_one (qs_ret (q_and (q_callB cq_isi (m_isinstance T) (by decide +kernel) (qa_cons (qv 0) (qa_cons (q_ty "list" (m_list T) (by decide +kernel)) qa_nil))) (q_one (q_cmp (oq_eqD (un64 hr)) (qv 0) (q_sliceL (qv 1) qo_none (qo_some (q_callB cq_len (m_len T) (by decide +kernel) (qa_cons (qv 0) qa_nil))))))))), ?_⟩) (fun _ _ _ _ _ _ us hl => match us, hl with | [_, _], _ => rfl)
  rintro _ M Q Et ⟨x, y, a, b, rfl, h1, h2, h3, h4, h5, h6, h⟩
  walk_at "vc"
  rw [h3]
  walk_at "vc"
  rw [h4]
  walk_at "vc"
  rw [h5]
  walk_at "vc"
  rw [Tl.cut_take, List.take_left]
  exact eqD_same 61 h1 rfl (okD_lst h6) h
def StoC (K : PySem.W.Frag) (M : MH) (s : Addr) (z : S45) (TC : List (Addr × List Th)) (PC : List (Addr × Pus)) : Prop := ∃ (dx t b T P l : Addr), M s = some (.obj (He.ga K "Story") dx fl_Story [.ref t, .int (z.lines.length : Nat), finD z.fin, .ref b, .ref T, .ref P, .ref l]) ∧ M t = some (.lst (z.told.map .int)) ∧ M b = some (.lst (z.br.map brD)) ∧ M l = some (.lst (z.lines.map .int)) ∧
    M T = some (.lst (refL TC)) ∧ M P = some (.lst (refL PC)) ∧ TC.map (·.2) = z.tc ∧ PC.map (·.2) = z.pu ∧ (∀ q ∈ TC, M q.1 = some (.lst (q.2.map Th.d))) ∧ ∀ q ∈ PC, M q.1 = some (.dK (pusD q.2))
structure BdZ (z : S45) : Prop where
  told : z.told.length ≤ 1000
  lines : z.lines.length ≤ 1000
  br : z.br.length ≤ 1000
  tc : z.tc.length ≤ 1001
  pu : z.pu.length ≤ 1001
  t : ∀ t ∈ z.tc, t.length ≤ 10010000
  p : ∀ p ∈ z.pu, p.length ≤ 1000
theorem refL_at {α : Type} {TC : List (Addr × α)} {P : List α} {x : α} {A : List α} (e : (TC.map (·.2)).reverse = P ++ x :: A) : ∃ c, (c, x) ∈ TC ∧ atI (refL TC) (P.length : Nat) = some (.ref c) := by
  rw [← List.map_reverse] at e
  have hl : P.length < (TC.reverse.map (·.2)).length := by rw [e, List.length_append, List.length_cons]; omega
  have hl2 : P.length < TC.reverse.length := by rw [List.length_map] at hl; exact hl
  have h2 : (TC.reverse.map (·.2))[P.length]? = some x := by rw [e, List.getElem?_append_right (Nat.le_refl _), Nat.sub_self]; rfl
  rw [List.getElem?_map, List.getElem?_eq_getElem hl2] at h2
  have h3 : TC.reverse[P.length].2 = x := Option.some.inj h2
  refine ⟨TC.reverse[P.length].1, ?_, ?_⟩
  · rw [← h3]
    exact List.mem_reverse.mp (List.getElem_mem hl2)
  · refine atI_nat ?_
    unfold refL
    rw [List.getElem?_map, List.getElem?_eq_getElem hl2]
    rfl
theorem isPus_take {M : MH} : ∀ {l : List D} {ks : List Pus} {n : Nat}, isPus M l ks → isPus M (l.take n) (ks.take n)
  | _, _, 0, _ => .nil
  | [], [], n + 1, _ => .nil
  | d :: l, k :: ks, n + 1, .cons h t => .cons h (isPus_take t)
theorem lenOf_at2 {M : MH} {a : Addr} {ds : List D} (h : M a = some (.lst ds)) : lenOf M (.ref a) = some ds.length := lenOf_at h rfl
theorem oDA_i1 {kvs : List (Key × D)} {x : Int} {F : Option D → Prop} : oDA (some (.dK kvs)) (.int x) F = F (valD kvs (.inl x)) := rfl
theorem val_findI {q : Pus} {p : Int} : valD (pusD q) (.inl p) = (findI q p).map fun y => D.int y.2 := by
  unfold valD pusD findI
  rw [List.find?_map]
  have e : ((fun kv : Key × D => decide (kv.1 = (Sum.inl p : Key))) ∘ fun y : Int × Int => ((Sum.inl y.1 : Key), D.int y.2)) = fun y : Int × Int => decide (y.1 = p) := by
    funext y
    simp
  rw [e]
  cases q.find? fun y => decide (y.1 = p) <;> rfl
theorem findI_of : ∀ {q : Pus} {y : Int × Int}, (q.map (·.1)).Nodup → y ∈ q → findI q y.1 = some y
  | x :: t, y, nd, h => by
    rw [List.map_cons, List.nodup_cons] at nd
    unfold findI
    rcases List.mem_cons.mp h with rfl | h
    · rw [List.find?_cons_of_pos (by simp)]
    · rw [List.find?_cons_of_neg ?_]
      · exact findI_of nd.2 h
      · intro e
        have e2 := of_decide_eq_true e
        exact nd.1 (by rw [e2]; exact List.mem_map.mpr ⟨y, h, rfl⟩)
def spPutsFit (K : PySem.W.Frag) : SpT := fun ds M Q _ => ∃ (s1 s2 : Addr) (f w : S45) (TCf TCw : List (Addr × List Th)) (PCf PCw : List (Addr × Pus)) (wd : Int → Str) (m : Nat), ds = [.ref s1, .ref s2] ∧ StoC K M s1 f TCf PCf ∧ StoC K M s2 w TCw PCw ∧ (∀ q ∈ PCf, ∀ q2 ∈ PCw, q.1 ≠ q2.1) ∧ ShF wd m f w ∧ BdZ f ∧ BdZ w ∧ Q (.bl true) M
theorem ok_l_puts_fit (T : Tp K mg) : Fn P w K mg base CX0 1 "_law_puts_fit" (spPutsFit K) := by
  refine fn_top T 57 e_l_puts_fit (m_l_puts_fit T) sc_l_puts_fit (by rintro _ M Q Et ⟨s1, s2, f, g, TCf, TCw, PCf, PCw, wd, m, rfl, _⟩; rfl) (fun cdv A outer s H E hr => ⟨_, (qss_cons (qs_set (i := 2) sc_l_puts_fit.nd (q_op oq_sub (q_callB cq_len (m_len T) (by decide +kernel) (qa_cons (q_fld 4 fl_Story (c_Story_touches T) (qv 0)) qa_nil)) q_int))
 (qss_cons (qs_if (qt_w (qw_or (qt_cmp (oq_nePu (un64 hr)) (q_sliceL (q_fld 5 fl_Story (c_Story_puts T) (qv 0)) qo_none (qo_some (qv 2))) (q_sliceL (q_fld 5 fl_Story (c_Story_puts T) (qv 1)) qo_none (qo_some (qv 2)))) (qw_or1 (qt_cmp oq_ne (q_callB cq_len (m_len T) (by decide +kernel) (qa_cons (q_fld 5 fl_Story (c_Story_puts T) (qv 0)) qa_nil)) (q_op oq_addI (qv 2) q_int)))))
  (qss_one (qs_ret q_bl))
  qss_nil)
 (qss_cons (qs_setLc (i := 4) (own := [(("_law_word" : Str), 7), (("_law_place_here" : Str), 3), (("_law_line" : Str), 8)]) (lv_lcF (go_tup (gos_cons go_name (gos_cons go_name (gos_cons go_name gos_nil))))) rfl sc_l_puts_fit.nd (qi_list (q_ix (q_fld 4 fl_Story (c_Story_touches T) (qv 0)) (qv 2))) (blkOk_by (N := nm_l_puts_fit) (sc := defScope s_l_puts_fit) (own := [(("_law_word" : Str), 7), (("_law_place_here" : Str), 3), (("_law_line" : Str), 8)]) (by decide +kernel)) (fun _ _ _ _ _ => (pg_tup (n := 3) rfl (pgs_cons (pg_name (i := 7) sc_l_puts_fit.nd rfl (Or.inl rfl)) (pgs_cons (pg_name (i := 3) sc_l_puts_fit.nd rfl (Or.inl rfl)) (pgs_cons (pg_name (i := 8) sc_l_puts_fit.nd rfl (Or.inl rfl)) pgs_nil))))) (fun _ _ _ _ _ => (qts_one (qt_cmp oq_eq (qv 7) q_str))) (fun _ _ _ _ _ => (qv 3)) (sw_true rfl rfl rfl (by decide +kernel)))
 (qss_cons (qs_setLc (i := 5) (own := [(("_law_word" : Str), 7), (("_law_place_here" : Str), 3), (("_law_line" : Str), 8)]) (lv_lcF (go_tup (gos_cons go_name (gos_cons go_name (gos_cons go_name gos_nil))))) rfl sc_l_puts_fit.nd (qi_list (q_ix (q_fld 4 fl_Story (c_Story_touches T) (qv 1)) (qv 2))) (blkOk_by (N := nm_l_puts_fit) (sc := defScope s_l_puts_fit) (own := [(("_law_word" : Str), 7), (("_law_place_here" : Str), 3), (("_law_line" : Str), 8)]) (by decide +kernel)) (fun _ _ _ _ _ => (pg_tup (n := 3) rfl (pgs_cons (pg_name (i := 7) sc_l_puts_fit.nd rfl (Or.inl rfl)) (pgs_cons (pg_name (i := 3) sc_l_puts_fit.nd rfl (Or.inl rfl)) (pgs_cons (pg_name (i := 8) sc_l_puts_fit.nd rfl (Or.inl rfl)) pgs_nil))))) (fun _ _ _ _ _ => (qts_one (qt_cmp oq_eq (qv 7) q_str))) (fun _ _ _ _ _ => (qv 3)) (sw_true rfl rfl rfl (by decide +kernel)))
 (qss_cons (qs_for PassesOwn.never rfl (qi_list (qv 4)) (qg_name (i := 3) sc_l_puts_fit.nd)
  (qss_one (qs_if (qt_dnotin (hu_of hr) (qv 3) (q_ix (q_fld 5 fl_Story (c_Story_puts T) (qv 0)) (qv 2)))
  (qss_one (qs_ret q_bl))
  qss_nil)))
 (qss_cons (qs_lock (qs_for PassesOwn.never rfl (qi_items (q_ix (q_fld 5 fl_Story (c_Story_puts T) (qv 0)) (qv 2))) (qg_tup (n := 2) rfl (qgs_cons (qg_name (i := 3) sc_l_puts_fit.nd) (qgs_cons (qg_name (i := 6) sc_l_puts_fit.nd) qgs_nil)))
  (qss_cons (qs_if (qt_cmp oq_inQN (qv 3) (qv 4))
  (qss_one (qs_ret q_bl))
  qss_nil)
 (qss_one (qs_if (qt_w (qw_and (qt_cmp oq_eq (q_count (qv 4) (qa_cons (qv 3) qa_nil)) (q_count (qv 5) (qa_cons (qv 3) qa_nil))) (qw_and1 (qt_cmp oq_ne (qv 6) (q_dget (hu_of hr) (q_ix (q_fld 5 fl_Story (c_Story_puts T) (qv 1)) (qv 2)) (qv 3))))))
  (qss_one (qs_ret q_bl))
  qss_nil)))))
 (qss_one (qs_ret q_bl)))))))), ?_⟩) (fun _ _ _ _ _ _ us hl => match us, hl with | [_, _], _ => rfl)
  rintro _ M Q Et ⟨s1, s2, f, g, TCf, TCw, PCf, PCw, wd, m, rfl, hf, hw, hdis, hsh, bf, bw, h⟩
  obtain ⟨dx1, t1, b1, T1, P1, l1, hob1, ht1, hb1, hl1, hT1, hP1, etc1, epu1, ctc1, cpu1⟩ := hf
  obtain ⟨dx2, t2, b2, T2, P2, l2, hob2, ht2, hb2, hl2, hT2, hP2, etc2, epu2, ctc2, cpu2⟩ := hw
  obtain ⟨Pt, Qp, t, u, q, q', A2, B2, e1, e2, e3, e4, e5, e6, e7, e8, nd1, nd2⟩ := hsh.phases
  have len1 : (refL TCf).length = Pt.length + 1 := by
    have := congrArg List.length e1
    rw [List.length_reverse, ← etc1, List.length_map, List.length_append] at this
    unfold refL
    rw [List.length_map, List.length_reverse]
    exact this
  rw [e5] at len1
  have lenT : lenOf M (.ref T1) = some (Qp.length + 1) := lenOf_at hT1 len1
  have lenP1 : (refL PCf).length = Qp.length + 1 := by
    have := congrArg List.length e3
    rw [List.length_reverse, ← epu1, List.length_map, List.length_append] at this
    unfold refL
    rw [List.length_map, List.length_reverse]
    exact this
  have is1 := pus_refL epu1 cpu1 nd1
  have is2 := pus_refL epu2 cpu2 nd2
  rw [e3] at is1
  rw [e4] at is2
  have tk1 := isPus_take (n := Qp.length) is1
  have tk2 := isPus_take (n := Qp.length) is2
  rw [List.take_left] at tk1 tk2
  obtain ⟨c1, hc1, at1⟩ := refL_at (P := Pt) (x := t) (A := []) (by rw [etc1]; exact e1)
  obtain ⟨c2, hc2, at2⟩ := refL_at (P := Pt) (x := t ++ u) (A := A2) (by rw [etc2]; exact e2)
  obtain ⟨p1, hp1, at3⟩ := refL_at (P := Qp) (x := q) (A := []) (by rw [epu1]; exact e3)
  obtain ⟨p2, hp2, at4⟩ := refL_at (P := Qp) (x := q') (A := B2) (by rw [epu2]; exact e4)
  rw [e5] at at1 at2
  have kt1 : lstOf M (.ref c1) = some (t.map Th.d) := lstOf_at (ctc1 _ hc1)
  have kt2 : lstOf M (.ref c2) = some ((t ++ u).map Th.d) := lstOf_at (ctc2 _ hc2)
  have kp1 : M p1 = some (.dK (pusD q)) := cpu1 _ hp1
  have kp2 : M p2 = some (.dK (pusD q')) := cpu2 _ hp2
  have p12 : p1 ≠ p2 := hdis _ hp1 _ hp2
  have btl : t.length ≤ 10010000 := bf.t t (by have : t ∈ f.tc.reverse := by rw [e1]; simp
                                               exact List.mem_reverse.mp this)
  have btl2 : (t ++ u).length ≤ 10010000 := bw.t _ (by have : t ++ u ∈ g.tc.reverse := by rw [e2]; simp
                                                       exact List.mem_reverse.mp this)
  have here : ∀ t : List Th, ((t.filter fun x => x.put).map fun x => D.int x.place) = (putsOf t).map D.int := fun t => by unfold putsOf; rw [List.map_map]; rfl
  have nd1q : (q.map (·.1)).Nodup := nd1 q (by have : q ∈ f.pu.reverse := by rw [e3]; simp
                                               exact List.mem_reverse.mp this)
  clear hdis etc1 etc2 epu1 epu2 ctc1 ctc2 cpu1 cpu2 is1 is2 hsh e1 e2 e3 e4
  walk_at "vh"
  have ek : (((Qp.length + 1 : Nat)) : Int) - 1 = (Qp.length : Nat) := by omega
  simp only [ek]
  rw [lstOf_at hP1, oSome_i, lstOf_at hP2, oSome_i]
  refine ⟨_, _, Qp, lstOf_l, lstOf_l, by rw [Tl.cut_take]; exact tk1, by rw [Tl.cut_take]; exact tk2, ?_⟩
  walk_at "vh"
  rw [lenOf_at hP1 lenP1, oSome_i, if_neg (fun q => q (by omega)), lstOf_at hT1, oSome_i, at1, oSome_i, kt1, oSome_i]
  have fil : ∀ (x : Th) (R1 R0 : Prop), (x.put = true → R1) → (x.put = false → R0) → if wS x.put = Str.ofString "put" then R1 else R0 := fun x R1 R0 h1 h0 => by
    cases e : x.put with
    | true => rw [if_pos (by decide +kernel)]; exact h1 e
    | false => rw [if_neg (by decide +kernel)]; exact h0 e
  refine lc_filter t Th.d (fun x => x.put) (fun x => .int x.place) rfl (by rw [sizeLine_eq]; omega) kt1 (fun x R1 R0 hx h1 h0 => ?_) ?_
  · unfold Th.d
    walk_at "vc"
    exact fil x _ _ h1 h0
  rw [here]
  rw [hob2]
  walk_at "vc"
  rw [lstOf_at hT2, oSome_i, at2, oSome_i, kt2, oSome_i]
  refine lc_filter (t ++ u) Th.d (fun x => x.put) (fun x => .int x.place) rfl (by rw [sizeLine_eq]; omega) kt2 (fun x R1 R0 hx h1 h0 => ?_) ?_
  · unfold Th.d
    walk_at "vc"
    exact fil x _ _ h1 h0
  rw [here]
  have kin : ∀ p, p ∈ putsOf t → valD (pusD q) (.inl p) ≠ none := fun p hp => by
    have h1 := (e8 p).mpr hp
    obtain ⟨y, hy, e⟩ := List.mem_map.mp h1
    unfold valD pusD
    rw [List.find?_map]
    intro hn
    have hn := Option.map_eq_none_iff.mp (Option.map_eq_none_iff.mp hn)
    have := List.find?_eq_none.mp hn y hy
    exact this (by simp [e])
  refine for_map (putsOf t) D.int rfl (fun ys τ M' => M' = M ∧ ∃ v3, τ = [some (.ref s1), some (.ref s2), some (.int (Qp.length : Nat)), v3, some (.lst ((putsOf t).map .int)), some (.lst ((putsOf (t ++ u)).map .int)), none, none, none]) ⟨rfl, none, rfl⟩ (fun ys τ M' h => trivial) ?_ ?_
  · rintro ys x zs τ M' Nx hx ⟨rfl, v3, rfl⟩ hN
    walk_at "vc"
    rw [hob1]
    walk_at "vc"
    rw [lstOf_at hP1, oSome_i, at3, oSome_i, uDic, kp1, oDA_i1]
    have := kin x (by rw [hx]; simp)
    cases e : valD (pusD q) (.inl x) with
    | none => exact absurd e this
    | some v =>
      rw [if_neg (by intro q2; cases q2)]
      exact hN _ _ ⟨rfl, _, rfl⟩
  · rintro τ M' ⟨rfl, v3, rfl⟩
    walk_at "vc"
    refine ⟨p1, pusD q, kp1, fun o ks => ?_⟩
    have n1 : s1 ≠ p1 := fun e => by rw [e, kp1] at hob1; cases hob1
    have n2 : s2 ≠ p1 := fun e => by rw [e, kp1] at hob2; cases hob2
    have n3 : P1 ≠ p1 := fun e => by rw [e, kp1] at hP1; cases hP1
    have n4 : P2 ≠ p1 := fun e => by rw [e, kp1] at hP2; cases hP2
    have hob1' := (mup_ne (M := M') (o := MO.lk o ks (pusD q)) n1).trans hob1
    have hob2' := (mup_ne (M := M') (o := MO.lk o ks (pusD q)) n2).trans hob2
    have hP1' := (mup_ne (M := M') (o := MO.lk o ks (pusD q)) n3).trans hP1
    have hP2' := (mup_ne (M := M') (o := MO.lk o ks (pusD q)) n4).trans hP2
    have kp2' := (mup_ne (M := M') (o := MO.lk o ks (pusD q)) p12.symm).trans kp2
    have kl : (mup M' p1 (MO.lk o ks (pusD q))) p1 = some (.lk o ks (pusD q)) := mup_same
    have back : mup (mup M' p1 (MO.lk o ks (pusD q))) p1 (.dK (pusD q)) = M' := by rw [mup_mup]; exact mup_idem kp1
    generalize mup M' p1 (MO.lk o ks (pusD q)) = M2 at hob1' hob2' hP1' hP2' kp2' kl back ⊢
    unfold iIs
    walk_at "vc"
    rw [hob1']
    walk_at "vc"
    rw [lstOf_at hP1', oSome_i, at3, oSome_i]
    simp only [kl]
    have hsb : ∀ y ∈ q, y.1 ∈ putsOf t := fun y hy => (e8 y.1).mp (List.mem_map.mpr ⟨y, hy, rfl⟩)
    have hnd := nd1
    refine for_map q (fun y : Int × Int => D.tup [.int y.1, .int y.2]) (by unfold pusD; rw [List.map_map]; rfl) (fun ys τ M3 => M3 = M2 ∧ ∃ v3 v6, τ = [some (.ref s1), some (.ref s2), some (.int (Qp.length : Nat)), v3, some (.lst ((putsOf t).map .int)), some (.lst ((putsOf (t ++ u)).map .int)), v6, none, none]) ⟨rfl, _, _, rfl⟩ (fun ys τ M3 h => by rw [h.1]; exact kl) ?_ ?_
    · rintro ys x zs τ M3 Nx hx ⟨rfl, v3, v6, rfl⟩ hN
      obtain ⟨pl, v⟩ := x
      have hxq : (pl, v) ∈ q := by rw [hx]; simp
      have hpl := hsb _ hxq
      walk_at "vc"
      have hany : ((List.map D.int (putsOf t)).any fun z => eqD z (D.int pl)) = true := by
        rw [List.any_map, List.any_eq_true]
        exact ⟨pl, hpl, by show (pl == pl) = true; simp⟩
      refine ⟨rfl, by rw [List.all_map, List.all_eq_true]; intro _ _; rfl, ?_⟩
      rw [if_neg (by rw [hany]; intro e; cases e)]
      refine ⟨putsOf t, rfl, putsOf (t ++ u), rfl, ?_⟩
      dsimp only
      rw [show dScal (D.int ((putsOf t).count pl : Nat)) (D.int ((putsOf (t ++ u)).count pl : Nat)) = some (decide ((((putsOf t).count pl : Nat) : Int) = ((putsOf (t ++ u)).count pl : Nat))) from rfl, oSome_i]
      by_cases hc : (putsOf t).count pl = (putsOf (t ++ u)).count pl
      · rw [if_pos (decide_eq_true (by rw [hc]))]
        have hnu : pl ∉ putsOf u := by
          rw [putsOf_app, List.count_append] at hc
          exact List.count_eq_zero.mp (by omega)
        have hval : valD (pusD q') (.inl pl) = some (.int v) := by
          rw [val_findI, e7 pl hnu, findI_of (nd1q) hxq]
          rfl
        rw [hob2']
        walk_at "vc"
        rw [lstOf_at hP2', oSome_i, at4, oSome_i, uDic, kp2', oDA_i1, hval, oSome_i, show dScal (D.int v) (D.int v) = some (decide (v = v)) from rfl, oSome_i, if_neg (by simp)]
        exact hN _ _ ⟨rfl, _, _, rfl⟩
      · rw [if_neg (by intro e; exact hc (by have := of_decide_eq_true e; omega))]
        exact hN _ _ ⟨rfl, _, _, rfl⟩
    · rintro τ M3 ⟨rfl, v3, v6, rfl⟩
      dsimp only
      rw [back]
      exact ⟨kl, h⟩
theorem cnt_words {wd : Int → Str} {w : Str} : ∀ {ls : List Int}, (ls.map wd).count w = cntW wd w ls
  | [] => rfl
  | l :: t => by
    have ih := cnt_words (wd := wd) (w := w) (ls := t)
    unfold cntW at ih ⊢
    rw [List.map_cons, List.count_cons, ih]
    by_cases h : wd l = w
    · rw [List.filter_cons_of_pos (by simpa using h), List.length_cons, if_pos (by simpa using h)]
    · rw [List.filter_cons_of_neg (by simpa using h), if_neg (by simpa using h), Nat.add_zero]
theorem sum_refl : ∀ (TC : List (Addr × List Th)), (TC.reverse.map fun q => (((putsOf q.2).length : Nat) : Int)).sum = ((sumP (TC.map (·.2)) : Nat) : Int)
  | [] => rfl
  | q :: t => by
    rw [List.reverse_cons, List.map_append, List.sum_append, sum_refl t]
    unfold sumP
    show _ + ((((putsOf q.2).length : Nat) : Int) + 0) = (((putsOf q.2).length + ((t.map (·.2)).map fun t => (putsOf t).length).sum : Nat) : Int)
    omega
def spCounted (K : PySem.W.Frag) : SpT := fun ds M Q _ => ∃ (s1 : Addr) (f : S45) (TCf : List (Addr × List Th)) (PCf : List (Addr × Pus)) (R : List Tx), ds = [.ref s1, .lst (txs6 R)] ∧ StoC K M s1 f TCf PCf ∧ Inv46 (wdR R) f.lg false ∧ BdZ f ∧ Q (.bl true) M
theorem ok_l_counted (T : Tp K mg) : Fn P w K mg base CX0 1 "_law_counted" (spCounted K) := by
  refine fn_top T 58 e_l_counted (m_l_counted T) sc_l_counted (by rintro _ M Q Et ⟨s1, f, TCf, PCf, R, rfl, _⟩; rfl) (fun cdv A outer s H E hr => ⟨_, (qss_cons (qs_setLc (i := 2) (own := [(("_law_line" : Str), 5)]) (lv_lcF go_name) rfl sc_l_counted.nd (qi_list (q_fld 6 fl_Story (c_Story_lines T) (qv 0))) (blkOk_by (N := nm_l_counted) (sc := defScope s_l_counted) (own := [(("_law_line" : Str), 5)]) (by decide +kernel)) (fun _ _ _ _ _ => (pg_name (i := 5) sc_l_counted.nd rfl (Or.inl rfl))) (fun _ _ _ _ _ => qts_nil) (fun _ _ _ _ _ => (q_ix (q_ix (qv 1) (q_op oq_sub (qv 5) q_int)) q_int)) (sw_true rfl rfl rfl (by decide +kernel)))
 (qss_cons (qs_set (i := 3) sc_l_counted.nd (q_callB (cq_sum rfl) (m_sum T) (by decide +kernel) (qa_cons (q_lc rfl sc_l_counted.nd (qi_list (q_fld 4 fl_Story (c_Story_touches T) (qv 0))) (blkOk_by (N := nm_l_counted) (sc := defScope s_l_counted) (own := [(("_law_touches" : Str), 6)]) (by decide +kernel)) go_name (fun _ _ _ _ _ => (pg_name (i := 6) sc_l_counted.nd rfl (Or.inl rfl))) (fun _ _ _ _ _ => qts_nil) (fun _ _ _ _ _ => (q_callB cq_len (m_len T) (by decide +kernel) (qa_cons (q_lc rfl sc_l_counted.nd (qi_list (qv 6)) (blkOk_nf (N := nm_l_counted) (own := [(("_law_one" : Str), 7)]) (by decide +kernel)) go_name (fun _ _ _ _ _ => (pg_name (i := 7) sc_l_counted.nd rfl (Or.inl rfl))) (fun _ _ _ _ _ => (qts_one (qt_cmp oq_eq (q_ix (qv 7) q_int) q_str))) (fun _ _ _ _ _ => (qv 7))) qa_nil)))) qa_nil)))
 (qss_cons (qs_if (qt_w (qw_or (qt_cmp oq_ne (q_callB cq_len (m_len T) (by decide +kernel) (qa_cons (q_fld 0 fl_Story (c_Story_told T) (qv 0)) qa_nil)) (q_count (qv 2) (qa_cons q_str qa_nil))) (qw_or1 (qt_cmp oq_ne (qv 3) (q_count (qv 2) (qa_cons q_str qa_nil))))))
  (qss_one (qs_ret q_bl))
  qss_nil)
 (qss_cons (qs_set (i := 4) sc_l_counted.nd (q_op oq_addI (q_count (qv 2) (qa_cons q_str qa_nil)) (q_count (qv 2) (qa_cons q_str qa_nil))))
 (qss_one (qs_ret (q_and (q_cmp oq_eq (q_callB cq_len (m_len T) (by decide +kernel) (qa_cons (q_fld 3 fl_Story (c_Story_brought T) (qv 0)) qa_nil)) (qv 4)) (q_one (q_cmp oq_eq (q_callB cq_len (m_len T) (by decide +kernel) (qa_cons (q_fld 4 fl_Story (c_Story_touches T) (qv 0)) qa_nil)) (q_op oq_addI (qv 4) q_int)))))))))), ?_⟩) (fun _ _ _ _ _ _ us hl => match us, hl with | [_, _], _ => rfl)
  rintro _ M Q Et ⟨s1, f, TCf, PCf, R, rfl, hf, hi, bf, h⟩
  obtain ⟨dx1, t1, b1, T1, P1, l1, hob1, ht1, hb1, hl1, hT1, hP1, etc1, epu1, ctc1, cpu1⟩ := hf
  obtain ⟨i1, i2, i3, i4, i5, i6, i7⟩ := hi
  have bl := bf.lines
  have btc := bf.tc
  have btt := bf.t
  have cw := fun x => cnt_words (wd := wdR R) (w := x) (ls := f.lines)
  walk_at "vh"
  rw [lstOf_at hl1, oSome_i]
  refine lc_map f.lines D.int (fun l => .str (wdR R l)) rfl (by rw [sizeLine_eq]; omega) (lstOf_at hl1) (fun l R1 R0 hl h1 => ?_) ?_
  · obtain ⟨g1, x, g2, g3⟩ := wdR_ne (i6 l hl)
    obtain ⟨r, g4⟩ := tx_dw x
    walk_at "vc"
    rw [show l - 1 = (((l - 1).toNat : Nat) : Int) by omega, show atI (txs6 R) (((l - 1).toNat : Nat) : Int) = some x.d from atI_nat (by unfold txs6; rw [List.getElem?_map, g2]; rfl), oSome_i, g4]
    walk_at "vc"
    rw [g3]
    exact h1
  rw [show (f.lines.map fun l => D.str (wdR R l)) = (f.lines.map (wdR R)).map .str from by rw [List.map_map]; rfl]
  rw [hob1]
  walk_at "vc"
  rw [lstOf_at hT1, oSome_i]
  have htl : TCf.length = f.tc.length := by rw [← etc1, List.length_map]
  refine lc_map TCf.reverse (fun q => D.ref q.1) (fun q => .int ((putsOf q.2).length : Nat)) rfl (by rw [sizeLine_eq, List.length_reverse, htl]; omega) (lstOf_at hT1) (fun q R1 R0 hq h1 => ?_) ?_
  · have kq : M q.1 = some (.lst (q.2.map Th.d)) := ctc1 q (List.mem_reverse.mp hq)
    have hq2 : q.2 ∈ f.tc := by rw [← etc1]; exact List.mem_map.mpr ⟨q, List.mem_reverse.mp hq, rfl⟩
    have := btt q.2 hq2
    walk_at "vc"
    rw [lstOf_at kq, oSome_i]
    refine lc_filter q.2 Th.d (fun x => x.put) Th.d rfl (by rw [sizeLine_eq]; omega) (lstOf_at kq) (fun x R1' R0' hx h1' h0' => ?_) ?_
    · unfold Th.d
      walk_at "vc"
      cases e : x.put with
      | true =>
        rw [if_pos (by decide +kernel)]
        have q3 := h1' e
        unfold Th.d at q3
        rw [e] at q3
        exact q3
      | false => rw [if_neg (by decide +kernel)]; exact h0' e
    · walk_at "vc"
      rw [show (q.2.filter fun x => x.put).length = (putsOf q.2).length from by unfold putsOf; rw [List.length_map]]
      exact h1
  rw [show (TCf.reverse.map fun q => D.int ((putsOf q.2).length : Nat)) = (TCf.reverse.map fun q => (((putsOf q.2).length : Nat) : Int)).map .int from by rw [List.map_map]; rfl, intLst_l, oSome_i, sum_refl, etc1]
  have i1 : f.told.length = cntW (wdR R) (Str.ofString "tell") f.lines := i1
  have i2 : sumP f.tc = cntW (wdR R) (Str.ofString "put") f.lines := i2
  have i3 : f.br.length = cntW (wdR R) (Str.ofString "meet") f.lines + cntW (wdR R) (Str.ofString "join") f.lines := i3
  have i4 : f.tc.length + 0 = f.br.length + 1 := i4
  rw [hob1]
  walk_at "vc"
  rw [lenOf_at ht1 (List.length_map ..), oSome_i]
  refine ⟨_, rfl, ?_⟩
  dsimp only
  rw [cw, i1, show ∀ n : Nat, dScal (D.int (n : Nat)) (D.int (n : Nat)) = some (decide ((n : Int) = (n : Int))) from fun n => rfl, oSome_i, if_neg (by simp)]
  refine ⟨_, rfl, ?_⟩
  dsimp only
  rw [cw, i2, show ∀ n : Nat, dScal (D.int (n : Nat)) (D.int (n : Nat)) = some (decide ((n : Int) = (n : Int))) from fun n => rfl, oSome_i, if_neg (by simp)]
  refine ⟨_, rfl, ?_⟩
  dsimp only
  refine ⟨_, rfl, ?_⟩
  dsimp only
  rw [cw, cw, hob1]
  walk_at "vc"
  rw [lenOf_at hb1 (List.length_map ..), oSome_i, if_pos (by omega)]
  rw [lenOf_at hT1 (show (refL TCf).length = f.tc.length from by unfold refL; rw [List.length_map, List.length_reverse, htl]), oSome_i, decide_eq_true (by omega)]
  exact h
end
end K46
namespace K46
open PySem PySem.Spec PyProof.Rows L2 Tl
section
variable {P : Program} {w : World} {K : PySem.W.Frag} {mg : Str → Option Value} {base : Heap}
theorem mapM_take {f : D → Option D} : ∀ {l z : List D} {n : Nat}, l.mapM f = some z → (l.take n).mapM f = some (z.take n)
  | l, z, 0, _ => rfl
  | [], z, n + 1, h => by
    rw [List.mapM_nil] at h
    cases h
    rfl
  | d :: l, z, n + 1, h => by
    rw [List.mapM_cons] at h
    cases e : f d with
    | none => rw [e] at h; cases h
    | some a =>
      cases e2 : l.mapM f with
      | none => rw [e, e2] at h; cases h
      | some b =>
        rw [e, e2] at h
        cases h
        rw [List.take_succ_cons, List.mapM_cons, e, mapM_take e2]
        rfl
def spShorter (K : PySem.W.Frag) : SpT := fun ds M Q _ => ∃ (s1 s2 : Addr) (f g : S45) (TCf TCw : List (Addr × List Th)) (PCf PCw : List (Addr × Pus)) (R : List Tx) (m : Nat), ds = [.ref s1, .ref s2, .int (m : Nat), .lst (txs6 R)] ∧ StoC K M s1 f TCf PCf ∧ StoC K M s2 g TCw PCw ∧ (∀ q ∈ PCf, ∀ q2 ∈ PCw, q.1 ≠ q2.1) ∧ ShF (wdR R) m f g ∧ BdZ f ∧ BdZ g ∧ Q (.bl true) M
theorem ok_l_shorter (T : Tp K mg) : Fn P w K mg base CX0 2 "_law_shorter" (spShorter K) := by
  refine fn_top T 59 e_l_shorter (m_l_shorter T) sc_l_shorter (by rintro _ M Q Et ⟨s1, s2, f, g, TCf, TCw, PCf, PCw, R, m, rfl, _⟩; rfl) (fun cdv A outer s H E hr => ⟨_, (qss_cons (qs_if (qt_w (qw_or (qt_cmp oq_ne (q_fld 1 fl_Story (c_Story_steps T) (qv 0)) (qv 2)) (qw_or (qt_cmp oq_ne (q_callB cq_len (m_len T) (by decide +kernel) (qa_cons (q_fld 6 fl_Story (c_Story_lines T) (qv 0)) qa_nil)) (qv 2)) (qw_or1 (qt_not (qt_val (q_call (ok_l_begins T) (hr.mono (by decide)) (qa_cons (q_fld 6 fl_Story (c_Story_lines T) (qv 0)) (qa_cons (q_fld 6 fl_Story (c_Story_lines T) (qv 1)) qa_nil)))))))))
  (qss_one (qs_ret q_bl))
  qss_nil)
 (qss_cons (qs_if (qt_w (qw_or (qt_cmp (oq_neD (un64 hr)) (q_fld 2 fl_Story (c_Story_end T) (qv 0)) (q_tup (qa_cons q_str (qa_cons (q_ix (q_fld 6 fl_Story (c_Story_lines T) (qv 1)) (qv 2)) qa_nil)))) (qw_or1 (qt_not (qt_val (q_call (ok_l_counted T) (hr.mono (by decide)) (qa_cons (qv 0) (qa_cons (qv 3) qa_nil))))))))
  (qss_one (qs_ret q_bl))
  qss_nil)
 (qss_cons (qs_if (qt_w (qw_or (qt_not (qt_val (q_call (ok_l_begins T) (hr.mono (by decide)) (qa_cons (q_fld 0 fl_Story (c_Story_told T) (qv 0)) (qa_cons (q_fld 0 fl_Story (c_Story_told T) (qv 1)) qa_nil))))) (qw_or1 (qt_not (qt_val (q_call (ok_l_begins T) (hr.mono (by decide)) (qa_cons (q_fld 3 fl_Story (c_Story_brought T) (qv 0)) (qa_cons (q_fld 3 fl_Story (c_Story_brought T) (qv 1)) qa_nil))))))))
  (qss_one (qs_ret q_bl))
  qss_nil)
 (qss_cons (qs_set (i := 4) sc_l_shorter.nd (q_op oq_sub (q_callB cq_len (m_len T) (by decide +kernel) (qa_cons (q_fld 4 fl_Story (c_Story_touches T) (qv 0)) qa_nil)) q_int))
 (qss_cons (qs_if (qt_w (qw_or (qt_cmp oq_ge (qv 4) (q_callB cq_len (m_len T) (by decide +kernel) (qa_cons (q_fld 4 fl_Story (c_Story_touches T) (qv 1)) qa_nil))) (qw_or1 (qt_cmp oq_ge (qv 4) (q_callB cq_len (m_len T) (by decide +kernel) (qa_cons (q_fld 5 fl_Story (c_Story_puts T) (qv 1)) qa_nil))))))
  (qss_one (qs_ret q_bl))
  qss_nil)
 (qss_cons (qs_if (qt_w (qw_or (qt_cmp (oq_neT (un64 hr)) (q_sliceL (q_fld 4 fl_Story (c_Story_touches T) (qv 0)) qo_none (qo_some (qv 4))) (q_sliceL (q_fld 4 fl_Story (c_Story_touches T) (qv 1)) qo_none (qo_some (qv 4)))) (qw_or1 (qt_not (qt_val (q_call (ok_l_begins T) (hr.mono (by decide)) (qa_cons (q_ix (q_fld 4 fl_Story (c_Story_touches T) (qv 0)) (qv 4)) (qa_cons (q_ix (q_fld 4 fl_Story (c_Story_touches T) (qv 1)) (qv 4)) qa_nil))))))))
  (qss_one (qs_ret q_bl))
  qss_nil)
 (qss_one (qs_ret (q_call (ok_l_puts_fit T) (hr.mono (by decide)) (qa_cons (qv 0) (qa_cons (qv 1) qa_nil))))))))))), ?_⟩) (fun _ _ _ _ _ _ us hl => match us, hl with | [_, _, _, _], _ => rfl)
  rintro _ M Q Et ⟨s1, s2, f, g, TCf, TCw, PCf, PCw, R, m, rfl, hf, hg, hdis, hsh, bf, bg, h⟩
  have hfit : spPutsFit K [.ref s1, .ref s2] M Q Et0 := ⟨s1, s2, f, g, TCf, TCw, PCf, PCw, _, m, rfl, hf, hg, hdis, hsh, bf, bg, h⟩
  have hcnt : ∀ Q' : VD, Q' (.bl true) M → spCounted K [.ref s1, .lst (txs6 R)] M Q' Et0 := fun Q' q => ⟨s1, f, TCf, PCf, R, rfl, hf, hsh.inv, bf, q⟩
  obtain ⟨dx1, t1, b1, T1, P1, l1, hob1, ht1, hb1, hl1, hT1, hP1, etc1, epu1, ctc1, cpu1⟩ := hf
  obtain ⟨dx2, t2, b2, T2, P2, l2, hob2, ht2, hb2, hl2, hT2, hP2, etc2, epu2, ctc2, cpu2⟩ := hg
  obtain ⟨Pt, Qp, t, u, q, q', A2, B2, e1, e2, e3, e4, e5, e6, e7, e8, nd1, nd2⟩ := hsh.phases
  obtain ⟨lt, xt, hfin, hlw⟩ := hsh.fin
  have hfl := hsh.fl
  have beg : ∀ (a1 a2 : Addr) (A B : List D) (Q' : VD), M a1 = some (.lst A) → M a2 = some (.lst (A ++ B)) → okDs 60 A → Q' (.bl true) M → spBegins [.ref a1, .ref a2] M Q' Et0 := fun a1 a2 A B Q' h1 h2 h3 h4 => ⟨.ref a1, .ref a2, A, B, rfl, asD_at h1, lstOf_at h1, by unfold dTy; dsimp only; rw [h1], lenOf_at2 h1, lstOf_at h2, h3, h4⟩
  obtain ⟨xl, hxl⟩ := hsh.ext.lines
  obtain ⟨xt2, hxt⟩ := hsh.ext.told
  obtain ⟨xb, hxb⟩ := hsh.ext.br
  have hxl : g.lines = f.lines ++ xl := hxl
  have hxt : g.told = f.told ++ xt2 := hxt
  have hxb : g.br = f.br ++ xb := hxb
  have hl2' : M l2 = some (.lst (f.lines.map .int ++ xl.map .int)) := by rw [hl2, hxl, List.map_append]
  have ht2' : M t2 = some (.lst (f.told.map .int ++ xt2.map .int)) := by rw [ht2, hxt, List.map_append]
  have hb2' : M b2 = some (.lst (f.br.map brD ++ xb.map brD)) := by rw [hb2, hxb, List.map_append]
  have atl : atI (g.lines.map D.int) (m : Nat) = some (.int lt) := atI_nat (by
    rw [hlw, List.map_append, List.getElem?_append_right (by rw [List.length_map]; omega), List.length_map, hfl, Nat.sub_self]
    rfl)
  walk_at "vc"
  rw [hob1]
  walk_at "vc"
  rw [if_neg (fun q => q (by omega)), lenOf_at hl1 (List.length_map ..), oSome_i, if_neg (fun q => q (by omega)), hob2]
  walk_at "vc"
  refine beg _ _ _ _ _ hl1 hl2' (okD_ints _ _) ?_
  walk_at "vc"
  rw [hob1]
  walk_at "vc"
  rw [hob2]
  walk_at "vc"
  rw [lstOf_at hl2, oSome_i, atl, oSome_i, hfin]
  refine neD_same 2 asD_fin (show asD M (.tup [.str (Str.ofString "tired"), .int lt]) = some (finD (some (.tired, lt))) from rfl) (fin_ok _) ?_
  walk_at "vc"
  refine hcnt _ ?_
  walk_at "vc"
  rw [hob1]
  walk_at "vc"
  rw [hob2]
  walk_at "vc"
  refine beg _ _ _ _ _ ht1 ht2' (okD_ints _ _) ?_
  walk_at "vc"
  rw [hob1]
  walk_at "vc"
  rw [hob2]
  walk_at "vc"
  refine beg _ _ _ _ _ hb1 hb2' (okDs_mono (br_ok _) (by decide)) ?_
  walk_at "vc"
  have lenf : f.tc.length = Pt.length + 1 := by
    have := congrArg List.length e1
    rw [List.length_reverse, List.length_append] at this
    exact this
  have leng : Pt.length + 1 ≤ g.tc.length := by
    have := congrArg List.length e2
    rw [List.length_reverse, List.length_append, List.length_cons] at this
    omega
  have lengp : Qp.length + 1 ≤ g.pu.length := by
    have := congrArg List.length e4
    rw [List.length_reverse, List.length_append, List.length_cons] at this
    omega
  have lr : ∀ {α : Type} (TC : List (Addr × α)) (n : Nat), (TC.map (·.2)).length = n → (refL TC).length = n := fun TC n e => by unfold refL; rw [List.length_map, List.length_reverse, ← e, List.length_map]
  have l1' : lenOf M (.ref T1) = some (Pt.length + 1) := lenOf_at hT1 (lr TCf _ (by rw [etc1]; exact lenf))
  have l2' : lenOf M (.ref T2) = some g.tc.length := lenOf_at hT2 (lr TCw _ (by rw [etc2]))
  have l3' : lenOf M (.ref P2) = some g.pu.length := lenOf_at hP2 (lr PCw _ (by rw [epu2]))
  obtain ⟨c1, hc1, at1⟩ := refL_at (P := Pt) (x := t) (A := []) (by rw [etc1]; exact e1)
  obtain ⟨c2, hc2, at2⟩ := refL_at (P := Pt) (x := t ++ u) (A := A2) (by rw [etc2]; exact e2)
  have m1 := mapM_take (n := Pt.length) (mapM_refL etc1 ctc1)
  have m2 := mapM_take (n := Pt.length) (mapM_refL etc2 ctc2)
  rw [e1, List.map_append, List.take_left' (List.length_map ..)] at m1
  rw [e2, List.map_append, List.take_left' (List.length_map ..)] at m2
  have kt1 := ctc1 _ hc1
  have kt2 := ctc2 _ hc2
  dsimp only at kt1 kt2
  rw [List.map_append] at kt2
  rw [hob1]
  walk_at "vc"
  rw [l1', oSome_i, hob2]
  walk_at "vc"
  rw [l2', oSome_i, if_neg (by omega)]
  rw [l3', oSome_i, if_neg (by omega)]
  rw [lstOf_at hT1, oSome_i]
  rw [lstOf_at hT2, oSome_i]
  have ek : (((Pt.length + 1 : Nat)) : Int) - 1 = (Pt.length : Nat) := by omega
  have ek2 : ((Pt.length : Nat) : Int) + 1 - 1 = (Pt.length : Nat) := by omega
  simp only [ek, ek2]
  refine neT_same lstOf_l lstOf_l (by rw [Tl.cut_take]; exact m1) (by rw [Tl.cut_take]; exact m2) (okD_mono (okD_lst (n := 3) (okDs_of fun d hd => ?_)) (by decide)) ?_
  · obtain ⟨t, _, rfl⟩ := List.mem_map.mp hd
    exact okD_lst (th_ok t)
  walk_at "vc"
  rw [hob1]
  walk_at "vc"
  rw [hob2]
  walk_at "vc"
  rw [lstOf_at hT1, oSome_i, at1, oSome_i, lstOf_at hT2, oSome_i, at2, oSome_i]
  refine beg _ _ _ _ _ kt1 kt2 (okDs_mono (th_ok _) (by decide)) ?_
  walk_at "vc"
  exact hfit
def spSame (K : PySem.W.Frag) : SpT := fun ds M Q _ => ∃ (s1 s2 : Addr) (z : S45) (TCf TCw : List (Addr × List Th)) (PCf PCw : List (Addr × Pus)), ds = [.ref s1, .ref s2] ∧ StoC K M s1 z TCf PCf ∧ StoC K M s2 z TCw PCw ∧ BdZ z ∧ ndP z.pu ∧ Q (.bl true) M
theorem ok_l_same (T : Tp K mg) : Fn P w K mg base CX0 1 "_law_same" (spSame K) := by
  refine fn_top T 60 e_l_same (m_l_same T) sc_l_same (by rintro _ M Q Et ⟨s1, s2, z, TCf, TCw, PCf, PCw, rfl, _⟩; rfl) (fun cdv A outer s H E hr => ⟨_, (qss_cons (qs_if (qt_w (qw_or (qt_cmp (oq_neD (un64 hr)) (q_fld 0 fl_Story (c_Story_told T) (qv 0)) (q_fld 0 fl_Story (c_Story_told T) (qv 1))) (qw_or (qt_cmp oq_ne (q_fld 1 fl_Story (c_Story_steps T) (qv 0)) (q_fld 1 fl_Story (c_Story_steps T) (qv 1))) (qw_or (qt_cmp (oq_neD (un64 hr)) (q_fld 2 fl_Story (c_Story_end T) (qv 0)) (q_fld 2 fl_Story (c_Story_end T) (qv 1))) (qw_or1 (qt_cmp (oq_neD (un64 hr)) (q_fld 6 fl_Story (c_Story_lines T) (qv 0)) (q_fld 6 fl_Story (c_Story_lines T) (qv 1))))))))
  (qss_one (qs_ret q_bl))
  qss_nil)
 (qss_one (qs_ret (q_and (q_cmp (oq_eqD (un64 hr)) (q_fld 3 fl_Story (c_Story_brought T) (qv 0)) (q_fld 3 fl_Story (c_Story_brought T) (qv 1))) (q_and (q_cmp (oq_eqT (un64 hr)) (q_fld 4 fl_Story (c_Story_touches T) (qv 0)) (q_fld 4 fl_Story (c_Story_touches T) (qv 1))) (q_one (q_cmp (oq_eqPu (un64 hr)) (q_fld 5 fl_Story (c_Story_puts T) (qv 0)) (q_fld 5 fl_Story (c_Story_puts T) (qv 1))))))))), ?_⟩) (fun _ _ _ _ _ _ us hl => match us, hl with | [_, _], _ => rfl)
  rintro _ M Q Et ⟨s1, s2, z, TCf, TCw, PCf, PCw, rfl, hf, hg, bz, nd, h⟩
  obtain ⟨dx1, t1, b1, T1, P1, l1, hob1, ht1, hb1, hl1, hT1, hP1, etc1, epu1, ctc1, cpu1⟩ := hf
  obtain ⟨dx2, t2, b2, T2, P2, l2, hob2, ht2, hb2, hl2, hT2, hP2, etc2, epu2, ctc2, cpu2⟩ := hg
  walk_at "vc"
  rw [hob1]
  walk_at "vc"
  rw [hob2]
  walk_at "vc"
  refine neD_same 2 (asD_at ht1) (asD_at ht2) (okD_lst (okD_ints 1 _)) ?_
  walk_at "vc"
  rw [hob1]
  walk_at "vc"
  rw [hob2]
  walk_at "vc"
  refine neD_same 2 asD_fin asD_fin (fin_ok _) ?_
  walk_at "vc"
  rw [hob1]
  walk_at "vc"
  rw [hob2]
  walk_at "vc"
  refine neD_same 2 (asD_at hl1) (asD_at hl2) (okD_lst (okD_ints 1 _)) ?_
  walk_at "vc"
  rw [hob1]
  walk_at "vc"
  rw [hob2]
  walk_at "vc"
  refine eqD_same 3 (asD_at hb1) (asD_at hb2) (okD_lst (br_ok _)) ?_
  walk_at "vc"
  rw [hob1]
  walk_at "vc"
  rw [hob2]
  walk_at "vc"
  refine eqT_same (l := refL TCf) (m := refL TCw) (lstOf_at hT1) (lstOf_at hT2) (mapM_refL etc1 ctc1) (mapM_refL etc2 ctc2) (okD_mono (okD_lst (n := 3) (okDs_of fun d hd => ?_)) (by decide)) ?_
  · obtain ⟨t, _, rfl⟩ := List.mem_map.mp hd
    exact okD_lst (th_ok t)
  walk_at "vc"
  rw [hob1]
  walk_at "vc"
  rw [hob2]
  walk_at "vc"
  exact ⟨refL PCf, refL PCw, z.pu.reverse, lstOf_at hP1, lstOf_at hP2, pus_refL epu1 cpu1 nd, pus_refL epu2 cpu2 nd, h⟩
end
end K46
namespace K46
open PySem PySem.Spec PyProof.Rows L2 Tl
section
variable {P : Program} {w : World} {K : PySem.W.Frag} {mg : Str → Option Value} {base : Heap}
/-! the program built is one that alone may walk -/
theorem bxsL_le {b : Nat} : ∀ {es : List Ex}, (∀ e ∈ es, e.bxs ≤ b) → bxsL es ≤ es.length * b
  | [], _ => Nat.zero_le _
  | e :: t, h => by
    show e.bxs + bxsL t ≤ (t.length + 1) * b
    have h1 := h e (List.mem_cons_self ..)
    have h2 := bxsL_le fun x hx => h x (List.mem_cons_of_mem _ hx)
    rw [Nat.add_mul]
    omega
theorem wd46 {pg : Pg} {fs : List Str} {mn : Bool} (hf : ∀ f ∈ fs, ∃ o ∈ pg, o.name = f) {s : Sm} (h : stW (p46 fs mn) t46 s) : okWd pg s := by
  have pl : p46 fs mn s → okWd pg s := fun h => ⟨by have := h.few; omega, fun e he => ⟨by have := (h.ex e he).dp; omega, (h.ex e he).ok⟩, by have := bxsL_le (b := 2) fun e he => (h.ex e he).bx; have := h.few; omega, fun l x f es e => hf f (h.cl l x f es e).1⟩
  have ts : ∀ e : Ex, s.exprs = [e] → t46 e → (∀ l x f es, s ≠ .call l x f es) → okWd pg s := fun e h1 h2 h3 => ⟨by rw [h1]; show 1 ≤ 1000; decide, fun y hy => by
    rw [h1] at hy
    rw [List.mem_singleton.mp hy]
    exact ⟨by have := h2.dp; omega, h2.ok⟩, by rw [h1]; show e.bxs + 0 ≤ 10000; have := h2.bx; omega, fun l x f es e => absurd e (h3 l x f es)⟩
  cases s with
  | if1 l e b => exact ts e rfl h fun _ _ _ _ q => by cases q
  | if2 l e b c => exact ts e rfl h fun _ _ _ _ q => by cases q
  | whl l e b => exact ts e rfl h fun _ _ _ _ q => by cases q
  | _ => exact pl h
theorem lc46 {pg : Pg} {fs : List Str} (hfs : pg.map (·.name) = fs) (hnd : fs.Nodup) (h : ∀ d ∈ pg, okD6 fs d) (hl : pg.length ≤ 3) {lane lanes mine : Int} {most : Nat} (h1 : inR lane) (h2 : inR lanes) (h3 : inR mine) (h4 : most ≤ 1000) : okLc (Lc.mk lane lanes mine most pg) where
  lane := h1
  lanes := h2
  mine := h3
  most := h4
  nd := by show (pg.map (·.name)).Nodup; rw [hfs]; exact hnd
  few := by show pg.length ≤ 1000; omega
  df := fun o ho => by
    have k := h o ho
    refine ⟨by have := k.ps; omega, ⟨fun s hs => wd46 (fun f hf => ?_) (k.bd.st s hs), k.bd.lp⟩⟩
    rw [← hfs] at hf
    obtain ⟨d, hd, e⟩ := List.mem_map.mp hf
    exact ⟨d, hd, e⟩
theorem okL45.lt {lanes lane room : Nat} {t : Lt} (h : okL45 lanes lane room t) (h2 : lanes ≤ 8) (h3 : room ≤ 12) : okLt t where
  os := by rw [h.os]; omega
  ne := by
    obtain ⟨v, hv⟩ := h.own
    intro e
    have : v ∈ numsO t.os := by unfold numsO; exact List.mem_filterMap.mpr ⟨some v, List.mem_of_getElem? hv, rfl⟩
    rw [e] at this
    cases this
  rng := h.rng
  bs := h.bs
  bl := by rw [h.bl]; omega
/-! the stories, where they stand -/
theorem StoC.ext {M M' : MH} {s : Addr} {z : S45} {TC : List (Addr × List Th)} {PC : List (Addr × Pus)} (h : StoC K M s z TC PC) (e : extM M M') : StoC K M' s z TC PC := by
  obtain ⟨dx, t, b, T, P, l, h1, h2, h3, h4, h5, h6, h7, h8, h9, h10⟩ := h
  exact ⟨dx, t, b, T, P, l, e _ _ h1, e _ _ h2, e _ _ h3, e _ _ h4, e _ _ h5, e _ _ h6, h7, h8, fun q hq => e _ _ (h9 q hq), fun q hq => e _ _ (h10 q hq)⟩
theorem sto_c {A : WkA} {M M1 : MH} {s : Ws} {z : S45} (h : StoE A (WC K) M M1 s) (hs : s.is45 z) : extM M M1 ∧ ∃ TC PC, StoC K M1 A.s z TC PC ∧ ∀ q ∈ PC, M q.1 = none := by
  obtain ⟨X, cel, h1, h2⟩ := h
  obtain ⟨e1, e2, e3, e4, e5, e6, e7⟩ := hs
  have at_ : ∀ c ∈ A.story (WC K) X s, M1 c.1 = some c.2 := cel.at_
  have eT : X.TL = refL X.tc := by unfold WkX.TL refL; rw [List.map_reverse]
  have eP : X.PL = refL X.pu := by unfold WkX.PL refL; rw [List.map_reverse]
  have new : ∀ q ∈ X.pu, M q.1 = none := fun q hq => cel.new (puC q) (List.mem_append_right _ (List.mem_append_right _ (List.mem_map.mpr ⟨q, hq, rfl⟩)))
  unfold WkA.story WkA.sO at at_
  rw [e1, e2, e3, e4, e7, eT, eP] at at_
  exact ⟨cel.old, X.tc, X.pu, ⟨A.sx, A.t, A.b, A.T, A.P, A.l, at_ (A.s, _) (by simp), at_ (A.t, _) (by simp), at_ (A.b, _) (by simp), at_ (A.l, _) (by simp), at_ (A.T, _) (by simp), at_ (A.P, _) (by simp), by rw [← h1, e5], by rw [← h2, e6], fun q hq => at_ (tcC q) (List.mem_append_right _ (List.mem_append_left _ (List.mem_map.mpr ⟨q, hq, rfl⟩))), fun q hq => at_ (puC q) (List.mem_append_right _ (List.mem_append_right _ (List.mem_map.mpr ⟨q, hq, rfl⟩)))⟩, new⟩
theorem story_ok {c : Lc} (hc : okLc c) (hm : ∃ o ∈ c.pg, o.name = Str.ofString "main") {bs : List Int} (hb : ∀ v ∈ bs, inR v) (hl : bs.length ≤ 1000) {ls : List Lt} (hls : ∀ t ∈ ls, okLt t) : okWs c (storyF c bs ls) := okWn.letters hc ls _ (go_ok hc (start_ok hc hm hb hl)).1 hls
theorem bdz {c : Lc} (hc : okLc c) {s : Ws} (h : okWs c s) : BdZ s.z where
  told := by have h1 := h.told; have h2 := h.st; have h3 := hc.most; show s.told.length ≤ 1000; omega
  lines := by have h1 := h.lines; have h2 := h.st; have h3 := hc.most; show s.lines.length ≤ 1000; omega
  br := by have h1 := h.brt; have h2 := h.st; have h3 := hc.most; show s.brought.length ≤ 1000; omega
  tc := by have h1 := h.tcs_len; have h2 := h.st; have h3 := hc.most; show s.tcs.length ≤ 1001; omega
  pu := by have h1 := h.tcs_len; have h4 := h.tcn.1; have h2 := h.st; have h3 := hc.most; show s.pus.length ≤ 1001; omega
  t := fun t ht => by have h1 := h.tcl t ht; have h2 := h.st; have h3 := hc.most; omega
  p := fun p hp => by have h1 := h.pul p hp; have h2 := h.st; have h3 := hc.most; omega
theorem lg_story {c : Lc} (hc : okLc c) (hm : ∃ o ∈ c.pg, o.name = Str.ofString "main") {wd : Int → Str} (hpg : ∀ o ∈ c.pg, okWd6 wd o.body) {bs : List Int} (hb : ∀ v ∈ bs, inR v) (hl : bs.length ≤ 1000) {ls : List Lt} (hls : ∀ t ∈ ls, okLt t) : ndP (storyF c bs ls).z.pu := by
  have h0 := start_ok hc hm hb hl
  have ok : okLg (Tl.start c bs).lg := ⟨[], [], [], [], rfl, rfl, rfl, fun q hq => by rw [List.mem_singleton.mp hq]; exact List.nodup_nil⟩
  have g0 : Good wd (Tl.start c bs) := fun b hb => by
    rw [List.mem_singleton.mp hb]
    exact good_def hpg
  obtain ⟨x2, g2⟩ := ext_go hc hpg ((Tl.start c bs).mu c + 1) _ h0 g0 ok fun _ => Nat.lt_succ_self _
  exact (ext_letters hc hpg ls _ (go_ok hc h0).1 g2 x2.ok hls).nd.2
end
end K46
namespace K46
open PySem PySem.Spec PyProof.Rows L2 Tl
section
variable {P : Program} {w : World} {K : PySem.W.Frag} {mg : Str → Option Value} {base : Heap}
theorem ok_law (T : Tp K mg) {f : Addr} {fd : FuncData} (F : FunD K e_law.name e_law.qual e_law.params e_law.body e_law.scope [] [] f fd) : FnAt P w K mg base f ["_law_script"] fd (lSp K spLaw) := by
  refine fn_at (k := 70) e_law fd F sc_law ⟨rfl, by decide +kernel, by decide +kernel⟩ (by rintro _ M Q Et ⟨n, rfl, _⟩; rfl) (fun cdv s H E hr => ⟨_, (qss_cons (qs_set (i := 1) sc_law.nd (q_call (ok_l_mixed T) (hr.mono (by decide)) (qa_cons (q_call (ok_l_cell T) (hr.mono (by decide)) (qa_cons (qv 0) (qa_cons q_int qa_nil))) (qa_cons q_int qa_nil))))
 (qss_cons (qs_set (i := 2) sc_law.nd (q_op oq_addI q_int (q_op oq_mod (qv 1) q_int)))
 (qss_cons (qs_set (i := 3) sc_law.nd (q_op oq_mod (q_op oq_fdiv (qv 1) q_int) (qv 2)))
 (qss_cons (qs_set (i := 4) sc_law.nd (q_op oq_mod (q_op oq_fdiv (qv 1) q_int) q_int))
 (qss_cons (qs_set (i := 5) sc_law.nd (q_op oq_sub (q_op oq_mod (q_call (ok_l_cell T) (hr.mono (by decide)) (qa_cons (qv 0) (qa_cons q_int qa_nil))) (q_op oq_pow q_int q_int)) (q_op oq_mulS q_int (q_op oq_pow q_int q_int))))
 (qss_cons (qs_setLc (i := 7) (own := [(("_law_k" : Str), 6)]) (lv_lcF go_name) rfl sc_law.nd (qi_range1 (m_range T) (qa_cons (qv 4) qa_nil)) (blkOk_by (N := nm_law) (sc := defScope s_law) (own := [(("_law_k" : Str), 6)]) (by decide +kernel)) (fun _ _ _ _ _ => (pg_name (i := 6) sc_law.nd rfl (Or.inl rfl))) (fun _ _ _ _ _ => qts_nil) (fun _ _ _ _ _ => (q_op oq_sub (q_op oq_mod (q_op oq_addI (q_op oq_mulS (q_call (ok_l_cell T) (hr.mono (by decide)) (qa_cons (qv 0) (qa_cons (qv 6) qa_nil))) (q_op oq_addI (qv 6) q_int)) (q_op oq_mul (qv 6) q_int)) (q_op oq_pow q_int q_int)) (q_op oq_mulS q_int (q_op oq_pow q_int q_int)))) (sw_true rfl rfl rfl (by decide +kernel)))
 (qss_cut (qs_if (qt_cmp oq_eq (q_op oq_mod (q_op oq_fdiv (qv 1) q_int) q_int) q_int)
  (qss_one (qs_setLc (i := 7) (own := [(("_law_number" : Str), 15)]) (lv_lcF go_name) rfl sc_law.nd (qi_list (qv 7)) (blkOk_by (N := nm_law) (sc := defScope s_law) (own := [(("_law_number" : Str), 15)]) (by decide +kernel)) (fun _ _ _ _ _ => (pg_name (i := 15) sc_law.nd rfl (Or.inl rfl))) (fun _ _ _ _ _ => qts_nil) (fun _ _ _ _ _ => (q_op oq_mod (qv 15) (q_op oq_addI (qv 4) q_int))) (sw_true rfl rfl rfl (by decide +kernel))))
  qss_nil)
 (qss_cons (qs_set (i := 8) sc_law.nd (q_call (ok_l_letters T) (hr.mono (by decide)) (qa_cons (qv 0) (qa_cons (q_op oq_mod (q_call (ok_l_mixed T) (hr.mono (by decide)) (qa_cons (q_call (ok_l_cell T) (hr.mono (by decide)) (qa_cons (qv 0) (qa_cons q_int qa_nil))) (qa_cons q_int qa_nil))) q_int) (qa_cons (qv 2) (qa_cons (qv 3) (qa_cons (qv 4) qa_nil)))))))
 (qss_cons (qs_set (i := 9) sc_law.nd (q_call (ok_l_rows T) (hr.mono (by decide)) (qa_cons (q_call (ok_l_plan T) (hr.mono (by decide)) (qa_cons (qv 0) (qa_cons (qv 4) qa_nil))) (qa_cons (q_sliceL (qv 0) (qo_some q_int) (qo_some q_int)) qa_nil))))
 (qss_cons (qs_set (i := 10) sc_law.nd (q_call (ok_l_program T) (hr.mono (by decide)) (qa_cons (qv 9) qa_nil)))
 (qss_cons (qs_set (i := 11) sc_law.nd (q_op oq_mod (q_call (ok_l_mixed T) (hr.mono (by decide)) (qa_cons (qv 1) (qa_cons q_int qa_nil))) q_int))
 (qss_cons (qs_set (i := 12) sc_law.nd (q_call (ok_alone T) (hr.mono (by decide)) (qa_cons (qv 10) (qa_cons (qv 3) (qa_cons (qv 2) (qa_cons (qv 5) (qa_cons (qv 7) (qa_cons (qv 11) (qa_cons (qv 8) qa_nil)))))))))
 (qss_cons (qs_if (qt_w (qw_or (qt_not (qt_val (q_callB cq_isi (m_isinstance T) (by decide +kernel) (qa_cons (q_fld 6 fl_Story (c_Story_lines T) (qv 12)) (qa_cons (q_ty "list" (m_list T) (by decide +kernel)) qa_nil))))) (qw_or (qt_not (qt_val (q_call (ok_l_all_whole T) (hr.mono (by decide)) (qa_cons (q_fld 6 fl_Story (c_Story_lines T) (qv 12)) qa_nil)))) (qw_or1 (qt_cmp oq_ne (q_fld 1 fl_Story (c_Story_steps T) (qv 12)) (q_callB cq_len (m_len T) (by decide +kernel) (qa_cons (q_fld 6 fl_Story (c_Story_lines T) (qv 12)) qa_nil)))))))
  (qss_one (qs_ret q_bl))
  qss_nil)
 (qss_cons (qs_if (qt_w (qw_or (qt_not (qt_val (q_call (ok_l_all_whole T) (hr.mono (by decide)) (qa_cons (q_fld 0 fl_Story (c_Story_told T) (qv 12)) qa_nil)))) (qw_or1 (qt_cmp oq_gt (q_fld 1 fl_Story (c_Story_steps T) (qv 12)) (qv 11)))))
  (qss_one (qs_ret q_bl))
  qss_nil)
 (qss_cons (qs_for PassesOwn.never rfl (qi_range1 (m_range T) (qa_cons q_int qa_nil)) (qg_name (i := 6) sc_law.nd)
  (qss_cons (qs_set (i := 13) sc_law.nd (q_op oq_mod (q_call (ok_l_mixed T) (hr.mono (by decide)) (qa_cons (q_call (ok_l_cell T) (hr.mono (by decide)) (qa_cons (qv 0) (qa_cons (q_op oq_addI q_int (q_op oq_mulS q_int (qv 6))) qa_nil))) (qa_cons (qv 6) qa_nil))) (q_op oq_addI (qv 11) q_int)))
 (qss_cons (qs_set (i := 14) sc_law.nd (q_call (ok_alone T) (hr.mono (by decide)) (qa_cons (qv 10) (qa_cons (qv 3) (qa_cons (qv 2) (qa_cons (qv 5) (qa_cons (qv 7) (qa_cons (qv 13) (qa_cons (qv 8) qa_nil)))))))))
 (qss_cut (qs_if (qt_w (qw_and (qt_cmp oq_lt (qv 13) (q_fld 1 fl_Story (c_Story_steps T) (qv 12))) (qw_and1 (qt_not (qt_val (q_call (ok_l_shorter T) (hr.mono (by decide)) (qa_cons (qv 14) (qa_cons (qv 12) (qa_cons (qv 13) (qa_cons (qv 9) qa_nil))))))))))
  (qss_one (qs_ret q_bl))
  qss_nil)
 (qss_one (qs_if (qt_w (qw_and (qt_cmp oq_ge (qv 13) (q_fld 1 fl_Story (c_Story_steps T) (qv 12))) (qw_and1 (qt_not (qt_val (q_call (ok_l_same T) (hr.mono (by decide)) (qa_cons (qv 14) (qa_cons (qv 12) qa_nil))))))))
  (qss_one (qs_ret q_bl))
  qss_nil))))))
 (qss_one (qs_ret q_bl))))))))))))))))), ?_⟩)
  rintro _ M Q Et ⟨ns, rfl, hl, h⟩
  walk_at "vc"
  refine ⟨ns, 0, rfl, fun r0 => ⟨r0, 603, rfl, by decide, fun rf hrf => ?_⟩⟩
  walk_at "vc"
  have b8 := modB (a := rf) (b := 8) (by decide)
  have bl := modB (a := rf / 8) (b := 1 + rf % 8) (by omega)
  have b13 := modB (a := rf / 64) (b := 13) (by decide)
  refine ⟨wd60 (by decide) (by decide), by omega, wd60 (by decide) (by decide), ns, 3, rfl, fun r2 => ?_⟩
  walk_at "vc"
  have hpow : (0 : Int) < 10 ^ Int.toNat 60 := by decide
  have hp60 : CPow 10 60 := ⟨by decide, by decide, by decide⟩
  have hp59 : CPow 10 59 := ⟨by decide, by decide, by decide⟩
  generalize hmn : r2 % 10 ^ Int.toNat 60 - 5 * 10 ^ Int.toNat 59 = mn
  obtain ⟨lanes, hlanes⟩ : ∃ k : Nat, 1 + rf % 8 = (k : Int) := ⟨(1 + rf % 8).toNat, (Int.toNat_of_nonneg (by omega)).symm⟩
  rw [hlanes] at bl ⊢
  obtain ⟨lane, hlane⟩ : ∃ k : Nat, rf / 8 % (lanes : Int) = (k : Int) := ⟨(rf / 8 % (lanes : Int)).toNat, (Int.toNat_of_nonneg bl.1).symm⟩
  rw [hlane] at bl ⊢
  obtain ⟨room, hroom⟩ : ∃ k : Nat, rf / 64 % 13 = (k : Int) := ⟨(rf / 64 % 13).toNat, (Int.toNat_of_nonneg b13.1).symm⟩
  rw [hroom] at b13 ⊢
  have hlanes8 : 1 ≤ lanes ∧ lanes ≤ 8 := by omega
  have hlane8 : lane < lanes := by omega
  have hroom12 : room ≤ 12 := by omega
  clear hlanes hlane hroom bl b13 b8
  refine ⟨hp60, hpow, hp59, ms_l (by decide), ⟨by omega, by omega⟩, ?_⟩
  refine lc_sel (fun _ y => ∃ n, y = D.int n ∧ True) (fun _ => False) ?_ trivial (fun i x R1 R0 hx h1 h0 => ?_) fun acc hs => ?_
  · show (List.map _ _).length < _
    rw [sizeLine_eq, List.length_map, List.length_range]; omega
  · obtain ⟨hi, rfl⟩ := rng_get hx
    have hi : i < room := by simpa using hi
    walk_at "vc"
    refine ⟨ns, i, rfl, fun ri => ?_⟩
    walk_at "vc"
    exact ⟨ms_r (by omega), wm60 (by omega) (by omega), hp60, hpow, hp59, ms_l (by decide), h1 _ ⟨_, rfl, trivial⟩⟩
  obtain ⟨hd0, rfl, hdl, -⟩ := sel_ints hs
  have hdl : hd0.length = room := by rw [hdl]; simp
  refine cut_by (fun τ M' => ∃ hd : List Int, hd.length = room ∧ M' = M ∧ τ = [some (.scr (ns.map .int)), some (.int rf), some (.int lanes), some (.int lane), some (.int room), some (.int mn), none, some (.lst (hd.map .int)), none, none, none, none, none, none, none, none]) ?_ ?_
  · walk_at "vc"
    refine ⟨wd60 (by decide) (by decide), ?_⟩
    split
    · refine lc_map hd0 D.int (fun v => .int (v % ((room : Int) + 1))) rfl (by rw [sizeLine_eq]; omega) trivial (fun v R1 R0 _ h1 => ?_) ?_
      · walk_at "vc"
        exact ⟨by omega, h1⟩
      · rw [show (hd0.map fun v => D.int (v % ((room : Int) + 1))) = (hd0.map fun v => v % ((room : Int) + 1)).map .int from by rw [List.map_map]; rfl]
        exact ⟨_, by rw [List.length_map]; exact hdl, rfl, rfl⟩
    · exact ⟨hd0, hdl, rfl⟩
  rintro τ M' ⟨hd, hhl, rfl, rfl⟩
  clear hdl hs
  walk_at "vc"
  refine ⟨ns, 3, rfl, fun r3 => ⟨r3, 604, rfl, by decide, fun rt hrt => ?_⟩⟩
  walk_at "vc"
  have b6 := modB (a := rt) (b := 6) (by decide)
  refine ⟨ns, (rt % 6).toNat, lanes, lane, room, by rw [Int.toNat_of_nonneg b6.1], by omega, by omega, hlane8, hroom12, fun ls hls hlok => ?_⟩
  try walk_at "vc"
  refine ⟨ns, room, rfl, hroom12, fun p a Ma hp hnd hmain hpr haM hma hold => ?_⟩
  try walk_at "vc"
  rw [show Tl.cutD (List.map D.int ns) (some 4) (some 84) = ((ns.take 84).drop 4).map D.int from by rw [show (some (4 : Int)) = some ((4 : Nat) : Int) from rfl, show (some (84 : Int)) = some ((84 : Nat) : Int) from rfl, cut_both, ← List.map_take, ← List.map_drop]]
  have hxl : ((ns.take 84).drop 4).length ≤ 80 := by rw [List.length_drop, List.length_take]; omega
  refine ⟨a, p, (ns.take 84).drop 4, rfl, hma, hp, hxl, fun pg Mb hpg hok hnm hln hold2 => ?_⟩
  try walk_at "vc"
  refine ⟨pg, rfl, hnm, fun d hd => (hok d hd).bd.dp, by omega, ?_⟩
  try walk_at "vc"
  refine ⟨rf, 1, rfl, by decide, fun rm hrm => ?_⟩
  try walk_at "vc"
  have b81 := modB (a := rm) (b := 81) (by decide)
  obtain ⟨most, hmost⟩ : ∃ k : Nat, rm % 81 = (k : Int) := ⟨(rm % 81).toNat, (Int.toNat_of_nonneg b81.1).symm⟩
  rw [hmost] at b81 ⊢
  clear hmost
  have hnames : pg.map (·.name) = fsP p := by unfold fsP; rw [← hpg, List.map_map]; rfl
  have hmn2 : ∃ o ∈ pg, o.name = Str.ofString "main" := by
    have : Str.ofString "main" ∈ pg.map (·.name) := by rw [hnames]; exact hmain
    obtain ⟨d, hd, e⟩ := List.mem_map.mp this
    exact ⟨d, hd, e⟩
  have hpgl : pg.length ≤ 3 := by
    have h1 := hp.dl
    have h2 := congrArg List.length hpg
    rw [List.length_map] at h2
    omega
  have hls5 : ls.length ≤ 5 := by omega
  have hlt : ∀ t ∈ ls, okLt t := fun t ht => (hlok t ht).lt hlanes8.2 hroom12
  have hb0 : ∀ v ∈ hd.map wrapF, inR v := fun v hv => by
    obtain ⟨u, _, rfl⟩ := List.mem_map.mp hv
    exact wrap_in _
  have hbl : (hd.map wrapF).length ≤ 1000 := by rw [List.length_map]; omega
  have hlc : okLc (Lc.mk lane lanes (wrapF mn) most pg) := lc46 hnames hnd hok hpgl ⟨by omega, by omega⟩ ⟨by omega, by omega⟩ (wrap_in _) (by omega)
  have alo : ∀ (k : Nat) (Mx : MH) (Qx : VD), k ≤ most → (∀ A M', StoE A (WC K) Mx M' (storyF (Lc.mk lane lanes (wrapF mn) k pg) (hd.map wrapF) ls) → Qx (.ref A.s) M') → spAlone K [.lst (pgD pg), .int (lane : Int), .int (lanes : Int), .int mn, .lst (hd.map .int), .int (k : Nat), .lst (ls.map Lt.d)] Mx Qx Et0 := fun k Mx Qx hk hq =>
    ⟨_, lane, lanes, mn, hd, _, k, ls, rfl, Or.inl rfl, by omega, okLc_m (c := Lc.mk lane lanes (wrapF mn) most pg) hlc hk, by omega, hmn2, hlt, hq⟩
  have hwd := wd_pg hnm
  have okW := story_ok hlc hmn2 hb0 hbl hlt
  have ndW := lg_story hlc hmn2 hwd hb0 hbl hlt
  have hs46 := fun (m : Nat) (hm : m ≤ most) => story46 (wd := wdR (pgTx pg)) hlc hmn2 hwd (m := m) hm hb0 hbl hlt
  have okF := fun (m : Nat) (hm : m ≤ most) => story_ok (okLc_m (c := Lc.mk lane lanes (wrapF mn) most pg) hlc hm) hmn2 hb0 hbl hlt
  have bdW := bdz hlc okW
  have bdF := fun (m : Nat) (hm : m ≤ most) => bdz (okLc_m (c := Lc.mk lane lanes (wrapF mn) most pg) hlc hm) (okF m hm)
  have stW : (storyF (Lc.mk lane lanes (wrapF mn) most pg) (hd.map wrapF) ls).z.lines.length ≤ most := by
    have h1 := okW.lines
    have h2 := okW.st
    show (storyF (Lc.mk lane lanes (wrapF mn) most pg) (hd.map wrapF) ls).lines.length ≤ most
    rw [h1]
    exact h2
  have izW := Ws.isz okW
  have eLen := okW.lines
  try walk_at "vc"
  refine alo most _ _ (Nat.le_refl _) fun A M1 hA => ?_
  obtain ⟨hextW, TCw, PCw, hW, hnewW⟩ := sto_c (K := K) hA izW
  obtain ⟨dx, t', b', T', P', l', hob, ht', hb', hl', hT', hP', hrest⟩ := id hW
  have hd1 : dTy M1 (.ref l') = some "list" := by unfold dTy; dsimp only; rw [hl']
  have bW1 := bdW.lines
  have bW2 := bdW.told
  try walk_at "vc"
  rw [hob]
  try walk_at "vc"
  rw [hd1]
  try walk_at "vc"
  refine ⟨(storyF (Lc.mk lane lanes (wrapF mn) most pg) (hd.map wrapF) ls).z.lines, .ref l', rfl, lstOf_at hl', by omega, ?_⟩
  try walk_at "vc"
  rw [hob]
  try walk_at "vc"
  rw [lenOf_at hl' (List.length_map ..)]
  try walk_at "vc"
  refine ⟨(storyF (Lc.mk lane lanes (wrapF mn) most pg) (hd.map wrapF) ls).z.told, .ref t', rfl, lstOf_at ht', by omega, ?_⟩
  try walk_at "vc"
  rw [hob]
  try walk_at "vc"
  rw [if_neg (by omega)]
  refine for_any (fun i τ M' => extM M1 M' ∧ ∃ v6 v13 v14 v15, τ = [some (.scr (ns.map .int)), some (.int rf), some (.int lanes), some (.int lane), some (.int room), some (.int mn), v6, some (.lst (hd.map .int)), some (.lst (ls.map Lt.d)), some (.lst (txs6 (pgTx pg))), some (.lst (pgD pg)), some (.int (most : Nat)), some (.ref A.s), v13, v14, v15]) ⟨fun _ _ e => e, _, _, _, _, rfl⟩ (fun _ _ _ _ => trivial) ?_ ?_
  · rintro i x τ M2 hx ⟨hx2, v6, v13, v14, v15, rfl⟩
    obtain ⟨hi, rfl⟩ := rng_get hx
    have hi : i < 5 := hi
    try walk_at "vc"
    refine ⟨ms_l (by decide), ns, 4 + 13 * i, by rw [Int.natCast_add, Int.natCast_mul]; rfl, fun rc => ⟨rc, (i : Int), rfl, by omega, fun rk hrk => ?_⟩⟩
    try walk_at "vc"
    have bf := modB (a := rk) (b := (most : Int) + 1) (by omega)
    obtain ⟨fe, hfe⟩ : ∃ k : Nat, rk % ((most : Int) + 1) = (k : Int) := ⟨(rk % ((most : Int) + 1)).toNat, (Int.toNat_of_nonneg bf.1).symm⟩
    rw [hfe] at bf ⊢
    have hfem : fe ≤ most := by omega
    clear hfe
    refine ⟨by omega, alo fe _ _ hfem fun A2 M3 hA2 => ?_⟩
    obtain ⟨hextF, TCf, PCf, hF, hnewF⟩ := sto_c (K := K) hA2 (Ws.isz (okF fe hfem))
    have hW3 := (hW.ext hx2).ext hextF
    have hob3 := hextF _ _ (hx2 _ _ hob)
    have hPW : ∀ q ∈ PCw, ∃ o, M2 q.1 = some o := fun q hq => by
      obtain ⟨_, _, _, _, _, _, _, _, _, _, _, _, _, _, _, h10⟩ := hW.ext hx2
      exact ⟨_, h10 q hq⟩
    have hdis : ∀ q ∈ PCf, ∀ q2 ∈ PCw, q.1 ≠ q2.1 := fun q hq q2 hq2 e => by
      obtain ⟨o, ho⟩ := hPW q2 hq2
      have := hnewF q hq
      rw [e, ho] at this
      cases this
    have hcs := hs46 fe hfem
    have bF := bdF fe hfem
    have okF2 := okF fe hfem
    dsimp only at hcs bF okF2
    generalize storyF (Lc.mk lane lanes (wrapF mn) fe pg) (hd.map wrapF) ls = Fs at hF hcs bF okF2
    generalize storyF (Lc.mk lane lanes (wrapF mn) most pg) (hd.map wrapF) ls = Wz at *
    try walk_at "vc"
    refine cut_by (fun τ M4 => M4 = M3 ∧ τ = [some (.scr (ns.map .int)), some (.int rf), some (.int lanes), some (.int lane), some (.int room), some (.int mn), some (.int (i : Nat)), some (.lst (hd.map .int)), some (.lst (ls.map Lt.d)), some (.lst (txs6 (pgTx pg))), some (.lst (pgD pg)), some (.int (most : Nat)), some (.ref A.s), some (.int (fe : Nat)), some (.ref A2.s), v15]) ?_ ?_
    · walk_at "vc"
      rw [hob3]
      try walk_at "vc"
      rcases hcs with ⟨_, hle⟩ | hsh
      · have e1 : Wz.z.lines.length = Wz.steps := eLen
        rw [if_neg (by omega)]
        trivial
      · have sf := shF_of okF2 hsh
        have e1 : Fs.z.lines.length = fe := sf.fl
        obtain ⟨l3, x3, _, e2⟩ := sf.fin
        have e3 := congrArg List.length e2
        rw [List.length_append, List.length_cons] at e3
        rw [if_pos (by omega)]
        refine ⟨A2.s, A.s, Fs.z, Wz.z, TCf, TCw, PCf, PCw, pgTx pg, fe, rfl, hF, hW3, hdis, sf, bF, bdW, ?_⟩
        dsimp only
        rw [oBl_i, if_neg (by decide)]
    rintro τ M4 ⟨rfl, rfl⟩
    walk_at "vc"
    rw [hob3]
    try walk_at "vc"
    have hx3 : extM M1 M4 := fun a o e => hextF a o (hx2 a o e)
    rcases hcs with ⟨hFW, hle⟩ | hsh
    · have e1 : Wz.z.lines.length = Wz.steps := eLen
      rw [if_pos (by omega)]
      rw [hFW] at hF
      refine ⟨A2.s, A.s, Wz.z, TCf, TCw, PCf, PCw, rfl, hF, hW3, bdW, ndW, ?_⟩
      dsimp only
      rw [oBl_i, if_neg (by decide)]
      exact ⟨hx3, _, _, _, _, rfl, rfl, rfl, rfl⟩
    · have sf := shF_of okF2 hsh
      have e1 : Fs.z.lines.length = fe := sf.fl
      obtain ⟨l3, x3, _, e2⟩ := sf.fin
      have e3 := congrArg List.length e2
      rw [List.length_append, List.length_cons] at e3
      rw [if_neg (by omega)]
      exact ⟨hx3, _, _, _, _, rfl, rfl, rfl, rfl⟩
  · rintro τ M2 ⟨hx2, v6, v13, v14, v15, rfl⟩
    walk_at "vc"
    exact h _
end
theorem facts {P : Program} {w : World} {K : PySem.W.Frag} {h : Heap} {mg : Str → Option Value} {f : Addr} (X : K.In h) (G : h.Ns mainGlobals mg) (hfa : mg ("law" : Str) = some (.ref f)) (c : He.SaysD fa fn K) :
    ∃ fd : FuncData, (∀ (s : Shared) (v : Value), BindsTo s fd ⟨[v], []⟩ [("_law_script", v)]) ∧ ∀ base : Heap, K.In base → base.Ns mainGlobals mg → FnAt P w K mg base f ["_law_script"] fd (lSp K spLaw) := by
  have T : Tp K mg := ⟨c, h, X, G⟩
  obtain ⟨fd, F⟩ := c.def_ 61 (d := e_law) rfl
  have e := hfa.symm.trans (m_law T)
  cases e
  have b := FunD.bindsA (ps := ["_law_script"]) F fun _ _ _ _ _ _ us hl => match us, hl with | [_], _ => rfl
  exact ⟨fd, fun s v => b s [v] rfl, fun base _ _ => ok_law T F⟩
end K46
open PySem PySem.W PySem.Calls PyProof.Rows
theorem PySem.Challenge.cw_widelanes_k46_fewer_steps_holds : PySem.Challenge.rw_widelanes_k46_fewer_steps.Holds := by
  w_on; o_law
  refine HandSHeadRun.head_any (r := OpenLaw.row PySem.Challenge.rw_widelanes_k46_fewer_steps) (q := view (OpenLaw.row PySem.Challenge.rw_widelanes_k46_fewer_steps).prog [59]) (H := K46.hk) (ob := K46.ob) (M := 4000) (loose := ("__name__" :: "HALF" :: "ROUND" :: "wrapped" :: "divided" :: "worked" :: "Joint" :: "Most" :: "Least" :: "Ahead" :: "joint_of" :: "joined" :: "expressions_of" :: "DEEPEST" :: "Story" :: "Block" :: "Frame" :: "Walker" :: "touched_box" :: "sign_told" :: "in_box" :: "working_of" :: "number_of" :: "numbers_of" :: "do_put" :: "do_test" :: "do_leave" :: "do_call" :: "come_to_meeting" :: "do_onward" :: "do_deed" :: "go_on" :: "let_on" :: "alone" :: "_law_cell" :: "_law_mixed" :: "_law_all_whole" :: "_law_names" :: "_law_leaf" :: "_law_place" :: "_law_told" :: "_law_open" :: "_law_call" :: "_law_plain" :: "_law_grow" :: "_law_rows" :: "_law_plan" :: "_law_block" :: "_law_program" :: "_law_letters" :: "_law_begins" :: "_law_puts_fit" :: "_law_counted" :: "_law_shorter" :: "_law_same" :: [])) (d := HandSHeadRun.topDef (OpenLaw.row PySem.Challenge.rw_widelanes_k46_fewer_steps).prog 59) (kwd := []) K46.ob_eq
    (by kernel_rfl) (fun s => by kernel_rfl) K46.run (by kernel_rfl) (by kernel_rfl) (by kernel_rfl) (by rfl) (by first | assumption | decide +kernel) (by decide +kernel) ⟨rfl, rfl, rfl, rfl, rfl, by decide +kernel⟩ ?hw ?hc
  case hw => w_witness2
  case hc =>
    refine Tl.walk_at (l := PySem.Challenge.rw_widelanes_k46_fewer_steps) (n := 63) (x := "_law_script") rfl (by decide) (by kernel_rfl) ?F
    intro w mg fa h Y G hmg0
    obtain ⟨K, KX, c⟩ := Y
    have hmg : mg ("law" : PySem.Str) = some (.ref fa) := by
      have e : (HandSHeadRun.topDef (OpenLaw.row PySem.Challenge.rw_widelanes_k46_fewer_steps).prog 59).name = ("law" : PySem.Str) := by kernel_rfl
      rw [← e]
      exact hmg0
    obtain ⟨fd, hb, hF⟩ := K46.facts (P := (PySem.Challenge.rw_widelanes_k46_fewer_steps).prog) (w := w) KX G hmg c
    exact ⟨K, fd, Tl.lSp K Tl.spLaw, KX, hb, fun H a ns hl _ hS => Tl.end_sp hS ⟨ns, rfl, hl, fun _ => rfl⟩, hF⟩
#print axioms PySem.Challenge.cw_widelanes_k46_fewer_steps_holds
