import PyProof.Rows.All
import Wide.All
import OpenK.AllK
import Wide.FinOn
import HandS.ForMost
import HandS.ForExc
import HandS.Wide
import HandS.IsInst
import HandS.HeadHook2
import HandS.Head2
import HandS.HeadEnd
import PyProof.Rows.SeqMore
import HandS.SortInts
import PyProof.Rows.RuleDivmod
import HandS.TupLen
import HandS.TupAny
import HandS.TupMul
import HandS.More
import HandS.Conv
import HandS.SetKeys
import HandS.Codes
import HandS.Zip
import HandS.Exc
import HandS.ExcOwn
import HandS.ExcIs
import HandS.WordsExc
import HandS.HeadHook4
import HandS.TryOnly
import KE.GoesEnumKw
import KE.DataMinMax
import HandS.Strs
import KE.KEqNest
import PyProof.ReprRoads
import PyProof.DictUpdate
import KE.GoesRaise
import KE.KAsSuite
import PySem.Challenge.RW_widelanes_k07_refused_in_order
set_option Elab.async false
set_option linter.all false
set_option maxRecDepth 100000
set_option maxHeartbeats 4000000
namespace Tl
open PySem PySem.Spec PyProof.Rows L2
/-! ### data as trees -/
inductive D where
  | non | bl (b : Bool) | int (i : Int) | str (s : Str) | tup (l : List D) | lst (l : List D) | tab (l : List D) | scr (l : List D) | ref (a : Addr) | ty (n : String)
/-- what may still change -/
inductive MO where
  | lst (l : List D) | dK (kvs : List (Key × D)) | dT (kvs : List (List Key × D)) | obj (C dx : Addr) (fl : List Str) (ds : List D) | lk (o : Obj) (ks : List (Key × V)) (kvs : List (Key × D))
abbrev MH := Addr → Option MO
def mup (M : MH) (a : Addr) (o : MO) : MH := fun b => if b = a then some o else M b
def mdel (M : MH) (a : Addr) : MH := fun b => if b = a then none else M b
theorem mup_same {M : MH} {a : Addr} {o : MO} : mup M a o a = some o := by unfold mup; rw [if_pos rfl]
theorem mup_ne {M : MH} {a b : Addr} {o : MO} (h : b ≠ a) : mup M a o b = M b := by unfold mup; rw [if_neg h]
theorem mup_mup {M : MH} {a : Addr} {o u : MO} : mup (mup M a o) a u = mup M a u := by
  funext b; unfold mup; split <;> rfl
theorem mdel_mup {M : MH} {a : Addr} {o : MO} (h : M a = none) : mdel (mup M a o) a = M := by
  funext b; unfold mdel mup
  by_cases e : b = a
  · rw [if_pos e, e, h]
  · rw [if_neg e, if_neg e]
section
variable (K : PySem.W.Frag)
mutual
inductive Rp (F : Hp) : V → D → Prop
  | non : Rp F .non .non
  | bl (b : Bool) : Rp F (.bl b) (.bl b)
  | int (i : Int) : Rp F (.int i) (.int i)
  | str (s : Str) : Rp F (.str s) (.str s)
  | ty (n : String) : Rp F (.ty n) (.ty n)
  | ref (a : Addr) : Rp F (.ref a) (.ref a)
  | tup {a : Addr} {vs : List V} {ds : List D} (h : F a = some (.tup vs)) (r : Rps F vs ds) : Rp F (.ref a) (.tup ds)
  | tab {a : Addr} {vs : List V} {ds : List D} (h : SqT K F a vs) (r : Rps F vs ds) : Rp F (.ref a) (.tab ds)
  | lst {a : Addr} {vs : List V} {ds : List D} (h : F a = some (.lst vs)) (r : Rps F vs ds) : Rp F (.ref a) (.lst ds)
  | scr {a : Addr} {vs : List V} {ds : List D} (h : SqL K F a vs) (r : Rps F vs ds) : Rp F (.ref a) (.scr ds)
inductive Rps (F : Hp) : List V → List D → Prop
  | nil : Rps F [] []
  | cons {v : V} {d : D} {vs : List V} {ds : List D} (h : Rp F v d) (t : Rps F vs ds) : Rps F (v :: vs) (d :: ds)
end
end
section
variable {K : PySem.W.Frag}
theorem SameT {H H' : Hp} {a : Addr} {xs : List V} (e : Same H H') (h : SqT K H a xs) : SqT K H' a xs := by
  rcases h with (h | ⟨o, h⟩) | h
  · exact .inl (.inl (e _ _ h))
  · exact .inl (.inr ⟨o, e _ _ h⟩)
  · exact .inr h
mutual
theorem Rp.mono {F F' : Hp} (s : Same F F') : ∀ {v : V} {d : D}, Rp K F v d → Rp K F' v d
  | _, _, .non => .non
  | _, _, .bl b => .bl b
  | _, _, .int i => .int i
  | _, _, .str x => .str x
  | _, _, .ty n => .ty n
  | _, _, .ref a => .ref a
  | _, _, .tup h r => .tup (s _ _ h) (Rps.mono s r)
  | _, _, .tab h r => .tab (SameT s h) (Rps.mono s r)
  | _, _, .lst h r => .lst (s _ _ h) (Rps.mono s r)
  | _, _, .scr h r => .scr (s.seq h) (Rps.mono s r)
theorem Rps.mono {F F' : Hp} (s : Same F F') : ∀ {vs : List V} {ds : List D}, Rps K F vs ds → Rps K F' vs ds
  | _, _, .nil => .nil
  | _, _, .cons h t => .cons (Rp.mono s h) (Rps.mono s t)
end
theorem Rps.length {F : Hp} : ∀ {vs : List V} {ds : List D}, Rps K F vs ds → vs.length = ds.length
  | _, _, .nil => rfl
  | _, _, .cons _ t => by rw [List.length_cons, List.length_cons, Rps.length t]
theorem Rps.get {F : Hp} : ∀ {vs : List V} {ds : List D} {i : Nat} {v : V}, Rps K F vs ds → vs[i]? = some v → ∃ d, ds[i]? = some d ∧ Rp K F v d
  | _, _, _, _, .nil, e => by simp at e
  | _, _, 0, _, .cons h _, e => by simp at e; subst e; exact ⟨_, rfl, h⟩
  | _, _, i + 1, v, .cons _ t, e => by
    obtain ⟨d, h1, h2⟩ := Rps.get (i := i) (v := v) t (by simpa using e)
    exact ⟨d, by simpa using h1, h2⟩
theorem Rps.getD {F : Hp} : ∀ {vs : List V} {ds : List D} {i : Nat} {d : D}, Rps K F vs ds → ds[i]? = some d → ∃ v, vs[i]? = some v ∧ Rp K F v d
  | _, _, _, _, .nil, e => by simp at e
  | _, _, 0, _, .cons h _, e => by simp at e; subst e; exact ⟨_, rfl, h⟩
  | _, _, i + 1, v, .cons _ t, e => by
    obtain ⟨d, h1, h2⟩ := Rps.getD (i := i) (d := v) t (by simpa using e)
    exact ⟨d, by simpa using h1, h2⟩
theorem Rps.append {F : Hp} : ∀ {vs ws : List V} {ds es : List D}, Rps K F vs ds → Rps K F ws es → Rps K F (vs ++ ws) (ds ++ es)
  | _, _, _, _, .nil, s => s
  | _, _, _, _, .cons h t, s => .cons h (Rps.append t s)
theorem Rps.take {F : Hp} : ∀ {vs : List V} {ds : List D} (n : Nat), Rps K F vs ds → Rps K F (vs.take n) (ds.take n)
  | _, _, 0, _ => .nil
  | _, _, _ + 1, .nil => .nil
  | _, _, n + 1, .cons r t => .cons r (Rps.take n t)
theorem Rps.drop {F : Hp} : ∀ {vs : List V} {ds : List D} (n : Nat), Rps K F vs ds → Rps K F (vs.drop n) (ds.drop n)
  | _, _, 0, r => r
  | _, _, _ + 1, .nil => .nil
  | _, _, n + 1, .cons _ t => Rps.drop n t
theorem Rps.set {F : Hp} {v : V} {d : D} (r : Rp K F v d) : ∀ {vs : List V} {ds : List D} (n : Nat), Rps K F vs ds → Rps K F (vs.set n v) (ds.set n d)
  | _, _, _, .nil => .nil
  | _, _, 0, .cons _ t => .cons r t
  | _, _, n + 1, .cons q t => .cons q (Rps.set r n t)
theorem Rps.dropLast {F : Hp} {vs : List V} {ds : List D} (h : Rps K F vs ds) : Rps K F vs.dropLast ds.dropLast := by
  rw [List.dropLast_eq_take, List.dropLast_eq_take, h.length]
  exact h.take _
theorem Rps.reverse {F : Hp} : ∀ {vs : List V} {ds : List D}, Rps K F vs ds → Rps K F vs.reverse ds.reverse
  | _, _, .nil => .nil
  | _, _, .cons h t => by
    rw [List.reverse_cons, List.reverse_cons]
    exact (Rps.reverse t).append (.cons h .nil)
/-- what stands at a mutable place -/
def RpLk (K : PySem.W.Frag) (F : Hp) (u : HO) (ks : List (Key × V)) (ls : List (Key × D)) : Prop := u = .dK ks ∧ Paired (fun (p : Key × V) (q : Key × D) => p.1 = q.1 ∧ Rp K F p.2 q.2) ks ls
def RpO (K : PySem.W.Frag) (F : Hp) : HO → MO → Prop
  | .lst vs, .lst ds => Rps K F vs ds
  | .dK ks, .dK ls => Paired (fun (p : Key × V) (q : Key × D) => p.1 = q.1 ∧ Rp K F p.2 q.2) ks ls
  | .dT ks, .dT ls => Paired (fun (p : List Key × V) (q : List Key × D) => p.1 = q.1 ∧ Rp K F p.2 q.2) ks ls
  | .ins C dx fs, .obj C' dx' fl ds => C = C' ∧ dx = dx' ∧ fl.Nodup ∧ fs.map (·.1) = fl.take ds.length ∧ Rps K F (fs.map (·.2)) ds
  | .frz ob u, .lk o ks ls => ob = o ∧ RpLk K F u ks ls
  | _, _ => False
theorem Paired.imp {α β : Type} {R S : α → β → Prop} (h : ∀ a b, R a b → S a b) : ∀ {xs : List α} {ys : List β}, Paired R xs ys → Paired S xs ys
  | _, _, .nil => .nil
  | _, _, .cons r t => .cons (h _ _ r) (Paired.imp h t)
theorem RpO.mono {F F' : Hp} (s : Same F F') : ∀ {u : HO} {o : MO}, RpO K F u o → RpO K F' u o
  | .lst _, .lst _, h => Rps.mono s h
  | .dK _, .dK _, h => Paired.imp (fun _ _ q => ⟨q.1, q.2.mono s⟩) h
  | .dT _, .dT _, h => Paired.imp (fun _ _ q => ⟨q.1, q.2.mono s⟩) h
  | .ins _ _ _, .obj _ _ _ _, h => ⟨h.1, h.2.1, h.2.2.1, h.2.2.2.1, Rps.mono s h.2.2.2.2⟩
  | .lst _, .dK _, h => h.elim
  | .lst _, .dT _, h => h.elim
  | .lst _, .obj _ _ _ _, h => h.elim
  | .dK _, .lst _, h => h.elim
  | .dK _, .dT _, h => h.elim
  | .dK _, .obj _ _ _ _, h => h.elim
  | .dT _, .lst _, h => h.elim
  | .dT _, .dK _, h => h.elim
  | .dT _, .obj _ _ _ _, h => h.elim
  | .ins _ _ _, .lst _, h => h.elim
  | .ins _ _ _, .dK _, h => h.elim
  | .ins _ _ _, .dT _, h => h.elim
  | .tup _, _, h => (h : False).elim
  | .set _ _, _, h => (h : False).elim
  | .own _, _, h => (h : False).elim
  | .xd _, _, h => (h : False).elim
  | .met _ _, _, h => (h : False).elim
  | .rng _ _, _, h => (h : False).elim
  | .lst _, .lk _ _ _, h => h.elim
  | .dK _, .lk _ _ _, h => h.elim
  | .dT _, .lk _ _ _, h => h.elim
  | .ins _ _ _, .lk _ _ _, h => h.elim
  | .frz _ u, .lk _ ks ls, h => ⟨h.1, h.2.1, Paired.imp (fun _ _ q => ⟨q.1, q.2.mono s⟩) h.2.2⟩
  | .frz _ _, .lst _, h => (h : False).elim
  | .frz _ _, .dK _, h => (h : False).elim
  | .frz _ _, .dT _, h => (h : False).elim
  | .frz _ _, .obj _ _ _ _, h => (h : False).elim
  | .tbl _, _, h => (h : False).elim
  | .ext _, _, h => (h : False).elim
/-- what a caller hides G, the frozen part F, the heap H, the changing part M -/
structure Rel (K : PySem.W.Frag) (G F H : Hp) (M : MH) : Prop where
  sub : Same F H
  chg : ∀ a o, M a = some o → F a = none ∧ ∃ u, H a = some u ∧ RpO K F u o
  hid : ∀ a o, G a = some o → H a = some o ∧ F a = none ∧ M a = none
  hidt : ∀ a vs, G a ≠ some (.tup vs)
theorem same_upd {H : Hp} {p : Addr} {o : HO} (h : H p = none) : Same H (upd H p o) := fun b x e => by
  rw [upd_ne (ne_of_none e h)]
  exact e
section
variable {G F H : Hp} {M : MH}
theorem Rel.free (R : Rel K G F H M) {p : Addr} (h : H p = none) : F p = none ∧ M p = none := by
  refine ⟨R.sub.free h, ?_⟩
  cases e : M p with
  | none => rfl
  | some o =>
    obtain ⟨_, u, hu, _⟩ := R.chg p o e
    rw [h] at hu
    cases hu
theorem Rel.freeG (R : Rel K G F H M) {p : Addr} (h : H p = none) : G p = none := by
  cases e : G p with
  | none => rfl
  | some o =>
    rw [(R.hid p o e).1] at h
    cases h
/-- a new frozen thing -/
theorem Rel.newF (R : Rel K G F H M) {p : Addr} {o : HO} (h : H p = none) : Same F (upd F p o) ∧ Rel K G (upd F p o) (upd H p o) M := by
  have s : Same F (upd F p o) := same_upd (R.free h).1
  refine ⟨s, ⟨fun b u e => ?_, fun a m e => ?_, fun a u e => ?_, R.hidt⟩⟩
  · by_cases q : b = p
    · subst q
      rw [upd_same] at e ⊢
      exact e
    · rw [upd_ne q] at e ⊢
      exact R.sub _ _ e
  · obtain ⟨f, u, hu, r⟩ := R.chg a m e
    have q : a ≠ p := ne_of_none hu h
    exact ⟨by rw [upd_ne q]; exact f, u, by rw [upd_ne q]; exact hu, r.mono s⟩
  · obtain ⟨h1, h2, h3⟩ := R.hid a u e
    have q : a ≠ p := ne_of_none h1 h
    exact ⟨by rw [upd_ne q]; exact h1, by rw [upd_ne q]; exact h2, h3⟩
/-- a new changing thing -/
theorem Rel.newM (R : Rel K G F H M) {p : Addr} {u : HO} {o : MO} (h : H p = none) (r : RpO K F u o) : Rel K G F (upd H p u) (mup M p o) := by
  refine ⟨fun b x e => same_upd h _ _ (R.sub _ _ e), fun a m e => ?_, fun a x e => ?_, R.hidt⟩
  · by_cases q : a = p
    · subst q
      rw [mup_same] at e
      cases e
      exact ⟨(R.free h).1, u, upd_same, r⟩
    · rw [mup_ne q] at e
      obtain ⟨f, x, hx, r⟩ := R.chg a m e
      exact ⟨f, x, by rw [upd_ne q]; exact hx, r⟩
  · obtain ⟨h1, h2, h3⟩ := R.hid a x e
    have q : a ≠ p := ne_of_none h1 h
    exact ⟨by rw [upd_ne q]; exact h1, h2, by rw [mup_ne q]; exact h3⟩
/-- a store -/
theorem Rel.put (R : Rel K G F H M) {p : Addr} {u : HO} {o o0 : MO} (h : M p = some o0) (r : RpO K F u o) : Rel K G F (upd H p u) (mup M p o) := by
  obtain ⟨f0, _, _, _⟩ := R.chg p o0 h
  refine ⟨fun b x e => ?_, fun a m e => ?_, fun a x e => ?_, R.hidt⟩
  · rw [upd_ne (ne_of_none e f0)]
    exact R.sub _ _ e
  · by_cases q : a = p
    · subst q
      rw [mup_same] at e
      cases e
      exact ⟨f0, u, upd_same, r⟩
    · rw [mup_ne q] at e
      obtain ⟨f, x, hx, r⟩ := R.chg a m e
      exact ⟨f, x, by rw [upd_ne q]; exact hx, r⟩
  · obtain ⟨h1, h2, h3⟩ := R.hid a x e
    have q : a ≠ p := fun q => by
      rw [q, h] at h3
      cases h3
    exact ⟨by rw [upd_ne q]; exact h1, h2, by rw [mup_ne q]; exact h3⟩
/-- less is known -/
theorem Rel.drop {M' : MH} (R : Rel K G F H M) (h : ∀ a o, M' a = some o → M a = some o) : Rel K G F H M' := ⟨R.sub, fun a o e => R.chg a o (h a o e), (fun a o e => by
  obtain ⟨h1, h2, h3⟩ := R.hid a o e
  refine ⟨h1, h2, ?_⟩
  cases q : M' a with
  | none => rfl
  | some x =>
    rw [h a x q] at h3
    cases h3), R.hidt⟩
/-- a changing list will change no more -/
theorem Rel.freeze (R : Rel K G F H M) {p : Addr} {ds : List D} (h : M p = some (.lst ds)) : ∃ F', Same F F' ∧ Rel K G F' H (mdel M p) ∧ Rp K F' (.ref p) (.lst ds) := by
  obtain ⟨f, u, hu, r⟩ := R.chg p _ h
  cases u with
  | lst vs =>
    have r' : Rps K F vs ds := r
    have s : Same F (upd F p (.lst vs)) := same_upd f
    refine ⟨upd F p (.lst vs), s, ⟨fun b x e => ?_, fun a m e => ?_, fun a x e => ?_, R.hidt⟩, .lst upd_same (r'.mono s)⟩
    · by_cases q : b = p
      · subst q
        rw [upd_same] at e
        rw [hu]
        exact e
      · rw [upd_ne q] at e
        exact R.sub _ _ e
    · unfold mdel at e
      by_cases q : a = p
      · rw [if_pos q] at e
        cases e
      · rw [if_neg q] at e
        obtain ⟨f2, x, hx, r2⟩ := R.chg a m e
        exact ⟨by rw [upd_ne q]; exact f2, x, hx, r2.mono s⟩
    · obtain ⟨h1, h2, h3⟩ := R.hid a x e
      have q : a ≠ p := fun q => by
        rw [q, h] at h3
        cases h3
      refine ⟨h1, by rw [upd_ne q]; exact h2, ?_⟩
      unfold mdel
      rw [if_neg q]
      exact h3
  | _ => exact (r : False).elim
/-- a new thing, hidden -/
theorem Rel.newG (R : Rel K G F H M) {p : Addr} {u : HO} (h : H p = none) (hu : ∀ vs, u ≠ .tup vs := by intro vs; exact HO.noConfusion) : Rel K (upd G p u) F (upd H p u) M := by
  have q0 : ∀ a x, H a = some x → a ≠ p := fun a x e => ne_of_none e h
  refine ⟨fun b x e => same_upd h _ _ (R.sub _ _ e), fun a m e => ?_, fun a x e => ?_, fun a vs e => ?_⟩
  · obtain ⟨f, x, hx, r⟩ := R.chg a m e
    exact ⟨f, x, by rw [upd_ne (q0 _ _ hx)]; exact hx, r⟩
  · by_cases q : a = p
    · subst q
      rw [upd_same] at e
      cases e
      exact ⟨upd_same, (R.free h).1, (R.free h).2⟩
    · rw [upd_ne q] at e
      obtain ⟨h1, h2, h3⟩ := R.hid a x e
      exact ⟨by rw [upd_ne q]; exact h1, h2, h3⟩
  · by_cases q : a = p
    · subst q
      rw [upd_same] at e
      exact hu vs (Option.some.inj e)
    · rw [upd_ne q] at e
      exact R.hidt a vs e
/-- the hidden thing is changed -/
theorem Rel.putG {u u' : HO} {p : Addr} (R : Rel K (upd G p u) F H M) (hu : ∀ vs, u' ≠ .tup vs := by intro vs; exact HO.noConfusion) : Rel K (upd G p u') F (upd H p u') M := by
  obtain ⟨h1, h2, h3⟩ := R.hid p u upd_same
  refine ⟨fun b x e => ?_, fun a m e => ?_, fun a x e => ?_, fun a vs e => ?_⟩
  · rw [upd_ne (ne_of_none e h2)]
    exact R.sub _ _ e
  · obtain ⟨f, x, hx, r⟩ := R.chg a m e
    have q : a ≠ p := fun q => by
      rw [q, h3] at e
      cases e
    exact ⟨f, x, by rw [upd_ne q]; exact hx, r⟩
  · by_cases q : a = p
    · subst q
      rw [upd_same] at e
      cases e
      exact ⟨upd_same, h2, h3⟩
    · rw [upd_ne q] at e
      obtain ⟨g1, g2, g3⟩ := R.hid a x (by rw [upd_ne q]; exact e)
      exact ⟨by rw [upd_ne q]; exact g1, g2, g3⟩
  · by_cases q : a = p
    · subst q
      rw [upd_same] at e
      exact hu vs (Option.some.inj e)
    · rw [upd_ne q] at e
      exact R.hidt a vs (by rw [upd_ne q]; exact e)
/-- the hidden thing is shown, frozen | changing -/
theorem Rel.showF {u : HO} {p : Addr} (hg : G p = none) (R : Rel K (upd G p u) F H M) : Same F (upd F p u) ∧ Rel K G (upd F p u) H M := by
  obtain ⟨h1, h2, h3⟩ := R.hid p u upd_same
  have s : Same F (upd F p u) := same_upd h2
  refine ⟨s, fun b x e => ?_, fun a m e => ?_, fun a x e => ?_, fun a vs e => R.hidt a vs (by rw [upd_ne (ne_of_none e hg)]; exact e)⟩
  · by_cases q : b = p
    · subst q
      rw [upd_same] at e
      rw [h1]
      exact e
    · rw [upd_ne q] at e
      exact R.sub _ _ e
  · obtain ⟨f, x, hx, r⟩ := R.chg a m e
    have q : a ≠ p := fun q => by
      rw [q, h3] at e
      cases e
    exact ⟨by rw [upd_ne q]; exact f, x, hx, r.mono s⟩
  · have q : a ≠ p := ne_of_none e hg
    obtain ⟨g1, g2, g3⟩ := R.hid a x (by rw [upd_ne q]; exact e)
    exact ⟨g1, by rw [upd_ne q]; exact g2, g3⟩
theorem Rel.showM {u : HO} {o : MO} {p : Addr} (hg : G p = none) (r : RpO K F u o) (R : Rel K (upd G p u) F H M) : Rel K G F H (mup M p o) := by
  obtain ⟨h1, h2, h3⟩ := R.hid p u upd_same
  refine ⟨R.sub, fun a m e => ?_, fun a x e => ?_, fun a vs e => R.hidt a vs (by rw [upd_ne (ne_of_none e hg)]; exact e)⟩
  · by_cases q : a = p
    · subst q
      rw [mup_same] at e
      cases e
      exact ⟨h2, u, h1, r⟩
    · rw [mup_ne q] at e
      exact R.chg a m e
  · have q : a ≠ p := ne_of_none e hg
    obtain ⟨g1, g2, g3⟩ := R.hid a x (by rw [upd_ne q]; exact e)
    exact ⟨g1, g2, by rw [mup_ne q]; exact g3⟩
end
end
end Tl
namespace Tl
open PySem PySem.Spec PyProof.Rows L2
/-! ### judgements over trees -/
abbrev Sg := List (Option D)
abbrev VD := D → MH → Prop
abbrev XT := Value → MH → Prop
abbrev TEt := Sg → MH → VD → Prop
abbrev TTt := Sg → MH → (Bool → MH → Prop) → Prop
abbrev TAt := Sg → MH → (List D → MH → Prop) → Prop
structure En where
  nx : Sg → MH → Prop
  rt : VD
  bk : Sg → MH → Prop := fun _ _ => False
  ct : Sg → MH → Prop := fun _ _ => False
abbrev TSt := En → Sg → MH → Prop
def nth : Sg → Nat → Option D
  | [], _ => none
  | x :: _, 0 => x
  | _ :: t, n + 1 => nth t n
theorem nth_get : ∀ {t : Sg} {i : Nat} {d : D}, nth t i = some d → t[i]? = some (some d)
  | [], _, _, h => by cases h
  | x :: _, 0, d, h => by
    show some x = some (some d)
    exact congrArg some h
  | _ :: t, n + 1, d, h => by
    rw [List.getElem?_cons_succ]
    exact nth_get (t := t) h
abbrev Et0 : XT := fun _ _ => False
def Sgr (K : PySem.W.Frag) (F : Hp) (σ : L2.St) (τ : Sg) : Prop := σ.length = τ.length ∧ ∀ (i : Nat) (d : D), τ[i]? = some (some d) → ∃ v, σ[i]? = some (some v) ∧ Rp K F v d
/-- what is wished of exceptions -/
def EL (K : PySem.W.Frag) (G F : Hp) (E : XK) (Et : XT) : Prop := ∀ cls F' H' M', Same F F' → Rel K G F' H' M' → Et cls M' → E cls none H'
structure At (K : PySem.W.Frag) (E : XK) (Et : XT) (G F H : Hp) (M : MH) (σ : L2.St) (τ : Sg) : Prop where
  rel : Rel K G F H M
  sg : Sgr K F σ τ
  el : EL K G F E Et
section
variable {K : PySem.W.Frag} {E : XK} {Et : XT} {G F F' H H' : Hp} {M M' : MH} {σ : L2.St} {τ : Sg}
theorem Sgr.mono (h : Sgr K F σ τ) (s : Same F F') : Sgr K F' σ τ := ⟨h.1, fun i d e => by
  obtain ⟨v, a, b⟩ := h.2 i d e
  exact ⟨v, a, b.mono s⟩⟩
theorem Sgr.set (h : Sgr K F σ τ) {i : Nat} {v : V} {d : D} (r : Rp K F v d) : Sgr K F (σ.set i (some v)) (τ.set i (some d)) := by
  refine ⟨by rw [List.length_set, List.length_set]; exact h.1, fun j e q => ?_⟩
  by_cases hij : i = j
  · subst hij
    by_cases hl : i < τ.length
    · rw [List.getElem?_set_self hl] at q
      rw [List.getElem?_set_self (by rw [h.1]; exact hl)]
      cases q
      exact ⟨v, rfl, r⟩
    · rw [List.getElem?_eq_none (by rw [List.length_set]; omega)] at q
      cases q
  · rw [List.getElem?_set_ne hij] at q ⊢
    exact h.2 j e q
theorem Sgr.unset (h : Sgr K F σ τ) {i : Nat} : Sgr K F (σ.set i none) (τ.set i none) := by
  refine ⟨by rw [List.length_set, List.length_set]; exact h.1, fun j e q => ?_⟩
  by_cases hij : i = j
  · subst hij
    by_cases hl : i < τ.length
    · rw [List.getElem?_set_self hl] at q
      cases q
    · rw [List.getElem?_eq_none (by rw [List.length_set]; omega)] at q
      cases q
  · rw [List.getElem?_set_ne hij] at q ⊢
    exact h.2 j e q
theorem EL.mono (h : EL K G F E Et) (s : Same F F') : EL K G F' E Et := fun cls F2 H2 M2 s2 => h cls F2 H2 M2 (s.trans s2)
theorem EL.never {E : XK} : EL K G F E Et0 := fun _ _ _ _ _ _ h => h.elim
theorem At.step (a : At K E Et G F H M σ τ) (s : Same F F') (r : Rel K G F' H' M') : At K E Et G F' H' M' σ τ := ⟨r, a.sg.mono s, a.el.mono s⟩
theorem At.store (a : At K E Et G F H M σ τ) {i : Nat} {v : V} {d : D} (r : Rp K F v d) : At K E Et G F H M (σ.set i (some v)) (τ.set i (some d)) := ⟨a.rel, a.sg.set r, a.el⟩
end
section
variable (K : PySem.W.Frag) (E : XK) (Et : XT)
def liftE (t : TEt) : TE := fun σ H Q => ∃ G F M τ Qt, At K E Et G F H M σ τ ∧ t τ M Qt ∧ ∀ v F' H' M' d, Same F F' → Rel K G F' H' M' → Rp K F' v d → Qt d M' → Q v H'
def liftT (t : TTt) : TT := fun σ H Q => ∃ G F M τ Qt, At K E Et G F H M σ τ ∧ t τ M Qt ∧ ∀ b F' H' M', Same F F' → Rel K G F' H' M' → Qt b M' → Q b H'
def liftA (t : TAt) : TA := fun σ H Q => ∃ G F M τ Qt, At K E Et G F H M σ τ ∧ t τ M Qt ∧ ∀ vs F' H' M' ds, Same F F' → Rel K G F' H' M' → Rps K F' vs ds → Qt ds M' → Q vs H'
structure EnL (G F : Hp) (D : Ends) (Dt : En) : Prop where
  nx : ∀ F' H' M' σ τ, Same F F' → At K E Et G F' H' M' σ τ → Dt.nx τ M' → D.nx σ H'
  rt : ∀ F' H' M' v d, Same F F' → Rel K G F' H' M' → Rp K F' v d → Dt.rt d M' → D.rt v H'
  bk : ∀ F' H' M' σ τ, Same F F' → At K E Et G F' H' M' σ τ → Dt.bk τ M' → D.bk σ H'
  ct : ∀ F' H' M' σ τ, Same F F' → At K E Et G F' H' M' σ τ → Dt.ct τ M' → D.ct σ H'
def liftS (t : TSt) : TS := fun D σ H => ∃ G F M τ Dt, At K E Et G F H M σ τ ∧ EnL K E Et G F D Dt ∧ t Dt τ M
end
theorem EnL.mono {K : PySem.W.Frag} {E : XK} {Et : XT} {G F F' : Hp} {D : Ends} {Dt : En} (h : EnL K E Et G F D Dt) (s : Same F F') : EnL K E Et G F' D Dt :=
  ⟨fun F2 H2 M2 σ τ s2 => h.nx F2 H2 M2 σ τ (s.trans s2), fun F2 H2 M2 v d s2 => h.rt F2 H2 M2 v d (s.trans s2), fun F2 H2 M2 σ τ s2 => h.bk F2 H2 M2 σ τ (s.trans s2), fun F2 H2 M2 σ τ s2 => h.ct F2 H2 M2 σ τ (s.trans s2)⟩
abbrev QE (X : Cx) (E : XK) (Et : XT) (e : Expr) (t : TEt) : Prop := PE X e (liftE X.K E Et t)
abbrev QT (X : Cx) (E : XK) (Et : XT) (e : Expr) (t : TTt) : Prop := PT X e (liftT X.K E Et t)
abbrev QW (X : Cx) (E : XK) (Et : XT) (e : Expr) (t : TTt) : Prop := PW X e (liftT X.K E Et t)
abbrev QA (X : Cx) (E : XK) (Et : XT) (es : List Expr) (t : TAt) : Prop := PA X es (liftA X.K E Et t)
abbrev QS (X : Cx) (E : XK) (Et : XT) (st : Stmt) (t : TSt) : Prop := PS X st (liftS X.K E Et t)
abbrev QSs (X : Cx) (E : XK) (Et : XT) (st : List Stmt) (t : TSt) : Prop := PSs X st (liftS X.K E Et t)
section
variable {X : Cx}
theorem PEimp {e : Expr} {t t' : TE} (h : PE X e t) (i : ∀ σ H Q, t' σ H Q → t σ H Q) : PE X e t' := ⟨fun pins s σ H Q I w => h.run pins s σ H Q I (i _ _ _ w)⟩
theorem PTimp {e : Expr} {t t' : TT} (h : PT X e t) (i : ∀ σ H Q, t' σ H Q → t σ H Q) : PT X e t' := ⟨fun pins s σ H Q I w => h.run pins s σ H Q I (i _ _ _ w)⟩
theorem PWimp {e : Expr} {t t' : TT} (h : PW X e t) (i : ∀ σ H Q, t' σ H Q → t σ H Q) : PW X e t' := ⟨fun wh pins s σ H Q I w => h.run wh pins s σ H Q I (i _ _ _ w)⟩
theorem PAimp {e : List Expr} {t t' : TA} (h : PA X e t) (i : ∀ σ H Q, t' σ H Q → t σ H Q) : PA X e t' := ⟨fun pos pins s σ H Q I w => h.run pos pins s σ H Q I (i _ _ _ w)⟩
theorem PSimp {e : Stmt} {t t' : TS} (h : PS X e t) (i : ∀ D σ H, t' D σ H → t D σ H) : PS X e t' := ⟨fun pins s σ H D I w => h.run pins s σ H D I (i _ _ _ w)⟩
theorem PSsimp {e : List Stmt} {t t' : TS} (h : PSs X e t) (i : ∀ D σ H, t' D σ H → t D σ H) : PSs X e t' := ⟨fun pins s σ H D I w => h.run pins s σ H D I (i _ _ _ w)⟩
theorem OpRimp {f : Value → Value → Sem Value} {r r' : R2} (h : OpR X f r) (i : ∀ x y H Q, r' x y H Q → r x y H Q) : OpR X f r' := fun pins s σ H x y u v Q I rx ry w => h pins s σ H x y u v Q I rx ry (i _ _ _ _ w)
theorem UnRimp {f : Value → Sem Value} {r r' : V → Hp → VK → Prop} (h : UnR X f r) (i : ∀ x H Q, r' x H Q → r x H Q) : UnR X f r' := fun pins s σ H x u Q I rx w => h pins s σ H x u Q I rx (i _ _ _ w)
theorem CallRimp {f : Value} {r r' : List V → Hp → VK → Prop} (h : CallR X f r) (i : ∀ x H Q, r' x H Q → r x H Q) : CallR X f r' := fun pins s σ H x u Q I rx w => h pins s σ H x u Q I rx (i _ _ _ w)
end
/-! ### names, constants -/
def tV (i : Nat) : TEt := fun τ M Q => match nth τ i with
  | some d => Q d M
  | none => False
def tK (d : D) : TEt := fun _ M Q => Q d M
section
variable {X : Cx} {E : XK} {Et : XT}
theorem lv_var {i : Nat} : ∀ σ H Q, liftE X.K E Et (tV i) σ H Q → tVar i σ H Q := by
  rintro σ H Q ⟨G, F, M, τ, Qt, a, h, k⟩
  unfold tV at h
  cases e : nth τ i with
  | none => rw [e] at h; exact h.elim
  | some d =>
    rw [e] at h
    obtain ⟨v, h1, h2⟩ := a.sg.2 i d (nth_get e)
    exact ⟨v, h1, k v F H M d (Same.refl _) a.rel h2 h⟩
theorem qv (i : Nat) {x : Str} {pos : Pos} (hN : X.N[i]? = some x := by rfl) (hv : Vis X.env.scope x := by first | exact Or.inl rfl | exact Or.inr (Or.inl rfl) | exact Or.inr (Or.inr rfl)) (hd : (x == ("__debug__" : Str)) = false := by decide)
    (hcd : (x == ("__classdict__" : Str)) = false := by decide) : QE X E Et (.Name x pos) (tV i) := PEimp (pe_var hN hv hd hcd) lv_var
theorem lv_c {v : V} {d : D} (r : ∀ F, Rp X.K F v d) : ∀ σ H Q, liftE X.K E Et (tK d) σ H Q → tC v σ H Q := by
  rintro σ H Q ⟨G, F, M, τ, Qt, a, h, k⟩
  exact k v F H M d (Same.refl _) a.rel (r F) h
theorem q_int {i j pos} : QE X E Et (.Constant (.int i) j pos) (tK (.int i)) := PEimp pe_int (lv_c fun _ => .int i)
theorem q_bl {b j pos} : QE X E Et (.Constant (.bool b) j pos) (tK (.bl b)) := PEimp pe_bl (lv_c fun _ => .bl b)
theorem q_non {j pos} : QE X E Et (.Constant .none j pos) (tK .non) := PEimp pe_non (lv_c fun _ => .non)
theorem q_str {x j pos} : QE X E Et (.Constant (.str x) j pos) (tK (.str x)) := PEimp pe_str (lv_c fun _ => .str x)
theorem q_gint {x : Str} {i : Int} {pos : Pos} (hm : ∃ t, X.mg x = some (.int i t)) (hg : Gl X x := by rfl) (hd : (x == ("__debug__" : Str)) = false := by decide) : QE X E Et (.Name x pos) (tK (.int i)) := by
  obtain ⟨t, hm⟩ := hm
  exact PEimp (pe_glob (v := .int i) hg hm ⟨t, rfl⟩ hd) (lv_c fun _ => .int i)
theorem q_gstr {x : Str} {i : Str} {pos : Pos} (hm : ∃ t, X.mg x = some (.str i t)) (hg : Gl X x := by rfl) (hd : (x == ("__debug__" : Str)) = false := by decide) : QE X E Et (.Name x pos) (tK (.str i)) := by
  obtain ⟨t, hm⟩ := hm
  exact PEimp (pe_glob (v := .str i) hg hm ⟨t, rfl⟩ hd) (lv_c fun _ => .str i)
/-- a table of the top: a tuple | a list -/
theorem q_gref {x : Str} {u : Addr} {d : D} {pos : Pos} (hm : X.mg x = some (.ref u)) (r : ∀ F, Rp X.K F (.ref u) d) (hg : Gl X x := by rfl) (hd : (x == ("__debug__" : Str)) = false := by decide) : QE X E Et (.Name x pos) (tK d) :=
  PEimp (pe_glob (v := .ref u) hg hm rfl hd) (lv_c r)
theorem q_ty {x : Str} (T : String) {pos : Pos} (hm : X.mg x = none) (hv : bootBuiltins x = some (.type T)) (hg : Gl X x := by rfl) (hn : x ≠ "__name__" := by decide) (hd : (x == ("__debug__" : Str)) = false := by decide) : QE X E Et (.Name x pos) (tK (.ty T)) :=
  PEimp (pe_bltn (v := .ty T) hg hm hv rfl hn hd) (lv_c fun _ => .ty T)
end
/-! ### operators by values -/
abbrev R2t := D → D → MH → VD → Prop
abbrev R1t := D → MH → VD → Prop
abbrev RLt := List D → MH → VD → Prop
def lr2 (K : PySem.W.Frag) (r : R2t) : R2 := fun x y H Q => ∃ G F M dx dy Qt, Rel K G F H M ∧ Rp K F x dx ∧ Rp K F y dy ∧ r dx dy M Qt ∧ ∀ v F' H' M' d, Same F F' → Rel K G F' H' M' → Rp K F' v d → Qt d M' → Q v H'
def lr1 (K : PySem.W.Frag) (r : R1t) : V → Hp → VK → Prop := fun x H Q => ∃ G F M dx Qt, Rel K G F H M ∧ Rp K F x dx ∧ r dx M Qt ∧ ∀ v F' H' M' d, Same F F' → Rel K G F' H' M' → Rp K F' v d → Qt d M' → Q v H'
def lrL (K : PySem.W.Frag) (r : RLt) : List V → Hp → VK → Prop := fun xs H Q => ∃ G F M ds Qt, Rel K G F H M ∧ Rps K F xs ds ∧ r ds M Qt ∧ ∀ v F' H' M' d, Same F F' → Rel K G F' H' M' → Rp K F' v d → Qt d M' → Q v H'
abbrev OpQ (X : Cx) (f : Value → Value → Sem Value) (r : R2t) : Prop := OpR X f (lr2 X.K r)
abbrev UnQ (X : Cx) (f : Value → Sem Value) (r : R1t) : Prop := UnR X f (lr1 X.K r)
abbrev CallQ (X : Cx) (f : Value) (r : RLt) : Prop := CallR X f (lrL X.K r)
def tO (r : R2t) (ta tb : TEt) : TEt := fun τ M Q => ta τ M fun x M1 => tb τ M1 fun y M2 => r x y M2 Q
def tU (r : R1t) (ta : TEt) : TEt := fun τ M Q => ta τ M fun x M1 => r x M1 Q
def tCa (r : RLt) (ta : TAt) : TEt := fun τ M Q => ta τ M fun xs M1 => r xs M1 Q
section
variable {X : Cx} {E : XK} {Et : XT} {e a b : Expr} {es : List Expr} {ta tb : TEt} {t : TAt} {pos : Pos}
theorem lv_op {r : R2t} : ∀ σ H Q, liftE X.K E Et (tO r ta tb) σ H Q → tOp (lr2 X.K r) (liftE X.K E Et ta) (liftE X.K E Et tb) σ H Q := by
  rintro σ H Q ⟨G, F, M, τ, Qt, a, h, k⟩
  refine ⟨G, F, M, τ, _, a, h, fun v F1 H1 M1 d s1 r1 p1 q1 => ?_⟩
  refine ⟨G, F1, M1, τ, _, a.step s1 r1, q1, fun v2 F2 H2 M2 d2 s2 r2 p2 q2 => ?_⟩
  exact ⟨G, F2, M2, d, d2, Qt, r2, p1.mono s2, p2, q2, fun v F' H' M' d s => k v F' H' M' d ((s1.trans s2).trans s)⟩
theorem q_op {op : Operator} {r : R2t} (ho : OpQ X (binaryOp op) r) (ha : QE X E Et a ta) (hb : QE X E Et b tb) : QE X E Et (.BinOp a op b pos) (tO r ta tb) := PEimp (pe_op ho ha hb) lv_op
theorem q_cmp {op : CmpOp} {r : R2t} (ho : OpQ X (compareOp op) r) (ha : QE X E Et a ta) (hb : QE X E Et b tb) (hm : behindInMarks op b = false := by first | exact nomark _ | rfl) : QE X E Et (.Compare a [op] [b] pos) (tO r ta tb) := PEimp (pe_cmpR ho ha hb hm) lv_op
theorem q_un {op : UnaryOp} {r : R1t} (ho : UnQ X (unaryOp op) r) (ha : QE X E Et a ta) : QE X E Et (.UnaryOp op a pos) (tU r ta) := PEimp (pe_un ho ha) (by
  rintro σ H Q ⟨G, F, M, τ, Qt, a, h, k⟩
  refine ⟨G, F, M, τ, _, a, h, fun v F1 H1 M1 d s1 r1 p1 q1 => ?_⟩
  exact ⟨G, F1, M1, d, Qt, r1, p1, q1, fun v F' H' M' d s => k v F' H' M' d (s1.trans s)⟩)
/-! ### arguments -/
def tN : TAt := fun _ M Q => Q [] M
def tCs (ta : TEt) (tr : TAt) : TAt := fun τ M Q => ta τ M fun x M1 => tr τ M1 fun xs M2 => Q (x :: xs) M2
theorem qa_nil : QA X E Et [] tN := PAimp pa_nil (by
  rintro σ H Q ⟨G, F, M, τ, Qt, a, h, k⟩
  exact k [] F H M [] (Same.refl _) a.rel .nil h)
theorem qa_cons (ha : QE X E Et e ta) (hr : QA X E Et es t) (hs : starEach (e :: es) X.env = (false, eval e X.env) :: starEach es X.env := by rfl) : QA X E Et (e :: es) (tCs ta t) := PAimp (pa_cons ha hr hs) (by
  rintro σ H Q ⟨G, F, M, τ, Qt, a, h, k⟩
  refine ⟨G, F, M, τ, _, a, h, fun v F1 H1 M1 d s1 r1 p1 q1 => ?_⟩
  refine ⟨G, F1, M1, τ, _, a.step s1 r1, q1, fun vs F2 H2 M2 ds s2 r2 p2 q2 => ?_⟩
  exact k (v :: vs) F2 H2 M2 (d :: ds) (s1.trans s2) r2 (.cons (p1.mono s2) p2) q2)
theorem lv_cb {r : RLt} : ∀ σ H Q, liftE X.K E Et (tCa r t) σ H Q → tCB (lrL X.K r) (liftA X.K E Et t) σ H Q := by
  rintro σ H Q ⟨G, F, M, τ, Qt, a, h, k⟩
  refine ⟨G, F, M, τ, _, a, h, fun vs F1 H1 M1 ds s1 r1 p1 q1 => ?_⟩
  exact ⟨G, F1, M1, ds, Qt, r1, p1, q1, fun v F' H' M' d s => k v F' H' M' d (s1.trans s)⟩
theorem q_callB {id : String} {x : Str} {p : Pos} {r : RLt} (hc : CallQ X (.builtin id) r) (hm : X.mg x = none) (hv : bootBuiltins x = some (.builtin id)) (ha : QA X E Et (e :: es) t) (hg : Gl X x := by rfl) (hn : x ≠ "__name__" := by decide) (hdb : (x == ("__debug__" : Str)) = false := by decide)
    (he : starEach (e :: es) X.env = (false, eval e X.env) :: starEach es X.env := by rfl) (hpl : (backTo pos (starEach es X.env)).any (·.1) = false := by rfl) : QE X E Et (.Call (.Name x p) (e :: es) [] pos) (tCa r t) :=
  PEimp (pe_callB hc hg hm hv ha hn hdb he hpl) lv_cb
theorem q_callTy {T : String} {x : Str} {p : Pos} {r : RLt} (hc : CallQ X (.type T) r) (hm : X.mg x = none) (hv : bootBuiltins x = some (.type T)) (ha : QA X E Et (e :: es) t) (hg : Gl X x := by rfl) (hn : x ≠ "__name__" := by decide) (hdb : (x == ("__debug__" : Str)) = false := by decide)
    (he : starEach (e :: es) X.env = (false, eval e X.env) :: starEach es X.env := by rfl) (hpl : (backTo pos (starEach es X.env)).any (·.1) = false := by rfl) : QE X E Et (.Call (.Name x p) (e :: es) [] pos) (tCa r t) :=
  PEimp (pe_callTy hc hg hm hv ha hn hdb he hpl) lv_cb
end
/-! ### tests -/
def tBo (t : TEt) : TTt := fun τ M Q => t τ M fun x M1 => match x with
  | .bl c => Q c M1
  | _ => False
def tAn (t u : TTt) : TTt := fun τ M Q => t τ M fun c M1 => if c = true then u τ M1 Q else Q false M1
def tOr' (t u : TTt) : TTt := fun τ M Q => t τ M fun c M1 => if c = true then Q true M1 else u τ M1 Q
def tNo (t : TTt) : TTt := fun τ M Q => t τ M fun c M1 => Q (!c) M1
def tAnV (ta tb : TEt) : TEt := fun τ M Q => ta τ M fun x M1 => match x with
  | .bl c => if c = true then tb τ M1 Q else Q (.bl false) M1
  | _ => False
def tOrV' (ta tb : TEt) : TEt := fun τ M Q => ta τ M fun x M1 => match x with
  | .bl c => if c = true then Q (.bl true) M1 else tb τ M1 Q
  | _ => False
def tNoV (ta : TEt) : TEt := fun τ M Q => ta τ M fun x M1 => match x with
  | .bl c => Q (.bl (!c)) M1
  | _ => False
def tIfE (t : TTt) (ta tb : TEt) : TEt := fun τ M Q => t τ M fun c M1 => if c = true then ta τ M1 Q else tb τ M1 Q
section
variable {X : Cx} {E : XK} {Et : XT} {e a b c : Expr} {rest : List Expr} {ta tb : TEt} {t u : TTt} {pos : Pos}
theorem Rp.bl_inv {K : PySem.W.Frag} {F : Hp} {v : V} {c : Bool} (h : Rp K F v (.bl c)) : v = .bl c := by cases h; rfl
theorem lv_bo : ∀ σ H Q, liftT X.K E Et (tBo ta) σ H Q → tB (liftE X.K E Et ta) σ H Q := by
  rintro σ H Q ⟨G, F, M, τ, Qt, a, h, k⟩
  refine ⟨G, F, M, τ, _, a, h, fun v F1 H1 M1 d s1 r1 p1 q1 => ?_⟩
  cases d with
  | bl c => exact ⟨c, p1.bl_inv, k c F1 H1 M1 s1 r1 q1⟩
  | _ => exact q1.elim
theorem qt_val (h : QE X E Et e ta) (he : ∀ whole, isTrue e X.env whole = (do let v ← whole; standAt e.pos; holding [v] (truthy v)) := by intro _; rfl) : QT X E Et e (tBo ta) := PTimp (pt_val h he) lv_bo
theorem qt_cmp {op : CmpOp} {r : R2t} (ho : OpQ X (compareOp op) r) (ha : QE X E Et a ta) (hb : QE X E Et b tb) (hm : behindInMarks op b = false := by first | exact nomark _ | rfl) : QT X E Et (.Compare a [op] [b] pos) (tBo (tO r ta tb)) := PTimp (pt_cmpR ho ha hb hm) (by
  rintro σ H Q ⟨G, F, M, τ, Qt, a, h, k⟩
  refine lv_op _ _ _ ⟨G, F, M, τ, _, a, h, fun v F1 H1 M1 d s1 r1 p1 q1 => ?_⟩
  cases d with
  | bl c => exact ⟨c, p1.bl_inv, k c F1 H1 M1 s1 r1 q1⟩
  | _ => exact q1.elim)
theorem qw_and1 (ha : QT X E Et a t) : QW X E Et (.BoolOp .And [a] pos) t := pw_and1 ha
theorem qw_or1 (ha : QT X E Et a t) : QW X E Et (.BoolOp .Or [a] pos) t := pw_or1 ha
theorem qw_and (ha : QT X E Et a t) (hb : QW X E Et (.BoolOp .And (b :: rest) pos) u) : QW X E Et (.BoolOp .And (a :: b :: rest) pos) (tAn t u) := PWimp (pw_and ha hb) (by
  rintro σ H Q ⟨G, F, M, τ, Qt, a, h, k⟩
  refine ⟨G, F, M, τ, _, a, h, fun b F1 H1 M1 s1 r1 q1 => ?_⟩
  cases b with
  | true =>
    rw [if_pos rfl] at q1 ⊢
    exact ⟨G, F1, M1, τ, Qt, a.step s1 r1, q1, fun b F2 H2 M2 s2 => k b F2 H2 M2 (s1.trans s2)⟩
  | false =>
    rw [if_neg Bool.false_ne_true] at q1 ⊢
    exact k false F1 H1 M1 s1 r1 q1)
theorem qw_or (ha : QT X E Et a t) (hb : QW X E Et (.BoolOp .Or (b :: rest) pos) u) : QW X E Et (.BoolOp .Or (a :: b :: rest) pos) (tOr' t u) := PWimp (pw_or ha hb) (by
  rintro σ H Q ⟨G, F, M, τ, Qt, a, h, k⟩
  refine ⟨G, F, M, τ, _, a, h, fun b F1 H1 M1 s1 r1 q1 => ?_⟩
  cases b with
  | true =>
    rw [if_pos rfl] at q1 ⊢
    exact k true F1 H1 M1 s1 r1 q1
  | false =>
    rw [if_neg Bool.false_ne_true] at q1 ⊢
    exact ⟨G, F1, M1, τ, Qt, a.step s1 r1, q1, fun b F2 H2 M2 s2 => k b F2 H2 M2 (s1.trans s2)⟩)
theorem qt_w (h : QW X E Et e t) : QT X E Et e t := h.pt
theorem qt_not (ha : QT X E Et a t) : QT X E Et (.UnaryOp .Not a pos) (tNo t) := PTimp (pt_not ha) (by
  rintro σ H Q ⟨G, F, M, τ, Qt, a, h, k⟩
  exact ⟨G, F, M, τ, _, a, h, fun b F1 H1 M1 s1 r1 q1 => k _ F1 H1 M1 s1 r1 q1⟩)
theorem q_one {op} (h : QE X E Et a ta) : QE X E Et (.BoolOp op [a] pos) ta := pe_one h
theorem q_and (ha : QE X E Et a ta) (hb : QE X E Et (.BoolOp .And (b :: rest) pos) tb) : QE X E Et (.BoolOp .And (a :: b :: rest) pos) (tAnV ta tb) := PEimp (pe_and ha hb) (by
  rintro σ H Q ⟨G, F, M, τ, Qt, a, h, k⟩
  refine ⟨G, F, M, τ, _, a, h, fun v F1 H1 M1 d s1 r1 p1 q1 => ?_⟩
  cases d with
  | bl c =>
    refine ⟨c, p1.bl_inv, ?_⟩
    cases c with
    | true =>
      rw [if_pos rfl]
      exact ⟨G, F1, M1, τ, Qt, a.step s1 r1, q1, fun v F2 H2 M2 d s2 => k v F2 H2 M2 d (s1.trans s2)⟩
    | false =>
      rw [if_neg Bool.false_ne_true]
      exact k _ F1 H1 M1 _ s1 r1 (.bl false) q1
  | _ => exact q1.elim)
theorem q_or (ha : QE X E Et a ta) (hb : QE X E Et (.BoolOp .Or (b :: rest) pos) tb) : QE X E Et (.BoolOp .Or (a :: b :: rest) pos) (tOrV' ta tb) := PEimp (pe_or ha hb) (by
  rintro σ H Q ⟨G, F, M, τ, Qt, a, h, k⟩
  refine ⟨G, F, M, τ, _, a, h, fun v F1 H1 M1 d s1 r1 p1 q1 => ?_⟩
  cases d with
  | bl c =>
    refine ⟨c, p1.bl_inv, ?_⟩
    cases c with
    | true =>
      rw [if_pos rfl]
      exact k _ F1 H1 M1 _ s1 r1 (.bl true) q1
    | false =>
      rw [if_neg Bool.false_ne_true]
      exact ⟨G, F1, M1, τ, Qt, a.step s1 r1, q1, fun v F2 H2 M2 d s2 => k v F2 H2 M2 d (s1.trans s2)⟩
  | _ => exact q1.elim)
theorem q_not (ha : QE X E Et a ta) : QE X E Et (.UnaryOp .Not a pos) (tNoV ta) := PEimp (pe_not ha) (by
  rintro σ H Q ⟨G, F, M, τ, Qt, a, h, k⟩
  refine ⟨G, F, M, τ, _, a, h, fun v F1 H1 M1 d s1 r1 p1 q1 => ?_⟩
  cases d with
  | bl c => exact ⟨c, p1.bl_inv, k _ F1 H1 M1 _ s1 r1 (.bl _) q1⟩
  | _ => exact q1.elim)
theorem q_ifE (hc : QT X E Et c t) (ha : QE X E Et a ta) (hb : QE X E Et b tb) : QE X E Et (.IfExp c a b pos) (tIfE t ta tb) := PEimp (pe_ifExp hc ha hb) (by
  rintro σ H Q ⟨G, F, M, τ, Qt, a, h, k⟩
  refine ⟨G, F, M, τ, _, a, h, fun b F1 H1 M1 s1 r1 q1 => ?_⟩
  cases b with
  | true =>
    rw [if_pos rfl] at q1 ⊢
    exact ⟨G, F1, M1, τ, Qt, a.step s1 r1, q1, fun v F2 H2 M2 d s2 => k v F2 H2 M2 d (s1.trans s2)⟩
  | false =>
    rw [if_neg Bool.false_ne_true] at q1 ⊢
    exact ⟨G, F1, M1, τ, Qt, a.step s1 r1, q1, fun v F2 H2 M2 d s2 => k v F2 H2 M2 d (s1.trans s2)⟩)
/-- a < b < c -/
def tCh (r r' : R2t) (ta tb tc : TEt) : TEt := fun τ M Q => ta τ M fun x M1 => tb τ M1 fun y M2 => r x y M2 fun z M3 => match z with
  | .bl k => if k = true then tc τ M3 fun w M4 => r' y w M4 Q else Q (.bl false) M3
  | _ => False
end
end Tl
namespace Tl
open PySem PySem.Spec PyProof.Rows L2
/-! ### calls of the text's own defs -/
abbrev SpT := List D → MH → VD → XT → Prop
def lSp (K : PySem.W.Frag) (sp : SpT) : Sp := fun vs H Q E => ∃ G F M ds Qt Et, Rel K G F H M ∧ Rps K F vs ds ∧ EL K G F E Et ∧ sp ds M Qt Et ∧ ∀ v F' H' M' d, Same F F' → Rel K G F' H' M' → Rp K F' v d → Qt d M' → Q v H'
/-- a def of the text, called by its name x -/
structure Fn (P : Program) (w : World) (K : PySem.W.Frag) (mg : Str → Option Value) (base : Heap) (CX : CXT) (k : Nat) (x : Str) (sp : SpT) : Prop where
  ok : ∃ fd ps, FnOk P w K mg base CX k (He.ga K x) fd ps (lSp K sp) ∧ Binds K fd ps []
  m : mg x = some (.ref (He.ga K x))
  kp : PySem.W.keepIn K (.ref (He.ga K x)) = true
def tCl (sp : SpT) (Et : XT) (t : TAt) : TEt := fun τ M Q => t τ M fun ds M1 => sp ds M1 Q Et
section
variable {X : Cx} {E E' : XK} {Et Et' : XT} {e : Expr} {es : List Expr} {t : TAt} {pos p : Pos} {sp : SpT} {k : Nat} {x : Str}
theorem lv_call (hE : ∀ G F, EL X.K G F E Et → EL X.K G F E' Et') : ∀ σ H Q, liftE X.K E Et (tCl sp Et' t) σ H Q → tCall (lSp X.K sp) [] E' (liftA X.K E Et t) σ H Q := by
  rintro σ H Q ⟨G, F, M, τ, Qt, a, h, k⟩
  refine ⟨G, F, M, τ, _, a, h, fun vs F1 H1 M1 ds s1 r1 p1 q1 => ?_⟩
  show lSp X.K sp (vs ++ []) H1 Q E'
  rw [List.append_nil]
  exact ⟨G, F1, M1, ds, Qt, Et', r1, p1, hE G F1 (a.el.mono s1), q1, fun v F' H' M' d s => k v F' H' M' d (s1.trans s)⟩
theorem q_call (Fo : Fn X.prog X.w X.K X.mg X.base CX0 k x sp) (hr : Room k X.A) (ha : QA X E Et (e :: es) t) (hg : Gl X x := by rfl) (hdb : (x == ("__debug__" : Str)) = false := by decide)
    (he : starEach (e :: es) X.env = (false, eval e X.env) :: starEach es X.env := by rfl) (hpl : (backTo pos (starEach es X.env)).any (·.1) = false := by rfl) : QE X E Et (.Call (.Name x p) (e :: es) [] pos) (tCl sp Et0 t) := by
  obtain ⟨⟨fd, ps, F1, b⟩, m, kp⟩ := Fo
  exact PEimp (pe_call F1 hr hg m kp b .nil pass0 ha hdb he hpl) (lv_call fun _ _ _ => .never)
end
/-! ### statements -/
def sNx : TSt := fun D τ M => D.nx τ M
def sSq (t u : TSt) : TSt := fun D τ M => t { D with nx := u D } τ M
def sBk : TSt := fun D τ M => D.bk τ M
def sCt : TSt := fun D τ M => D.ct τ M
def sDr (t : TEt) : TSt := fun D τ M => t τ M fun _ M1 => D.nx τ M1
def sRt (t : TEt) : TSt := fun D τ M => t τ M D.rt
def sRtN : TSt := fun D _ M => D.rt .non M
def sIf (c : TTt) (t u : TSt) : TSt := fun D τ M => c τ M fun b M1 => if b = true then t D τ M1 else u D τ M1
abbrev TGt := D → Sg → MH → (Sg → MH → Prop) → Prop
abbrev TGst := List D → Sg → MH → (Sg → MH → Prop) → Prop
def liftG (K : PySem.W.Frag) (E : XK) (Et : XT) (t : TGt) : TG := fun v σ H Q => ∃ G F M τ d Qt, At K E Et G F H M σ τ ∧ Rp K F v d ∧ t d τ M Qt ∧ ∀ F' H' M' σ' τ', Same F F' → At K E Et G F' H' M' σ' τ' → Qt τ' M' → Q σ' H'
def liftGs (K : PySem.W.Frag) (E : XK) (Et : XT) (t : TGst) : TGs := fun vs σ H Q => ∃ G F M τ ds Qt, At K E Et G F H M σ τ ∧ Rps K F vs ds ∧ t ds τ M Qt ∧ ∀ F' H' M' σ' τ', Same F F' → At K E Et G F' H' M' σ' τ' → Qt τ' M' → Q σ' H'
def gN (i : Nat) : TGt := fun d τ M Q => Q (τ.set i (some d)) M
def gNl : TGst := fun ds τ M Q => match ds with
  | [] => Q τ M
  | _ :: _ => False
def gCs (t : TGt) (u : TGst) : TGst := fun ds τ M Q => match ds with
  | [] => False
  | d :: r => t d τ M fun τ' M' => u r τ' M' Q
def gTp (n : Nat) (t : TGst) : TGt := fun d τ M Q => match d with
  | .tup ds => ds.length = n ∧ t ds τ M Q
  | _ => False
/-- o[i] = v by values -/
abbrev TSett := D → D → D → MH → (MH → Prop) → Prop
def lSet (K : PySem.W.Frag) (t : TSett) : TSet := fun o i v H Q => ∃ G F M od idd vd Qt, Rel K G F H M ∧ Rp K F o od ∧ Rp K F i idd ∧ Rp K F v vd ∧ t od idd vd M Qt ∧ ∀ F' H' M', Same F F' → Rel K G F' H' M' → Qt M' → Q H'
def gSb (to ti : TEt) (t : TSett) : TGt := fun v τ M Q => to τ M fun o M1 => ti τ M1 fun i M2 => t o i v M2 fun M3 => Q τ M3
abbrev QG (X : Cx) (E : XK) (Et : XT) (e : Expr) (t : TGt) : Prop := PG X e (liftG X.K E Et t)
abbrev QGs (X : Cx) (E : XK) (Et : XT) (e : List Expr) (t : TGst) : Prop := PGs X e (liftGs X.K E Et t)
def sAs (te : TEt) (g : TGt) : TSt := fun D τ M => te τ M fun x M1 => g x τ M1 D.nx
section
variable {X : Cx} {E : XK} {Et : XT} {st : Stmt} {rest : List Stmt} {t u : TSt} {e : Expr} {te : TEt} {pos : Pos}
theorem qss_nil : QSs X E Et [] sNx := PSsimp pss_nil (by
  rintro D σ H ⟨G, F, M, τ, Dt, a, en, h⟩
  exact en.nx F H M σ τ (Same.refl _) a h)
theorem qss_cons (h1 : QS X E Et st t) (h2 : QSs X E Et rest u) : QSs X E Et (st :: rest) (sSq t u) := PSsimp (pss_cons h1 h2) (by
  rintro D σ H ⟨G, F, M, τ, Dt, a, en, h⟩
  exact ⟨G, F, M, τ, { Dt with nx := u Dt }, a, ⟨fun F' H' M' σ' τ' s a' h' => ⟨G, F', M', τ', Dt, a', en.mono s, h'⟩, en.rt, en.bk, en.ct⟩, h⟩)
theorem qss_one (h1 : QS X E Et st t) : QSs X E Et [st] t := pss_one h1
theorem qs_expr (he : QE X E Et e te) (hs : swapsWith e none pos.line X.env = pure false := by rfl) : QS X E Et (.Expr e pos) (sDr te) := PSimp (ps_expr he hs) (by
  rintro D σ H ⟨G, F, M, τ, Dt, a, en, h⟩
  exact ⟨G, F, M, τ, _, a, h, fun v F' H' M' d s r p q => en.nx F' H' M' σ τ s (a.step s r) q⟩)
theorem qs_ret (he : QE X E Et e te) : QS X E Et (.Return (some e) pos) (sRt te) := PSimp (ps_ret he) (by
  rintro D σ H ⟨G, F, M, τ, Dt, a, en, h⟩
  exact ⟨G, F, M, τ, _, a, h, fun v F' H' M' d s r p q => en.rt F' H' M' v d s r p q⟩)
theorem qs_if {c : Expr} {a b : List Stmt} {tc : TTt} (hc : QT X E Et c tc) (ha : QSs X E Et a t) (hb : QSs X E Et b u) : QS X E Et (.If c a b pos) (sIf tc t u) := PSimp (ps_if hc ha hb) (by
  rintro D σ H ⟨G, F, M, τ, Dt, a, en, h⟩
  refine ⟨G, F, M, τ, _, a, h, fun b F' H' M' s r q => ?_⟩
  cases b with
  | true =>
    rw [if_pos rfl] at q ⊢
    exact ⟨G, F', M', τ, Dt, a.step s r, en.mono s, q⟩
  | false =>
    rw [if_neg Bool.false_ne_true] at q ⊢
    exact ⟨G, F', M', τ, Dt, a.step s r, en.mono s, q⟩)
/-! targets -/
theorem qg_name {i : Nat} {x : Str} (hN : X.N.Nodup) (hi : X.N[i]? = some x := by rfl) (hx : Loc X.env.scope x := by first | exact Or.inl rfl | exact Or.inr rfl) (hf : X.fn x = true ∨ X.env.scope.names.lookup x = some .local := by first | exact .inl rfl | exact .inr rfl | assumption) : QG X E Et (.Name x pos) (gN i) := by
  refine ⟨fun pins s σ H v u Q I r h => ?_⟩
  obtain ⟨G, F, M, τ, d, Qt, a, p, h, k⟩ := h
  exact (pg_name hN hi hx hf).run pins s σ H v u Q I r (k F H M _ _ (Same.refl _) (a.store p) h)
theorem qgs_nil : QGs X E Et [] gNl := by
  refine ⟨fun pins s σ H vs us Q I r h => ?_⟩
  obtain ⟨G, F, M, τ, ds, Qt, a, p, h, k⟩ := h
  cases p with
  | nil => exact pgs_nil.run pins s σ H [] us Q I r ⟨rfl, k F H M _ _ (Same.refl _) a h⟩
  | cons _ _ => exact (show False from h).elim
theorem qgs_cons {es : List Expr} {t : TGt} {u : TGst} (h1 : QG X E Et e t) (h2 : QGs X E Et es u)
    (hs : (assignEach (e :: es) X.env).map (·.2) = assign e X.env :: (assignEach es X.env).map (·.2) := by rfl) : QGs X E Et (e :: es) (gCs t u) := by
  refine ⟨fun pins s σ H vs us Q I r h => ?_⟩
  obtain ⟨G, F, M, τ, ds, Qt, a, p, h, k⟩ := h
  cases p with
  | nil => exact (show False from h).elim
  | cons p1 p2 =>
    refine (pgs_cons h1 h2 hs).run pins s σ H _ us Q I r ⟨_, _, rfl, G, F, M, τ, _, _, a, p1, h, fun F1 H1 M1 σ1 τ1 s1 a1 q1 => ?_⟩
    exact ⟨G, F1, M1, τ1, _, Qt, a1, p2.mono s1, q1, fun F' H' M' σ' τ' s => k F' H' M' σ' τ' (s1.trans s)⟩
theorem qg_tup {es : List Expr} {k : Nat} {t : TGst} {n : Nat} (hc : X.calm = true) (h : QGs X E Et es t)
    (hn : (assignEach es X.env).length = n := by rfl) (hst : (assignEach es X.env).findIdx? (·.1) = none := by rfl) : QG X E Et (.Tuple es k pos) (gTp n t) := by
  refine ⟨fun pins s σ H v u Q I r hw => ?_⟩
  obtain ⟨G, F, M, τ, d, Qt, a, p, hw, k⟩ := hw
  cases p with
  | tup h0 r0 =>
    obtain ⟨hl, hw⟩ := (show _ ∧ _ from hw)
    exact (pg_tup hc h hn hst).run pins s σ H _ u Q I r ⟨_, _, rfl, SqT.of (a.rel.sub _ _ h0), by rw [r0.length]; exact hl, G, F, M, τ, _, Qt, a, r0, hw, k⟩
  | _ => exact (show False from hw).elim
theorem qg_sub {o i : Expr} {to ti : TEt} {t : TSett} (ho : QE X E Et o to) (hi : QE X E Et i ti) (hs : PSet X (lSet X.K t))
    (ha : ∀ v, assign (.Subscript o i pos) X.env v = (do
      let ov ← holding [v] (eval o X.env)
      let iv ← holding [v, ov] (eval i X.env)
      standAt pos
      holding [v, ov, iv] (setItem ov iv v)
      release [v, ov, iv] []) := by intro _; rfl) : QG X E Et (.Subscript o i pos) (gSb to ti t) := by
  refine ⟨fun pins s σ H v u Q I r hw => ?_⟩
  obtain ⟨G, F, M, τ, d, Qt, a, p, hw, k⟩ := hw
  refine (pg_sub ho hi hs ha).run pins s σ H v u Q I r ?_
  refine ⟨G, F, M, τ, _, a, hw, fun v1 F1 H1 M1 d1 s1 r1 p1 q1 => ?_⟩
  refine ⟨G, F1, M1, τ, _, a.step s1 r1, q1, fun v2 F2 H2 M2 d2 s2 r2 p2 q2 => ?_⟩
  exact ⟨G, F2, M2, d1, d2, d, _, r2, p1.mono s2, p2, p.mono (s1.trans s2), q2, fun F3 H3 M3 s3 r3 q3 => k F3 H3 M3 σ τ ((s1.trans s2).trans s3) (a.step ((s1.trans s2).trans s3) r3) q3⟩
theorem lv_asg {g : TGt} : ∀ D σ H, liftS X.K E Et (sAs te g) D σ H → tAsg (liftE X.K E Et te) (liftG X.K E Et g) D σ H := by
  rintro D σ H ⟨G, F, M, τ, Dt, a, en, h⟩
  refine ⟨G, F, M, τ, _, a, h, fun v F1 H1 M1 d s1 r1 p1 q1 => ?_⟩
  exact ⟨G, F1, M1, τ, d, _, a.step s1 r1, p1, q1, fun F' H' M' σ' τ' s a' q => en.nx F' H' M' σ' τ' (s1.trans s) a' q⟩
theorem qs_asg {tg : Expr} {g : TGt} (he : QE X E Et e te) (hg : QG X E Et tg g) (hs : swapsWithSole [tg] e pos.line X.env = pure false := by rfl) (hw : swappedStores [tg] e X.env = pure none := by rfl)
    (h1 : (assignEach [tg] X.env).map (·.2) = [assign tg X.env] := by rfl) : QS X E Et (.Assign [tg] e pos) (sAs te g) := PSimp (ps_asg he hg hs hw h1) lv_asg
theorem qs_set {i : Nat} {x : Str} {pos' : Pos} (hN : X.N.Nodup) (he : QE X E Et e te) (hi : X.N[i]? = some x := by rfl) (hx : Loc X.env.scope x := by first | exact Or.inl rfl | exact Or.inr rfl) (hs : swapsWith e (some (.Name x pos')) pos.line X.env = pure false := by rfl) (hf : X.fn x = true ∨ X.env.scope.names.lookup x = some .local := by first | exact .inl rfl | exact .inr rfl | assumption) :
    QS X E Et (.Assign [.Name x pos'] e pos) (sAs te (gN i)) := PSimp (ps_set hN hi hx he hs hf) (by
  rintro D σ H ⟨G, F, M, τ, Dt, a, en, h⟩
  refine ⟨G, F, M, τ, _, a, h, fun v F1 H1 M1 d s1 r1 p1 q1 => ?_⟩
  exact en.nx F1 H1 M1 _ _ s1 ((a.step s1 r1).store p1) q1)
/-- x += e -/
def sAg (i : Nat) (te : TEt) (r : R2t) : TSt := fun D τ M => match nth τ i with
  | some x => te τ M fun y M1 => r x y M1 fun z M2 => D.nx (τ.set i (some z)) M2
  | none => False
end
/-! ### loops -/
/-- while: W by a measure -/
def sWh (c : TTt) (tb : TSt) : TSt := fun D τ M => ∃ W : Nat → Sg → MH → Prop, (∃ m, W m τ M) ∧ ∀ m τ M, W m τ M →
  c τ M fun b M1 => if b = true then tb { D with nx := fun τ' M' => ∃ m', m' < m ∧ W m' τ' M', ct := fun τ' M' => ∃ m', m' < m ∧ W m' τ' M', bk := D.nx } τ M1 else D.nx τ M1
section
variable {X : Cx} {E : XK} {Et : XT} {pos : Pos}
theorem qs_while {c : Expr} {body : List Stmt} {tc : TTt} {tb : TSt} (hp : PassesOwn (model X.prog X.w) X.A X.env X.xe) (hc : QT X E Et c tc) (hb : QSs X E Et body tb) : QS X E Et (.While c body [] pos) (sWh tc tb) := PSimp (ps_while hp hc hb) (by
  rintro D σ H ⟨G, F0, M0, τ0, Dt, a0, en0, W, ⟨m0, w0⟩, turn⟩
  refine ⟨fun m σ H => ∃ F M τ, Same F0 F ∧ At X.K E Et G F H M σ τ ∧ W m τ M, ⟨m0, F0, M0, τ0, Same.refl _, a0, w0⟩, ?_⟩
  rintro m σ H ⟨F, M, τ, s, a, hw⟩
  have en := en0.mono s
  refine ⟨G, F, M, τ, _, a, turn m τ M hw, fun b F1 H1 M1 s1 r1 q1 => ?_⟩
  cases b with
  | true =>
    rw [if_pos rfl] at q1 ⊢
    refine ⟨fun σ' H' => ∃ m', m' < m ∧ ∃ F M τ, Same F0 F ∧ At X.K E Et G F H' M σ' τ ∧ W m' τ M, fun σ' H' z => z, G, F1, M1, τ, _, a.step s1 r1, ?_, q1⟩
    exact ⟨fun F' H' M' σ' τ' s2 a2 ⟨m', hm, w'⟩ => ⟨m', hm, F', M', τ', (s.trans s1).trans s2, a2, w'⟩, (en.mono s1).rt, fun F' H' M' σ' τ' s2 a2 q => (en.mono s1).nx F' H' M' σ' τ' s2 a2 q,
      fun F' H' M' σ' τ' s2 a2 ⟨m', hm, w'⟩ => ⟨m', hm, F', M', τ', (s.trans s1).trans s2, a2, w'⟩⟩
  | false =>
    rw [if_neg Bool.false_ne_true] at q1 ⊢
    exact en.nx F1 H1 M1 σ τ s1 (a.step s1 r1) q1)
end
/-- what is walked: its items, as long as src holds -/
structure Its where
  items : List D
  src : MH → Prop
abbrev TIt := Sg → MH → (Its → MH → Prop) → Prop
/-- J walks the items: at any state in which src holds -/
structure ItOk (K : PySem.W.Frag) (F0 : Hp) (J : It) (I : Its) : Prop where
  go : ∀ i G F H M x, Same F0 F → Rel K G F H M → I.src M → I.items[i]? = some x → J.go i H
  yld : ∀ i G F H M x v H', Same F0 F → Rel K G F H M → I.src M → I.items[i]? = some x → J.yld i H v H' → ∃ F', Same F F' ∧ Rel K G F' H' M ∧ Rp K F' v x
  stop : ∀ i G F H M, Same F0 F → Rel K G F H M → I.src M → I.items.length ≤ i → J.stop i H
def liftI (K : PySem.W.Frag) (E : XK) (Et : XT) (t : TIt) : TI := fun σ H R => ∃ G F M τ Qt, At K E Et G F H M σ τ ∧ t τ M Qt ∧ ∀ J I F' H' M', Same F F' → Rel K G F' H' M' → ItOk K F' J I → Qt I M' → R J H'
abbrev QI (X : Cx) (E : XK) (Et : XT) (tg iter : Expr) (t : TIt) : Prop := PI X tg iter (liftI X.K E Et t)
def sFo (ti : TIt) (g : TGt) (tb : TSt) : TSt := fun D τ M => ti τ M fun I M1 => ∃ W : Nat → Sg → MH → Prop, W 0 τ M1 ∧ (∀ i τ M, W i τ M → I.src M) ∧
  (∀ i x τ M, I.items[i]? = some x → W i τ M → g x τ M fun τ2 M2 => tb { D with nx := W (i + 1), ct := W (i + 1), bk := D.nx } τ2 M2) ∧ ∀ τ M, W I.items.length τ M → D.nx τ M
section
variable {X : Cx} {E : XK} {Et : XT} {pos : Pos}
theorem qs_for {tg iter : Expr} {body : List Stmt} {ti : TIt} {g : TGt} {tb : TSt} (hp : PassesOwn (model X.prog X.w) X.A X.env X.xe) (hc : X.calm = true) (hi : QI X E Et tg iter ti) (hg : QG X E Et tg g) (hb : QSs X E Et body tb)
    (hs : ∀ x, foldedSetIterable iter X.env x = pure x := by intro _; rfl) : QS X E Et (.For tg iter body [] pos) (sFo ti g tb) := PSimp (ps_for hp hc hi hg hb hs) (by
  rintro D σ H ⟨G, F0, M0, τ0, Dt, a0, en0, h⟩
  refine ⟨G, F0, M0, τ0, _, a0, h, fun J I F1 H1 M1 s1 r1 ok q1 => ?_⟩
  obtain ⟨W, w0, ws, turn, done⟩ := q1
  refine ⟨fun i m σ H => m = I.items.length - i ∧ i ≤ I.items.length ∧ ∃ F M τ, Same F1 F ∧ At X.K E Et G F H M σ τ ∧ W i τ M, ⟨I.items.length, by simp, Nat.zero_le _, F1, M1, τ0, Same.refl _, a0.step s1 r1, w0⟩, ?_⟩
  rintro i m σ H ⟨rfl, hi, F, M, τ, s, a, hw⟩
  have en := en0.mono (s1.trans s)
  by_cases hlt : i < I.items.length
  · have hx : I.items[i]? = some I.items[i] := List.getElem?_eq_getElem hlt
    refine .inr ⟨ok.go i G F H M _ s a.rel (ws i τ M hw) hx, fun σ' H' => I.items.length - (i + 1) < I.items.length - i ∧ ∃ F M τ, Same F1 F ∧ At X.K E Et G F H' M σ' τ ∧ W (i + 1) τ M, fun σ' H' z => ⟨_, z.1, rfl, hlt, z.2⟩, fun v H' y => ?_⟩
    obtain ⟨F2, s2, r2, p2⟩ := ok.yld i G F H M _ v H' s a.rel (ws i τ M hw) hx y
    have hm : I.items.length - (i + 1) < I.items.length - i := by omega
    refine ⟨G, F2, M, τ, _, _, a.step s2 r2, p2, turn i _ τ M hx hw, fun F3 H3 M3 σ3 τ3 s3 a3 q3 => ?_⟩
    refine ⟨G, F3, M3, τ3, _, a3, ?_, q3⟩
    exact ⟨fun F' H' M' σ' τ' s4 a4 w' => ⟨hm, F', M', τ', ((s.trans s2).trans s3).trans s4, a4, w'⟩, (en.mono (s2.trans s3)).rt, fun F' H' M' σ' τ' s4 a4 q => (en.mono (s2.trans s3)).nx F' H' M' σ' τ' s4 a4 q,
      fun F' H' M' σ' τ' s4 a4 w' => ⟨hm, F', M', τ', ((s.trans s2).trans s3).trans s4, a4, w'⟩⟩
  · have e : i = I.items.length := by omega
    subst e
    exact .inl ⟨ok.stop _ G F H M s a.rel (ws _ τ M hw) (Nat.le_refl _), en.nx F H M σ τ (Same.refl _) a (done τ M hw)⟩)
end
/-- the items of a list that stands, frozen or not -/
def lstOf (M : MH) : D → Option (List D)
  | .lst ds => some ds
  | .scr ds => some ds
  | .ref a => match M a with
    | some (.lst ds) => some ds
    | _ => none
  | _ => none
def tupOf : D → Option (List D)
  | .tup ds => some ds
  | .tab ds => some ds
  | _ => none
section
variable {K : PySem.W.Frag}
theorem lst_of {G F H : Hp} {M : MH} {v : V} {d : D} {ds : List D} (R : Rel K G F H M) (p : Rp K F v d) (e : lstOf M d = some ds) : ∃ a vs, v = .ref a ∧ SqL K H a vs ∧ Rps K F vs ds := by
  cases p with
  | lst h r =>
    cases e
    exact ⟨_, _, rfl, SqL.of (R.sub _ _ h), r⟩
  | scr h r =>
    cases e
    exact ⟨_, _, rfl, R.sub.seq h, r⟩
  | ref a =>
    unfold lstOf at e
    cases q : M a with
    | none => simp only [q] at e; cases e
    | some o =>
      simp only [q] at e
      obtain ⟨_, u, hu, r⟩ := R.chg a o q
      cases o with
      | lst xs =>
        cases e
        cases u with
        | lst vs => exact ⟨a, vs, rfl, SqL.of hu, r⟩
        | _ => exact (r : False).elim
      | _ => cases e
  | _ => cases e
theorem tup_of {G F H : Hp} {M : MH} {v : V} {d : D} {ds : List D} (R : Rel K G F H M) (p : Rp K F v d) (e : tupOf d = some ds) : ∃ a vs, v = .ref a ∧ SqT K H a vs ∧ Rps K F vs ds := by
  cases p with
  | tup h r =>
    cases e
    exact ⟨_, _, rfl, SqT.of (R.sub _ _ h), r⟩
  | tab h r =>
    cases e
    exact ⟨_, _, rfl, SameT R.sub h, r⟩
  | _ => cases e
end
/-- for x in xs -/
def iLs (te : TEt) : TIt := fun τ M Q => te τ M fun d M1 => match lstOf M1 d with
  | some ds => Q ⟨ds, fun M => lstOf M d = some ds⟩ M1
  | none => False
def iTu (te : TEt) : TIt := fun τ M Q => te τ M fun d M1 => match tupOf d with
  | some ds => Q ⟨ds, fun _ => True⟩ M1
  | none => False
def iR1 (ta : TAt) : TIt := fun τ M Q => ta τ M fun ds M1 => match ds with
  | [.int j] => (-(2 ^ 62) ≤ j ∧ j < 2 ^ 62) ∧ Q ⟨(List.range j.toNat).map fun i => .int (i : Nat), fun _ => True⟩ M1
  | _ => False
def iR2 (ta : TAt) : TIt := fun τ M Q => ta τ M fun ds M1 => match ds with
  | [.int i, .int j] => (-(2 ^ 62) ≤ i ∧ i < 2 ^ 62 ∧ -(2 ^ 62) ≤ j ∧ j < 2 ^ 62) ∧ Q ⟨(List.range (j - i).toNat).map fun k => .int (i + (k : Nat)), fun _ => True⟩ M1
  | _ => False
theorem SqL_get {K : PySem.W.Frag} {H : Hp} {a : Addr} {vs : List V} (h : SqL K H a vs) {i : Nat} {v x : V} (hx : vs[i]? = some x) (f : ∀ xs, SqL K H a xs → xs[i]? = some v) : v = x := Option.some.inj ((f _ h).symm.trans hx)
theorem SqT_get {K : PySem.W.Frag} {H : Hp} {a : Addr} {vs : List V} (h : SqT K H a vs) {i : Nat} {v x : V} (hx : vs[i]? = some x) (f : ∀ xs, SqT K H a xs → xs[i]? = some v) : v = x := Option.some.inj ((f _ h).symm.trans hx)
section
variable {X : Cx} {E : XK} {Et : XT} {pos : Pos} {tg e : Expr} {te : TEt}
theorem itOk_list {K : PySem.W.Frag} {F0 : Hp} {a : Addr} {d : D} {ds : List D} (p : Rp K F0 (.ref a) d) : ItOk K F0 (Itl K a) ⟨ds, fun M => lstOf M d = some ds⟩ where
  go := fun i G F H M x s R h hx => by
    obtain ⟨b, vs, e, hs, r⟩ := lst_of R (p.mono s) h
    cases e
    obtain ⟨v, hv, _⟩ := r.getD hx
    exact ⟨vs, v, hs, hv⟩
  yld := fun i G F H M x v H' s R h hx y => by
    obtain ⟨b, vs, e, hs, r⟩ := lst_of R (p.mono s) h
    cases e
    obtain ⟨v', hv, rv⟩ := r.getD hx
    obtain ⟨rfl, f⟩ := y
    have := SqL_get hs hv f
    subst this
    exact ⟨F, Same.refl _, R, rv⟩
  stop := fun i G F H M s R h hl => by
    obtain ⟨b, vs, e, hs, r⟩ := lst_of R (p.mono s) h
    cases e
    exact ⟨vs, hs, by rw [r.length]; exact hl⟩
theorem itOk_tup {K : PySem.W.Frag} {F0 : Hp} {a : Addr} {d : D} {ds : List D} (p : Rp K F0 (.ref a) d) (h : tupOf d = some ds) : ItOk K F0 (Itt K a) ⟨ds, fun _ => True⟩ where
  go := fun i G F H M x s R _ hx => by
    obtain ⟨b, vs, e, hs, r⟩ := tup_of R (p.mono s) h
    cases e
    obtain ⟨v, hv, _⟩ := r.getD hx
    exact ⟨vs, v, hs, hv⟩
  yld := fun i G F H M x v H' s R _ hx y => by
    obtain ⟨b, vs, e, hs, r⟩ := tup_of R (p.mono s) h
    cases e
    obtain ⟨v', hv, rv⟩ := r.getD hx
    obtain ⟨rfl, f⟩ := y
    have := SqT_get hs hv f
    subst this
    exact ⟨F, Same.refl _, R, rv⟩
  stop := fun i G F H M s R _ hl => by
    obtain ⟨b, vs, e, hs, r⟩ := tup_of R (p.mono s) h
    cases e
    exact ⟨vs, hs, by rw [r.length]; exact hl⟩
theorem qi_list (he : QE X E Et e te) : QI X E Et tg e (iLs te) := by
  refine ⟨fun pins s σ H R I h => (pi_list he).run pins s σ H R I ?_⟩
  obtain ⟨G, F, M, τ, Qt, a, h, k⟩ := h
  refine ⟨G, F, M, τ, _, a, h, fun v F1 H1 M1 d s1 r1 p1 q1 => ?_⟩
  cases q : lstOf M1 d with
  | none => simp only [q] at q1
  | some ds =>
    simp only [q] at q1
    obtain ⟨b, vs, rfl, hs, r⟩ := lst_of r1 p1 q
    exact ⟨b, rfl, ⟨vs, hs⟩, k _ _ F1 H1 M1 s1 r1 (itOk_list p1) q1⟩
theorem qi_tup (he : QE X E Et e te) : QI X E Et tg e (iTu te) := by
  refine ⟨fun pins s σ H R I h => (pi_tup he).run pins s σ H R I ?_⟩
  obtain ⟨G, F, M, τ, Qt, a, h, k⟩ := h
  refine ⟨G, F, M, τ, _, a, h, fun v F1 H1 M1 d s1 r1 p1 q1 => ?_⟩
  cases q : tupOf d with
  | none => simp only [q] at q1
  | some ds =>
    simp only [q] at q1
    obtain ⟨b, vs, rfl, hs, r⟩ := tup_of r1 p1 q
    exact ⟨b, rfl, ⟨vs, hs⟩, k _ _ F1 H1 M1 s1 r1 (itOk_tup p1 q) q1⟩
theorem range_at {n i : Nat} {f : Nat → D} {x : D} (h : ((List.range n).map f)[i]? = some x) : i < n ∧ x = f i := by
  rw [List.getElem?_map] at h
  by_cases hi : i < n
  · rw [List.getElem?_range hi] at h
    exact ⟨hi, (Option.some.inj h).symm⟩
  · rw [List.getElem?_eq_none (by rw [List.length_range]; omega)] at h
    cases h
theorem itOk_range {K : PySem.W.Frag} {F0 : Hp} {lo : Int} {n : Nat} : ItOk K F0 (Itr lo n) ⟨(List.range n).map fun k => .int (lo + (k : Nat)), fun _ => True⟩ where
  go := fun i G F H M x s R _ hx => (range_at hx).1
  yld := fun i G F H M x v H' s R _ hx y => by
    obtain ⟨rfl, rfl⟩ := y
    obtain ⟨_, rfl⟩ := range_at hx
    exact ⟨F, Same.refl _, R, .int _⟩
  stop := fun i G F H M s R _ hl => by
    rw [List.length_map, List.length_range] at hl
    exact hl
theorem Rp.int_inv {K : PySem.W.Frag} {F : Hp} {v : V} {c : Int} (h : Rp K F v (.int c)) : v = .int c := by cases h; rfl
theorem qi_range1 {a : Expr} {ta : TAt} {p : Pos} (hm : X.mg "range" = none) (ha : QA X E Et [a] ta) (hg : Gl X "range" := by rfl) (hs : starEach [a] X.env = [(false, eval a X.env)] := by rfl) : QI X E Et tg (.Call (.Name "range" p) [a] [] pos) (iR1 ta) := by
  refine ⟨fun pins s σ H R I h => (pi_range1 hg hm ha hs).run pins s σ H R I ?_⟩
  obtain ⟨G, F, M, τ, Qt, a, h, k⟩ := h
  refine ⟨G, F, M, τ, _, a, h, fun vs F1 H1 M1 ds s1 r1 p1 q1 => ?_⟩
  match ds, p1, q1 with
  | [.int j], .cons h1 .nil, q1 =>
    cases h1
    obtain ⟨⟨b1, b2⟩, q1⟩ := q1
    refine ⟨j, rfl, b1, b2, k _ _ F1 H1 M1 s1 r1 itOk_range ?_⟩
    simpa using q1
theorem qi_range2 {a b : Expr} {ta : TAt} {p : Pos} (hm : X.mg "range" = none) (ha : QA X E Et [a, b] ta) (hg : Gl X "range" := by rfl) (hs : starEach [a, b] X.env = [(false, eval a X.env), (false, eval b X.env)] := by rfl) (hs2 : starEach [b] X.env = [(false, eval b X.env)] := by rfl) : QI X E Et tg (.Call (.Name "range" p) [a, b] [] pos) (iR2 ta) := by
  refine ⟨fun pins s σ H R I h => (pi_range2 hg hm ha hs hs2).run pins s σ H R I ?_⟩
  obtain ⟨G, F, M, τ, Qt, a, h, k⟩ := h
  refine ⟨G, F, M, τ, _, a, h, fun vs F1 H1 M1 ds s1 r1 p1 q1 => ?_⟩
  match ds, p1, q1 with
  | [.int i, .int j], .cons h1 (.cons h2 .nil), q1 =>
    cases h1
    cases h2
    obtain ⟨b, q1⟩ := q1
    exact ⟨i, j, rfl, b, k _ _ F1 H1 M1 s1 r1 itOk_range q1⟩
end
end Tl
namespace Tl
open PySem PySem.Spec PyProof.Rows L2
/-! ### numbers -/
section
variable {K : PySem.W.Frag}
theorem lr2_int {C : Int → Int → Prop} {g : Int → Int → V} {gD : Int → Int → D} {r : R2t} (hg : ∀ F i j, Rp K F (g i j) (gD i j))
    (hr : ∀ x y M Q, r x y M Q → ∃ i j, x = .int i ∧ y = .int j ∧ C i j ∧ Q (gD i j) M) : ∀ x y H Q, lr2 K r x y H Q → rI C g x y H Q := by
  rintro x y H Q ⟨G, F, M, dx, dy, Qt, R, px, py, h, k⟩
  obtain ⟨i, j, rfl, rfl, c, q⟩ := hr dx dy M Qt h
  exact ⟨i, j, px.int_inv, py.int_inv, c, k _ F H M _ (Same.refl _) R (hg F i j) q⟩
theorem lr2_int0 {g : Int → Int → V} {gD : Int → Int → D} {r : R2t} (hg : ∀ F i j, Rp K F (g i j) (gD i j))
    (hr : ∀ x y M Q, r x y M Q → ∃ i j, x = .int i ∧ y = .int j ∧ Q (gD i j) M) : ∀ x y H Q, lr2 K r x y H Q → rI0 g x y H Q := by
  rintro x y H Q ⟨G, F, M, dx, dy, Qt, R, px, py, h, k⟩
  obtain ⟨i, j, rfl, rfl, q⟩ := hr dx dy M Qt h
  exact ⟨i, j, px.int_inv, py.int_inv, k _ F H M _ (Same.refl _) R (hg F i j) q⟩
end
/-- x op y on whole numbers -/
def bInt (C : Int → Int → Prop) (g : Int → Int → D) : R2t := fun x y M Q => match x, y with
  | .int i, .int j => C i j ∧ Q (g i j) M
  | _, _ => False
def bInt0 (g : Int → Int → D) : R2t := fun x y M Q => match x, y with
  | .int i, .int j => Q (g i j) M
  | _, _ => False
theorem bInt_inv {C : Int → Int → Prop} {g : Int → Int → D} : ∀ x y M Q, bInt C g x y M Q → ∃ i j, x = .int i ∧ y = .int j ∧ C i j ∧ Q (g i j) M := by
  intro x y M Q h
  cases x <;> cases y <;> first | exact ⟨_, _, rfl, rfl, h⟩ | exact (show False from h).elim
theorem bInt0_inv {g : Int → Int → D} : ∀ x y M Q, bInt0 g x y M Q → ∃ i j, x = .int i ∧ y = .int j ∧ Q (g i j) M := by
  intro x y M Q h
  cases x <;> cases y <;> first | exact ⟨_, _, rfl, rfl, h⟩ | exact (show False from h).elim
section
variable {X : Cx}
abbrev bSub : R2t := bInt0 fun i j => .int (i - j)
theorem oq_addI : OpQ X (binaryOp .Add) (bInt0 fun i j => .int (i + j)) := OpRimp op_add (lr2_int0 (fun _ _ _ => .int _) bInt0_inv)
theorem oq_sub : OpQ X (binaryOp .Sub) bSub := OpRimp op_sub (lr2_int0 (fun _ _ _ => .int _) bInt0_inv)
theorem oq_fdiv : OpQ X (binaryOp .FloorDiv) (bInt CDivW fun i j => .int (i / j)) := OpRimp op_fdivW (lr2_int (fun _ _ _ => .int _) bInt_inv)
theorem oq_mod : OpQ X (binaryOp .Mod) (bInt (fun _ j => 0 < j) fun i j => .int (i % j)) := OpRimp op_mod (lr2_int (fun _ _ _ => .int _) bInt_inv)
theorem oq_lt : OpQ X (compareOp .Lt) (bInt0 fun i j => .bl (decide (i < j))) := OpRimp op_lt (lr2_int0 (fun _ _ _ => .bl _) bInt0_inv)
theorem oq_le : OpQ X (compareOp .LtE) (bInt0 fun i j => .bl (decide (i ≤ j))) := OpRimp op_le (lr2_int0 (fun _ _ _ => .bl _) bInt0_inv)
theorem oq_gt : OpQ X (compareOp .Gt) (bInt0 fun i j => .bl (decide (j < i))) := OpRimp op_gt (lr2_int0 (fun _ _ _ => .bl _) bInt0_inv)
theorem oq_ge : OpQ X (compareOp .GtE) (bInt0 fun i j => .bl (decide (j ≤ i))) := OpRimp op_ge (lr2_int0 (fun _ _ _ => .bl _) bInt0_inv)
def uNeg : R1t := fun x M Q => match x with
  | .int i => Q (.int (-i)) M
  | _ => False
theorem uq_neg : UnQ X (unaryOp .USub) uNeg := UnRimp un_neg (by
  rintro x H Q ⟨G, F, M, dx, Qt, R, px, h, k⟩
  cases dx <;> first | exact (show False from h).elim | exact ⟨_, px.int_inv, k _ F H M _ (Same.refl _) R (.int _) h⟩)
end
/-! ### == and != of scalars -/
def dScal : D → D → Option Bool
  | .non, .non => some true
  | .int i, .int j => some (decide (i = j))
  | .str x, .str y => some (decide (x = y))
  | .bl x, .bl y => some (decide (x = y))
  | .non, .int _ => some false
  | .int _, .non => some false
  | .non, .str _ => some false
  | .str _, .non => some false
  | .non, .bl _ => some false
  | .bl _, .non => some false
  | .int _, .str _ => some false
  | .str _, .int _ => some false
  | _, _ => none
def bEq : R2t := fun x y M Q => match dScal x y with
  | some b => Q (.bl b) M
  | none => False
def bNe : R2t := fun x y M Q => match dScal x y with
  | some b => Q (.bl (!b)) M
  | none => False
theorem dScal_of {K : PySem.W.Frag} {F : Hp} {v w : V} {x y : D} {b : Bool} (px : Rp K F v x) (py : Rp K F w y) (e : dScal x y = some b) : scal v w = true ∧ decide (v = w) = b := by
  cases x <;> cases y <;> first
    | (cases e; done)
    | (cases px; cases py; cases e; exact ⟨rfl, by first | rfl | (congr 1; simp)⟩)
section
variable {X : Cx}
theorem oq_eq : OpQ X (compareOp .Eq) bEq := OpRimp op_eq (by
  rintro x y H Q ⟨G, F, M, dx, dy, Qt, R, px, py, h, k⟩
  unfold bEq at h
  cases e : dScal dx dy with
  | none => simp only [e] at h
  | some b =>
    simp only [e] at h
    obtain ⟨h1, h2⟩ := dScal_of px py e
    exact ⟨h1, k _ F H M _ (Same.refl _) R (by rw [h2]; exact .bl b) h⟩)
theorem oq_ne : OpQ X (compareOp .NotEq) bNe := OpRimp op_ne (by
  rintro x y H Q ⟨G, F, M, dx, dy, Qt, R, px, py, h, k⟩
  unfold bNe at h
  cases e : dScal dx dy with
  | none => simp only [e] at h
  | some b =>
    simp only [e] at h
    obtain ⟨h1, h2⟩ := dScal_of px py e
    exact ⟨h1, k _ F H M _ (Same.refl _) R (by rw [h2]; exact .bl _) h⟩)
def isNonD : D → Bool
  | .non => true
  | _ => false
theorem isNonD_of {K : PySem.W.Frag} {F : Hp} {v : V} {x : D} (px : Rp K F v x) : decide (v = .non) = isNonD x := by
  cases px <;> rfl
def bIsN : R2t := fun x y M Q => match y with
  | .non => Q (.bl (isNonD x)) M
  | _ => False
def bNotN : R2t := fun x y M Q => match y with
  | .non => Q (.bl (!isNonD x)) M
  | _ => False
theorem oq_isN : OpQ X (compareOp .Is) bIsN := OpRimp op_isN (by
  rintro x y H Q ⟨G, F, M, dx, dy, Qt, R, px, py, h, k⟩
  cases py <;> first | exact (show False from h).elim | exact ⟨rfl, k _ F H M _ (Same.refl _) R (by rw [isNonD_of px]; exact .bl _) h⟩)
theorem oq_notN : OpQ X (compareOp .IsNot) bNotN := OpRimp op_notN (by
  rintro x y H Q ⟨G, F, M, dx, dy, Qt, R, px, py, h, k⟩
  cases py <;> first | exact (show False from h).elim | exact ⟨rfl, k _ F H M _ (Same.refl _) R (by rw [isNonD_of px]; exact .bl _) h⟩)
end
/-! ### texts, lists, tuples joined -/
def bCatS : R2t := fun x y M Q => match x, y with
  | .str a, .str b => a.length + b.length ≤ sizeLine ∧ Q (.str (a ++ b)) M
  | _, _ => False
/-- a new frozen list -/
def bCatL : R2t := fun x y M Q => match lstOf M x, lstOf M y with
  | some a, some b => a.length + b.length ≤ sizeLine ∧ Q (.lst (a ++ b)) M
  | _, _ => False
/-- a new changing list -/
def bCatM : R2t := fun x y M Q => match lstOf M x, lstOf M y with
  | some a, some b => a.length + b.length ≤ sizeLine ∧ ∀ p, M p = none → Q (.ref p) (mup M p (.lst (a ++ b)))
  | _, _ => False
section
variable {X : Cx}
/-- list + list, frozen ones too -/
def rCatR (K : PySem.W.Frag) : R2 := fun x y H Q => ∃ l b xs zs, x = .ref l ∧ y = .ref b ∧ SqL K H l xs ∧ SqL K H b zs ∧ xs.length + zs.length ≤ sizeLine ∧ ∀ p, H p = none → Q (.ref p) (upd H p (.lst (xs ++ zs)))
theorem op_catR : OpR X (binaryOp .Add) (rCatR X.K) := by
  intro pins s σ H x y v u Q I rx ry h
  obtain ⟨l, b, xs, zs, rfl, rfl, hH, hB, hz, q⟩ := h
  cases rx
  cases ry
  obtain ⟨its, r, ⟨⟨cls, dd, data, sl⟩, n, ho, hc, hdd, hd⟩, z⟩ := I.list hH
  obtain ⟨its2, r2, ⟨⟨cls2, dd2, data2, sl2⟩, n2, ho2, hc2, hdd2, hd2⟩, z2⟩ := I.list hB
  simp only at hc hd hc2 hd2
  subst hc hd hc2 hd2
  have e1 := r.length
  have e2 := r2.length
  refine PySem.concat_meets ⟨_, ho, rfl⟩ ⟨_, ho2, rfl⟩ PySem.noFill_list_add PySem.seq_list_add PySem.F.slot_list_add PySem.F.entry_list_add (PySem.F.args_list_add_2 _ _) (PyProof.Rows.list_addW l b its.toArray its2.toArray n n2 dd dd2 sl sl2 (by rw [List.size_toArray, List.size_toArray]; omega)) ⟨ho, ho2, ?_⟩
  have ea : its.toArray ++ its2.toArray = (its ++ its2).toArray := by simp
  rw [ea]
  exact ⟨.ref _, _, I.lnew (t' := s.toks) (r.append r2) (by rw [List.length_append]; omega), rfl, q _ I.fresh⟩
theorem oq_addS : OpQ X (binaryOp .Add) bCatS := OpRimp op_add_str (by
  rintro x y H Q ⟨G, F, M, dx, dy, Qt, R, px, py, h, k⟩
  cases px <;> first
    | exact (show False from h).elim
    | (cases py <;> first | exact (show False from h).elim | exact ⟨_, _, rfl, rfl, h.1, k _ F H M _ (Same.refl _) R (.str _) h.2⟩))
end
section
variable {K : PySem.W.Frag}
theorem lst_two {r : R2t} {G F H : Hp} {M : MH} {x y : V} {dx dy : D} (R : Rel K G F H M) (px : Rp K F x dx) (py : Rp K F y dy) {a b : List D} (e1 : lstOf M dx = some a) (e2 : lstOf M dy = some b) :
    ∃ l m xs zs, x = .ref l ∧ y = .ref m ∧ SqL K H l xs ∧ SqL K H m zs ∧ Rps K F xs a ∧ Rps K F zs b := by
  obtain ⟨l, xs, h1, h2, h3⟩ := lst_of R px e1
  obtain ⟨m, zs, h4, h5, h6⟩ := lst_of R py e2
  exact ⟨l, m, xs, zs, h1, h4, h2, h5, h3, h6⟩
end
section
variable {X : Cx}
theorem oq_catL : OpQ X (binaryOp .Add) bCatL := OpRimp op_catR (by
  rintro x y H Q ⟨G, F, M, dx, dy, Qt, R, px, py, h, k⟩
  unfold bCatL at h
  cases e1 : lstOf M dx with
  | none => simp only [e1] at h
  | some a =>
    cases e2 : lstOf M dy with
    | none => simp only [e1, e2] at h
    | some b =>
      simp only [e1, e2] at h
      obtain ⟨l, m, xs, zs, rfl, rfl, h2, h5, h3, h6⟩ := lst_two (r := bCatL) R px py e1 e2
      refine ⟨l, m, xs, zs, rfl, rfl, h2, h5, by rw [h3.length, h6.length]; exact h.1, fun p np => ?_⟩
      obtain ⟨s, r⟩ := R.newF (o := .lst (xs ++ zs)) np
      exact k _ _ _ M _ s r (.lst upd_same ((h3.append h6).mono s)) h.2)
theorem oq_catM : OpQ X (binaryOp .Add) bCatM := OpRimp op_catR (by
  rintro x y H Q ⟨G, F, M, dx, dy, Qt, R, px, py, h, k⟩
  unfold bCatM at h
  cases e1 : lstOf M dx with
  | none => simp only [e1] at h
  | some a =>
    cases e2 : lstOf M dy with
    | none => simp only [e1, e2] at h
    | some b =>
      simp only [e1, e2] at h
      obtain ⟨l, m, xs, zs, rfl, rfl, h2, h5, h3, h6⟩ := lst_two (r := bCatM) R px py e1 e2
      refine ⟨l, m, xs, zs, rfl, rfl, h2, h5, by rw [h3.length, h6.length]; exact h.1, fun p np => ?_⟩
      exact k _ _ _ _ _ (Same.refl _) (R.newM (u := .lst (xs ++ zs)) (o := .lst (a ++ b)) np (h3.append h6)) (.ref p) (h.2 p (R.free np).2))
end
/-! ### displays -/
/-- (a, b) -/
def tTu (t : TAt) : TEt := fun τ M Q => t τ M fun ds M1 => ds.length ≤ sizeLine ∧ Q (.tup ds) M1
/-- [a, b]: it stays as it is -/
def tLi (t : TAt) : TEt := fun τ M Q => t τ M fun ds M1 => ds.length ≤ sizeLine ∧ Q (.lst ds) M1
/-- [a, b]: it may change -/
def tLm (t : TAt) : TEt := fun τ M Q => t τ M fun ds M1 => ds.length ≤ sizeLine ∧ ∀ p, M1 p = none → Q (.ref p) (mup M1 p (.lst ds))
section
variable {X : Cx} {E : XK} {Et : XT} {es : List Expr} {t : TAt} {pos : Pos}
theorem q_tup {x1} (h : QA X E Et es t) : QE X E Et (.Tuple es x1 pos) (tTu t) := PEimp (pe_tup h) (by
  rintro σ H Q ⟨G, F, M, τ, Qt, a, h, k⟩
  refine ⟨G, F, M, τ, _, a, h, fun vs F1 H1 M1 ds s1 r1 p1 q1 => ⟨by rw [p1.length]; exact q1.1, fun p np => ?_⟩⟩
  obtain ⟨s, r⟩ := r1.newF (o := .tup vs) np
  exact k _ _ _ M1 _ (s1.trans s) r (.tup upd_same (p1.mono s)) q1.2)
theorem q_lst (h : QA X E Et es t) : QE X E Et (.List es pos) (tLi t) := PEimp (pe_lst h) (by
  rintro σ H Q ⟨G, F, M, τ, Qt, a, h, k⟩
  refine ⟨G, F, M, τ, _, a, h, fun vs F1 H1 M1 ds s1 r1 p1 q1 => ⟨by rw [p1.length]; exact q1.1, fun p np => ?_⟩⟩
  obtain ⟨s, r⟩ := r1.newF (o := .lst vs) np
  exact k _ _ _ M1 _ (s1.trans s) r (.lst upd_same (p1.mono s)) q1.2)
theorem q_lstM (h : QA X E Et es t) : QE X E Et (.List es pos) (tLm t) := PEimp (pe_lst h) (by
  rintro σ H Q ⟨G, F, M, τ, Qt, a, h, k⟩
  refine ⟨G, F, M, τ, _, a, h, fun vs F1 H1 M1 ds s1 r1 p1 q1 => ⟨by rw [p1.length]; exact q1.1, fun p np => ?_⟩⟩
  exact k _ _ _ _ _ s1 (r1.newM (u := .lst vs) (o := .lst ds) np p1) (.ref p) (q1.2 p (r1.free np).2))
end
/-! ### what is as it was, told otherwise -/
/-- at M the value d may as well be told as d' at M' -/
def ReR (K : PySem.W.Frag) (d : D) (M : MH) (d' : D) (M' : MH) : Prop := ∀ G F H v, Rel K G F H M → Rp K F v d → ∃ F', Same F F' ∧ Rel K G F' H M' ∧ Rp K F' v d'
def tRe (K : PySem.W.Frag) (t : TEt) : TEt := fun τ M Q => t τ M fun d M1 => ∃ d' M2, ReR K d M1 d' M2 ∧ Q d' M2
section
variable {K : PySem.W.Frag}
theorem ReR.refl {d : D} {M : MH} : ReR K d M d M := fun G F H v R p => ⟨F, Same.refl _, R, p⟩
theorem ReR.trans {d d1 d2 : D} {M M1 M2 : MH} (a : ReR K d M d1 M1) (b : ReR K d1 M1 d2 M2) : ReR K d M d2 M2 := fun G F H v R p => by
  obtain ⟨F1, s1, R1, p1⟩ := a G F H v R p
  obtain ⟨F2, s2, R2, p2⟩ := b G F1 H v R1 p1
  exact ⟨F2, s1.trans s2, R2, p2⟩
theorem ReR.drop {d : D} {M M' : MH} (h : ∀ a o, M' a = some o → M a = some o) : ReR K d M d M' := fun G F H v R p => ⟨F, Same.refl _, R.drop h, p⟩
theorem ReR.freeze {a : Addr} {ds : List D} {M : MH} (h : M a = some (.lst ds)) : ReR K (.ref a) M (.lst ds) (mdel M a) := fun G F H v R p => by
  obtain ⟨F', s, R', r⟩ := R.freeze h
  cases p
  exact ⟨F', s, R', r⟩
/-- the commonest: a list made here is handed back -/
theorem ReR.made {a : Addr} {ds : List D} {M : MH} (h : M a = none) : ReR K (.ref a) (mup M a (.lst ds)) (.lst ds) M := by
  have := ReR.freeze (K := K) (a := a) (ds := ds) (M := mup M a (.lst ds)) mup_same
  rw [mdel_mup h] at this
  exact this
end
section
variable {X : Cx} {E : XK} {Et : XT} {e : Expr} {t : TEt}
theorem q_re (h : QE X E Et e t) : QE X E Et e (tRe X.K t) := PEimp h (by
  rintro σ H Q ⟨G, F, M, τ, Qt, a, h, k⟩
  refine ⟨G, F, M, τ, _, a, h, fun v F1 H1 M1 d s1 r1 p1 ⟨d', M2, re, q⟩ => ?_⟩
  obtain ⟨F', s, R', p'⟩ := re G F1 H1 v r1 p1
  exact k v F' H1 M2 d' (s1.trans s) R' p' q)
end
/-- the same of all slots -/
def ReS (K : PySem.W.Frag) (τ : Sg) (M : MH) (τ' : Sg) (M' : MH) : Prop := ∀ G F H σ, Rel K G F H M → Sgr K F σ τ → ∃ F', Same F F' ∧ Rel K G F' H M' ∧ Sgr K F' σ τ'
def sRe (K : PySem.W.Frag) (u : TSt) : TSt := fun D τ M => ∃ τ' M', ReS K τ M τ' M' ∧ u D τ' M'
section
variable {X : Cx} {E : XK} {Et : XT} {sts : List Stmt} {u : TSt}
theorem qss_re (h : QSs X E Et sts u) : QSs X E Et sts (sRe X.K u) := PSsimp h (by
  rintro D σ H ⟨G, F, M, τ, Dt, a, en, τ', M', re, h⟩
  obtain ⟨F', s, R', sg⟩ := re G F H σ a.rel a.sg
  exact ⟨G, F', M', τ', Dt, ⟨R', sg, a.el.mono s⟩, en.mono s, h⟩)
/-- slot i's list is frozen -/
theorem ReS.freeze {K : PySem.W.Frag} {τ : Sg} {M : MH} {i : Nat} {a : Addr} {ds : List D} (h : nth τ i = some (.ref a)) (hm : M a = some (.lst ds)) : ReS K τ M (τ.set i (some (.lst ds))) (mdel M a) := fun G F H σ R sg => by
  obtain ⟨F', s, R', r⟩ := R.freeze hm
  refine ⟨F', s, R', ?_⟩
  have g := sg.mono s
  obtain ⟨v, h1, h2⟩ := g.2 i _ (nth_get h)
  cases h2
  have e : σ = σ.set i (some (.ref a)) := by
    apply List.ext_getElem?
    intro j
    by_cases hij : i = j
    · subst hij
      rw [h1, List.getElem?_set_self (List.getElem?_eq_some_iff.mp h1).1]
    · rw [List.getElem?_set_ne hij]
  rw [e]
  exact g.set r
theorem ReS.drop {K : PySem.W.Frag} {τ : Sg} {M M' : MH} (h : ∀ a o, M' a = some o → M a = some o) : ReS K τ M τ M' := fun G F H σ R sg => ⟨F, Same.refl _, R.drop h, sg⟩
theorem ReS.refl {K : PySem.W.Frag} {τ : Sg} {M : MH} : ReS K τ M τ M := fun G F H σ R sg => ⟨F, Same.refl _, R, sg⟩
theorem ReS.trans {K : PySem.W.Frag} {τ τ1 τ2 : Sg} {M M1 M2 : MH} (a : ReS K τ M τ1 M1) (b : ReS K τ1 M1 τ2 M2) : ReS K τ M τ2 M2 := fun G F H v R p => by
  obtain ⟨F1, s1, R1, p1⟩ := a G F H v R p
  obtain ⟨F2, s2, R2, p2⟩ := b G F1 H v R1 p1
  exact ⟨F2, s1.trans s2, R2, p2⟩
end
/-! ### items -/
/-- x[i]: of a tuple, a list, a text -/
def bIx : R2t := fun x y M Q => match y with
  | .int i => match x with
    | .str z => z.length ≤ sizeLine ∧ match atI z.cps.toList i with
      | some c => Q (.str ⟨#[c]⟩) M
      | none => False
    | .tup ds => match atI ds i with
      | some d => Q d M
      | none => False
    | .tab ds => match atI ds i with
      | some d => Q d M
      | none => False
    | x => match lstOf M x with
      | some ds => match atI ds i with
        | some d => Q d M
        | none => False
      | none => False
  | _ => False
theorem Rps.at {K : PySem.W.Frag} {F : Hp} {vs : List V} {ds : List D} {i : Int} {d : D} (r : Rps K F vs ds) (h : atI ds i = some d) : ∃ v, atI vs i = some v ∧ Rp K F v d := by
  unfold atI at h ⊢
  rw [r.length]
  cases e : ixN ds.length i with
  | none => rw [e] at h; cases h
  | some j =>
    rw [e] at h
    exact r.getD (i := j) h
section
variable {X : Cx} {E : XK} {Et : XT} {a b : Expr} {ta tb : TEt} {pos : Pos}
theorem ixq : ∀ x y H Q, lr2 X.K bIx x y H Q → rIx X.K x y H Q := by
  rintro x y H Q ⟨G, F, M, dx, dy, Qt, R, px, py, h, k⟩
  cases py with
  | int i =>
    cases px with
    | str z =>
      obtain ⟨h1, h2⟩ := (show _ ∧ _ from h)
      cases e : atI z.cps.toList i with
      | none => rw [e] at h2; exact h2.elim
      | some c =>
        rw [e] at h2
        exact .inr (.inr ⟨z, i, c, rfl, rfl, h1, e, k _ F H M _ (Same.refl _) R (.str _) h2⟩)
    | @tup aa vs ds h0 r0 =>
      have h2 : (match atI ds i with | some d => Qt d M | none => False) := h
      cases e : atI ds i with
      | none => rw [e] at h2; exact h2.elim
      | some c =>
        rw [e] at h2
        obtain ⟨v, hv, rv⟩ := r0.at e
        exact .inr (.inl ⟨aa, vs, i, v, rfl, rfl, SqT.of (R.sub _ _ h0), hv, k _ F H M _ (Same.refl _) R rv h2⟩)
    | @tab aa vs ds h0 r0 =>
      have h2 : (match atI ds i with | some d => Qt d M | none => False) := h
      cases e : atI ds i with
      | none => rw [e] at h2; exact h2.elim
      | some c =>
        rw [e] at h2
        obtain ⟨v, hv, rv⟩ := r0.at e
        exact .inr (.inl ⟨aa, vs, i, v, rfl, rfl, SameT R.sub h0, hv, k _ F H M _ (Same.refl _) R rv h2⟩)
    | @lst aa vs ds h0 r0 =>
      have h2 : (match atI ds i with | some d => Qt d M | none => False) := h
      cases e : atI ds i with
      | none => rw [e] at h2; exact h2.elim
      | some c =>
        rw [e] at h2
        obtain ⟨v, hv, rv⟩ := r0.at e
        exact .inl ⟨aa, vs, i, v, rfl, rfl, SqL.of (R.sub _ _ h0), hv, k _ F H M _ (Same.refl _) R rv h2⟩
    | @scr aa vs ds h0 r0 =>
      have h2 : (match atI ds i with | some d => Qt d M | none => False) := h
      cases e : atI ds i with
      | none => rw [e] at h2; exact h2.elim
      | some c =>
        rw [e] at h2
        obtain ⟨v, hv, rv⟩ := r0.at e
        exact .inl ⟨aa, vs, i, v, rfl, rfl, R.sub.seq h0, hv, k _ F H M _ (Same.refl _) R rv h2⟩
    | ref aa =>
      have h2 : (match lstOf M (.ref aa) with | some ds => (match atI ds i with | some d => Qt d M | none => False) | none => False) := h
      cases q : lstOf M (.ref aa) with
      | none => rw [q] at h2; exact h2.elim
      | some ds =>
        rw [q] at h2
        obtain ⟨b, vs, eb, hs, r⟩ := lst_of R (.ref aa) q
        cases eb
        have h2 : (match atI ds i with | some d => Qt d M | none => False) := h2
        cases e : atI ds i with
        | none => rw [e] at h2; exact h2.elim
        | some c =>
          rw [e] at h2
          obtain ⟨v, hv, rv⟩ := r.at e
          exact .inl ⟨aa, vs, i, v, rfl, rfl, hs, hv, k _ F H M _ (Same.refl _) R rv h2⟩
    | _ => exact (show False from h).elim
  | _ => exact (show False from h).elim
theorem q_ix (ha : QE X E Et a ta) (hb : QE X E Et b tb) (hs : PlainIx b := by exact fun _ _ => rfl) : QE X E Et (.Subscript a b pos) (tO bIx ta tb) := PEimp (pe_ix ix_seq ha hb hs) (fun σ H Q h => by
  have := lv_op _ _ _ h
  obtain ⟨G, F, M, τ, Qt, a, h, k⟩ := this
  refine ⟨G, F, M, τ, Qt, a, h, fun v F' H' M' d s r p q => ?_⟩
  obtain ⟨G, F2, M2, τ2, Q2, a2, h2, k2⟩ := k v F' H' M' d s r p q
  exact ⟨G, F2, M2, τ2, Q2, a2, h2, fun v2 F3 H3 M3 d2 s2 r2 p2 q2 => ixq _ _ _ _ (k2 v2 F3 H3 M3 d2 s2 r2 p2 q2)⟩)
end
/-! ### slices -/
abbrev TOt := Sg → MH → (Option Int → MH → Prop) → Prop
def liftO (K : PySem.W.Frag) (E : XK) (Et : XT) (t : TOt) : TO := fun σ H Q => ∃ G F M τ Qt, At K E Et G F H M σ τ ∧ t τ M Qt ∧ ∀ b F' H' M', Same F F' → Rel K G F' H' M' → Qt b M' → Q b H'
abbrev QO (X : Cx) (E : XK) (Et : XT) (e : Option Expr) (t : TOt) : Prop := PO X e (liftO X.K E Et t)
def oNo : TOt := fun _ M Q => Q none M
def oYes (t : TEt) : TOt := fun τ M Q => t τ M fun d M1 => match d with
  | .int i => Q (some i) M1
  | _ => False
def cutD (xs : List D) (lo hi : Option Int) : List D := (xs.drop (HT.sIx xs.length 0 lo)).take (HT.sIx xs.length xs.length hi - HT.sIx xs.length 0 lo)
def tSc (r : D → Option Int → Option Int → MH → VD → Prop) (te : TEt) (tl th : TOt) : TEt := fun τ M Q => te τ M fun x M1 => tl τ M1 fun l M2 => th τ M2 fun u M3 => r x l u M3 Q
/-- of a list: a new frozen one -/
def cSlL : D → Option Int → Option Int → MH → VD → Prop := fun x lo hi M Q => match lstOf M x with
  | some ds => Q (.lst (cutD ds lo hi)) M
  | none => False
def cSlM : D → Option Int → Option Int → MH → VD → Prop := fun x lo hi M Q => match lstOf M x with
  | some ds => ∀ p, M p = none → Q (.ref p) (mup M p (.lst (cutD ds lo hi)))
  | none => False
def cSlS : D → Option Int → Option Int → MH → VD → Prop := fun x lo hi M Q => match x with
  | .str z => z.length ≤ sizeLine ∧ Q (.str (cutS z lo hi)) M
  | _ => False
theorem Rps.cut {K : PySem.W.Frag} {F : Hp} {vs : List V} {ds : List D} {lo hi : Option Int} (r : Rps K F vs ds) : Rps K F (cutV vs lo hi) (cutD ds lo hi) := by
  unfold cutV cutD
  rw [r.length]
  exact (r.drop _).take _
section
variable {X : Cx} {E : XK} {Et : XT} {e : Expr} {te : TEt} {lo hi : Option Expr} {tl th : TOt} {pos p2 : Pos}
theorem qo_none : QO X E Et none oNo := ⟨fun pins s σ H Q I h => po_none.run pins s σ H Q I (by
  obtain ⟨G, F, M, τ, Qt, a, h, k⟩ := h
  exact k none F H M (Same.refl _) a.rel h)⟩
theorem qo_some (h : QE X E Et e te) : QO X E Et (some e) (oYes te) := ⟨fun pins s σ H Q I w => (po_some h).run pins s σ H Q I (by
  obtain ⟨G, F, M, τ, Qt, a, w, k⟩ := w
  refine ⟨G, F, M, τ, _, a, w, fun v F1 H1 M1 d s1 r1 p1 q1 => ?_⟩
  cases p1 <;> first | exact (show False from q1).elim | exact ⟨_, rfl, k _ F1 H1 M1 s1 r1 q1⟩)⟩
def lSl (K : PySem.W.Frag) (r : D → Option Int → Option Int → MH → VD → Prop) : V → Option Int → Option Int → Hp → VK → Prop := fun x lo hi H Q => ∃ G F M dx Qt, Rel K G F H M ∧ Rp K F x dx ∧ r dx lo hi M Qt ∧ ∀ v F' H' M' d, Same F F' → Rel K G F' H' M' → Rp K F' v d → Qt d M' → Q v H'
theorem q_slice {r : D → Option Int → Option Int → MH → VD → Prop} {rr : V → Option Int → Option Int → Hp → VK → Prop} (hr : SlR X rr) (hi0 : ∀ x lo hi H Q, lSl X.K r x lo hi H Q → rr x lo hi H Q) (he : QE X E Et e te) (hl : QO X E Et lo tl) (hu : QO X E Et hi th) :
    QE X E Et (.Subscript e (.Slice lo hi none p2) pos) (tSc r te tl th) := PEimp (pe_slice hr he hl hu) (by
  rintro σ H Q ⟨G, F, M, τ, Qt, a, h, k⟩
  refine ⟨G, F, M, τ, _, a, h, fun v F1 H1 M1 d s1 r1 p1 q1 => ?_⟩
  refine ⟨G, F1, M1, τ, _, a.step s1 r1, q1, fun l F2 H2 M2 s2 r2 q2 => ?_⟩
  refine ⟨G, F2, M2, τ, _, a.step (s1.trans s2) r2, q2, fun u F3 H3 M3 s3 r3 q3 => hi0 _ _ _ _ _ ?_⟩
  exact ⟨G, F3, M3, d, Qt, r3, p1.mono (s2.trans s3), q3, fun v F' H' M' d s => k v F' H' M' d (((s1.trans s2).trans s3).trans s)⟩)
theorem q_sliceL (he : QE X E Et e te) (hl : QO X E Et lo tl) (hu : QO X E Et hi th) : QE X E Et (.Subscript e (.Slice lo hi none p2) pos) (tSc cSlL te tl th) := q_slice sl_list (by
  rintro x lo hi H Q ⟨G, F, M, dx, Qt, R, p, h, k⟩
  unfold cSlL at h
  cases q : lstOf M dx with
  | none => simp only [q] at h
  | some ds =>
    simp only [q] at h
    obtain ⟨b, vs, rfl, hs, r⟩ := lst_of R p q
    refine ⟨b, vs, rfl, hs, fun p np => ?_⟩
    obtain ⟨s, r1⟩ := R.newF (o := .lst (cutV vs lo hi)) np
    exact k _ _ _ M _ s r1 (.lst upd_same (r.cut.mono s)) h) he hl hu
theorem q_sliceS (he : QE X E Et e te) (hl : QO X E Et lo tl) (hu : QO X E Et hi th) : QE X E Et (.Subscript e (.Slice lo hi none p2) pos) (tSc cSlS te tl th) := q_slice sl_str (by
  rintro x lo hi H Q ⟨G, F, M, dx, Qt, R, p, h, k⟩
  cases p <;> first | exact (show False from h).elim | exact ⟨_, rfl, h.1, k _ F H M _ (Same.refl _) R (.str _) h.2⟩) he hl hu
end
end Tl
namespace Tl
open PySem PySem.Spec PyProof.Rows L2
/-! ### a def of the text -/
def begin_ (N : List Str) (ds : List D) : Sg := ds.map some ++ List.replicate (N.length - ds.length) none
theorem sg_start {K : PySem.W.Frag} {F : Hp} {N : List Str} {vs : List V} {ds : List D} (r : Rps K F vs ds) : Sgr K F (L2.start N vs) (begin_ N ds) := by
  refine ⟨by unfold L2.start begin_; rw [List.length_append, List.length_append, List.length_map, List.length_map, List.length_replicate, List.length_replicate, r.length], fun i d e => ?_⟩
  unfold begin_ at e
  unfold L2.start
  by_cases hi : i < ds.length
  · rw [List.getElem?_append_left (by rw [List.length_map]; exact hi), List.getElem?_map] at e
    rw [List.getElem?_append_left (by rw [List.length_map, r.length]; exact hi), List.getElem?_map]
    cases q : ds[i]? with
    | none => rw [q] at e; cases e
    | some x =>
      rw [q] at e
      have ex : x = d := Option.some.inj (Option.some.inj e)
      subst ex
      obtain ⟨v, h1, h2⟩ := r.getD q
      exact ⟨v, by rw [h1]; rfl, h2⟩
  · rw [List.getElem?_append_right (by rw [List.length_map]; omega)] at e
    have := List.mem_of_getElem? e
    rw [List.mem_replicate] at this
    exact absurd this.2 (by simp)
section
variable {P : Program} {w : World} {K : PySem.W.Frag} {mg : Str → Option Value} {base : Heap} {x qual : Str} {params : Arguments} {body : List Stmt} {scope : Scope} {f : Addr} {fd : FuncData} {N ps : List Str} {k : Nat} {sp : SpT}
/-- a def that raises nothing -/
theorem fn_ok (F : He.DefD) (fd : FuncData) (hF : FunD K F.name F.qual F.params F.body F.scope [] [] f fd) (S : FnScope N ps F.scope) (len : ∀ ds M Q Et, sp ds M Q Et → ds.length = ps.length)
    (hb : ∀ (cdv : Value) (A : Around) (outer : List Env) (s : Shared) (H : Hp) (E : XK), Room k (A.deeper (envOfC F.qual F.scope s.heap.objs.size f cdv)) →
      ∃ t, QSs (cxOf CX0 P w K mg base N F.qual F.scope f cdv A outer s H E).nox E0 Et0 F.body t ∧ ∀ ds M Q Et, sp ds M Q Et → t { nx := fun _ M' => Q .non M', rt := Q } (begin_ N ds) M) : FnOk P w K mg base CX0 (k + 1) f fd ps (lSp K sp) := by
  refine hF.ok S (fun vs H Q E h => ?_) fun cdv A outer s H vs Q E hr h => ?_
  · obtain ⟨G, F, M, ds, Qt, Et, R, r, _, h, _⟩ := h
    rw [r.length]
    exact len _ _ _ _ h
  · obtain ⟨t, ht, hw⟩ := hb cdv A outer s H E hr
    obtain ⟨G, F, M, ds, Qt, Et, R, r, el, h, kk⟩ := h
    refine ⟨_, PSs.nox ht, G, F, M, begin_ N ds, { nx := fun _ M' => Qt .non M', rt := Qt }, ⟨R, sg_start r, .never⟩, ?_, hw ds M Qt Et h⟩
    exact ⟨fun F' H' M' σ τ s a q => kk .non F' H' M' .non s a.rel .non q, fun F' H' M' v d s R' p q => kk v F' H' M' d s R' p q, fun _ _ _ _ _ _ _ q => q.elim, fun _ _ _ _ _ _ _ q => q.elim⟩
end
/-! ### facts of the top -/
/-- what the head tells -/
structure Top (fa : List He.Fa) (fn : List He.DefD) (K : PySem.W.Frag) (mg : Str → Option Value) : Prop where
  says : He.SaysD fa fn K
  at_ : ∃ h : Heap, K.In h ∧ h.Ns mainGlobals mg
section
variable {fa : List He.Fa} {fn : List He.DefD} {K : PySem.W.Frag} {mg : Str → Option Value}
theorem Top.glo (T : Top fa fn K mg) (i : Nat) {x : Str} (h : fa[i]? = some (.glo x) := by rfl) : mg x = some (.ref (He.ga K x)) := by
  obtain ⟨_, X, G⟩ := T.at_
  exact He.glo_ok X G (T.says.fact i h)
theorem Top.free (T : Top fa fn K mg) (i : Nat) {x : Str} (h : fa[i]? = some (.free x) := by rfl) : mg x = none := by
  obtain ⟨_, X, G⟩ := T.at_
  exact He.free_ok X G (T.says.fact i h)
theorem Top.int (T : Top fa fn K mg) (i : Nat) {x : Str} {z : Int} (h : fa[i]? = some (.int x z) := by rfl) : ∃ t, mg x = some (.int z t) := by
  obtain ⟨_, X, G⟩ := T.at_
  exact He.int_ok X G (T.says.fact i h)
theorem Top.str (T : Top fa fn K mg) (i : Nat) {x : Str} {z : Str} (h : fa[i]? = some (.str x z) := by rfl) : ∃ t, mg x = some (.str z t) := by
  obtain ⟨_, X, G⟩ := T.at_
  exact He.str_ok X G (T.says.fact i h)
end
section
variable {P : Program} {w : World} {K : PySem.W.Frag} {mg : Str → Option Value} {base : Heap} {x : Str} {N ps : List Str} {k : Nat} {sp : SpT} {fa : List He.Fa} {fn : List He.DefD}
/-- THE RULE of a def at the top, called by its name -/
theorem fn_top (T : Top fa fn K mg) (i : Nat) (d : He.DefD) (m : mg x = some (.ref (He.ga K x))) (S : FnScope N ps d.scope) (len : ∀ ds M Q Et, sp ds M Q Et → ds.length = ps.length)
    (hb : ∀ (cdv : Value) (A : Around) (outer : List Env) (s : Shared) (H : Hp) (E : XK), Room k (A.deeper (envOfC d.qual d.scope s.heap.objs.size (He.ga K x) cdv)) →
      ∃ t, QSs (cxOf CX0 P w K mg base N d.qual d.scope (He.ga K x) cdv A outer s H E).nox E0 Et0 d.body t ∧ ∀ ds M Q Et, sp ds M Q Et → t { nx := fun _ M' => Q .non M', rt := Q } (begin_ N ds) M)
    (bd : ∀ (kV doc pm : Value) (an : Option Addr) (cdv ct : Value) (us : List Value), us.length = ps.length → bindArgs (PySem.W.fnOf d.name d.qual d.params d.body d.scope .none kV doc pm an cdv ct) ⟨us, []⟩ = pure (ps.zip us))
    (h : fn[i]? = some d := by rfl) (h0 : d.dfl = [] := by rfl) (h1 : d.kwd = [] := by rfl) (hx : He.fAd K d.at_ = He.ga K x := by rfl) : Fn P w K mg base CX0 (k + 1) x sp := by
  obtain ⟨fd, F⟩ := T.says.def_ i h
  have e0 : d.dvs K = [] := by unfold He.DefD.dvs; rw [h0]; rfl
  have e1 : d.kws K = [] := by unfold He.DefD.kws; rw [h1]; rfl
  rw [e0, e1, hx] at F
  exact ⟨⟨fd, ps, fn_ok d fd F S len hb, F.bindsN bd⟩, m, F.kp⟩
end
/-! ### kinds -/
def dTy (M : MH) : D → Option String
  | .non => some "NoneType"
  | .bl _ => some "bool"
  | .int _ => some "int"
  | .str _ => some "str"
  | .tup _ => some "tuple"
  | .tab _ => some "tuple"
  | .lst _ => some "list"
  | .ref a => match M a with
    | some (.lst _) => some "list"
    | some (.dK _) => some "dict"
    | some (.dT _) => some "dict"
    | _ => none
  | _ => none
def cIsi : RLt := fun ds M Q => match ds with
  | [x, .ty T] => match dTy M x with
    | some t => match kitB t T with
      | some b => Q (.bl b) M
      | none => False
    | none => False
  | _ => False
theorem tyX_of {K : PySem.W.Frag} {G F H : Hp} {M : MH} {v : V} {x : D} {t : String} (R : Rel K G F H M) (p : Rp K F v x) (e : dTy M x = some t) : TyX K H v (.type t) := by
  cases p with
  | non => cases e; exact .base .non
  | bl b => cases e; exact .base (.bl b)
  | int i => cases e; exact .base (.int i)
  | str z => cases e; exact .base (.str z)
  | tup h r => cases e; exact .base (.tup (R.sub _ _ h))
  | lst h r => cases e; exact .base (.lst (R.sub _ _ h))
  | tab h r =>
    cases e
    rcases SameT R.sub h with (h | ⟨o, h⟩) | ⟨o, its, n, h, hc, _⟩
    · exact .base (.tup h)
    · exact .fTuple h
    · exact .kTuple h hc
  | ref a =>
    unfold dTy at e
    cases q : M a with
    | none => simp only [q] at e; cases e
    | some o =>
      simp only [q] at e
      obtain ⟨_, u, hu, r⟩ := R.chg a o q
      cases o with
      | lst xs => cases e; cases u <;> first | exact .base (.lst hu) | exact (r : False).elim
      | dK xs => cases e; cases u <;> first | exact .base (.dK hu) | exact (r : False).elim
      | dT xs => cases e; cases u <;> first | exact .base (.dT hu) | exact (r : False).elim
      | obj => cases e
      | lk => cases e
  | _ => cases e
section
variable {X : Cx}
theorem cq_isi : CallQ X (.builtin "isinstance") cIsi := CallRimp call_isi (by
  rintro xs H Q ⟨G, F, M, ds, Qt, R, r, h, k⟩
  match ds, r, h with
  | [x, .ty T], .cons h1 (.cons (.ty _) .nil), h =>
    have h : (match dTy M x with | some t => (match kitB t T with | some b => Qt (.bl b) M | none => False) | none => False) := h
    cases e : dTy M x with
    | none => rw [e] at h; exact h.elim
    | some t =>
      rw [e] at h
      have h : (match kitB t T with | some b => Qt (.bl b) M | none => False) := h
      cases e2 : kitB t T with
      | none => rw [e2] at h; exact h.elim
      | some b =>
        rw [e2] at h
        exact ⟨_, _, _, _, b, rfl, .ty T, tyX_of R h1 e, kit_ty e2, k _ F H M _ (Same.refl _) R (.bl b) h⟩)
/-- len -/
def lenOf (M : MH) : D → Option Nat
  | .str z => if z.length ≤ sizeLine then some z.length else none
  | .tup ds => some ds.length
  | .tab ds => some ds.length
  | .lst ds => some ds.length
  | .scr ds => some ds.length
  | .ref a => match M a with
    | some (.lst ds) => some ds.length
    | _ => none
  | _ => none
def cLen : RLt := fun ds M Q => match ds with
  | [x] => match lenOf M x with
    | some n => Q (.int (n : Int)) M
    | none => False
  | _ => False
theorem lenV_of {K : PySem.W.Frag} {G F H : Hp} {M : MH} {v : V} {x : D} {n : Nat} (R : Rel K G F H M) (p : Rp K F v x) (e : lenOf M x = some n) : LenV K v H n := by
  cases p with
  | str z =>
    unfold lenOf at e
    by_cases hz : z.length ≤ sizeLine
    · simp only [if_pos hz] at e; cases e; exact ⟨hz, rfl⟩
    · simp only [if_neg hz] at e; cases e
  | tup h r => cases e; exact .inr ⟨_, SqT.of (R.sub _ _ h), by rw [r.length]⟩
  | tab h r => cases e; exact .inr ⟨_, SameT R.sub h, by rw [r.length]⟩
  | lst h r => cases e; exact .inl ⟨_, SqL.of (R.sub _ _ h), by rw [r.length]⟩
  | scr h r => cases e; exact .inl ⟨_, R.sub.seq h, by rw [r.length]⟩
  | ref a =>
    unfold lenOf at e
    cases q : M a with
    | none => simp only [q] at e; cases e
    | some o =>
      simp only [q] at e
      obtain ⟨_, u, hu, r⟩ := R.chg a o q
      cases o with
      | lst xs =>
        cases e
        cases u with
        | lst vs => exact .inl ⟨vs, SqL.of hu, by rw [Rps.length (show Rps K F vs xs from r)]⟩
        | _ => exact (r : False).elim
      | _ => cases e
  | _ => cases e
theorem cq_len : CallQ X (.builtin "len") cLen := CallRimp call_len (by
  rintro xs H Q ⟨G, F, M, ds, Qt, R, r, h, k⟩
  match ds, r, h with
  | [x], .cons h1 .nil, h =>
    have h : (match lenOf M x with | some n => Qt (.int (n : Int)) M | none => False) := h
    cases e : lenOf M x with
    | none => rw [e] at h; exact h.elim
    | some n =>
      rw [e] at h
      exact ⟨_, n, rfl, lenV_of R h1 e, k _ F H M _ (Same.refl _) R (.int _) h⟩)
/-- int of an int, of a truth -/
def cInt : RLt := fun ds M Q => match ds with
  | [.int i] => Q (.int i) M
  | [.bl b] => Q (.int (if b then 1 else 0)) M
  | _ => False
theorem cq_int : CallQ X (.type "int") cInt := CallRimp call_int1 (by
  rintro xs H Q ⟨G, F, M, ds, Qt, R, r, h, k⟩
  match ds, r, h with
  | [.int i], .cons (.int _) .nil, h => exact .inl ⟨i, rfl, k _ F H M _ (Same.refl _) R (.int _) h⟩
  | [.bl b], .cons (.bl _) .nil, h => exact .inr ⟨b, rfl, k _ F H M _ (Same.refl _) R (.int _) h⟩)
end
/-! ### methods of lists -/
abbrev RMt := D → List D → MH → VD → Prop
def lMt (K : PySem.W.Frag) (r : RMt) : V → List V → Hp → VK → Prop := fun x xs H Q => ∃ G F M dx ds Qt, Rel K G F H M ∧ Rp K F x dx ∧ Rps K F xs ds ∧ r dx ds M Qt ∧ ∀ v F' H' M' d, Same F F' → Rel K G F' H' M' → Rp K F' v d → Qt d M' → Q v H'
def tMt (r : RMt) (to : TEt) (t : TAt) : TEt := fun τ M Q => to τ M fun x M1 => (lstOf M1 x).isSome = true ∧ t τ M1 fun xs M2 => r x xs M2 Q
def tMt0 (r : RMt) (to : TEt) : TEt := fun τ M Q => to τ M fun x M1 => (lstOf M1 x).isSome = true ∧ r x [] M1 Q
theorem ty_list {K : PySem.W.Frag} {G F H : Hp} {M : MH} {v : V} {x : D} (R : Rel K G F H M) (p : Rp K F v x) (e : (lstOf M x).isSome = true) : tyV K "list" v H := by
  obtain ⟨ds, e⟩ := Option.isSome_iff_exists.mp e
  obtain ⟨a, vs, rfl, h, _⟩ := lst_of R p e
  exact .inl ⟨rfl, vs, h⟩
def mAppend : RMt := fun x xs M Q => match x, xs with
  | .ref l, [y] => match M l with
    | some (.lst ds) => ds.length < sizeLine ∧ Q .non (mup M l (.lst (ds ++ [y])))
    | _ => False
  | _, _ => False
section
variable {X : Cx} {E : XK} {Et : XT} {o e : Expr} {es : List Expr} {to : TEt} {t : TAt} {apos cpos : Pos} {name : Str} {id : String} {r : RMt} {rr : V → List V → Hp → VK → Prop}
theorem lv_bm (hi : ∀ x xs H Q, lMt X.K r x xs H Q → rr x xs H Q) : ∀ σ H Q, liftE X.K E Et (tMt r to t) σ H Q → tBM X.K "list" rr (liftE X.K E Et to) (liftA X.K E Et t) σ H Q := by
  rintro σ H Q ⟨G, F, M, τ, Qt, a, h, k⟩
  refine ⟨G, F, M, τ, _, a, h, fun v F1 H1 M1 d s1 r1 p1 q1 => ⟨ty_list r1 p1 q1.1, ?_⟩⟩
  refine ⟨G, F1, M1, τ, _, a.step s1 r1, q1.2, fun vs F2 H2 M2 ds s2 r2 p2 q2 => hi _ _ _ _ ?_⟩
  exact ⟨G, F2, M2, d, ds, Qt, r2, p1.mono s2, p2, q2, fun v F' H' M' d s => k v F' H' M' d ((s1.trans s2).trans s)⟩
theorem lv_bm0 (hi : ∀ x xs H Q, lMt X.K r x xs H Q → rr x xs H Q) : ∀ σ H Q, liftE X.K E Et (tMt0 r to) σ H Q → tBM0 X.K "list" rr (liftE X.K E Et to) σ H Q := by
  rintro σ H Q ⟨G, F, M, τ, Qt, a, h, k⟩
  refine ⟨G, F, M, τ, _, a, h, fun v F1 H1 M1 d s1 r1 p1 q1 => ⟨ty_list r1 p1 q1.1, hi _ _ _ _ ?_⟩⟩
  exact ⟨G, F1, M1, d, [], Qt, r1, p1, .nil, q1.2, fun v F' H' M' d s => k v F' H' M' d (s1.trans s)⟩
theorem q_append (ho : QE X E Et o to) (ha : QA X E Et (e :: es) t)
    (hbase : attributeBase o "append" X.env (eval o X.env) = eval o X.env := by rfl)
    (hfew : ((backTo cpos (starEach (e :: es) X.env)).all (fun x => !x.1) && (backToKw cpos (keywordEach [] X.env)).all (fun x => x.1.isSome)
      && decide ((e :: es).length + ([] : List Keyword).length + (if ([] : List Keyword).isEmpty then 0 else 1) < 30)) = true := by rfl)
    (hline : (apos.endLine == cpos.line) = true := by rfl) (hs : starEach (e :: es) X.env = (false, eval e X.env) :: starEach es X.env := by rfl) (hplain : (backTo cpos (starEach es X.env)).any (·.1) = false := by rfl) :
    QE X E Et (.Call (.Attribute o "append" apos) (e :: es) [] cpos) (tMt mAppend to t) :=
  PEimp (pe_bm PySem.F.plainAttrs_list PySem.F.slot_list_append PySem.F.type_list_append mt_append ho ha hbase hfew hline hs hplain) (lv_bm (by
    rintro x xs H Q ⟨G, F, M, dx, ds, Qt, R, p, ps, h, k⟩
    match dx, ds, p, ps, h with
    | .ref l, [y], .ref _, .cons py .nil, h =>
      have h : (match M l with | some (.lst ds) => ds.length < sizeLine ∧ Qt .non (mup M l (.lst (ds ++ [y]))) | _ => False) := h
      cases q : M l with
      | none => simp only [q] at h
      | some mo =>
        cases mo with
        | lst ds =>
          simp only [q] at h
          obtain ⟨_, u, hu, r⟩ := R.chg l _ q
          cases u with
          | lst vs =>
            have r : Rps X.K F vs ds := r
            refine ⟨l, vs, _, rfl, rfl, hu, by rw [r.length]; exact h.1, ?_⟩
            exact k .non F _ _ .non (Same.refl _) (R.put (u := .lst (vs ++ [_])) (o := .lst (ds ++ [y])) q (r.append (.cons py .nil))) .non h.2
          | _ => exact (r : False).elim
        | _ => simp only [q] at h))
end
/-! ### comprehensions -/
def wip (τ : Sg) : List Nat → Sg
  | [] => τ
  | v :: vs => (wip τ vs).set v none
theorem sg_wipe {K : PySem.W.Frag} {F : Hp} {σ : L2.St} {τ : Sg} (h : Sgr K F σ τ) : ∀ vs : List Nat, Sgr K F (wipe σ vs) (wip τ vs)
  | [] => h
  | v :: vs => by
    have := (sg_wipe h vs).unset (i := v)
    unfold wip wipe
    exact this
abbrev QTs (X : Cx) (E : XK) (Et : XT) (es : List Expr) (t : TTt) : Prop := PTs X es (liftT X.K E Et t)
def tYe : TTt := fun _ M Q => Q true M
theorem qts_nil {X : Cx} {E : XK} {Et : XT} : QTs X E Et [] tYe := ⟨fun pins s σ H Q I h => pts_nil.run pins s σ H Q I (by
  obtain ⟨G, F, M, τ, Qt, a, h, k⟩ := h
  exact k true F H M (Same.refl _) a.rel h)⟩
theorem qts_one {X : Cx} {E : XK} {Et : XT} {c : Expr} {t : TTt} (h : QT X E Et c t) : QTs X E Et [c] t := pts_one h
/-- [elt for target in iter if ..], frozen: W by the turn and what is made so far; block slots vs; own: σ2 wipes as σ -/
def tLcF (ti : TIt) (g : TGt) (tt : TTt) (te : TEt) (vs : List Nat) : TEt := fun τ M Q => ti τ M fun I M1 => I.items.length < sizeLine ∧ ∃ W : Nat → List D → MH → Prop, W 0 [] M1 ∧ (∀ i acc M, W i acc M → I.src M ∧ acc.length ≤ i) ∧
  (∀ i x acc M, I.items[i]? = some x → W i acc M → g x (wip τ vs) M fun τ2 M2 => tt τ2 M2 fun b M3 => if b = true then te τ2 M3 fun y M4 => W (i + 1) (acc ++ [y]) M4 else W (i + 1) acc M3) ∧ ∀ acc M, W I.items.length acc M → Q (.lst acc) M
theorem wipe_get (σ : L2.St) : ∀ (vs : List Nat) (i : Nat), (wipe σ vs)[i]? = if i ∈ vs then (σ[i]?).map (fun _ => none) else σ[i]?
  | [], i => by rw [if_neg (by simp)]; rfl
  | v :: vs, i => by
    unfold wipe
    by_cases hv : v = i
    · subst hv
      rw [if_pos (List.mem_cons_self ..)]
      by_cases hl : v < σ.length
      · rw [List.getElem?_set_self (by rw [wipe_length]; exact hl), List.getElem?_eq_getElem hl]
        rfl
      · rw [List.getElem?_eq_none (by rw [List.length_set, wipe_length]; omega), List.getElem?_eq_none (by omega)]
        rfl
    · rw [List.getElem?_set_ne hv, wipe_get σ vs i]
      by_cases hm : i ∈ vs
      · rw [if_pos hm, if_pos (List.mem_cons_of_mem _ hm)]
      · rw [if_neg hm, if_neg (fun q => by
          rcases List.mem_cons.mp q with q | q
          · exact hv q.symm
          · exact hm q)]
theorem wipe_set {σ : L2.St} {vs : List Nat} {j : Nat} {x : Option V} (h : j ∈ vs) : wipe (σ.set j x) vs = wipe σ vs := by
  apply List.ext_getElem?
  intro i
  rw [wipe_get, wipe_get]
  by_cases hm : i ∈ vs
  · rw [if_pos hm, if_pos hm]
    by_cases hij : j = i
    · subst hij
      by_cases hl : j < σ.length
      · rw [List.getElem?_set_self hl, List.getElem?_eq_getElem hl]
        rfl
      · rw [List.getElem?_eq_none (by rw [List.length_set]; omega), List.getElem?_eq_none (by omega)]
    · rw [List.getElem?_set_ne hij]
  · rw [if_neg hm, if_neg hm, List.getElem?_set_ne (fun q => hm (by rw [← q]; exact h))]
theorem wipe_wipe (σ : L2.St) (vs : List Nat) : wipe (wipe σ vs) vs = wipe σ vs := by
  apply List.ext_getElem?
  intro i
  rw [wipe_get]
  by_cases hm : i ∈ vs
  · rw [if_pos hm, wipe_get, if_pos hm]
    cases σ[i]? <;> rfl
  · rw [if_neg hm]
/-- a target whose stores are the block's own -/
structure GOwn (K : PySem.W.Frag) (g : TG) (gt : TGt) (vs : List Nat) : Prop where
  lift : ∀ {G F H M σ τ v d Q Qt}, At K E0 Et0 G F H M σ τ → Rp K F v d → gt d τ M Qt →
    (∀ F' H' M' σ' τ', Same F F' → At K E0 Et0 G F' H' M' σ' τ' → wipe σ' vs = wipe σ vs → Qt τ' M' → Q σ' H') → g v σ H Q
section
variable {K : PySem.W.Frag} {vs : List Nat}
theorem go_name {j : Nat} (h : j ∈ vs := by decide) : GOwn K (gName j) (gN j) vs := ⟨fun {G F H M σ τ v d Q Qt} a p q k => k F H M _ _ (Same.refl _) (a.store p) (wipe_set h) q⟩
end
section
variable {X : Cx} {E : XK} {Et : XT} {elt tg iter : Expr} {ifs : List Expr} {scope : Scope} {own : List (Str × Nat)} {pos : Pos} {ti : TIt} {g : TG} {gt : TGt} {tt : TTt} {te : TEt}
/-- what a comprehension's reading asks of the layer below; show_: what is told of the new list -/
theorem lv_lc {vs : List Nat} (go : GOwn X.K g gt vs) {R : List D → MH → V → Hp → Prop} {σ : L2.St} {H : Hp} {Q : VK} {G F : Hp} {M : MH} {τ : Sg} {Qt : VD} (a : At X.K E Et G F H M σ τ) (h : tLcF ti gt tt te vs τ M Qt)
    (k : ∀ (F' H' : Hp) (M' : MH) (p : Addr) (vacc : List V) (acc : List D), Same F F' → Rel X.K (upd G p (.lst vacc)) F' H' M' → G p = none → Rps X.K F' vacc acc → Qt (.lst acc) M' → Q (.ref p) H') :
    tLc (liftI X.K E Et ti) g (liftT X.K E0 Et0 tt) (liftE X.K E0 Et0 te) vs σ H Q := by
  refine ⟨G, F, M, τ, _, a, h, fun J I F1 H1 M1 s1 r1 ok q1 => ?_⟩
  obtain ⟨hz, W, w0, ws, turn, done⟩ := q1
  intro Dl hD
  have hG : G Dl = none := r1.freeG hD
  refine ⟨fun i m H => m = I.items.length - i ∧ i ≤ I.items.length ∧ ∃ F' M' vacc acc, Same F1 F' ∧ Rel X.K (upd G Dl (.lst vacc)) F' H M' ∧ Rps X.K F' vacc acc ∧ W i acc M', ⟨_, rfl, Nat.zero_le _, F1, M1, [], [], Same.refl _, r1.newG hD, .nil, w0⟩, ?_⟩
  rintro i m H2 ⟨rfl, hi, F2, M2, vacc, acc, s2, r2, p2, hw⟩
  obtain ⟨hsrc, hlen⟩ := ws i acc M2 hw
  by_cases hlt : i < I.items.length
  · have hx : I.items[i]? = some I.items[i] := List.getElem?_eq_getElem hlt
    refine .inr ⟨ok.go i _ F2 H2 M2 _ s2 r2 hsrc hx, fun H' => ∃ F' M' vacc acc, Same F1 F' ∧ Rel X.K (upd G Dl (.lst vacc)) F' H' M' ∧ Rps X.K F' vacc acc ∧ W (i + 1) acc M', fun H' z => ⟨I.items.length - (i + 1), by omega, rfl, hlt, z⟩, fun v H3 y => ?_⟩
    obtain ⟨F3, s3, r3, p3⟩ := ok.yld i _ F2 H2 M2 _ v H3 s2 r2 hsrc hx y
    have a3 : At X.K E0 Et0 (upd G Dl (.lst vacc)) F3 H3 M2 (wipe σ vs) (wip τ vs) := ⟨r3, sg_wipe (a.sg.mono ((s1.trans s2).trans s3)) vs, .never⟩
    refine go.lift a3 p3 (turn i _ acc M2 hx hw) fun F4 H4 M4 σ4 τ4 s4 a4 e4 q4 => ⟨e4.trans (wipe_wipe σ vs), ?_⟩
    refine ⟨_, F4, M4, τ4, _, a4, q4, fun b F5 H5 M5 s5 r5 q5 => ?_⟩
    cases b with
    | true =>
      rw [if_pos rfl] at q5 ⊢
      refine ⟨_, F5, M5, τ4, _, a4.step s5 r5, q5, fun y F6 H6 M6 d s6 r6 p6 q6 => ?_⟩
      refine ⟨vacc, (r6.hid Dl _ upd_same).1, by rw [p2.length]; omega, F6, M6, vacc ++ [y], acc ++ [d], ((((s2.trans s3).trans s4).trans s5).trans s6), r6.putG, (p2.mono (((s3.trans s4).trans s5).trans s6)).append (.cons p6 .nil), q6⟩
    | false =>
      rw [if_neg Bool.false_ne_true] at q5 ⊢
      exact ⟨F5, M5, vacc, acc, ((s2.trans s3).trans s4).trans s5, r5, p2.mono ((s3.trans s4).trans s5), q5⟩
  · have e : i = I.items.length := by omega
    subst e
    exact .inl ⟨ok.stop _ _ F2 H2 M2 s2 r2 hsrc (Nat.le_refl _), k F2 H2 M2 Dl vacc acc (s1.trans s2) r2 hG p2 (done acc M2 hw)⟩
theorem lv_lcF {vs : List Nat} (go : GOwn X.K g gt vs) : ∀ σ H Q, liftE X.K E Et (tLcF ti gt tt te vs) σ H Q → tLc (liftI X.K E Et ti) g (liftT X.K E0 Et0 tt) (liftE X.K E0 Et0 te) vs σ H Q := by
  rintro σ H Q ⟨G, F, M, τ, Qt, a, h, k⟩
  refine lv_lc (R := fun _ _ _ _ => True) go a h fun F' H' M' p vacc acc s r hg ps q => ?_
  obtain ⟨s2, r2⟩ := r.showF hg
  exact k _ _ H' M' _ (s.trans s2) r2 (.lst upd_same (ps.mono s2)) q
/-- a changing list -/
def tLcV (ti : TIt) (g : TGt) (tt : TTt) (te : TEt) (vs : List Nat) : TEt := fun τ M Q => tLcF ti g tt te vs τ M fun d M1 => match d with
  | .lst acc => ∀ p, M1 p = none → Q (.ref p) (mup M1 p (.lst acc))
  | _ => False
theorem lv_lcV {vs : List Nat} (go : GOwn X.K g gt vs) : ∀ σ H Q, liftE X.K E Et (tLcV ti gt tt te vs) σ H Q → tLc (liftI X.K E Et ti) g (liftT X.K E0 Et0 tt) (liftE X.K E0 Et0 te) vs σ H Q := by
  rintro σ H Q ⟨G, F, M, τ, Qt, a, h, k⟩
  refine lv_lc (R := fun _ _ _ _ => True) go a h fun F' H' M' p vacc acc s r hg ps q => ?_
  have hm : M' p = none := (r.hid p _ upd_same).2.2
  exact k _ F' H' _ _ s (r.showM (u := .lst vacc) (o := .lst acc) hg ps) (.ref p) (q p hm)
theorem q_lc (hc : X.calm = true) (hN : X.N.Nodup) (hi : QI X E Et tg iter ti) (ok : BlkOk X.N X.env.scope scope own) (go : GOwn X.K g gt (own.map (·.2)))
    (hg : ∀ (s : Shared) (H : Hp) (C : Addr) (cl : List (Str × Addr)) (fp : List Addr), PG (X.blk s H scope (compEnvC scope cl C X.env) fp) tg g) (ht : ∀ (s : Shared) (H : Hp) (C : Addr) (cl : List (Str × Addr)) (fp : List Addr), QTs (X.blk s H scope (compEnvC scope cl C X.env) fp) E0 Et0 ifs tt)
    (he : ∀ (s : Shared) (H : Hp) (C : Addr) (cl : List (Str × Addr)) (fp : List Addr), QE (X.blk s H scope (compEnvC scope cl C X.env) fp) E0 Et0 elt te) (hs : ∀ x, foldedSetIterable iter X.env x = pure x := by intro _; rfl) :
    QE X E Et (.ListComp elt [⟨tg, iter, ifs, 0⟩] scope pos) (tLcF ti gt tt te (own.map (·.2))) := PEimp (pe_lc hc hN hi ok hg ht he hs) (lv_lcF go)
/-- x = [..] -/
theorem qs_setLc {i : Nat} {y : Str} {py spos : Pos} {tl : TEt} (lv : ∀ σ H Q, liftE X.K E Et tl σ H Q → tLc (liftI X.K E Et ti) g (liftT X.K E0 Et0 tt) (liftE X.K E0 Et0 te) (own.map (·.2)) σ H Q) (hc : X.calm = true) (hN : X.N.Nodup) (hi : QI X E Et tg iter ti) (ok : BlkOk X.N X.env.scope scope own)
    (hg : ∀ (s : Shared) (H : Hp) (C : Addr) (cl : List (Str × Addr)) (fp : List Addr), PG (X.blk s H scope (compEnvC scope cl C X.env) fp) tg g) (ht : ∀ (s : Shared) (H : Hp) (C : Addr) (cl : List (Str × Addr)) (fp : List Addr), QTs (X.blk s H scope (compEnvC scope cl C X.env) fp) E0 Et0 ifs tt)
    (he : ∀ (s : Shared) (H : Hp) (C : Addr) (cl : List (Str × Addr)) (fp : List Addr), QE (X.blk s H scope (compEnvC scope cl C X.env) fp) E0 Et0 elt te)
    (hsw : swapsWith (.ListComp elt [⟨tg, iter, ifs, 0⟩] scope pos) (some (.Name y py)) spos.line X.env = pure true) (hy : X.N[i]? = some y := by rfl) (hyl : X.env.scope.names.lookup y = some .local := by rfl) (hs : ∀ x, foldedSetIterable iter X.env x = pure x := by intro _; rfl) :
    QS X E Et (.Assign [.Name y py] (.ListComp elt [⟨tg, iter, ifs, 0⟩] scope pos) spos) (sAs tl (gN i)) := PSimp (ps_setLc hc hN hy hyl hsw hi ok hg ht he hs) (by
  rintro D σ H ⟨G, F, M, τ, Dt, a, en, h⟩
  refine lv _ _ _ ⟨G, F, M, τ, _, a, h, fun v F1 H1 M1 d s1 r1 p1 q1 => ?_⟩
  exact en.nx F1 H1 M1 _ _ s1 ((a.step s1 r1).store p1) q1)
end
/-! ### the law's end -/
def spLaw : SpT := fun ds M Q _ => ∃ ns : List Int, ds = [.scr (ns.map D.int)] ∧ ns.length ≤ 63 ∧ ∀ M', Q (.bl true) M'
theorem rps_ints {K : PySem.W.Frag} {F : Hp} : ∀ ns : List Int, Rps K F (ns.map V.int) (ns.map D.int)
  | [] => .nil
  | n :: ns => .cons (.int n) (rps_ints ns)
theorem end_sp {K : PySem.W.Frag} {sp : SpT} {H : Hp} {a : Addr} {ns : List Int} (hS : SqL K H a (ns.map V.int)) (h : sp [.scr (ns.map D.int)] (fun _ => none) (fun d _ => d = .bl true) Et0) :
    lSp K sp [.ref a] H (fun v _ => v = .bl true) fun _ _ _ => False :=
  ⟨fun _ => none, H, fun _ => none, _, _, Et0, ⟨Same.refl _, fun _ _ e => (nomatch (show (none : Option MO) = some _ from e)), fun _ _ e => (nomatch (show (none : Option HO) = some _ from e)), fun _ _ e => (nomatch (show (none : Option HO) = some _ from e))⟩, .cons (.scr hS (rps_ints ns)) .nil, .never, h, fun v F' H' M' d _ _ p q => by
    subst q
    exact p.bl_inv⟩
end Tl
namespace Tl
open PySem PySem.Spec PyProof.Rows L2
theorem kit_ii : kitB "int" "int" = some true := by decide +kernel
theorem kit_ib : kitB "int" "bool" = some false := by decide +kernel
theorem kit_bi : kitB "bool" "int" = some true := by decide +kernel
theorem kit_bb : kitB "bool" "bool" = some true := by decide +kernel
theorem kit_si : kitB "str" "int" = some false := by decide +kernel
theorem kit_ss : kitB "str" "str" = some true := by decide +kernel
theorem kit_is : kitB "int" "str" = some false := by decide +kernel
theorem kit_tt : kitB "tuple" "tuple" = some true := by decide +kernel
theorem kit_ll : kitB "list" "list" = some true := by decide +kernel
theorem kit_lt : kitB "list" "tuple" = some false := by decide +kernel
theorem kit_tl : kitB "tuple" "list" = some false := by decide +kernel
theorem kit_ts : kitB "tuple" "str" = some false := by decide +kernel
theorem kit_ls : kitB "list" "str" = some false := by decide +kernel
theorem kit_sl : kitB "str" "list" = some false := by decide +kernel
theorem kit_st : kitB "str" "tuple" = some false := by decide +kernel
theorem kit_it : kitB "int" "tuple" = some false := by decide +kernel
theorem kit_il : kitB "int" "list" = some false := by decide +kernel
theorem kit_dd : kitB "dict" "dict" = some true := by decide +kernel
theorem kit_ni : kitB "NoneType" "int" = some false := by decide +kernel
theorem kit_nb : kitB "NoneType" "bool" = some false := by decide +kernel
/-! ### written things, however many -/
def lit : Expr → Option D
  | .Constant (.int i) _ _ => some (.int i)
  | .Constant (.str x) _ _ => some (.str x)
  | .Constant (.bool b) _ _ => some (.bl b)
  | .Constant .none _ _ => some .non
  | .UnaryOp .USub (.Constant (.int i) _ _) _ => some (.int (-i))
  | _ => none
def litAll : List Expr → Option (List D)
  | [] => some []
  | e :: es => match lit e with
    | some d => match litAll es with
      | some ds => some (d :: ds)
      | none => none
    | none => none
def tLt (ds : List D) : TAt := fun _ M Q => Q ds M
section
variable {X : Cx} {E : XK} {Et : XT}
theorem q_lit {e : Expr} {d : D} (h : lit e = some d) : QE X E Et e (tK d) := by
  unfold lit at h
  split at h
  · cases h; exact q_int
  · cases h; exact q_str
  · cases h; exact q_bl
  · cases h; exact q_non
  · cases h
    exact PEimp (q_un uq_neg q_int) (fun σ H Q h => h)
  · cases h
theorem lit_star {e : Expr} {es : List Expr} {d : D} {env : Env} (h : lit e = some d) : starEach (e :: es) env = (false, eval e env) :: starEach es env := by
  unfold lit at h
  split at h <;> first | rfl | cases h
theorem qa_lits : ∀ {es : List Expr} {ds : List D}, litAll es = some ds → QA X E Et es (tLt ds)
  | [], ds, h => by
    cases h
    exact qa_nil
  | e :: es, ds, h => by
    unfold litAll at h
    cases h1 : lit e with
    | none => simp only [h1] at h; cases h
    | some d =>
      simp only [h1] at h
      cases h2 : litAll es with
      | none => simp only [h2] at h; cases h
      | some ds' =>
        simp only [h2] at h
        cases h
        exact PAimp (qa_cons (q_lit h1) (qa_lits h2) (lit_star h1)) (fun σ H Q h => h)
end
end Tl
namespace Tl
open PySem PySem.Spec PyProof.Rows L2
/-! ### // and % by any divisor, divmod -/
def CDivZ (_ j : Int) : Prop := j ≠ 0 ∧ j.natAbs.log2 < 9000
section
variable {X : Cx}
def cDivmod : RLt := fun ds M Q => match ds with
  | [.int i, .int j] => CDivZ i j ∧ Q (.tup [.int (i.fdiv j), .int (i.fmod j)]) M
  | _ => False
/-! ### list(x), sum, max, min, all, any -/
/-- the items of a list or a tuple -/
def seqOf (M : MH) (d : D) : Option (List D) := match tupOf d with
  | some ds => some ds
  | none => lstOf M d
theorem seq_of {K : PySem.W.Frag} {G F H : Hp} {M : MH} {v : V} {d : D} {ds : List D} (R : Rel K G F H M) (p : Rp K F v d) (e : seqOf M d = some ds) : ∃ a vs, v = .ref a ∧ (SqL K H a vs ∨ SqT K H a vs) ∧ Rps K F vs ds := by
  unfold seqOf at e
  cases q : tupOf d with
  | some es =>
    rw [q] at e
    cases e
    obtain ⟨a, vs, h1, h2, h3⟩ := tup_of R p q
    exact ⟨a, vs, h1, .inr h2, h3⟩
  | none =>
    rw [q] at e
    obtain ⟨a, vs, h1, h2, h3⟩ := lst_of R p e
    exact ⟨a, vs, h1, .inl h2, h3⟩
def cList : RLt := fun ds M Q => match ds with
  | [x] => match seqOf M x with
    | some es => Q (.lst es) M
    | none => False
  | _ => False
def cListM : RLt := fun ds M Q => match ds with
  | [x] => match seqOf M x with
    | some es => ∀ p, M p = none → Q (.ref p) (mup M p (.lst es))
    | none => False
  | _ => False
/-- a list of whole numbers -/
def intsD : List D → Option (List Int)
  | [] => some []
  | .int i :: r => match intsD r with
    | some is => some (i :: is)
    | none => none
  | _ => none
theorem intsD_map : ∀ is : List Int, intsD (is.map D.int) = some is
  | [] => rfl
  | i :: is => by simp only [List.map_cons, intsD, intsD_map is]
def intLst (M : MH) (d : D) : Option (List Int) := match lstOf M d with
  | some ds => intsD ds
  | none => none
def cSum : RLt := fun ds M Q => match ds with
  | [x] => match intLst M x with
    | some is => Q (.int is.sum) M
    | none => False
  | _ => False
def cMax : RLt := fun ds M Q => match ds with
  | [x] => match intLst M x with
    | some is => 0 < is.length ∧ ∀ m, m ∈ is → (∀ y, y ∈ is → y ≤ m) → Q (.int m) M
    | none => False
  | _ => False
def cMin : RLt := fun ds M Q => match ds with
  | [x] => match intLst M x with
    | some is => 0 < is.length ∧ ∀ m, m ∈ is → (∀ y, y ∈ is → m ≤ y) → Q (.int m) M
    | none => False
  | _ => False
def cMax2 : RLt := fun ds M Q => match ds with
  | [.int i, .int j] => Q (.int (if j > i then j else i)) M
  | _ => False
def cMin2 : RLt := fun ds M Q => match ds with
  | [.int i, .int j] => Q (.int (if j < i then j else i)) M
  | _ => False
theorem cq_max2 (hc : X.calm = true) : CallQ X (.builtin "max") cMax2 := CallRimp (call_max2 hc) (by
  rintro xs H Q ⟨G, F, M, ds, Qt, R, r, h, k⟩
  match ds, r, h with
  | [.int i, .int j], .cons (.int _) (.cons (.int _) .nil), h => exact ⟨i, j, rfl, k _ F H M _ (Same.refl _) R (.int _) h⟩)
theorem cq_min2 (hc : X.calm = true) : CallQ X (.builtin "min") cMin2 := CallRimp (call_min2 hc) (by
  rintro xs H Q ⟨G, F, M, ds, Qt, R, r, h, k⟩
  match ds, r, h with
  | [.int i, .int j], .cons (.int _) (.cons (.int _) .nil), h => exact ⟨i, j, rfl, k _ F H M _ (Same.refl _) R (.int _) h⟩)
def cAbs : RLt := fun ds M Q => match ds with
  | [.int i] => Q (.int (if i < 0 then -i else i)) M
  | _ => False
/-- a list of truths -/
def blsD : List D → Option (List Bool)
  | [] => some []
  | .bl i :: r => match blsD r with
    | some is => some (i :: is)
    | none => none
  | _ => none
theorem blsD_map : ∀ is : List Bool, blsD (is.map D.bl) = some is
  | [] => rfl
  | i :: is => by simp only [List.map_cons, blsD, blsD_map is]
theorem bls_of {K : PySem.W.Frag} {F : Hp} : ∀ {vs : List V} {ds : List D} {is : List Bool}, Rps K F vs ds → blsD ds = some is → vs = is.map V.bl
  | _, _, _, .nil, e => by cases e; rfl
  | _, _, _, .cons (.bl i) t, e => by
    unfold blsD at e
    split at e
    · rename_i is' q
      cases e
      rw [bls_of t q]; rfl
    · cases e
  | _, _, _, .cons .non _, e => by cases e
  | _, _, _, .cons (.int _) _, e => by cases e
  | _, _, _, .cons (.str _) _, e => by cases e
  | _, _, _, .cons (.ty _) _, e => by cases e
  | _, _, _, .cons (.ref _) _, e => by cases e
  | _, _, _, .cons (.tup _ _) _, e => by cases e
  | _, _, _, .cons (.tab _ _) _, e => by cases e
  | _, _, _, .cons (.scr _ _) _, e => by cases e
  | _, _, _, .cons (.lst _ _) _, e => by cases e
def blLst (M : MH) (d : D) : Option (List Bool) := match lstOf M d with
  | some ds => blsD ds
  | none => none
theorem blLst_of {K : PySem.W.Frag} {G F H : Hp} {M : MH} {v : V} {d : D} {is : List Bool} (R : Rel K G F H M) (p : Rp K F v d) (e : blLst M d = some is) : ∃ a, v = .ref a ∧ SqL K H a (is.map V.bl) := by
  unfold blLst at e
  cases q : lstOf M d with
  | none => rw [q] at e; cases e
  | some ds =>
    rw [q] at e
    obtain ⟨a, vs, rfl, hs, r⟩ := lst_of R p q
    rw [bls_of r e] at hs
    exact ⟨a, rfl, hs⟩
def cAny : RLt := fun ds M Q => match ds with
  | [x] => match blLst M x with
    | some is => Q (.bl (is.any id)) M
    | none => False
  | _ => False
def cAll : RLt := fun ds M Q => match ds with
  | [x] => match blLst M x with
    | some is => Q (.bl (is.all id)) M
    | none => False
  | _ => False
theorem cq_any (hc : X.calm = true) : CallQ X (.builtin "any") cAny := CallRimp (cr_any hc) (by
  rintro xs H Q ⟨G, F, M, ds, Qt, R, r, h, k⟩
  match ds, r, h with
  | [x], .cons h1 .nil, h =>
    have h : (match blLst M x with | some is => Qt (.bl (is.any id)) M | none => False) := h
    cases e : blLst M x with
    | none => rw [e] at h; exact h.elim
    | some is =>
      rw [e] at h
      obtain ⟨a, rfl, hs⟩ := blLst_of R h1 e
      exact ⟨a, is, rfl, hs, k _ F H M _ (Same.refl _) R (.bl _) h⟩)
theorem cq_all (hc : X.calm = true) : CallQ X (.builtin "all") cAll := CallRimp (cr_all hc) (by
  rintro xs H Q ⟨G, F, M, ds, Qt, R, r, h, k⟩
  match ds, r, h with
  | [x], .cons h1 .nil, h =>
    have h : (match blLst M x with | some is => Qt (.bl (is.all id)) M | none => False) := h
    cases e : blLst M x with
    | none => rw [e] at h; exact h.elim
    | some is =>
      rw [e] at h
      obtain ⟨a, rfl, hs⟩ := blLst_of R h1 e
      exact ⟨a, is, rfl, hs, k _ F H M _ (Same.refl _) R (.bl _) h⟩)
end
/-! ### enumerate, zip, range with a step, a text sign by sign -/
def enumD (xs : List D) : List D := xs.mapIdx fun i x => .tup [.int (i : Nat), x]
def zipD (xs ys : List D) : List D := List.zipWith (fun x y => .tup [x, y]) xs ys
def iEn (ta : TAt) : TIt := fun τ M Q => ta τ M fun ds M1 => match ds with
  | [d] => match lstOf M1 d with
    | some xs => Q ⟨enumD xs, fun M => lstOf M d = some xs⟩ M1
    | none => False
  | _ => False
def iZi (ta : TAt) : TIt := fun τ M Q => ta τ M fun ds M1 => match ds with
  | [d, e] => match lstOf M1 d with
    | some xs => match lstOf M1 e with
      | some ys => Q ⟨zipD xs ys, fun M => lstOf M d = some xs ∧ lstOf M e = some ys⟩ M1
      | none => False
    | none => False
  | _ => False
def iR3 (ta : TAt) : TIt := fun τ M Q => ta τ M fun ds M1 => match ds with
  | [.int i, .int j, .int c] => ∃ n, RgC i j c n ∧ Q ⟨(List.range n).map fun k => .int (i + (k : Nat) * c), fun _ => True⟩ M1
  | _ => False
def iSt (te : TEt) : TIt := fun τ M Q => te τ M fun d M1 => match d with
  | .str z => Q ⟨z.cps.toList.map fun c => .str ⟨#[c]⟩, fun _ => True⟩ M1
  | _ => False
def iRv (ta : TAt) : TIt := fun τ M Q => ta τ M fun ds M1 => match ds with
  | [d] => match lstOf M1 d with
    | some xs => Q ⟨xs.reverse, fun M => lstOf M d = some xs⟩ M1
    | none => False
  | _ => False
section
variable {X : Cx} {E : XK} {Et : XT} {pos p tpos : Pos} {elts : List Expr} {kk : Nat} {tg e e2 : Expr} {ta : TAt} {te : TEt}
theorem itOk_rangeC {K : PySem.W.Frag} {F0 : Hp} {lo c : Int} {n : Nat} : ItOk K F0 (Itc lo c n) ⟨(List.range n).map fun k => .int (lo + (k : Nat) * c), fun _ => True⟩ where
  go := fun i G F H M x s R _ hx => (range_at hx).1
  yld := fun i G F H M x v H' s R _ hx y => by
    obtain ⟨rfl, rfl⟩ := y
    obtain ⟨_, rfl⟩ := range_at hx
    exact ⟨F, Same.refl _, R, .int _⟩
  stop := fun i G F H M s R _ hl => by
    rw [List.length_map, List.length_range] at hl
    exact hl
theorem qi_range3 {a b c : Expr} (hm : X.mg "range" = none) (ha : QA X E Et [a, b, c] ta) (hg : Gl X "range" := by rfl)
    (hs : starEach [a, b, c] X.env = (false, eval a X.env) :: starEach [b, c] X.env := by rfl) (hpl : (backTo pos (starEach [b, c] X.env)).any (·.1) = false := by rfl) : QI X E Et tg (.Call (.Name "range" p) [a, b, c] [] pos) (iR3 ta) := by
  refine ⟨fun pins s σ H R I h => (pi_range3 hg hm ha hs hpl).run pins s σ H R I ?_⟩
  obtain ⟨G, F, M, τ, Qt, a, h, k⟩ := h
  refine ⟨G, F, M, τ, _, a, h, fun vs F1 H1 M1 ds s1 r1 p1 q1 => ?_⟩
  match ds, p1, q1 with
  | [.int i, .int j, .int c], .cons h1 (.cons h2 (.cons h3 .nil)), q1 =>
    cases h1
    cases h2
    cases h3
    obtain ⟨n, b, q1⟩ := q1
    exact ⟨i, j, c, n, rfl, b, k _ _ F1 H1 M1 s1 r1 itOk_rangeC q1⟩
theorem itOk_str {K : PySem.W.Frag} {F0 : Hp} {z : Str} : ItOk K F0 (L2.Its z) ⟨z.cps.toList.map fun c => .str ⟨#[c]⟩, fun _ => True⟩ where
  go := fun i G F H M x s R _ hx => by
    have := (List.getElem?_eq_some_iff.mp hx).1
    rw [List.length_map] at this
    show i < z.cps.size
    simpa using this
  yld := fun i G F H M x v H' s R _ hx y => by
    obtain ⟨rfl, c, hc, rfl⟩ := y
    have hx : (z.cps.toList.map fun c => D.str ⟨#[c]⟩)[i]? = some x := hx
    rw [List.getElem?_map, Array.getElem?_toList, hc] at hx
    cases hx
    exact ⟨F, Same.refl _, R, .str _⟩
  stop := fun i G F H M s R _ hl => by
    have hl : (z.cps.toList.map fun c => D.str ⟨#[c]⟩).length ≤ i := hl
    rw [List.length_map] at hl
    show z.cps.size ≤ i
    simpa using hl
theorem qi_str (he : QE X E Et e te) : QI X E Et tg e (iSt te) := by
  refine ⟨fun pins s σ H R I h => (pi_str he).run pins s σ H R I ?_⟩
  obtain ⟨G, F, M, τ, Qt, a, h, k⟩ := h
  refine ⟨G, F, M, τ, _, a, h, fun v F1 H1 M1 d s1 r1 p1 q1 => ?_⟩
  cases p1 <;> first | exact (show False from q1).elim | exact ⟨_, rfl, k _ _ F1 H1 M1 s1 r1 itOk_str q1⟩
end
/-! ### list methods, stores -/
/-- a list of the program's own, frozen or not -/
def trkOf (M : MH) : D → Option (List D)
  | .lst ds => some ds
  | .ref a => match M a with
    | some (.lst ds) => some ds
    | _ => none
  | _ => none
theorem trk_of {K : PySem.W.Frag} {G F H : Hp} {M : MH} {v : V} {d : D} {ds : List D} (R : Rel K G F H M) (p : Rp K F v d) (e : trkOf M d = some ds) : ∃ a vs, v = .ref a ∧ H a = some (.lst vs) ∧ Rps K F vs ds := by
  cases p with
  | lst h r =>
    cases e
    exact ⟨_, _, rfl, R.sub _ _ h, r⟩
  | ref a =>
    unfold trkOf at e
    cases q : M a with
    | none => simp only [q] at e; cases e
    | some o =>
      simp only [q] at e
      obtain ⟨_, u, hu, r⟩ := R.chg a o q
      cases o with
      | lst xs =>
        cases e
        cases u with
        | lst vs => exact ⟨a, vs, rfl, hu, r⟩
        | _ => exact (r : False).elim
      | _ => cases e
  | _ => cases e
def mExtend : RMt := fun x xs M Q => match x, xs with
  | .ref l, [y] => match M l with
    | some (.lst ds) => match trkOf M y with
      | some es => ds.length + es.length ≤ sizeLine ∧ Q .non (mup M l (.lst (ds ++ es)))
      | none => False
    | _ => False
  | _, _ => False
def mPop : RMt := fun x xs M Q => match x, xs with
  | .ref l, [] => match M l with
    | some (.lst ds) => match ds.getLast? with
      | some y => Q y (mup M l (.lst ds.dropLast))
      | none => False
    | _ => False
  | _, _ => False
section
variable {X : Cx} {E : XK} {Et : XT} {o e : Expr} {es : List Expr} {to : TEt} {t : TAt} {apos cpos : Pos}
theorem chg_lst {K : PySem.W.Frag} {G F H : Hp} {M : MH} {l : Addr} {ds : List D} (R : Rel K G F H M) (q : M l = some (.lst ds)) : ∃ vs, H l = some (.lst vs) ∧ Rps K F vs ds := by
  obtain ⟨_, u, hu, r⟩ := R.chg l _ q
  cases u with
  | lst vs => exact ⟨vs, hu, r⟩
  | _ => exact (r : False).elim
theorem q_extend (ho : QE X E Et o to) (ha : QA X E Et (e :: es) t)
    (hbase : attributeBase o "extend" X.env (eval o X.env) = eval o X.env := by rfl)
    (hfew : ((backTo cpos (starEach (e :: es) X.env)).all (fun x => !x.1) && (backToKw cpos (keywordEach [] X.env)).all (fun x => x.1.isSome)
      && decide ((e :: es).length + ([] : List Keyword).length + (if ([] : List Keyword).isEmpty then 0 else 1) < 30)) = true := by rfl)
    (hline : (apos.endLine == cpos.line) = true := by rfl) (hs : starEach (e :: es) X.env = (false, eval e X.env) :: starEach es X.env := by rfl) (hplain : (backTo cpos (starEach es X.env)).any (·.1) = false := by rfl) :
    QE X E Et (.Call (.Attribute o "extend" apos) (e :: es) [] cpos) (tMt mExtend to t) :=
  PEimp (pe_bm PySem.F.plainAttrs_list PySem.F.slot_list_extend PySem.F.type_list_extend mt_extend ho ha hbase hfew hline hs hplain) (lv_bm (by
    rintro x xs H Q ⟨G, F, M, dx, ds, Qt, R, p, ps, h, k⟩
    match dx, ds, p, ps, h with
    | .ref l, [y], .ref _, .cons py .nil, h =>
      have h : (match M l with | some (.lst ds) => (match trkOf M y with | some es => ds.length + es.length ≤ sizeLine ∧ Qt .non (mup M l (.lst (ds ++ es))) | none => False) | _ => False) := h
      cases q : M l with
      | none => simp only [q] at h
      | some mo =>
        cases mo with
        | lst ds =>
          simp only [q] at h
          obtain ⟨vs, hu, r⟩ := chg_lst R q
          cases qb : trkOf M y with
          | none => rw [qb] at h; exact h.elim
          | some es =>
            rw [qb] at h
            obtain ⟨b, ws, rfl, hb, rb⟩ := trk_of R py qb
            refine ⟨l, b, vs, ws, rfl, rfl, hu, hb, by rw [r.length, rb.length]; exact h.1, ?_⟩
            exact k .non F _ _ .non (Same.refl _) (R.put (u := .lst (vs ++ ws)) (o := .lst (ds ++ es)) q (r.append rb)) .non h.2
        | _ => simp only [q] at h))
theorem q_pop (ho : QE X E Et o to) (hbase : attributeBase o "pop" X.env (eval o X.env) = eval o X.env := by rfl) (hline : (apos.endLine == cpos.line) = true := by rfl) : QE X E Et (.Call (.Attribute o "pop" apos) [] [] cpos) (tMt0 mPop to) :=
  PEimp (pe_bm0 PySem.F.plainAttrs_list PySem.F.slot_list_pop PySem.F.type_list_pop mt_pop ho hbase hline) (lv_bm0 (by
    rintro x xs H Q ⟨G, F, M, dx, ds, Qt, R, p, ps, h, k⟩
    match dx, ds, p, ps, h with
    | .ref l, [], .ref _, .nil, h =>
      have h : (match M l with | some (.lst ds) => (match ds.getLast? with | some y => Qt y (mup M l (.lst ds.dropLast)) | none => False) | _ => False) := h
      cases q : M l with
      | none => simp only [q] at h
      | some mo =>
        cases mo with
        | lst ds =>
          simp only [q] at h
          obtain ⟨vs, hu, r⟩ := chg_lst R q
          cases q2 : ds.getLast? with
          | none => rw [q2] at h; exact h.elim
          | some y =>
            rw [q2] at h
            rw [List.getLast?_eq_getElem?] at q2
            obtain ⟨v, hv, rv⟩ := r.getD q2
            refine ⟨l, vs, v, rfl, rfl, hu, by rw [r.length]; exact hv, ?_⟩
            exact k v F _ _ y (Same.refl _) (R.put (u := .lst vs.dropLast) (o := .lst ds.dropLast) q r.dropLast) rv h
        | _ => simp only [q] at h))
/-- l[i] = v -/
def zList : TSett := fun o i v M Q => match o, i with
  | .ref l, .int k => match M l with
    | some (.lst ds) => match ixN ds.length k with
      | some j => Q (mup M l (.lst (ds.set j v)))
      | none => False
    | _ => False
  | _, _ => False
theorem sq_list : PSet X (lSet X.K zList) := by
  intro pins s σ H o i v ov iv u Q I ro ri rv h
  obtain ⟨G, F, M, od, idd, vd, Qt, R, po, pi, pv, h, k⟩ := h
  match od, idd, po, pi, h with
  | .ref l, .int z, .ref _, .int _, h =>
    have h : (match M l with | some (.lst ds) => (match ixN ds.length z with | some j => Qt (mup M l (.lst (ds.set j vd))) | none => False) | _ => False) := h
    cases q : M l with
    | none => simp only [q] at h
    | some mo =>
      cases mo with
      | lst ds =>
        simp only [q] at h
        obtain ⟨vs, hu, r⟩ := chg_lst R q
        cases q2 : ixN ds.length z with
        | none => rw [q2] at h; exact h.elim
        | some j =>
          rw [q2] at h
          refine set_list pins s σ H _ _ v ov iv u Q I ro ri rv ⟨l, vs, z, j, rfl, rfl, hu, by rw [r.length]; exact q2, ?_⟩
          exact k F _ _ (Same.refl _) (R.put (u := .lst (vs.set j v)) (o := .lst (ds.set j vd)) q (r.set pv j)) h
      | _ => simp only [q] at h
end
end Tl
namespace Tl
open PySem PySem.Spec PyProof.Rows L2
/-! ### the readings, unfolded as far as the values are known -/
def oBl (x : D) (k : Bool → Prop) : Prop := match x with
  | .bl c => k c
  | _ => False
def oInt (x : D) (k : Int → Prop) : Prop := match x with
  | .int c => k c
  | _ => False
def oStr (x : D) (k : Str → Prop) : Prop := match x with
  | .str c => k c
  | _ => False
def oTup (x : D) (k : List D → Prop) : Prop := match x with
  | .tup c => k c
  | _ => False
def oSome {α : Type} (x : Option α) (k : α → Prop) : Prop := match x with
  | some c => k c
  | none => False
theorem oBl_i {c : Bool} {k : Bool → Prop} : oBl (.bl c) k = k c := propext Iff.rfl
theorem oInt_i {c : Int} {k : Int → Prop} : oInt (.int c) k = k c := propext Iff.rfl
theorem oStr_i {c : Str} {k : Str → Prop} : oStr (.str c) k = k c := propext Iff.rfl
theorem oTup_i {c : List D} {k : List D → Prop} : oTup (.tup c) k = k c := propext Iff.rfl
theorem oSome_i {α : Type} {c : α} {k : α → Prop} : oSome (some c) k = k c := propext Iff.rfl
theorem oBl_if {p : Prop} [Decidable p] {a b : D} {k : Bool → Prop} : oBl (if p then a else b) k = if p then oBl a k else oBl b k := by split <;> rfl
section
variable {τ : Sg} {M : MH} {Q : VD} {D0 : En} {t u : TSt} {te ta tb : TEt} {tt : TTt} {x y : D} {ds : List D} {n i : Nat} {k : Int} {g : TGt} {gs : TGst} {Qg : Sg → MH → Prop} {QI : Its → MH → Prop} {QO : Option Int → MH → Prop} {QB : Bool → MH → Prop} {tA : TAt} {lo hi : Option Int}
theorem uV : tV i τ M Q = oSome (nth τ i) fun d => Q d M := by unfold tV oSome; cases nth τ i <;> rfl
theorem uBo : tBo te τ M QB = te τ M fun x M1 => oBl x fun c => QB c M1 := by
  unfold tBo oBl
  first | rfl | (congr; first | rfl | (funext x M1; cases x <;> rfl))
theorem uAnV : tAnV ta tb τ M Q = ta τ M fun x M1 => oBl x fun c => if c = true then tb τ M1 Q else Q (.bl false) M1 := by
  unfold tAnV oBl
  first | rfl | (congr; first | rfl | (funext x M1; cases x <;> rfl))
theorem uOrV : tOrV' ta tb τ M Q = ta τ M fun x M1 => oBl x fun c => if c = true then Q (.bl true) M1 else tb τ M1 Q := by
  unfold tOrV' oBl
  first | rfl | (congr; first | rfl | (funext x M1; cases x <;> rfl))
theorem uNoV : tNoV ta τ M Q = ta τ M fun x M1 => oBl x fun c => Q (.bl (!c)) M1 := by
  unfold tNoV oBl
  first | rfl | (congr; first | rfl | (funext x M1; cases x <;> rfl))
theorem uCh {r r' : R2t} {tc : TEt} : tCh r r' ta tb tc τ M Q = ta τ M fun x M1 => tb τ M1 fun y M2 => r x y M2 fun z M3 => oBl z fun k => if k = true then tc τ M3 fun w M4 => r' y w M4 Q else Q (.bl false) M3 := by
  unfold tCh oBl
  first | rfl | (congr; funext x M1; congr; funext y M2; congr; funext z M3; cases z <;> rfl)
theorem uNl0 : gNl [] τ M Qg = Qg τ M := propext Iff.rfl
theorem uCs1 : gCs g gs (x :: ds) τ M Qg = g x τ M fun τ' M' => gs ds τ' M' Qg := propext Iff.rfl
theorem uTp : gTp n gs x τ M Qg = oTup x fun ds => ds.length = n ∧ gs ds τ M Qg := by unfold gTp oTup; cases x <;> rfl
theorem uAg {r : R2t} : sAg i te r D0 τ M = oSome (nth τ i) fun x => te τ M fun y M1 => r x y M1 fun z M2 => D0.nx (τ.set i (some z)) M2 := by unfold sAg oSome; cases nth τ i <;> rfl
theorem uInt {C : Int → Int → Prop} {h : Int → Int → D} : bInt C h x y M Q = oInt x fun i => oInt y fun j => C i j ∧ Q (h i j) M := by unfold bInt oInt; cases x <;> cases y <;> rfl
theorem uInt0 {h : Int → Int → D} : bInt0 h x y M Q = oInt x fun i => oInt y fun j => Q (h i j) M := by unfold bInt0 oInt; cases x <;> cases y <;> rfl
theorem uNegI : uNeg x M Q = oInt x fun i => Q (.int (-i)) M := by unfold uNeg oInt; cases x <;> rfl
theorem uEq : bEq x y M Q = oSome (dScal x y) fun b => Q (.bl b) M := by unfold bEq oSome; cases dScal x y <;> rfl
theorem uNe : bNe x y M Q = oSome (dScal x y) fun b => Q (.bl (!b)) M := by unfold bNe oSome; cases dScal x y <;> rfl
theorem dScal_ii {a b : Int} : dScal (.int a) (.int b) = some (decide (a = b)) := rfl
theorem dScal_ss {a b : Str} : dScal (.str a) (.str b) = some (decide (a = b)) := rfl
theorem dScal_bb {a b : Bool} : dScal (.bl a) (.bl b) = some (decide (a = b)) := rfl
theorem dScal_nn : dScal .non .non = some true := rfl
theorem dScal_ni {a : Int} : dScal .non (.int a) = some false := rfl
theorem dScal_in {a : Int} : dScal (.int a) .non = some false := rfl
theorem dScal_is {a : Int} {s : Str} : dScal (.int a) (.str s) = some false := rfl
theorem dScal_si {a : Int} {s : Str} : dScal (.str s) (.int a) = some false := rfl
theorem uIsN : bIsN x .non M Q = Q (.bl (isNonD x)) M := propext Iff.rfl
theorem uNotN : bNotN x .non M Q = Q (.bl (!isNonD x)) M := propext Iff.rfl
theorem nonD_n : isNonD .non = true := rfl
theorem nonD_i {a : Int} : isNonD (.int a) = false := rfl
theorem nonD_s {a : Str} : isNonD (.str a) = false := rfl
theorem nonD_t {a : List D} : isNonD (.tup a) = false := rfl
theorem nonD_l {a : List D} : isNonD (.lst a) = false := rfl
theorem nonD_b {a : Bool} : isNonD (.bl a) = false := rfl
theorem nonD_r {a : Addr} : isNonD (.ref a) = false := rfl
theorem uCatS : bCatS x y M Q = oStr x fun a => oStr y fun b => a.length + b.length ≤ 16777216 ∧ Q (.str (a ++ b)) M := by unfold bCatS oStr; rw [sizeLine_eq]; cases x <;> cases y <;> rfl
theorem uCatL : bCatL x y M Q = oSome (lstOf M x) fun a => oSome (lstOf M y) fun b => a.length + b.length ≤ 16777216 ∧ Q (.lst (a ++ b)) M := by unfold bCatL oSome; rw [sizeLine_eq]; cases lstOf M x <;> cases lstOf M y <;> rfl
theorem uCatM : bCatM x y M Q = oSome (lstOf M x) fun a => oSome (lstOf M y) fun b => a.length + b.length ≤ 16777216 ∧ ∀ p, M p = none → Q (.ref p) (mup M p (.lst (a ++ b))) := by unfold bCatM oSome; rw [sizeLine_eq]; cases lstOf M x <;> cases lstOf M y <;> rfl
theorem lstOf_l : lstOf M (.lst ds) = some ds := rfl
theorem lstOf_c : lstOf M (.scr ds) = some ds := rfl
theorem lstOf_m {a : Addr} : lstOf (mup M a (.lst ds)) (.ref a) = some ds := by simp only [lstOf, mup_same]
theorem lstOf_at {a : Addr} (h : M a = some (.lst ds)) : lstOf M (.ref a) = some ds := by simp only [lstOf, h]
theorem trkOf_l : trkOf M (.lst ds) = some ds := rfl
theorem trkOf_m {a : Addr} : trkOf (mup M a (.lst ds)) (.ref a) = some ds := by simp only [trkOf, mup_same]
theorem tupOf_t : tupOf (.tup ds) = some ds := rfl
theorem tupOf_b : tupOf (.tab ds) = some ds := rfl
theorem seqOf_t : seqOf M (.tup ds) = some ds := rfl
theorem seqOf_b : seqOf M (.tab ds) = some ds := rfl
theorem seqOf_l : seqOf M (.lst ds) = some ds := rfl
theorem seqOf_c : seqOf M (.scr ds) = some ds := rfl
theorem seqOf_r {a : Addr} : seqOf M (.ref a) = lstOf M (.ref a) := rfl
theorem uIx_t : bIx (.tup ds) (.int k) M Q = oSome (atI ds k) fun d => Q d M := by
  show (match atI ds k with | some d => Q d M | none => False) = _
  unfold oSome; cases atI ds k <;> rfl
theorem uIx_b : bIx (.tab ds) (.int k) M Q = oSome (atI ds k) fun d => Q d M := by
  show (match atI ds k with | some d => Q d M | none => False) = _
  unfold oSome; cases atI ds k <;> rfl
theorem uIx_l : bIx (.lst ds) (.int k) M Q = oSome (atI ds k) fun d => Q d M := by
  show (match atI ds k with | some d => Q d M | none => False) = _
  unfold oSome; cases atI ds k <;> rfl
theorem uIx_c : bIx (.scr ds) (.int k) M Q = oSome (atI ds k) fun d => Q d M := by
  show (match atI ds k with | some d => Q d M | none => False) = _
  unfold oSome; cases atI ds k <;> rfl
theorem uIx_s {z : Str} : bIx (.str z) (.int k) M Q = (z.length ≤ 16777216 ∧ oSome (atI z.cps.toList k) fun c => Q (.str ⟨#[c]⟩) M) := by
  show (z.length ≤ sizeLine ∧ match atI z.cps.toList k with | some c => Q (.str ⟨#[c]⟩) M | none => False) = _
  unfold oSome; rw [sizeLine_eq]; cases atI z.cps.toList k <;> rfl
theorem uIx_r {a : Addr} : bIx (.ref a) (.int k) M Q = oSome (lstOf M (.ref a)) fun ds => oSome (atI ds k) fun d => Q d M := by
  show (match lstOf M (.ref a) with | some ds => (match atI ds k with | some d => Q d M | none => False) | none => False) = _
  unfold oSome
  cases lstOf M (.ref a) with
  | none => rfl
  | some ds => cases h : atI ds k <;> simp [h]
theorem uYes : oYes te τ M QO = te τ M fun d M1 => oInt d fun i => QO (some i) M1 := by
  unfold oYes oInt
  first | rfl | (congr; first | rfl | (funext x M1; cases x <;> rfl))
theorem uSlL : cSlL x lo hi M Q = oSome (lstOf M x) fun ds => Q (.lst (cutD ds lo hi)) M := by unfold cSlL oSome; cases lstOf M x <;> rfl
theorem uSlM : cSlM x lo hi M Q = oSome (lstOf M x) fun ds => ∀ p, M p = none → Q (.ref p) (mup M p (.lst (cutD ds lo hi))) := by unfold cSlM oSome; cases lstOf M x <;> rfl
theorem uSlS : cSlS x lo hi M Q = oStr x fun z => z.length ≤ 16777216 ∧ Q (.str (cutS z lo hi)) M := by unfold cSlS oStr; rw [sizeLine_eq] <;> (cases x <;> rfl)
theorem uIsi {T : String} : cIsi [x, .ty T] M Q = oSome (dTy M x) fun t => oSome (kitB t T) fun b => Q (.bl b) M := by
  show (match dTy M x with | some t => (match kitB t T with | some b => Q (.bl b) M | none => False) | none => False) = _
  unfold oSome
  cases dTy M x with
  | none => rfl
  | some t => cases h : kitB t T <;> simp [h]
theorem dTy_n : dTy M .non = some "NoneType" := rfl
theorem dTy_b {b : Bool} : dTy M (.bl b) = some "bool" := rfl
theorem dTy_i {i : Int} : dTy M (.int i) = some "int" := rfl
theorem dTy_s {s : Str} : dTy M (.str s) = some "str" := rfl
theorem dTy_t : dTy M (.tup ds) = some "tuple" := rfl
theorem dTy_l : dTy M (.lst ds) = some "list" := rfl
theorem uLen : cLen [x] M Q = oSome (lenOf M x) fun n => Q (.int (n : Int)) M := by
  show (match lenOf M x with | some n => Q (.int (n : Int)) M | none => False) = _
  unfold oSome; cases lenOf M x <;> rfl
theorem lenOf_t : lenOf M (.tup ds) = some ds.length := rfl
theorem lenOf_b : lenOf M (.tab ds) = some ds.length := rfl
theorem lenOf_l : lenOf M (.lst ds) = some ds.length := rfl
theorem lenOf_c : lenOf M (.scr ds) = some ds.length := rfl
theorem lenOf_m {a : Addr} : lenOf (mup M a (.lst ds)) (.ref a) = some ds.length := by simp only [lenOf, mup_same]
theorem lenOf_at {a : Addr} (h : M a = some (.lst ds)) : lenOf M (.ref a) = some ds.length := by simp only [lenOf, h]
theorem uIntI {i : Int} : cInt [.int i] M Q = Q (.int i) M := propext Iff.rfl
theorem uIntB {b : Bool} : cInt [.bl b] M Q = Q (.int (if b then 1 else 0)) M := propext Iff.rfl
theorem uLs : iLs te τ M QI = te τ M fun d M1 => oSome (lstOf M1 d) fun ds => QI ⟨ds, fun M => lstOf M d = some ds⟩ M1 := by
  unfold iLs oSome
  first | rfl | (congr; funext d M1; cases lstOf M1 d <;> rfl)
theorem uTu : iTu te τ M QI = te τ M fun d M1 => oSome (tupOf d) fun ds => QI ⟨ds, fun _ => True⟩ M1 := by
  unfold iTu oSome
  first | rfl | (congr; funext d M1; cases tupOf d <;> rfl)
def oL1 (ds : List D) (k : D → Prop) : Prop := match ds with
  | [x] => k x
  | _ => False
def oL2 (ds : List D) (k : D → D → Prop) : Prop := match ds with
  | [x, y] => k x y
  | _ => False
def oL3 (ds : List D) (k : D → D → D → Prop) : Prop := match ds with
  | [x, y, z] => k x y z
  | _ => False
theorem oL1_i {x : D} {k : D → Prop} : oL1 [x] k = k x := propext Iff.rfl
theorem oL2_i {x y : D} {k : D → D → Prop} : oL2 [x, y] k = k x y := propext Iff.rfl
theorem oL3_i {x y z : D} {k : D → D → D → Prop} : oL3 [x, y, z] k = k x y z := propext Iff.rfl
theorem uR1 : iR1 tA τ M QI = tA τ M fun ds M1 => oL1 ds fun d => oInt d fun j => (-4611686018427387904 ≤ j ∧ j < 4611686018427387904) ∧ QI ⟨(List.range j.toNat).map fun i => .int (i : Nat), fun _ => True⟩ M1 := by
  unfold iR1
  congr; funext ds M1
  rcases ds with _ | ⟨d, _ | ⟨e, r⟩⟩
  · rfl
  · cases d <;> rfl
  · cases d <;> rfl
theorem uR2 : iR2 tA τ M QI = tA τ M fun ds M1 => oL2 ds fun d e => oInt d fun i => oInt e fun j => (-4611686018427387904 ≤ i ∧ i < 4611686018427387904 ∧ -4611686018427387904 ≤ j ∧ j < 4611686018427387904) ∧ QI ⟨(List.range (j - i).toNat).map fun k => .int (i + (k : Nat)), fun _ => True⟩ M1 := by
  unfold iR2
  congr; funext ds M1
  rcases ds with _ | ⟨d, _ | ⟨e, _ | ⟨f, r⟩⟩⟩
  · rfl
  · cases d <;> rfl
  · cases d <;> cases e <;> rfl
  · cases d <;> cases e <;> rfl
theorem uR3 : iR3 tA τ M QI = tA τ M fun ds M1 => oL3 ds fun d e f => oInt d fun i => oInt e fun j => oInt f fun c => ∃ n, RgC i j c n ∧ QI ⟨(List.range n).map fun k => .int (i + (k : Nat) * c), fun _ => True⟩ M1 := by
  unfold iR3
  congr; funext ds M1
  rcases ds with _ | ⟨d, _ | ⟨e, _ | ⟨f, _ | ⟨f2, r⟩⟩⟩⟩
  · rfl
  · cases d <;> rfl
  · cases d <;> cases e <;> rfl
  · cases d <;> cases e <;> cases f <;> rfl
  · cases d <;> cases e <;> cases f <;> rfl
theorem uEn : iEn tA τ M QI = tA τ M fun ds M1 => oL1 ds fun d => oSome (lstOf M1 d) fun xs => QI ⟨enumD xs, fun M => lstOf M d = some xs⟩ M1 := by
  unfold iEn
  congr; funext ds M1
  rcases ds with _ | ⟨d, _ | ⟨e, r⟩⟩
  · rfl
  · simp only [oL1, oSome]; cases lstOf M1 d <;> rfl
  · rfl
theorem uZi : iZi tA τ M QI = tA τ M fun ds M1 => oL2 ds fun d e => oSome (lstOf M1 d) fun xs => oSome (lstOf M1 e) fun ys => QI ⟨zipD xs ys, fun M => lstOf M d = some xs ∧ lstOf M e = some ys⟩ M1 := by
  unfold iZi
  congr; funext ds M1
  rcases ds with _ | ⟨d, _ | ⟨e, _ | ⟨f, r⟩⟩⟩
  · rfl
  · rfl
  · simp only [oL2, oSome]; cases lstOf M1 d <;> cases lstOf M1 e <;> rfl
  · rfl
theorem uSt : iSt te τ M QI = te τ M fun d M1 => oStr d fun z => QI ⟨z.cps.toList.map fun c => .str ⟨#[c]⟩, fun _ => True⟩ M1 := by
  unfold iSt oStr
  first | rfl | (congr; first | rfl | (funext x M1; cases x <;> rfl))
theorem uRv : iRv tA τ M QI = tA τ M fun ds M1 => oL1 ds fun d => oSome (lstOf M1 d) fun xs => QI ⟨xs.reverse, fun M => lstOf M d = some xs⟩ M1 := by
  unfold iRv
  congr; funext ds M1
  rcases ds with _ | ⟨d, _ | ⟨e, r⟩⟩
  · rfl
  · simp only [oL1, oSome]; cases lstOf M1 d <;> rfl
  · rfl
theorem uDivmod : cDivmod [x, y] M Q = oInt x fun i => oInt y fun j => CDivZ i j ∧ Q (.tup [.int (i.fdiv j), .int (i.fmod j)]) M := by unfold oInt; cases x <;> cases y <;> rfl
theorem uList : cList [x] M Q = oSome (seqOf M x) fun es => Q (.lst es) M := by
  show (match seqOf M x with | some es => Q (.lst es) M | none => False) = _
  unfold oSome; cases seqOf M x <;> rfl
theorem uListM : cListM [x] M Q = oSome (seqOf M x) fun es => ∀ p, M p = none → Q (.ref p) (mup M p (.lst es)) := by
  show (match seqOf M x with | some es => ∀ p, M p = none → Q (.ref p) (mup M p (.lst es)) | none => False) = _
  unfold oSome; cases seqOf M x <;> rfl
theorem uSum : cSum [x] M Q = oSome (intLst M x) fun is => Q (.int is.sum) M := by
  show (match intLst M x with | some is => Q (.int is.sum) M | none => False) = _
  unfold oSome; cases intLst M x <;> rfl
theorem uMax : cMax [x] M Q = oSome (intLst M x) fun is => 0 < is.length ∧ ∀ m, m ∈ is → (∀ y, y ∈ is → y ≤ m) → Q (.int m) M := by
  show (match intLst M x with | some is => 0 < is.length ∧ ∀ m, m ∈ is → (∀ y, y ∈ is → y ≤ m) → Q (.int m) M | none => False) = _
  unfold oSome; cases intLst M x <;> rfl
theorem uMin : cMin [x] M Q = oSome (intLst M x) fun is => 0 < is.length ∧ ∀ m, m ∈ is → (∀ y, y ∈ is → m ≤ y) → Q (.int m) M := by
  show (match intLst M x with | some is => 0 < is.length ∧ ∀ m, m ∈ is → (∀ y, y ∈ is → m ≤ y) → Q (.int m) M | none => False) = _
  unfold oSome; cases intLst M x <;> rfl
theorem intLst_l {is : List Int} : intLst M (.lst (is.map D.int)) = some is := intsD_map is
theorem intLst_c {is : List Int} : intLst M (.scr (is.map D.int)) = some is := intsD_map is
theorem blLst_l {is : List Bool} : blLst M (.lst (is.map D.bl)) = some is := blsD_map is
theorem uMax2 : cMax2 [x, y] M Q = oInt x fun i => oInt y fun j => Q (.int (if j > i then j else i)) M := by unfold oInt; cases x <;> cases y <;> rfl
theorem uMin2 : cMin2 [x, y] M Q = oInt x fun i => oInt y fun j => Q (.int (if j < i then j else i)) M := by unfold oInt; cases x <;> cases y <;> rfl
theorem uAbs : cAbs [x] M Q = oInt x fun i => Q (.int (if i < 0 then -i else i)) M := by unfold oInt; cases x <;> rfl
theorem uAny : cAny [x] M Q = oSome (blLst M x) fun is => Q (.bl (is.any id)) M := by
  show (match blLst M x with | some is => Q (.bl (is.any id)) M | none => False) = _
  unfold oSome; cases blLst M x <;> rfl
theorem uAll : cAll [x] M Q = oSome (blLst M x) fun is => Q (.bl (is.all id)) M := by
  show (match blLst M x with | some is => Q (.bl (is.all id)) M | none => False) = _
  unfold oSome; cases blLst M x <;> rfl
def mLst (M : MH) (a : Addr) : Option (List D) := match M a with
  | some (.lst ds) => some ds
  | _ => none
theorem mLst_m {a : Addr} : mLst (mup M a (.lst ds)) a = some ds := by unfold mLst; rw [mup_same]
theorem mLst_at {a : Addr} (h : M a = some (.lst ds)) : mLst M a = some ds := by unfold mLst; rw [h]
theorem uAppend {l : Addr} : mAppend (.ref l) [y] M Q = oSome (mLst M l) fun ds => ds.length < 16777216 ∧ Q .non (mup M l (.lst (ds ++ [y]))) := by
  show (match M l with | some (.lst ds) => ds.length < sizeLine ∧ Q .non (mup M l (.lst (ds ++ [y]))) | _ => False) = _
  unfold oSome mLst; rw [sizeLine_eq]
  cases M l with
  | none => rfl
  | some o => cases o <;> rfl
theorem uExtend {l : Addr} : mExtend (.ref l) [y] M Q = oSome (mLst M l) fun ds => oSome (trkOf M y) fun es => ds.length + es.length ≤ 16777216 ∧ Q .non (mup M l (.lst (ds ++ es))) := by
  show (match M l with | some (.lst ds) => (match trkOf M y with | some es => ds.length + es.length ≤ sizeLine ∧ Q .non (mup M l (.lst (ds ++ es))) | none => False) | _ => False) = _
  unfold oSome mLst; rw [sizeLine_eq]
  cases M l with
  | none => rfl
  | some o => cases o <;> first | rfl | (cases h : trkOf M y <;> simp [h])
theorem uPop {l : Addr} : mPop (.ref l) [] M Q = oSome (mLst M l) fun ds => oSome ds.getLast? fun y => Q y (mup M l (.lst ds.dropLast)) := by
  show (match M l with | some (.lst ds) => (match ds.getLast? with | some y => Q y (mup M l (.lst ds.dropLast)) | none => False) | _ => False) = _
  unfold oSome mLst
  cases M l with
  | none => rfl
  | some o =>
    cases o with
    | lst ds => cases h : ds.getLast? <;> simp [h]
    | _ => rfl
theorem uSet {l : Addr} {Qm : MH → Prop} : zList (.ref l) (.int k) y M Qm = oSome (mLst M l) fun ds => oSome (ixN ds.length k) fun j => Qm (mup M l (.lst (ds.set j y))) := by
  show (match M l with | some (.lst ds) => (match ixN ds.length k with | some j => Qm (mup M l (.lst (ds.set j y))) | none => False) | _ => False) = _
  unfold oSome mLst
  cases M l with
  | none => rfl
  | some o =>
    cases o with
    | lst ds => cases h : ixN ds.length k <;> simp [h]
    | _ => rfl
theorem lMt_l : (lstOf M (.lst ds)).isSome = true := rfl
theorem isS_m {a : Addr} : (lstOf (mup M a (.lst ds)) (.ref a)).isSome = true := by rw [lstOf_m]; rfl
theorem atI_0 {α : Type} {x : α} {r : List α} : atI (x :: r) 0 = some x := atI_nat (j := 0) rfl
theorem atI_1 {α : Type} {x y : α} {r : List α} : atI (x :: y :: r) 1 = some y := atI_nat (j := 1) rfl
theorem atI_2 {α : Type} {x y z : α} {r : List α} : atI (x :: y :: z :: r) 2 = some z := atI_nat (j := 2) rfl
theorem atI_3 {α : Type} {x y z a : α} {r : List α} : atI (x :: y :: z :: a :: r) 3 = some a := atI_nat (j := 3) rfl
theorem atI_4 {α : Type} {x y z a b : α} {r : List α} : atI (x :: y :: z :: a :: b :: r) 4 = some b := atI_nat (j := 4) rfl
theorem atI_5 {α : Type} {x y z a b c : α} {r : List α} : atI (x :: y :: z :: a :: b :: c :: r) 5 = some c := atI_nat (j := 5) rfl
end
end Tl
namespace Tl
open PySem PySem.Spec PyProof.Rows L2
/-! ### comprehensions whose turns change nothing -/
/-- what is kept and what it comes to; what is left out -/
inductive Sel {α β : Type} (P : α → β → Prop) (N : α → Prop) : List α → List β → Prop
  | nil : Sel P N [] []
  | keep {x : α} {y : β} {xs : List α} {ys : List β} (h : P x y) (t : Sel P N xs ys) : Sel P N (x :: xs) (y :: ys)
  | drop {x : α} {xs : List α} {ys : List β} (h : N x) (t : Sel P N xs ys) : Sel P N (x :: xs) ys
section
variable {α β : Type} {P : α → β → Prop} {N : α → Prop}
theorem Sel.len {xs : List α} {ys : List β} (h : Sel P N xs ys) : ys.length ≤ xs.length := by
  induction h with
  | nil => exact Nat.le_refl _
  | keep h t ih => exact Nat.succ_le_succ ih
  | drop h t ih => exact Nat.le_succ_of_le ih
theorem Sel.map {f : α → β} {xs : List α} {ys : List β} (h : Sel (fun x y => y = f x) (fun _ => False) xs ys) : ys = xs.map f := by
  induction h with
  | nil => rfl
  | keep h t ih => rw [h, ih]; rfl
  | drop h t ih => exact h.elim
theorem Sel.filter {f : α → β} {p : α → Bool} {xs : List α} {ys : List β} (h : Sel (fun x y => p x = true ∧ y = f x) (fun x => p x = false) xs ys) : ys = (xs.filter p).map f := by
  induction h with
  | nil => rfl
  | keep h t ih => rw [List.filter_cons, if_pos h.1, h.2, ih]; rfl
  | drop h t ih => rw [List.filter_cons, if_neg (by rw [h]; decide), ih]
theorem Sel.ex {α β γ : Type} {Pz : α → γ → Prop} {Nz : α → Prop} {a : γ → β} {xs : List α} {ys : List β} (h : Sel (fun x y => ∃ b, y = a b ∧ Pz x b) Nz xs ys) : ∃ bs : List γ, ys = bs.map a ∧ ∀ b ∈ bs, ∃ x ∈ xs, Pz x b := by
  induction h with
  | nil => exact ⟨[], rfl, by simp⟩
  | @keep x y xs ys h t ih =>
    obtain ⟨ms, rfl, h2⟩ := ih
    obtain ⟨n, rfl, hn⟩ := h
    refine ⟨n :: ms, rfl, fun b hb => ?_⟩
    rcases List.mem_cons.mp hb with rfl | hm
    · exact ⟨x, List.mem_cons_self .., hn⟩
    · obtain ⟨x', hx, hp⟩ := h2 b hm
      exact ⟨x', List.mem_cons_of_mem _ hx, hp⟩
  | drop h t ih =>
    obtain ⟨ms, rfl, h2⟩ := ih
    refine ⟨ms, rfl, fun b hb => ?_⟩
    obtain ⟨x', hx, hp⟩ := h2 b hb
    exact ⟨x', List.mem_cons_of_mem _ hx, hp⟩
theorem Sel.all {Z : β → Prop} {xs : List α} {ys : List β} (h : Sel P N xs ys) (hz : ∀ x y, x ∈ xs → P x y → Z y) : ∀ y ∈ ys, Z y := by
  induction h with
  | nil => intro y hy; cases hy
  | keep h t ih =>
    intro y hy
    rcases List.mem_cons.mp hy with e | hy
    · rw [e]; exact hz _ _ (List.mem_cons_self ..) h
    · exact ih (fun x y hx => hz x y (List.mem_cons_of_mem _ hx)) y hy
  | drop h t ih => exact ih (fun x y hx => hz x y (List.mem_cons_of_mem _ hx))
end
section
variable {ti : TIt} {g : TGt} {tt : TTt} {te : TEt} {vs : List Nat} {τ : Sg} {M : MH} {Q : VD}
/-- the rest of a comprehension when its source is known -/
def LcGo (g : TGt) (tt : TTt) (te : TEt) (vs : List Nat) (τ : Sg) (Q : VD) (I : Its) (M1 : MH) : Prop := I.items.length < sizeLine ∧ ∃ W : Nat → List D → MH → Prop, W 0 [] M1 ∧ (∀ i acc M, W i acc M → I.src M ∧ acc.length ≤ i) ∧
  (∀ i x acc M, I.items[i]? = some x → W i acc M → g x (wip τ vs) M fun τ2 M2 => tt τ2 M2 fun b M3 => if b = true then te τ2 M3 fun y M4 => W (i + 1) (acc ++ [y]) M4 else W (i + 1) acc M3) ∧ ∀ acc M, W I.items.length acc M → Q (.lst acc) M
theorem uLcF : tLcF ti g tt te vs τ M Q = ti τ M (LcGo g tt te vs τ Q) := propext Iff.rfl
def asRef (Q : VD) : VD := fun d M1 => match d with
  | .lst acc => ∀ p, M1 p = none → Q (.ref p) (mup M1 p (.lst acc))
  | _ => False
theorem uLcV' : tLcV ti g tt te vs τ M Q = ti τ M (LcGo g tt te vs τ (asRef Q)) := rfl
theorem uAsRef {acc : List D} : asRef Q (.lst acc) M = ∀ p, M p = none → Q (.ref p) (mup M p (.lst acc)) := propext Iff.rfl
/-- a comprehension, from the left: W holds of what was gathered -/
theorem lc_any {I : Its} {M : MH} (W : Nat → List D → MH → Prop) (hz : I.items.length < sizeLine) (w0 : W 0 [] M) (ws : ∀ i acc M, W i acc M → I.src M ∧ acc.length ≤ i)
    (hs : ∀ i x acc M, I.items[i]? = some x → W i acc M → g x (wip τ vs) M fun τ2 M2 => tt τ2 M2 fun b M3 => if b = true then te τ2 M3 fun y M4 => W (i + 1) (acc ++ [y]) M4 else W (i + 1) acc M3) (hd : ∀ acc M, W I.items.length acc M → Q (.lst acc) M) :
    LcGo g tt te vs τ Q I M := ⟨hz, W, w0, ws, hs, hd⟩
/-- a comprehension that computes f of each item, and keeps the memory -/
theorem lc_map {I : Its} (xs : List α) (a : α → D) (f : α → D) (hi : I.items = xs.map a) (hz : xs.length < sizeLine) (hs : I.src M)
    (h : ∀ (x : α) (R1 : VD) (R0 : MH → Prop), x ∈ xs → R1 (f x) M → g (a x) (wip τ vs) M fun τ2 M2 => tt τ2 M2 fun b M3 => if b = true then te τ2 M3 R1 else R0 M3)
    (k : Q (.lst (xs.map f)) M) : LcGo g tt te vs τ Q I M := by
  refine ⟨by rw [hi, List.length_map]; exact hz, fun i acc M' => M' = M ∧ acc = (xs.take i).map f, ⟨rfl, by simp⟩, ?_, ?_, ?_⟩
  · rintro i acc _ ⟨rfl, rfl⟩
    exact ⟨hs, by simp only [List.length_map, List.length_take]; omega⟩
  · rintro i x acc _ hx ⟨rfl, rfl⟩
    rw [hi, List.getElem?_map] at hx
    obtain ⟨y, hy, rfl⟩ := Option.map_eq_some_iff.mp hx
    refine h y _ _ (List.mem_of_getElem? hy) ⟨rfl, ?_⟩
    rw [List.take_add_one, hy]; simp
  · rintro acc _ ⟨rfl, rfl⟩
    rw [hi, List.length_map, List.take_length]
    exact k
/-- a comprehension that keeps the items that answer p, and computes f of them -/
theorem lc_filter {I : Its} (xs : List α) (a : α → D) (p : α → Bool) (f : α → D) (hi : I.items = xs.map a) (hz : xs.length < sizeLine) (hs : I.src M)
    (h : ∀ (x : α) (R1 : VD) (R0 : MH → Prop), x ∈ xs → (p x = true → R1 (f x) M) → (p x = false → R0 M) → g (a x) (wip τ vs) M fun τ2 M2 => tt τ2 M2 fun b M3 => if b = true then te τ2 M3 R1 else R0 M3)
    (k : Q (.lst ((xs.filter p).map f)) M) : LcGo g tt te vs τ Q I M := by
  refine ⟨by rw [hi, List.length_map]; exact hz, fun i acc M' => M' = M ∧ acc = ((xs.take i).filter p).map f, ⟨rfl, by simp⟩, ?_, ?_, ?_⟩
  · rintro i acc _ ⟨rfl, rfl⟩
    refine ⟨hs, ?_⟩
    simp only [List.length_map]
    have := List.length_filter_le p (xs.take i)
    rw [List.length_take] at this
    omega
  · rintro i x acc _ hx ⟨rfl, rfl⟩
    rw [hi, List.getElem?_map] at hx
    obtain ⟨y, hy, rfl⟩ := Option.map_eq_some_iff.mp hx
    refine h y _ _ (List.mem_of_getElem? hy) (fun e => ⟨rfl, ?_⟩) fun e => ⟨rfl, ?_⟩
    · rw [List.take_add_one, hy]; simp [List.filter_append, e]
    · rw [List.take_add_one, hy]; simp [List.filter_append, e]
  · rintro acc _ ⟨rfl, rfl⟩
    rw [hi, List.length_map, List.take_length]
    exact k
end
/-- the rest of a loop when its source is known -/
def ForGo (g : TGt) (tb : TSt) (D0 : En) (τ : Sg) (I : Its) (M1 : MH) : Prop := ∃ W : Nat → Sg → MH → Prop, W 0 τ M1 ∧ (∀ i τ M, W i τ M → I.src M) ∧
  (∀ i x τ M, I.items[i]? = some x → W i τ M → g x τ M fun τ2 M2 => tb { D0 with nx := W (i + 1), ct := W (i + 1), bk := D0.nx } τ2 M2) ∧ ∀ τ M, W I.items.length τ M → D0.nx τ M
theorem uFo {ti : TIt} {g : TGt} {tb : TSt} {D0 : En} {τ : Sg} {M : MH} : sFo ti g tb D0 τ M = ti τ M (ForGo g tb D0 τ) := propext Iff.rfl
/-- a loop whose turns keep a word of the slots, from the left; a return on the way ends it -/
theorem for_any {I : Its} {g : TGt} {tb : TSt} {D0 : En} {τ : Sg} {M : MH} (W : Nat → Sg → MH → Prop) (w0 : W 0 τ M) (ws : ∀ i τ M, W i τ M → I.src M)
    (hs : ∀ i x τ M, I.items[i]? = some x → W i τ M → g x τ M fun τ2 M2 => tb { D0 with nx := W (i + 1), ct := W (i + 1), bk := D0.nx } τ2 M2) (hd : ∀ τ M, W I.items.length τ M → D0.nx τ M) :
    ForGo g tb D0 τ I M := ⟨W, w0, ws, hs, hd⟩
/-- the same over a mapped list, the invariant told of what is done -/
theorem for_map {I : Its} {g : TGt} {tb : TSt} {D0 : En} {τ : Sg} {M : MH} (xs : List α) (a : α → D) (hi : I.items = xs.map a) (W : List α → Sg → MH → Prop) (w0 : W [] τ M) (ws : ∀ ys τ M, W ys τ M → I.src M)
    (hs : ∀ ys x zs τ M (Nx : Sg → MH → Prop), xs = ys ++ x :: zs → W ys τ M → (∀ τ' M', W (ys ++ [x]) τ' M' → Nx τ' M') → g (a x) τ M fun τ2 M2 => tb { D0 with nx := Nx, ct := Nx, bk := D0.nx } τ2 M2) (hd : ∀ τ M, W xs τ M → D0.nx τ M) :
    ForGo g tb D0 τ I M := by
  refine ⟨fun i => W (xs.take i), by simpa using w0, fun i τ M w => ws _ τ M w, ?_, ?_⟩
  · intro i x τ M hx w
    rw [hi, List.getElem?_map] at hx
    obtain ⟨y, hy, rfl⟩ := Option.map_eq_some_iff.mp hx
    have hl := (List.getElem?_eq_some_iff.mp hy)
    obtain ⟨h1, h2⟩ := hl
    refine hs (xs.take i) y (xs.drop (i + 1)) τ M _ ?_ w fun τ' M' w' => ?_
    · rw [← h2, List.getElem_cons_drop, List.take_append_drop]
    · show W (xs.take (i + 1)) τ' M'
      rw [List.take_add_one, hy]; exact w'
  · intro τ M w
    refine hd τ M ?_
    rw [hi, List.length_map, List.take_length] at w
    exact w
/-- a while loop with a measure -/
theorem wh_any {c : TTt} {tb : TSt} {D0 : En} {τ : Sg} {M : MH} (W : Nat → Sg → MH → Prop) (m : Nat) (w0 : W m τ M)
    (hs : ∀ m τ M, W m τ M → c τ M fun b M1 => if b = true then tb { D0 with nx := fun τ' M' => ∃ m', m' < m ∧ W m' τ' M', ct := fun τ' M' => ∃ m', m' < m ∧ W m' τ' M', bk := D0.nx } τ M1 else D0.nx τ M1) : sWh c tb D0 τ M := ⟨W, ⟨m, w0⟩, hs⟩
end Tl
namespace Tl
open PySem PySem.Spec PyProof.Rows L2
/-! ### instances -/
def oObj (M : MH) (x : D) (k : Addr → Addr → Addr → List Str → List D → Prop) : Prop := match x with
  | .ref a => match M a with
    | some (.obj C dx fl ds) => k a C dx fl ds
    | _ => False
  | _ => False
theorem oObj_e {M : MH} {x : D} {k : Addr → Addr → Addr → List Str → List D → Prop} (h : oObj M x k) : ∃ a C dx fl ds, x = .ref a ∧ M a = some (.obj C dx fl ds) ∧ k a C dx fl ds := by
  unfold oObj at h
  cases x with
  | ref a =>
    cases e : M a with
    | none => simp only [e] at h
    | some o =>
      cases o with
      | obj C dx fl ds => simp only [e] at h; exact ⟨a, C, dx, fl, ds, rfl, e, h⟩
      | _ => simp only [e] at h
  | _ => exact h.elim
theorem RpO_obj {K : PySem.W.Frag} {F : Hp} {u : HO} {C dx : Addr} {fl : List Str} {ds : List D} (r : RpO K F u (.obj C dx fl ds)) : ∃ fs, u = .ins C dx fs ∧ fl.Nodup ∧ fs.map (·.1) = fl.take ds.length ∧ Rps K F (fs.map (·.2)) ds := by
  cases u with
  | ins C1 dx1 fs =>
    obtain ⟨rfl, rfl, nd, hn, rr⟩ := r
    exact ⟨fs, rfl, nd, hn, rr⟩
  | _ => exact (r : False).elim
def nthD : List D → Nat → Option D
  | [], _ => none
  | x :: _, 0 => some x
  | _ :: t, n + 1 => nthD t n
def putD : List D → Nat → D → List D
  | [], _, d => [d]
  | _ :: t, 0, d => d :: t
  | x :: t, n + 1, d => x :: putD t n d
theorem nthD_get : ∀ {l : List D} {i : Nat} {d : D}, nthD l i = some d → l[i]? = some d
  | [], _, _, h => by cases h
  | x :: _, 0, d, h => by rw [List.getElem?_cons_zero]; exact h
  | _ :: t, n + 1, d, h => by rw [List.getElem?_cons_succ]; exact nthD_get (l := t) h
theorem look_at {f : Str} {v : V} : ∀ {fs : List (Str × V)} {i : Nat}, (fs.map (·.1)).Nodup → fs[i]? = some (f, v) → fs.lookup f = some v
  | [], _, _, h => by rw [List.getElem?_nil] at h; cases h
  | (g, x) :: r, 0, _, h => by
    rw [List.getElem?_cons_zero] at h
    cases h
    show (match f == f with | true => some v | false => r.lookup f) = some v
    rw [show (f == f) = true from beq_iff_eq.mpr rfl]
  | (g, x) :: r, n + 1, nd, h => by
    rw [List.getElem?_cons_succ] at h
    have hm : f ∈ r.map (·.1) := List.mem_map.mpr ⟨(f, v), List.mem_of_getElem? h, rfl⟩
    have nd2 := List.nodup_cons.mp (show (g :: r.map (·.1)).Nodup from nd)
    have ne : (f == g) = false := beq_eq_false_iff_ne.mpr fun e => nd2.1 (e ▸ hm)
    show (match f == g with | true => some x | false => r.lookup f) = some v
    rw [ne]
    exact look_at nd2.2 h
theorem look_not {f : Str} : ∀ {fs : List (Str × V)}, f ∉ fs.map (·.1) → fs.lookup f = none
  | [], _ => rfl
  | (g, x) :: r, h => by
    have h2 : f ∉ g :: r.map (·.1) := h
    rw [List.mem_cons, not_or] at h2
    show (match f == g with | true => some x | false => r.lookup f) = none
    rw [show (f == g) = false from beq_eq_false_iff_ne.mpr h2.1]
    exact look_not h2.2
theorem putF_at {f : Str} {v v0 : V} : ∀ {fs : List (Str × V)} {i : Nat}, (fs.map (·.1)).Nodup → fs[i]? = some (f, v0) → putF f v fs = fs.set i (f, v)
  | [], _, _, h => by rw [List.getElem?_nil] at h; cases h
  | (g, x) :: r, 0, _, h => by
    rw [List.getElem?_cons_zero] at h
    cases h
    show (if f = f then (f, v) :: r else (f, v0) :: putF f v r) = (f, v) :: r
    rw [if_pos rfl]
  | (g, x) :: r, n + 1, nd, h => by
    rw [List.getElem?_cons_succ] at h
    have hm : f ∈ r.map (·.1) := List.mem_map.mpr ⟨(f, v0), List.mem_of_getElem? h, rfl⟩
    have nd2 := List.nodup_cons.mp (show (g :: r.map (·.1)).Nodup from nd)
    show (if g = f then (g, v) :: r else (g, x) :: putF f v r) = (g, x) :: r.set n (f, v)
    rw [if_neg fun e : g = f => nd2.1 (e ▸ hm), putF_at nd2.2 h]
theorem putF_new {f : Str} {v : V} : ∀ {fs : List (Str × V)}, f ∉ fs.map (·.1) → putF f v fs = fs ++ [(f, v)]
  | [], _ => rfl
  | (g, x) :: r, h => by
    have h2 : f ∉ g :: r.map (·.1) := h
    rw [List.mem_cons, not_or] at h2
    show (if g = f then (g, v) :: r else (g, x) :: putF f v r) = (g, x) :: (r ++ [(f, v)])
    rw [if_neg fun e : g = f => h2.1 e.symm, putF_new h2.2]
theorem putD_lt : ∀ {ds : List D} {i : Nat} {d : D}, i < ds.length → putD ds i d = ds.set i d
  | [], _, _, h => absurd h (Nat.not_lt_zero _)
  | _ :: _, 0, _, _ => rfl
  | x :: t, n + 1, d, h => by
    show x :: putD t n d = x :: t.set n d
    rw [putD_lt (Nat.lt_of_succ_lt_succ h)]
theorem putD_eq : ∀ {ds : List D} {d : D}, putD ds ds.length d = ds ++ [d]
  | [], _ => rfl
  | x :: t, d => by
    show x :: putD t t.length d = x :: (t ++ [d])
    rw [putD_eq]
theorem take_not {α : Type} {fl : List α} (nd : fl.Nodup) {n i : Nat} {f : α} (h : fl[i]? = some f) (hi : n ≤ i) : f ∉ fl.take n := by
  intro hm
  obtain ⟨j, hj⟩ := List.mem_iff_getElem?.mp hm
  have hj2 : j < n := by
    have := (List.getElem?_eq_some_iff.mp hj).1
    rw [List.length_take] at this; omega
  rw [List.getElem?_take_of_lt hj2] at hj
  obtain ⟨h1, e1⟩ := List.getElem?_eq_some_iff.mp h
  obtain ⟨h2, e2⟩ := List.getElem?_eq_some_iff.mp hj
  have := (List.getElem?_inj h2 nd).mp (hj.trans h.symm)
  omega
section
variable {K : PySem.W.Frag} {F : Hp} {fs : List (Str × V)} {fl : List Str} {ds : List D}
theorem fs_get (nd : fl.Nodup) (hn : fs.map (·.1) = fl.take ds.length) (r : Rps K F (fs.map (·.2)) ds) {i : Nat} {f : Str} {d : D} (hf : fl[i]? = some f) (hd : ds[i]? = some d) : ∃ v, fs.lookup f = some v ∧ fs[i]? = some (f, v) ∧ Rp K F v d := by
  obtain ⟨v, hv, rv⟩ := r.getD hd
  rw [List.getElem?_map] at hv
  obtain ⟨⟨g, v'⟩, e, rfl⟩ := Option.map_eq_some_iff.mp hv
  have hl := (List.getElem?_eq_some_iff.mp hd).1
  have h1 : (fs.map (·.1))[i]? = some g := by rw [List.getElem?_map, e]; rfl
  rw [hn, List.getElem?_take_of_lt hl, hf] at h1
  cases h1
  exact ⟨v', look_at (by rw [hn]; exact (List.take_sublist _ _).nodup nd) e, e, rv⟩
theorem fs_put (nd : fl.Nodup) (hn : fs.map (·.1) = fl.take ds.length) (r : Rps K F (fs.map (·.2)) ds) {i : Nat} {f : Str} {v : V} {d : D} (hf : fl[i]? = some f) (hi : i ≤ ds.length) (rv : Rp K F v d) :
    (putF f v fs).map (·.1) = fl.take (putD ds i d).length ∧ Rps K F ((putF f v fs).map (·.2)) (putD ds i d) := by
  have hlen : fs.length = ds.length := by rw [← r.length, List.length_map]
  have nd2 : (fs.map (·.1)).Nodup := by rw [hn]; exact (List.take_sublist _ _).nodup nd
  by_cases hlt : i < ds.length
  · obtain ⟨v0, _, e, _⟩ := fs_get nd hn r hf (List.getElem?_eq_getElem hlt)
    rw [putF_at nd2 e, putD_lt hlt]
    constructor
    · rw [List.map_set, List.length_set, ← hn]
      apply List.ext_getElem?
      intro j
      by_cases hj : i = j
      · subst hj
        rw [List.getElem?_set_self (by rw [List.length_map, hlen]; exact hlt), List.getElem?_map, e]; rfl
      · rw [List.getElem?_set_ne hj]
    · rw [List.map_set]
      exact r.set rv i
  · obtain rfl : i = ds.length := by omega
    have hnot : f ∉ fs.map (·.1) := by rw [hn]; exact take_not nd hf (Nat.le_refl _)
    rw [putF_new hnot, putD_eq]
    constructor
    · rw [List.map_append, List.length_append, hn]
      rw [show ds.length + [d].length = ds.length + 1 from rfl, List.take_add_one, hf]; rfl
    · rw [List.map_append]
      exact r.append (.cons rv .nil)
end
/-- e.f of an instance -/
def tFd (P : Addr → Prop) (fl : List Str) (i : Nat) (te : TEt) : TEt := fun τ M Q => te τ M fun x M1 => oObj M1 x fun _ C _ fl' ds => P C ∧ fl' = fl ∧ oSome (nthD ds i) fun d => Q d M1
/-- e.f = v -/
def sFd (P : Addr → Prop) (fl : List Str) (i : Nat) (te tv : TEt) : TSt := fun D τ M => tv τ M fun y M1 => te τ M1 fun x M2 => oObj M2 x fun a C dx fl' ds => P C ∧ fl' = fl ∧ i ≤ ds.length ∧ D.nx τ (mup M2 a (.obj C dx fl (putD ds i y)))
/-- e.f op= v -/
def sFa (P : Addr → Prop) (fl : List Str) (i : Nat) (te tv : TEt) (r : R2t) : TSt := fun D τ M => te τ M fun x M1 => oObj M1 x fun _ C _ fl' ds => P C ∧ fl' = fl ∧ oSome (nthD ds i) fun d =>
  tv τ M1 fun y M2 => r d y M2 fun z M3 => oObj M3 x fun a C' dx fl' ds => C' = C ∧ fl' = fl ∧ i ≤ ds.length ∧ D.nx τ (mup M3 a (.obj C dx fl (putD ds i z)))
section
variable {X : Cx} {E : XK} {Et : XT} {e value : Expr} {pos pos' : Pos} {te tv : TEt} {P : Addr → Prop} {fl : List Str} {i : Nat} {f : Str}
theorem oSome_e {α : Type} {o : Option α} {k : α → Prop} (h : oSome o k) : ∃ d, o = some d ∧ k d := by
  cases o with
  | none => exact h.elim
  | some d => exact ⟨d, rfl, h⟩
theorem q_fld (i : Nat) (fl : List Str) (c : ∀ C, P C → Cls X.K C ∧ NoAttr X.K C f) (he : QE X E Et e te) (hf : fl[i]? = some f := by rfl) (hb : attributeBase e f X.env (eval e X.env) = eval e X.env := by rfl) : QE X E Et (.Attribute e f pos) (tFd P fl i te) := PEimp (pe_fld he hb) (by
  rintro σ H Q ⟨G, F, M, τ, Qt, a, h, k⟩
  refine ⟨G, F, M, τ, _, a, h, fun v F1 H1 M1 d s1 r1 p1 q1 => ?_⟩
  obtain ⟨b, C, dx, fl', ds, rfl, hM, hP, rfl, q5⟩ := oObj_e q1
  obtain ⟨d', hd, q6⟩ := oSome_e q5
  cases p1
  obtain ⟨_, u, hu, r⟩ := r1.chg b _ hM
  · obtain ⟨fs, rfl, nd, hn, rr⟩ := RpO_obj r
    obtain ⟨v', e1, _, rv⟩ := fs_get nd hn rr hf (nthD_get hd)
    exact ⟨b, C, dx, fs, v', rfl, hu, (c _ hP).1, (c _ hP).2, e1, k v' F1 H1 M1 d' s1 r1 rv q6⟩)
theorem qs_fld (i : Nat) (fl : List Str) (c : ∀ C, P C → Cls X.K C ∧ NoAttr X.K C f) (he : QE X E Et e te) (hv : QE X E Et value tv) (hf : fl[i]? = some f := by rfl) (hl : fl.length < 1000 := by decide)
    (hs : swapsWith value (some (.Attribute e f pos')) pos.line X.env = pure false := by rfl) : QS X E Et (.Assign [.Attribute e f pos'] value pos) (sFd P fl i te tv) := PSimp (ps_fld he hv hs) (by
  rintro D σ H ⟨G, F, M, τ, Dt, a, en, h⟩
  refine ⟨G, F, M, τ, _, a, h, fun v F1 H1 M1 d s1 r1 p1 q1 => ?_⟩
  refine ⟨G, F1, M1, τ, _, a.step s1 r1, q1, fun x F2 H2 M2 xd s2 r2 p2 q2 => ?_⟩
  obtain ⟨b, C, dx, fl', ds, rfl, hM, hP, rfl, hi, q5⟩ := oObj_e q2
  cases p2
  obtain ⟨_, u, hu, r⟩ := r2.chg b _ hM
  · obtain ⟨fs, rfl, nd, hn, rr⟩ := RpO_obj r
    have z := fs_put nd hn rr hf hi (p1.mono s2)
    have z2 : RpO X.K F2 (.ins C dx (putF f v fs)) (.obj C dx _ (putD ds i d)) := ⟨rfl, rfl, nd, z.1, z.2⟩
    have hlen : fs.length < 1000 := by
      have := congrArg List.length hn
      rw [List.length_map, List.length_take] at this; omega
    exact ⟨b, C, dx, fs, rfl, hu, (c _ hP).1, (c _ hP).2, hlen, en.nx F2 _ _ _ _ (s1.trans s2) ⟨r2.put hM z2, (a.sg.mono s1).mono s2, (a.el.mono s1).mono s2⟩ q5⟩)
end
/-! ### methods -/
/-- a method of the class c -/
structure Fm (P : Program) (w : World) (K : PySem.W.Frag) (mg : Str → Option Value) (base : Heap) (CX : CXT) (k : Nat) (c m : Str) (sp : SpT) : Prop where
  ok : ∃ fd ps, FnOk P w K mg base CX k (He.ma K (He.ga K c) m) fd ps (lSp K sp) ∧ Binds K fd ps []
  me : Meth K (He.ga K c) m (He.ma K (He.ga K c) m)
  cl : Cls K (He.ga K c)
/-- a class that is made -/
structure Fi (P : Program) (w : World) (K : PySem.W.Frag) (mg : Str → Option Value) (base : Heap) (CX : CXT) (k : Nat) (c : Str) (sp : SpT) : Prop where
  ok : ∃ fd ps, FnOk P w K mg base CX k (He.ma K (He.ga K c) "__init__") fd ps (lSp K sp) ∧ Binds K fd ps []
  mkr : Mk K (He.ga K c) (He.ma K (He.ga K c) "__init__")
  m : mg c = some (.ref (He.ga K c))
def tMe (C : Addr) (fl : List Str) (sp : SpT) (te : TEt) (ta : TAt) : TEt := fun τ M Q => te τ M fun x M1 => oObj M1 x fun _ C' _ fl' _ => C' = C ∧ fl' = fl ∧ ta τ M1 fun ys M2 => sp (x :: ys) M2 Q Et0
def tMk (C : Addr) (fl : List Str) (sp : SpT) (ta : TAt) : TEt := fun τ M Q => ta τ M fun ys M1 => ∀ x dx, M1 x = none → sp (.ref x :: ys) (mup M1 x (.obj C dx fl [])) (fun v M2 => v = .non ∧ Q (.ref x) M2) Et0
def tAlt (t u : TEt) : TEt := fun τ M Q => t τ M Q ∨ u τ M Q
section
variable {X : Cx} {E : XK} {Et : XT} {e : Expr} {es : List Expr} {pos apos p : Pos} {te : TEt} {ta : TAt} {fl : List Str} {c m : Str} {sp : SpT} {k : Nat} {o : Expr}
theorem lv_meth {E' : XK} {to : TEt} (hm : m ∉ fl) : ∀ σ H Q, liftE X.K E Et (tMe (He.ga X.K c) fl sp to ta) σ H Q → tMeth (He.ga X.K c) m (lSp X.K sp) [] E' (liftE X.K E Et to) (liftA X.K E Et ta) σ H Q := by
  rintro σ H Q ⟨G, F, M, τ, Qt, a, h, k⟩
  refine ⟨G, F, M, τ, _, a, h, fun x F1 H1 M1 d s1 r1 p1 q1 => ?_⟩
  obtain ⟨b, C, dx, fl', ds, rfl, hM, rfl, rfl, q5⟩ := oObj_e q1
  cases p1
  obtain ⟨_, u, hu, r⟩ := r1.chg b _ hM
  · obtain ⟨fs, rfl, nd, hn, rr⟩ := RpO_obj r
    refine ⟨b, dx, fs, rfl, hu, look_not (by rw [hn]; exact fun z => hm (List.mem_of_mem_take z)), G, F1, M1, τ, _, a.step s1 r1, q5, fun vs F2 H2 M2 ys s2 r2 p2 q2 => ?_⟩
    show lSp X.K sp (.ref b :: (vs ++ [])) H2 Q E'
    rw [List.append_nil]
    exact ⟨G, F2, M2, .ref b :: ys, Qt, Et0, r2, .cons (.ref b) p2, .never, q2, fun v F' H' M' d s => k v F' H' M' d ((s1.trans s2).trans s)⟩
theorem q_meth (fl : List Str) (Fo : Fm X.prog X.w X.K X.mg X.base CX0 k c m sp) (hr : Room k X.A) {to : TEt} (he : QE X E Et o to) (ha : QA X E Et (e :: es) ta) (hm : m ∉ fl := by decide)
    (hst : starEach (e :: es) X.env = (false, eval e X.env) :: starEach es X.env := by rfl) (hpl : (backTo pos (starEach es X.env)).any (·.1) = false := by rfl)
    {pl : Sem Bool} (ht : eval (.Call (.Attribute o m apos) (e :: es) [] pos) X.env = (do
      let ov ← eval o X.env
      standAt apos.atName
      let (f, first) ← holding [ov] (getMethod ov m pl)
      callWith pos f first (backTo pos (starEach (e :: es) X.env)) (backToKw pos (keywordEach [] X.env))) := by rfl) :
    QE X E Et (.Call (.Attribute o m apos) (e :: es) [] pos) (tMe (He.ga X.K c) fl sp to ta) := by
  obtain ⟨⟨fd, ps, F1, b⟩, me, cl⟩ := Fo
  exact PEimp (pe_meth he cl me F1 hr b .nil pass0 ha hst hpl ht) (lv_meth hm)
theorem q_meth0 (fl : List Str) (Fo : Fm X.prog X.w X.K X.mg X.base CX0 k c m sp) (hr : Room k X.A) {to : TEt} (he : QE X E Et o to) (hm : m ∉ fl := by decide)
    {pl : Sem Bool} (ht : eval (.Call (.Attribute o m apos) [] [] pos) X.env = (do
      let ov ← eval o X.env
      standAt apos.atName
      let (f, first) ← holding [ov] (getMethod ov m pl)
      callWith pos f first (backTo pos (starEach [] X.env)) (backToKw pos (keywordEach [] X.env))) := by rfl) :
    QE X E Et (.Call (.Attribute o m apos) [] [] pos) (tMe (He.ga X.K c) fl sp to tN) := by
  obtain ⟨⟨fd, ps, F1, b⟩, me, cl⟩ := Fo
  refine PEimp (pe_meth0 he cl me F1 hr b .nil pass0 ht) ?_
  rintro σ H Q h
  obtain ⟨hx⟩ : Nonempty Unit := ⟨()⟩
  obtain ⟨G, F, M, τ, Qt, a, h, k⟩ := h
  refine ⟨G, F, M, τ, _, a, h, fun x F1 H1 M1 d s1 r1 p1 q1 => ?_⟩
  obtain ⟨b', C, dx, fl', ds, rfl, hM, rfl, rfl, q5⟩ := oObj_e q1
  cases p1
  obtain ⟨_, u, hu, r⟩ := r1.chg b' _ hM
  · obtain ⟨fs, rfl, nd, hn, rr⟩ := RpO_obj r
    refine ⟨b', dx, fs, rfl, hu, look_not (by rw [hn]; exact fun z => hm (List.mem_of_mem_take z)), ?_⟩
    exact ⟨G, F1, M1, [.ref b'], Qt, Et0, r1, .cons (.ref b') .nil, .never, q5, fun v F' H' M' d s => k v F' H' M' d (s1.trans s)⟩
theorem lv_make1 {E' : XK} {H1 : Hp} {F1 G : Hp} {M1 : MH} {ys : List D} {vs : List V} {Q : VK} {Qt : VD} (nd : fl.Nodup) (r1 : Rel X.K G F1 H1 M1) (p1 : Rps X.K F1 vs ys)
    (h : ∀ x dx, M1 x = none → sp (.ref x :: ys) (mup M1 x (.obj (He.ga X.K c) dx fl [])) (fun v M2 => v = .non ∧ Qt (.ref x) M2) Et0)
    (k : ∀ v F' H' M' d, Same F1 F' → Rel X.K G F' H' M' → Rp X.K F' v d → Qt d M' → Q v H') :
    ∀ x dx, H1 x = none → H1 dx = none → dx ≠ x → lSp X.K sp (.ref x :: vs) (upd (upd H1 dx (.own x)) x (.ins (He.ga X.K c) dx [])) (fun v H2 => v = .non ∧ Q (.ref x) H2) E' := by
  intro x dx nx ndx ne
  obtain ⟨s2, r2⟩ := r1.newF (o := .own x) ndx
  have r3 := r2.newM (p := x) (u := .ins (He.ga X.K c) dx []) (o := .obj (He.ga X.K c) dx fl []) (by rw [upd_ne (Ne.symm ne)]; exact nx) ⟨rfl, rfl, nd, rfl, .nil⟩
  refine ⟨G, _, _, .ref x :: ys, _, Et0, r3, .cons (.ref x) (p1.mono s2), .never, h x dx (r1.free nx).2, fun v F' H' M' d s r p q => ?_⟩
  obtain ⟨rfl, q⟩ := q
  cases p
  exact ⟨rfl, k _ F' H' M' (.ref x) (s2.trans s) r (.ref x) q⟩
theorem q_make (fl : List Str) (Fo : Fi X.prog X.w X.K X.mg X.base CX0 k c sp) (hr : Room (k + 1) X.A) (ha : QA X E Et (e :: es) ta) (hg : Gl X c := by rfl) (nd : fl.Nodup := by decide) (hdb : (c == ("__debug__" : Str)) = false := by decide)
    (he : starEach (e :: es) X.env = (false, eval e X.env) :: starEach es X.env := by rfl) (hpl : (backTo pos (starEach es X.env)).any (·.1) = false := by rfl) : QE X E Et (.Call (.Name c p) (e :: es) [] pos) (tMk (He.ga X.K c) fl sp ta) := by
  obtain ⟨⟨fd, ps, F1, b⟩, mk, m⟩ := Fo
  refine PEimp (pe_make mk F1 hr hg m b .nil pass0 ha hdb he hpl) ?_
  rintro σ H Q ⟨G, F, M, τ, Qt, a, h, k⟩
  refine ⟨G, F, M, τ, _, a, h, fun vs F1 H1 M1 ys s1 r1 p1 q1 => ?_⟩
  intro x dx nx ndx ne
  show lSp X.K sp (.ref x :: (vs ++ [])) _ _ E0
  rw [List.append_nil]
  exact lv_make1 nd r1 p1 q1 (fun v F' H' M' d s => k v F' H' M' d (s1.trans s)) x dx nx ndx ne
end
section
variable {P : Program} {w : World} {K : PySem.W.Frag} {mg : Str → Option Value} {base : Heap} {c m : Str} {N ps : List Str} {k : Nat} {sp : SpT} {fa : List He.Fa} {fn : List He.DefD}
theorem Top.cls (T : Top fa fn K mg) (i : Nat) {x : Str} (h : fa[i]? = some (.cls x) := by rfl) : Cls K (He.ga K x) := He.cls_ok (T.says.fact i h)
theorem Top.noat (T : Top fa fn K mg) (i : Nat) {x f : Str} (h : fa[i]? = some (.noat x f) := by rfl) : NoAttr K (He.ga K x) f := He.noat_ok (T.says.fact i h)
theorem Top.meth (T : Top fa fn K mg) (i : Nat) {x f : Str} (h : fa[i]? = some (.meth x f) := by rfl) : Meth K (He.ga K x) f (He.ma K (He.ga K x) f) := He.meth_ok (T.says.fact i h)
theorem Top.mkr (T : Top fa fn K mg) (i : Nat) {x : Str} (h : fa[i]? = some (.mkr x) := by rfl) : Mk K (He.ga K x) (He.ma K (He.ga K x) "__init__") := He.mkr_ok (T.says.fact i h)
/-- THE RULE of a method's code, at whatever place -/
theorem fa_top (T : Top fa fn K mg) (d : He.DefD) (i : Nat) (S : FnScope N ps d.scope) (len : ∀ ds M Q Et, sp ds M Q Et → ds.length = ps.length)
    (hb : ∀ (cdv : Value) (A : Around) (outer : List Env) (s : Shared) (H : Hp) (E : XK), Room k (A.deeper (envOfC d.qual d.scope s.heap.objs.size (He.fAd K d.at_) cdv)) →
      ∃ t, QSs (cxOf CX0 P w K mg base N d.qual d.scope (He.fAd K d.at_) cdv A outer s H E).nox E0 Et0 d.body t ∧ ∀ ds M Q Et, sp ds M Q Et → t { nx := fun _ M' => Q .non M', rt := Q } (begin_ N ds) M)
    (bd : ∀ (kV doc pm : Value) (an : Option Addr) (cdv ct : Value) (us : List Value), us.length = ps.length → bindArgs (PySem.W.fnOf d.name d.qual d.params d.body d.scope .none kV doc pm an cdv ct) ⟨us, []⟩ = pure (ps.zip us))
    (h : fn[i]? = some d := by rfl) (h0 : d.dfl = [] := by rfl) (h1 : d.kwd = [] := by rfl) : ∃ fd ps, FnOk P w K mg base CX0 (k + 1) (He.fAd K d.at_) fd ps (lSp K sp) ∧ Binds K fd ps [] := by
  obtain ⟨fd, F⟩ := T.says.def_ i h
  have e0 : d.dvs K = [] := by unfold He.DefD.dvs; rw [h0]; rfl
  have e1 : d.kws K = [] := by unfold He.DefD.kws; rw [h1]; rfl
  rw [e0, e1] at F
  exact ⟨fd, ps, fn_ok d fd F S len hb, F.bindsN bd⟩
theorem fm_top (T : Top fa fn K mg) (d : He.DefD) (i : Nat) (S : FnScope N ps d.scope) (me : Meth K (He.ga K c) m (He.ma K (He.ga K c) m)) (cl : Cls K (He.ga K c)) (len : ∀ ds M Q Et, sp ds M Q Et → ds.length = ps.length)
    (hb : ∀ (cdv : Value) (A : Around) (outer : List Env) (s : Shared) (H : Hp) (E : XK), Room k (A.deeper (envOfC d.qual d.scope s.heap.objs.size (He.fAd K d.at_) cdv)) →
      ∃ t, QSs (cxOf CX0 P w K mg base N d.qual d.scope (He.fAd K d.at_) cdv A outer s H E).nox E0 Et0 d.body t ∧ ∀ ds M Q Et, sp ds M Q Et → t { nx := fun _ M' => Q .non M', rt := Q } (begin_ N ds) M)
    (bd : ∀ (kV doc pm : Value) (an : Option Addr) (cdv ct : Value) (us : List Value), us.length = ps.length → bindArgs (PySem.W.fnOf d.name d.qual d.params d.body d.scope .none kV doc pm an cdv ct) ⟨us, []⟩ = pure (ps.zip us))
    (h : fn[i]? = some d := by rfl) (h0 : d.dfl = [] := by rfl) (h1 : d.kwd = [] := by rfl) (hx : d.at_ = (c, some m) := by rfl) : Fm P w K mg base CX0 (k + 1) c m sp := by
  have z := fa_top (P := P) (w := w) (base := base) T d i S len hb bd h h0 h1
  rw [hx] at z
  exact ⟨z, me, cl⟩
theorem fi_top (T : Top fa fn K mg) (d : He.DefD) (i : Nat) (S : FnScope N ps d.scope) (mk : Mk K (He.ga K c) (He.ma K (He.ga K c) "__init__")) (hm : mg c = some (.ref (He.ga K c))) (len : ∀ ds M Q Et, sp ds M Q Et → ds.length = ps.length)
    (hb : ∀ (cdv : Value) (A : Around) (outer : List Env) (s : Shared) (H : Hp) (E : XK), Room k (A.deeper (envOfC d.qual d.scope s.heap.objs.size (He.fAd K d.at_) cdv)) →
      ∃ t, QSs (cxOf CX0 P w K mg base N d.qual d.scope (He.fAd K d.at_) cdv A outer s H E).nox E0 Et0 d.body t ∧ ∀ ds M Q Et, sp ds M Q Et → t { nx := fun _ M' => Q .non M', rt := Q } (begin_ N ds) M)
    (bd : ∀ (kV doc pm : Value) (an : Option Addr) (cdv ct : Value) (us : List Value), us.length = ps.length → bindArgs (PySem.W.fnOf d.name d.qual d.params d.body d.scope .none kV doc pm an cdv ct) ⟨us, []⟩ = pure (ps.zip us))
    (h : fn[i]? = some d := by rfl) (h0 : d.dfl = [] := by rfl) (h1 : d.kwd = [] := by rfl) (hx : d.at_ = (c, some ("__init__" : Str)) := by rfl) : Fi P w K mg base CX0 (k + 1) c sp := by
  have z := fa_top (P := P) (w := w) (base := base) T d i S len hb bd h h0 h1
  rw [hx] at z
  exact ⟨z, mk, hm⟩
end
/-! ### readings, for simp -/
section
variable {τ : Sg} {M : MH} {Q : VD} {te tv : TEt} {ta : TAt} {P : Addr → Prop} {fl : List Str} {i : Nat} {a C dx : Addr} {ds : List D} {sp : SpT}
def oAt (o : Option MO) (k : Addr → Addr → List Str → List D → Prop) : Prop := match o with
  | some (.obj C dx fl ds) => k C dx fl ds
  | _ => False
theorem uObj {k : Addr → Addr → Addr → List Str → List D → Prop} : oObj M (.ref a) k = oAt (M a) (k a) := by
  show (match M a with | some (.obj C dx fl ds) => k a C dx fl ds | _ => False) = oAt (M a) (k a)
  cases M a with
  | none => rfl
  | some o => cases o <;> rfl
theorem oAt_i {k : Addr → Addr → List Str → List D → Prop} : oAt (some (.obj C dx fl ds)) k = k C dx fl ds := propext Iff.rfl
theorem cxK {CX : CXT} {P : Program} {w : World} {K : PySem.W.Frag} {mg : Str → Option Value} {base : Heap} {N : List Str} {qual : Str} {scope : Scope} {f : Addr} {cdv : Value} {A : Around} {outer : List Env} {s : Shared} {H : Hp} {E : XK} : (cxOf CX P w K mg base N qual scope f cdv A outer s H E).K = K := rfl
theorem cxKn {CX : CXT} {P : Program} {w : World} {K : PySem.W.Frag} {mg : Str → Option Value} {base : Heap} {N : List Str} {qual : Str} {scope : Scope} {f : Addr} {cdv : Value} {A : Around} {outer : List Env} {s : Shared} {H : Hp} {E : XK} : (cxOf CX P w K mg base N qual scope f cdv A outer s H E).nox.K = K := rfl
theorem uAlt {t u : TEt} : tAlt t u τ M Q = (t τ M Q ∨ u τ M Q) := propext Iff.rfl
end
end Tl
namespace Tl
open PySem PySem.Spec PyProof.Rows L2
/-! ### == of nested data -/
mutual
def pyD : D → Option PyData
  | .non => some .none
  | .bl b => some (.bool b)
  | .int i => some (.int i)
  | .str s => some (.str s)
  | .tup l => (pyDs l).map .tuple
  | .tab l => (pyDs l).map .tuple
  | .lst l => (pyDs l).map .list
  | .scr l => (pyDs l).map .list
  | .ref _ => none
  | .ty _ => none
def pyDs : List D → Option (List PyData)
  | [] => some []
  | x :: t => match pyD x, pyDs t with
    | some a, some b => some (a :: b)
    | _, _ => none
end
def pyM (M : MH) (d : D) : Option PyData := match d with
  | .ref a => match M a with
    | some (.lst ds) => (pyDs ds).map .list
    | _ => none
  | d => pyD d
section
variable {K : PySem.W.Frag} {F H : Hp}
mutual
theorem Rp.dp (s : Same F H) : ∀ {v : V} {d : D} {y : PyData}, Rp K F v d → pyD d = some y → Dp K H v y
  | _, _, _, .non, e => by unfold pyD at e; cases e; exact .non
  | _, _, _, .bl b, e => by unfold pyD at e; cases e; exact .bl b
  | _, _, _, .int i, e => by unfold pyD at e; cases e; exact .int i
  | _, _, _, .str x, e => by unfold pyD at e; cases e; exact .str x
  | _, _, _, .ty n, e => by unfold pyD at e; cases e
  | _, _, _, .ref a, e => by unfold pyD at e; cases e
  | _, _, _, .tup h r, e => by
    unfold pyD at e
    obtain ⟨ys, e2, rfl⟩ := Option.map_eq_some_iff.mp e
    exact .tup (SqT.of (s _ _ h)) (Rps.dp s r e2)
  | _, _, _, .tab h r, e => by
    unfold pyD at e
    obtain ⟨ys, e2, rfl⟩ := Option.map_eq_some_iff.mp e
    exact .tup (SameT s h) (Rps.dp s r e2)
  | _, _, _, .lst h r, e => by
    unfold pyD at e
    obtain ⟨ys, e2, rfl⟩ := Option.map_eq_some_iff.mp e
    exact .lst (SqL.of (s _ _ h)) (Rps.dp s r e2)
  | _, _, _, .scr h r, e => by
    unfold pyD at e
    obtain ⟨ys, e2, rfl⟩ := Option.map_eq_some_iff.mp e
    exact .lst (s.seq h) (Rps.dp s r e2)
theorem Rps.dp (s : Same F H) : ∀ {vs : List V} {ds : List D} {ys : List PyData}, Rps K F vs ds → pyDs ds = some ys → DpAll K H vs ys
  | _, _, _, .nil, e => by unfold pyDs at e; cases e; exact .nil
  | _, _, _, .cons (d := d) (ds := ds) h t, e => by
    unfold pyDs at e
    cases q : pyD d with
    | none => simp only [q] at e; cases e
    | some a =>
      cases q2 : pyDs ds with
      | none => simp only [q, q2] at e; cases e
      | some b =>
        simp only [q, q2] at e
        cases e
        exact .cons (Rp.dp s h q) (Rps.dp s t q2)
end
theorem dp_of {G : Hp} {M : MH} {v : V} {d : D} {y : PyData} (R : Rel K G F H M) (p : Rp K F v d) (e : pyM M d = some y) : Dp K H v y := by
  cases d with
  | ref a =>
    cases p
    unfold pyM at e
    cases q : M a with
    | none => simp only [q] at e; cases e
    | some o =>
      simp only [q] at e
      obtain ⟨_, u, hu, r⟩ := R.chg a o q
      cases o with
      | lst ds =>
        obtain ⟨ys, e2, rfl⟩ := Option.map_eq_some_iff.mp e
        cases u with
        | lst vs => exact .lst (SqL.of hu) (Rps.dp R.sub r e2)
        | _ => exact (r : False).elim
      | _ => cases e
  | _ => exact Rp.dp R.sub p e
end
def bEqD : R2t := fun x y M Q => match pyM M x, pyM M y with
  | some d, some e => SeqAt.shaped d = true ∧ SeqAt.shaped e = true ∧ Q (.bl (PyData.eqv d e)) M
  | _, _ => False
def bNeD : R2t := fun x y M Q => match pyM M x, pyM M y with
  | some d, some e => SeqAt.shaped d = true ∧ SeqAt.shaped e = true ∧ Q (.bl (!PyData.eqv d e)) M
  | _, _ => False
section
variable {X : Cx}
theorem oq_eqD (hu : X.A.units + 64 < cLine) : OpQ X (compareOp .Eq) bEqD := OpRimp (op_eqD hu) (by
  rintro x y H Q ⟨G, F, M, dx, dy, Qt, R, px, py, h, k⟩
  unfold bEqD at h
  cases e1 : pyM M dx with
  | none => simp only [e1] at h
  | some d =>
    cases e2 : pyM M dy with
    | none => simp only [e1, e2] at h
    | some e =>
      simp only [e1, e2] at h
      exact ⟨d, e, dp_of R px e1, dp_of R py e2, h.1, h.2.1, k _ F H M _ (Same.refl _) R (.bl _) h.2.2⟩)
theorem oq_neD (hu : X.A.units + 64 < cLine) : OpQ X (compareOp .NotEq) bNeD := OpRimp (op_neD hu) (by
  rintro x y H Q ⟨G, F, M, dx, dy, Qt, R, px, py, h, k⟩
  unfold bNeD at h
  cases e1 : pyM M dx with
  | none => simp only [e1] at h
  | some d =>
    cases e2 : pyM M dy with
    | none => simp only [e1, e2] at h
    | some e =>
      simp only [e1, e2] at h
      exact ⟨d, e, dp_of R px e1, dp_of R py e2, h.1, h.2.1, k _ F H M _ (Same.refl _) R (.bl _) h.2.2⟩)
end
/-! data whose == is sameness: its texts are texts, its nesting is below n -/
mutual
def okD : Nat → D → Prop
  | _, .non => True
  | _, .int _ => True
  | _, .bl _ => True
  | _, .str s => PyData.strOk s = true
  | n + 1, .tup l => okDs n l
  | n + 1, .lst l => okDs n l
  | n + 1, .scr l => okDs n l
  | n + 1, .tab l => okDs n l
  | _, _ => False
def okDs : Nat → List D → Prop
  | _, [] => True
  | n, x :: t => okD n x ∧ okDs n t
end
mutual
theorem okD_py : ∀ (n : Nat) (d : D), okD n d → ∃ y, pyD d = some y ∧ y.canLay0 = true ∧ y.depth ≤ n
  | n, .non, _ => ⟨.none, by unfold pyD; rfl, by unfold PyData.canLay0; rfl, by unfold PyData.depth; omega⟩
  | n, .int i, _ => ⟨.int i, by unfold pyD; rfl, by unfold PyData.canLay0; rfl, by unfold PyData.depth; omega⟩
  | n, .bl b, _ => ⟨.bool b, by unfold pyD; rfl, by unfold PyData.canLay0; rfl, by unfold PyData.depth; omega⟩
  | n, .str s, h => ⟨.str s, by unfold pyD; rfl, by unfold PyData.canLay0; unfold okD at h; exact h, by unfold PyData.depth; omega⟩
  | n + 1, .tup l, h => by
    unfold okD at h
    obtain ⟨ys, e, c, dp⟩ := okDs_py n l h
    exact ⟨.tuple ys, by unfold pyD; rw [e]; rfl, by unfold PyData.canLay0; exact c, by unfold PyData.depth; omega⟩
  | n + 1, .tab l, h => by
    unfold okD at h
    obtain ⟨ys, e, c, dp⟩ := okDs_py n l h
    exact ⟨.tuple ys, by unfold pyD; rw [e]; rfl, by unfold PyData.canLay0; exact c, by unfold PyData.depth; omega⟩
  | n + 1, .lst l, h => by
    unfold okD at h
    obtain ⟨ys, e, c, dp⟩ := okDs_py n l h
    exact ⟨.list ys, by unfold pyD; rw [e]; rfl, by unfold PyData.canLay0; exact c, by unfold PyData.depth; omega⟩
  | n + 1, .scr l, h => by
    unfold okD at h
    obtain ⟨ys, e, c, dp⟩ := okDs_py n l h
    exact ⟨.list ys, by unfold pyD; rw [e]; rfl, by unfold PyData.canLay0; exact c, by unfold PyData.depth; omega⟩
  | 0, .tup l, h => by unfold okD at h; exact h.elim
  | 0, .tab l, h => by unfold okD at h; exact h.elim
  | 0, .lst l, h => by unfold okD at h; exact h.elim
  | 0, .scr l, h => by unfold okD at h; exact h.elim
  | _, .ref _, h => by unfold okD at h; exact h.elim
  | _, .ty _, h => by unfold okD at h; exact h.elim
theorem okDs_py : ∀ (n : Nat) (l : List D), okDs n l → ∃ ys, pyDs l = some ys ∧ PyData.canLayAll0 ys = true ∧ PyData.depthAll ys ≤ n
  | n, [], _ => ⟨[], by unfold pyDs; rfl, by unfold PyData.canLayAll0; rfl, by unfold PyData.depthAll; omega⟩
  | n, x :: t, h => by
    unfold okDs at h
    obtain ⟨y, e1, c1, d1⟩ := okD_py n x h.1
    obtain ⟨ys, e2, c2, d2⟩ := okDs_py n t h.2
    exact ⟨y :: ys, by unfold pyDs; rw [e1, e2], by unfold PyData.canLayAll0; rw [c1, c2]; rfl, by unfold PyData.depthAll; omega⟩
end
theorem okDs_of {n : Nat} : ∀ {l : List D}, (∀ x ∈ l, okD n x) → okDs n l
  | [], _ => by unfold okDs; trivial
  | x :: t, h => by unfold okDs; exact ⟨h x (List.mem_cons_self ..), okDs_of fun y hy => h y (List.mem_cons_of_mem _ hy)⟩
/-- a frozen thing, or a changing list of frozen things -/
def asD (M : MH) (d : D) : Option D := match d with
  | .ref a => match M a with
    | some (.lst ds) => some (.lst ds)
    | _ => none
  | d => some d
theorem pyM_asD {M : MH} {d e : D} (h : asD M d = some e) : pyM M d = pyD e := by
  cases d with
  | ref a =>
    unfold asD at h
    unfold pyM
    cases q : M a with
    | none => simp only [q] at h; cases h
    | some o => cases o <;> simp only [q] at h ⊢ <;> cases h; unfold pyD; rfl
  | _ => cases h; rfl
theorem neD_same {M : MH} {x y z : D} {Q : VD} (n : Nat) (hx : asD M x = some z) (hy : asD M y = some z) (ok : okD n z) (h : Q (.bl false) M) (hn : n ≤ 64 := by decide) : bNeD x y M Q := by
  obtain ⟨d, e, c, dp⟩ := okD_py n z ok
  unfold bNeD
  simp only [pyM_asD hx, pyM_asD hy, e]
  have sh : SeqAt.shaped d = true := Bool.and_eq_true_iff.mpr ⟨c, decide_eq_true (by omega)⟩
  exact ⟨sh, sh, by rw [SeqAt.eqv_refl d c]; exact h⟩
/-- what was made and is needed no more -/
theorem ReR.new {K : PySem.W.Frag} {d : D} {M : MH} {a : Addr} {o : MO} (h : M a = none) : ReR K d (mup M a o) d M := ReR.drop fun b o' e => by
  rw [mup_ne (by rintro rfl; rw [h] at e; cases e)]; exact e
theorem wd60 {i j : Int} (h : 0 < j) (hj : j < 2 ^ 60) : CDivW i j := wide_div (b := 60) h (by omega) (by decide) (by decide)
theorem modB {a b : Int} (h : 0 < b) : 0 ≤ a % b ∧ a % b < b := ⟨Int.emod_nonneg _ (by omega), Int.emod_lt_of_pos _ h⟩
theorem rgc_up {i j c : Int} (hi : 0 ≤ i ∧ i ≤ 1000000) (hj : 0 ≤ j ∧ j ≤ 1000000) (hc : 1 ≤ c ∧ c ≤ 1000000) : ∃ n, RgC i j c n ∧ ∀ k : Nat, k < n → i + k * c < j := by
  have e : Builtin.Range.rangeSize i j c = if i < j then (j - i - 1) / c + 1 else 0 := by
    unfold Builtin.Range.rangeSize
    rw [if_pos (by omega)]
  have hb : i < j → 0 ≤ (j - i - 1) / c ∧ (j - i - 1) / c ≤ 1000000 := fun h => by
    refine ⟨Int.ediv_nonneg (by omega) (by omega), ?_⟩
    have := Int.ediv_le_self (a := j - i - 1) c (by omega)
    omega
  have hn : 0 ≤ Builtin.Range.rangeSize i j c ∧ Builtin.Range.rangeSize i j c ≤ 1000001 := by
    rw [e]
    split
    · rename_i h
      have := hb h
      omega
    · omega
  refine ⟨(Builtin.Range.rangeSize i j c).toNat, ⟨by omega, by omega, ?_, by omega⟩, fun k hk => ?_⟩
  · unfold Builtin.Range.small
    simp only [Builtin.Range.rangeFitsLong, Bool.and_eq_true, Bool.or_eq_true, decide_eq_true_eq, beq_iff_eq]
    rw [if_pos (by omega), Bool.and_eq_true, decide_eq_true_eq, decide_eq_true_eq]
    omega
  · rw [e] at hk
    split at hk
    · rename_i h
      have := hb h
      have h2 : (k : Int) ≤ (j - i - 1) / c := by omega
      have h3 := (Int.le_ediv_iff_mul_le (show 0 < c by omega)).mp h2
      omega
    · simp at hk
theorem cut_tail {x : D} {t : List D} : Tl.cutD (x :: t) (some 1) none = t := by
  unfold Tl.cutD
  rw [show (1 : Int) = ((1 : Nat) : Int) from rfl, HT.sIx_nat, HT.sIx_none]
  simp
theorem un64 {k : Nat} {A : Around} (hr : Room k A) : A.units + 64 < cLine := hr.units
end Tl
namespace Tl
open PySem PySem.Spec PyProof.Rows L2
/-! ### dicts -/
section
variable {κ : Type} [DecidableEq κ]
def valD (kvs : List (κ × D)) (k : κ) : Option D := (kvs.find? fun kv => decide (kv.1 = k)).map (·.2)
def putM (kvs : List (κ × D)) (k : κ) (v : D) : List (κ × D) :=
  if (kvs.any fun kv => decide (kv.1 = k)) = true then kvs.map (fun kv => if kv.1 = k then (kv.1, v) else kv) else kvs ++ [(k, v)]
theorem valD_pos {p : κ × D} {r : List (κ × D)} {k : κ} (e : p.1 = k) : valD (p :: r) k = some p.2 := by simp [valD, List.find?_cons, e]
theorem valD_neg {p : κ × D} {r : List (κ × D)} {k : κ} (e : ¬ p.1 = k) : valD (p :: r) k = valD r k := by simp [valD, List.find?_cons, e]
abbrev KP (K : PySem.W.Frag) (F : Hp) (vs : List (κ × V)) (ds : List (κ × D)) : Prop := Paired (fun (p : κ × V) (q : κ × D) => p.1 = q.1 ∧ Rp K F p.2 q.2) vs ds
variable {K : PySem.W.Frag} {F : Hp}
theorem kp_val {k : κ} : ∀ {vs : List (κ × V)} {ds : List (κ × D)}, KP K F vs ds → (valD ds k = none → valV vs k = none) ∧ ∀ d, valD ds k = some d → ∃ v, valV vs k = some v ∧ Rp K F v d
  | _, _, .nil => ⟨fun _ => rfl, fun _ h => by cases h⟩
  | _, _, .cons (a := p) (b := q) r t => by
    have ih := kp_val (k := k) t
    by_cases e : q.1 = k
    · rw [valD_pos e, valV_pos (r.1.trans e)]
      exact ⟨fun h => (by cases h), fun d h => (by cases h; exact ⟨_, rfl, r.2⟩)⟩
    · rw [valD_neg e, valV_neg (fun h => e (r.1.symm.trans h))]
      exact ih
theorem kp_any {k : κ} : ∀ {vs : List (κ × V)} {ds : List (κ × D)}, KP K F vs ds → (vs.any fun kv => decide (kv.1 = k)) = (ds.any fun kv => decide (kv.1 = k))
  | _, _, .nil => rfl
  | _, _, .cons r t => by rw [List.any_cons, List.any_cons, r.1, kp_any t]
theorem kp_map {k : κ} {v : V} {d : D} (rv : Rp K F v d) : ∀ {vs : List (κ × V)} {ds : List (κ × D)}, KP K F vs ds → KP K F (vs.map fun kv => if kv.1 = k then (kv.1, v) else kv) (ds.map fun kv => if kv.1 = k then (kv.1, d) else kv)
  | _, _, .nil => .nil
  | _, _, .cons (a := p) (b := q) r t => by
    refine .cons ?_ (kp_map rv t)
    dsimp only
    by_cases e : q.1 = k
    · rw [if_pos e, if_pos (r.1.trans e)]; exact ⟨r.1, rv⟩
    · rw [if_neg e, if_neg (fun h => e (r.1.symm.trans h))]; exact r
theorem kp_app {vs ws : List (κ × V)} {ds es : List (κ × D)} (h : KP K F vs ds) (h2 : KP K F ws es) : KP K F (vs ++ ws) (ds ++ es) := by
  induction h with
  | nil => exact h2
  | cons r t ih => exact .cons r ih
theorem kp_put {k : κ} {v : V} {d : D} (rv : Rp K F v d) {vs : List (κ × V)} {ds : List (κ × D)} (h : KP K F vs ds) : KP K F (putK vs k v) (putM ds k d) := by
  unfold putK putM
  rw [kp_any h]
  split
  · exact kp_map rv h
  · exact kp_app h (.cons ⟨rfl, rv⟩ .nil)
theorem kp_len {vs : List (κ × V)} {ds : List (κ × D)} (h : KP K F vs ds) : vs.length = ds.length := by
  induction h with
  | nil => rfl
  | cons r t ih => rw [List.length_cons, List.length_cons, ih]
end
def k1 : D → Option Key
  | .int i => some (.inl i)
  | .str s => some (.inr s)
  | _ => none
def kT : List D → Option (List Key)
  | [] => some []
  | x :: t => match k1 x, kT t with
    | some a, some b => some (a :: b)
    | _, _ => none
section
variable {K : PySem.W.Frag} {F : Hp}
theorem k1_of {v : V} {d : D} {k : Key} (p : Rp K F v d) (e : k1 d = some k) : v = kV k := by
  cases p <;> first | (cases e; rfl) | cases e
theorem kT_of : ∀ {vs : List V} {ds : List D} {ks : List Key}, Rps K F vs ds → kT ds = some ks → vs = ks.map kV
  | _, _, _, .nil, e => by cases e; rfl
  | _, _, _, .cons (d := d) (ds := ds) h t, e => by
    unfold kT at e
    cases q : k1 d with
    | none => simp only [q] at e; cases e
    | some a =>
      cases q2 : kT ds with
      | none => simp only [q, q2] at e; cases e
      | some b =>
        simp only [q, q2] at e
        cases e
        rw [k1_of h q, kT_of t q2]; rfl
end
/-- what the dict o holds at the key k -/
def oDA (o : Option MO) (k : D) (f : Option D → Prop) : Prop := match o with
  | some (.dK kvs) => match k1 k with
    | some c => f (valD kvs c)
    | none => False
  | some (.lk _ _ kvs) => match k1 k with
    | some c => f (valD kvs c)
    | none => False
  | some (.dT kvs) => match k with
    | .tup ds => match kT ds with
      | some c => f (valD kvs c)
      | none => False
    | _ => False
  | _ => False
def oDic (M : MH) (x k : D) (f : Option D → Prop) : Prop := match x with
  | .ref a => oDA (M a) k f
  | _ => False
def oPA (o : Option MO) (k d : D) (f : MO → Prop) : Prop := match o with
  | some (.dK kvs) => match k1 k with
    | some c => kvs.length < sizeLine ∧ f (.dK (putM kvs c d))
    | none => False
  | some (.dT kvs) => match k with
    | .tup ds => match kT ds with
      | some c => kvs.length < sizeLine ∧ f (.dT (putM kvs c d))
      | none => False
    | _ => False
  | _ => False
def isDic : MO → Prop
  | .dK _ => True
  | .dT _ => True
  | _ => False
theorem dic_of {K : PySem.W.Frag} {G F H : Hp} {M : MH} {a : Addr} {k : D} {y : V} {f : Option D → Prop} (R : Rel K G F H M) (p : Rp K F y k) (h : oDA (M a) k f) : ∃ o r, DGet H a y o ∧ f r ∧ (r = none → o = none) ∧ ∀ d, r = some d → ∃ v, o = some v ∧ Rp K F v d := by
  cases q : M a with
  | none => rw [q] at h; exact h.elim
  | some mo =>
    rw [q] at h
    obtain ⟨_, u, hu, r⟩ := R.chg a mo q
    cases mo with
    | dK kvs =>
      unfold oDA at h
      dsimp only at h
      cases q2 : k1 k with
      | none => simp only [q2] at h
      | some c =>
        simp only [q2] at h
        cases u with
        | dK vs =>
          have e := k1_of p q2
          subst e
          exact ⟨_, _, DGet.k hu, h, (kp_val r).1, (kp_val r).2⟩
        | _ => exact (r : False).elim
    | lk ob0 ks kvs =>
      unfold oDA at h
      dsimp only at h
      cases q2 : k1 k with
      | none => simp only [q2] at h
      | some c =>
        simp only [q2] at h
        cases u with
        | frz ob u =>
          obtain ⟨_, rfl, r2⟩ := (show ob = ob0 ∧ RpLk K F u ks kvs from r)
          have e := k1_of p q2
          subst e
          exact ⟨_, _, .inl ⟨ks, _, .inr ⟨ob, hu⟩, rfl, rfl⟩, h, (kp_val r2).1, (kp_val r2).2⟩
        | _ => exact (r : False).elim
    | dT kvs =>
      cases k with
      | tup ds =>
        unfold oDA at h
        dsimp only at h
        cases q2 : kT ds with
        | none => simp only [q2] at h
        | some c =>
          simp only [q2] at h
          cases u with
          | dT vs =>
            cases p with
            | tup hb rs =>
              have e := kT_of rs q2
              subst e
              exact ⟨_, _, DGet.t hu (R.sub _ _ hb), h, (kp_val r).1, (kp_val r).2⟩
          | _ => exact (r : False).elim
      | _ => exact h.elim
    | _ => exact h.elim
theorem put_of {K : PySem.W.Frag} {G F H : Hp} {M : MH} {a : Addr} {k d : D} {y v : V} {f : MO → Prop} (R : Rel K G F H M) (p : Rp K F y k) (pv : Rp K F v d) (h : oPA (M a) k d f) : ∃ o u, DPut H a y v (upd H a u) ∧ f o ∧ Rel K G F (upd H a u) (mup M a o) := by
  cases q : M a with
  | none => rw [q] at h; exact h.elim
  | some mo =>
    rw [q] at h
    obtain ⟨_, u, hu, r⟩ := R.chg a mo q
    cases mo with
    | dK kvs =>
      unfold oPA at h
      dsimp only at h
      cases q2 : k1 k with
      | none => simp only [q2] at h
      | some c =>
        simp only [q2] at h
        cases u with
        | dK vs =>
          have e := k1_of p q2
          subst e
          have r2 : RpO K F (.dK vs) (.dK kvs) := r
          exact ⟨_, _, DPut.k hu (by rw [kp_len (show KP K F vs kvs from r2)]; exact h.1), h.2, R.put q (show RpO K F (.dK (putK vs c v)) (.dK (putM kvs c d)) from kp_put pv r2)⟩
        | _ => exact (r : False).elim
    | dT kvs =>
      cases k with
      | tup ds =>
        unfold oPA at h
        dsimp only at h
        cases q2 : kT ds with
        | none => simp only [q2] at h
        | some c =>
          simp only [q2] at h
          cases u with
          | dT vs =>
            cases p with
            | tup hb rs =>
              have e := kT_of rs q2
              subst e
              have r2 : RpO K F (.dT vs) (.dT kvs) := r
              exact ⟨_, _, DPut.t hu (R.sub _ _ hb) (by rw [kp_len (show KP K F vs kvs from r2)]; exact h.1), h.2, R.put q (show RpO K F (.dT (putK vs c v)) (.dT (putM kvs c d)) from kp_put pv r2)⟩
          | _ => exact (r : False).elim
      | _ => exact h.elim
    | _ => exact h.elim
def tDnK : TEt := fun _ M Q => ∀ p, M p = none → Q (.ref p) (mup M p (.dK []))
def tDnT : TEt := fun _ M Q => ∀ p, M p = none → Q (.ref p) (mup M p (.dT []))
def tDg (to ti : TEt) : TEt := fun τ M Q => to τ M fun x M1 => ti τ M1 fun k M2 => oDic M2 x k fun r => oSome r fun d => Q d M2
def tDi (neg : Bool) (ti to : TEt) : TEt := fun τ M Q => ti τ M fun k M1 => to τ M1 fun x M2 => oDic M2 x k fun r => Q (.bl (if neg = true then !r.isSome else r.isSome)) M2
def tDg2 (to ti tz : TEt) : TEt := fun τ M Q => to τ M fun x M1 => (∃ a o, x = .ref a ∧ M1 a = some o ∧ isDic o) ∧ ti τ M1 fun k M2 => tz τ M2 fun z M3 => oDic M3 x k fun r => Q (r.getD z) M3
def zDict : TSett := fun o i v M Q => match o with
  | .ref a => oPA (M a) i v fun mo => Q (mup M a mo)
  | _ => False
section
variable {X : Cx} {E : XK} {Et : XT} {o i z : Expr} {pos apos cpos : Pos} {to ti tz : TEt}
theorem q_dnewK : QE X E Et (.Dict [] [] pos) tDnK := PEimp pe_dnewK (by
  rintro σ H Q ⟨G, F, M, τ, Qt, a, h, k⟩ p np
  exact k _ F _ _ _ (Same.refl _) (a.rel.newM (u := .dK []) (o := .dK []) np .nil) (.ref p) (h p (a.rel.free np).2))
theorem dic_ref {M : MH} {x k : D} {f : Option D → Prop} (h : oDic M x k f) : ∃ a, x = .ref a ∧ oDA (M a) k f := by
  cases x with
  | ref a => exact ⟨a, rfl, h⟩
  | _ => exact h.elim
theorem lv_din {neg : Bool} : ∀ σ H Q, liftE X.K E Et (tDi neg ti to) σ H Q → (liftE X.K E Et ti σ H fun y H1 => liftE X.K E Et to σ H1 fun x H2 => ∃ a o, x = .ref a ∧ DGet H2 a y o ∧ Q (.bl (if neg = true then !o.isSome else o.isSome)) H2) := by
  rintro σ H Q ⟨G, F, M, τ, Qt, a, h, k⟩
  refine ⟨G, F, M, τ, _, a, h, fun y F1 H1 M1 e s1 r1 p1 q1 => ?_⟩
  refine ⟨G, F1, M1, τ, _, a.step s1 r1, q1, fun x F2 H2 M2 d s2 r2 p2 q2 => ?_⟩
  obtain ⟨b, rfl, q3⟩ := dic_ref q2
  obtain ⟨ov, r, g, hf, h0, h1⟩ := dic_of r2 (p1.mono s2) q3
  have e : ov.isSome = r.isSome := by
    cases r with
    | none => rw [h0 rfl]; rfl
    | some d => obtain ⟨v, rfl, _⟩ := h1 d rfl; rfl
  cases p2
  exact ⟨b, ov, rfl, g, by rw [e]; exact k _ F2 H2 M2 _ (s1.trans s2) r2 (.bl _) hf⟩
theorem lv_boP {te : TEt} {t : TE} (h : ∀ σ H Q, liftE X.K E Et te σ H Q → t σ H Q) : ∀ σ H Q, liftT X.K E Et (tBo te) σ H Q → tB t σ H Q := by
  rintro σ H Q ⟨G, F, M, τ, Qt, a, w, k⟩
  unfold tB
  refine h σ H _ ⟨G, F, M, τ, _, a, w, fun v F1 H1 M1 d s1 r1 p1 q1 => ?_⟩
  cases p1 <;> first | exact (show False from q1).elim | exact ⟨_, rfl, k _ F1 H1 M1 s1 r1 q1⟩
theorem qt_din (hu : X.A.units + 1 < cLine) (hi : QE X E Et i ti) (ho : QE X E Et o to) (hm : behindInMarks .In o = false := by rfl) : QT X E Et (.Compare i [.In] [o] pos) (tBo (tDi false ti to)) := PTimp (pt_cmp (pc_din hu hi ho) hm) (lv_boP lv_din)
theorem q_dget2 (hu : X.A.units + 1 < cLine) (ho : QE X E Et o to) (hi : QE X E Et i ti) (hz : QE X E Et z tz) (m : M2 X o "get" apos i z cpos := by exact ⟨rfl, rfl, rfl, rfl⟩) : QE X E Et (.Call (.Attribute o "get" apos) [i, z] [] cpos) (tDg2 to ti tz) := PEimp (pe_dget2 hu ho hi hz m) (by
  rintro σ H Q ⟨G, F, M, τ, Qt, a, h, k⟩
  refine ⟨G, F, M, τ, _, a, h, fun x F1 H1 M1 d s1 r1 p1 q1 => ?_⟩
  obtain ⟨⟨b, mo, rfl, hb, hd⟩, q1⟩ := q1
  cases p1
  have isd : IsD H1 b := by
    obtain ⟨_, u, hu, r⟩ := r1.chg b _ hb
    cases mo with
    | dK kvs =>
      cases u with
      | dK vs => exact .inl ⟨vs, .inl hu⟩
      | _ => exact (r : False).elim
    | dT kvs =>
      cases u with
      | dT vs => exact .inr ⟨vs, .inl hu⟩
      | _ => exact (r : False).elim
    | _ => exact hd.elim
  refine ⟨b, rfl, isd, G, F1, M1, τ, _, a.step s1 r1, q1, fun y F2 H2 M2 e s2 r2 p2 q2 => ?_⟩
  refine ⟨G, F2, M2, τ, _, a.step (s1.trans s2) r2, q2, fun w F3 H3 M3 zd s3 r3 p3 q3 => ?_⟩
  obtain ⟨ov, r, g, hf, h0, h1⟩ := dic_of (f := fun r => Qt (r.getD zd) M3) r3 (p2.mono s3) q3
  refine ⟨ov, g, ?_⟩
  cases r with
  | none => rw [h0 rfl]; exact k _ F3 H3 M3 _ ((s1.trans s2).trans s3) r3 p3 hf
  | some d =>
    obtain ⟨v, rfl, pv⟩ := h1 d rfl
    exact k _ F3 H3 M3 _ ((s1.trans s2).trans s3) r3 pv hf)
theorem sq_dict (hu : X.A.units + 1 < cLine) : PSet X (lSet X.K zDict) := by
  intro pins s σ H o i v ov iv u Q I ro ri rv h
  obtain ⟨G, F, M, od, idd, vd, Qt, R, po, pi, pv, h, k⟩ := h
  cases po with
  | ref a =>
    have h : oPA (M a) idd vd fun mo => Qt (mup M a mo) := h
    obtain ⟨mo, u', g, hq, R2⟩ := put_of R pi pv h
    obtain rfl : ov = Value.ref a := ro
    refine d_setItem hu I g ri rv fun s4 I4 => ?_
    exact ⟨_, I4, k F _ _ (Same.refl _) R2 hq⟩
  | _ => exact h.elim
end
/-! ### len of a dict, of anything -/
def cLenD : RLt := fun ds M Q => match ds with
  | [.ref a] => match M a with
    | some (.dK kvs) => Q (.int (kvs.length : Nat)) M
    | some (.dT kvs) => Q (.int (kvs.length : Nat)) M
    | _ => False
  | _ => False
section
variable {X : Cx} {E : XK} {Et : XT}
/-! ### x in a row of plain values -/
def flatD : D → Bool
  | .non => true
  | .bl _ => true
  | .int _ => true
  | .str _ => true
  | _ => false
def eqD : D → D → Bool
  | .non, .non => true
  | .bl a, .bl b => a == b
  | .bl a, .int b => (if a then 1 else 0) == b
  | .int a, .bl b => a == (if b then 1 else 0)
  | .int a, .int b => a == b
  | .str a, .str b => a == b
  | _, _ => false
theorem flat_of {K : PySem.W.Frag} {F : Hp} {v : V} {d : D} (p : Rp K F v d) (h : flatD d = true) : flatV v = true := by
  cases p <;> first | rfl | cases h
theorem flats_of {K : PySem.W.Frag} {F : Hp} : ∀ {vs : List V} {ds : List D}, Rps K F vs ds → ds.all flatD = true → vs.all flatV = true
  | _, _, .nil, _ => rfl
  | _, _, .cons h t, e => by
    rw [List.all_cons, Bool.and_eq_true] at e ⊢
    exact ⟨flat_of h e.1, flats_of t e.2⟩
theorem eqD_of {K : PySem.W.Frag} {F : Hp} {v w : V} {x y : D} (p : Rp K F v x) (q : Rp K F w y) (hx : flatD x = true) (hy : flatD y = true) : eqV v w = eqD x y := by
  cases p <;> first | (cases hx; done) | (cases q <;> first | rfl | (cases hy; done))
theorem in_of {K : PySem.W.Frag} {F : Hp} {v : V} {x : D} (p : Rp K F v x) (hx : flatD x = true) : ∀ {vs : List V} {ds : List D}, Rps K F vs ds → ds.all flatD = true → (vs.any fun y => eqV y v) = (ds.any fun y => eqD y x)
  | _, _, .nil, _ => rfl
  | _, _, .cons h t, e => by
    rw [List.all_cons, Bool.and_eq_true] at e
    rw [List.any_cons, List.any_cons, eqD_of h p e.1 hx, in_of p hx t e.2]
def bIn (neg : Bool) : R2t := fun x y M Q => match seqOf M y with
  | some ds => flatD x = true ∧ ds.all flatD = true ∧ Q (.bl (if neg = true then !(ds.any fun z => eqD z x) else ds.any fun z => eqD z x)) M
  | none => False
theorem lv_in {neg : Bool} : ∀ x y H Q, lr2 X.K (bIn neg) x y H Q → rIn X.K neg x y H Q := by
  rintro x y H Q ⟨G, F, M, dx, dy, Qt, R, px, py, h, k⟩
  unfold bIn at h
  cases e : seqOf M dy with
  | none => simp only [e] at h
  | some ds =>
    simp only [e] at h
    obtain ⟨a, vs, rfl, hs, r⟩ := seq_of R py e
    refine ⟨a, vs, rfl, hs, flat_of px h.1, flats_of r h.2.1, ?_⟩
    unfold inV
    rw [in_of px h.1 r h.2.1]
    exact k _ F H M _ (Same.refl _) R (.bl _) h.2.2
theorem oq_inQ : OpQ X (compareOp .In) (bIn false) := OpRimp op_in_seq lv_in
theorem oq_inQN : OpQ X (compareOp .NotIn) (bIn true) := OpRimp op_notIn_seq lv_in
/-! ### text * n -/
def repS (z : Str) (n : Int) : Str := if n < 1 then Str.empty else if (n == 1 || z.length == 0) = true then z else ⟨(List.replicate n.toNat z.cps).foldl (· ++ ·) #[]⟩
def bRepS : R2t := fun x y M Q => match x, y with
  | .str z, .int n => (0 ≤ n ∧ n ≤ 1000 ∧ z.length ≤ 1000) ∧ Q (.str (repS z n)) M
  | _, _ => False
/-! ### list * n -/
def bRep : R2t := fun x y M Q => match x, y with
  | .lst ds, .int n => (0 ≤ n ∧ n ≤ 1000 ∧ ds.length ≤ 1000) ∧ Q (.lst (List.replicate n.toNat ds).flatten) M
  | _, _ => False
theorem rps_rep {K : PySem.W.Frag} {F : Hp} {vs : List V} {ds : List D} (r : Rps K F vs ds) : ∀ n : Nat, Rps K F (List.replicate n vs).flatten (List.replicate n ds).flatten
  | 0 => .nil
  | n + 1 => by
    rw [List.replicate_succ, List.replicate_succ, List.flatten_cons, List.flatten_cons]
    exact r.append (rps_rep r n)
theorem oq_rep : OpQ X (binaryOp .Mult) bRep := OpRimp L2.op_rep (by
  rintro x y H Q ⟨G, F, M, dx, dy, Qt, R, px, py, h, k⟩
  match dx, dy, px, py, h with
  | .lst ds, .int n, .lst (a := a) (vs := vs) ha r, .int _, h =>
    have hm : vs.length * n.toNat ≤ 1000000 := by
      rw [r.length]
      exact Nat.le_trans (Nat.mul_le_mul h.1.2.2 (show n.toNat ≤ 1000 by have := h.1; omega)) (by decide)
    refine ⟨a, n, vs, rfl, rfl, R.sub _ _ ha, by have := h.1; omega, by have := h.1; omega, by rw [sizeLine_eq]; omega, fun p np => ?_⟩
    obtain ⟨s, r1⟩ := R.newF (o := .lst (List.replicate n.toNat vs).flatten) np
    exact k _ _ _ M _ s r1 (.lst upd_same ((rps_rep r _).mono s)) h.2)
def bRepM : R2t := fun x y M Q => match x, y with
  | .lst ds, .int n => (0 ≤ n ∧ n ≤ 1000 ∧ ds.length ≤ 1000) ∧ ∀ p, M p = none → Q (.ref p) (mup M p (.lst (List.replicate n.toNat ds).flatten))
  | _, _ => False
/-! ### tuples: + and slices -/
def bCatT : R2t := fun x y M Q => match x, y with
  | .tup a, .tup b => a.length + b.length ≤ sizeLine ∧ Q (.tup (a ++ b)) M
  | _, _ => False
theorem oq_catT : OpQ X (binaryOp .Add) bCatT := OpRimp op_catA (by
  rintro x y H Q ⟨G, F, M, dx, dy, Qt, R, px, py, h, k⟩
  match dx, dy, px, py, h with
  | .tup ds, .tup es, .tup (a := a) (vs := vs) ha r, .tup (a := b) (vs := ws) hb r2, h =>
    refine ⟨a, b, vs, ws, rfl, rfl, SqT.of (R.sub _ _ ha), SqT.of (R.sub _ _ hb), by rw [r.length, r2.length]; exact h.1, fun e => ?_, fun _ e => ?_, fun _ _ p np => ?_⟩
    · subst e
      cases r
      exact k _ F H M _ (Same.refl _) R (.tup hb r2) h.2
    · subst e
      cases r2
      have h2 := h.2
      rw [List.append_nil] at h2
      exact k _ F H M _ (Same.refl _) R (.tup ha r) h2
    · obtain ⟨s, r1⟩ := R.newF (o := .tup (vs ++ ws)) np
      exact k _ _ _ M _ s r1 (.tup upd_same ((r.append r2).mono s)) h.2)
def cSlT : D → Option Int → Option Int → MH → VD → Prop := fun x lo hi M Q => match x with
  | .tup ds => Q (.tup (cutD ds lo hi)) M
  | _ => False
theorem cut_whole {α : Type} {xs : List α} {i j : Nat} (h1 : i = 0) (h2 : j = xs.length) : (xs.drop i).take (j - i) = xs := by
  subst h1; subst h2; simp
variable {e : Expr} {lo hi : Option Expr} {te : TEt} {tl th : TOt} {pos p2 : Pos}
theorem q_sliceT (he : QE X E Et e te) (hl : QO X E Et lo tl) (hu : QO X E Et hi th) : QE X E Et (.Subscript e (.Slice lo hi none p2) pos) (tSc cSlT te tl th) := q_slice sl_tupA (by
  rintro x lo hi H Q ⟨G, F, M, dx, Qt, R, p, h, k⟩
  match dx, p, h with
  | .tup ds, .tup (a := a) (vs := vs) ha r, h =>
    refine ⟨a, vs, rfl, SqT.of (R.sub _ _ ha), fun hw => ?_, fun hw p np => ?_⟩
    · have e : Tl.cutD ds lo hi = ds := by
        unfold Tl.cutD
        rw [← r.length]
        exact cut_whole hw.1 (by rw [hw.2, r.length])
      rw [show cSlT (.tup ds) lo hi M Qt = Qt (.tup (Tl.cutD ds lo hi)) M from rfl, e] at h
      exact k _ F H M _ (Same.refl _) R (.tup ha r) h
    · obtain ⟨s, r1⟩ := R.newF (o := .tup (cutV vs lo hi)) np
      exact k _ _ _ M _ s r1 (.tup upd_same (r.cut.mono s)) h) he hl hu
/-! ### sorted(d), d a dict of ints -/
def oSD (o : Option MO) (f : List Int → Prop) : Prop := match o with
  | some (.dK kvs) => ∃ ks : List Int, kvs.map (fun p : Key × D => p.1) = ks.map Sum.inl ∧ ks.length < 64 ∧ ∀ ys : List Int, ys.Perm ks → ys.Pairwise (· ≤ ·) → f ys
  | _ => False
def cSortDI : RLt := fun ds M Q => match ds with
  | [.ref a] => oSD (M a) fun ys => Q (.lst (ys.map D.int)) M
  | _ => False
end
/-! ### texts written out -/
theorem map_inj' {α β : Type} {f : α → β} (hf : ∀ a b, f a = f b → a = b) : ∀ {l m : List α}, l.map f = m.map f → l = m
  | [], [], _ => rfl
  | [], _ :: _, h => by simp at h
  | _ :: _, [], h => by simp at h
  | a :: l, b :: m, h => by
    simp only [List.map_cons, List.cons.injEq] at h
    rw [hf _ _ h.1, map_inj' hf h.2]
theorem ofS_inj {s t : String} : (Str.ofString s = Str.ofString t) = (s = t) := by
  apply propext
  constructor
  · intro h
    rw [Str.ofString_eq_toList, Str.ofString_eq_toList] at h
    have h2 : (s.toList.map Char.toNat) = (t.toList.map Char.toNat) := by
      have := congrArg (fun z : Str => z.cps.toList) h
      simpa using this
    have h3 : s.toList = t.toList := map_inj' (fun a b e => Char.toNat_inj.mp e) h2
    exact String.toList_inj.mp h3
  · intro h; rw [h]
/-! ### a cut between two statements -/
/-! ### a branch that is not taken -/
theorem qss_never {X : Cx} {E : XK} {Et : XT} {st : List Stmt} : QSs X E Et st (fun _ _ _ => False) := ⟨fun pins s σ H D I w => by
  obtain ⟨G, F, M, τ, Dt, a, en, h⟩ := w
  exact h.elim⟩
/-! ### readings, for simp -/
section
variable {M : MH} {Q : VD} {a : Addr} {k x y d : D} {f : Option D → Prop} {g : MO → Prop} {ds es : List D} {i n : Int} {s z : Str}
theorem uDic : oDic M (.ref a) k f = oDA (M a) k f := propext Iff.rfl
theorem oDA_ki {kvs : List (Key × D)} : oDA (some (.dK kvs)) (.int i) f = f (valD kvs (.inl i)) := propext Iff.rfl
theorem oDA_ks {kvs : List (Key × D)} : oDA (some (.dK kvs)) (.str s) f = f (valD kvs (.inr s)) := propext Iff.rfl
theorem oDA_t {kvs : List (List Key × D)} : oDA (some (.dT kvs)) (.tup ds) f = oSome (kT ds) fun c => f (valD kvs c) := by
  unfold oDA oSome; cases h : kT ds <;> simp [h]
theorem oPA_ki {kvs : List (Key × D)} : oPA (some (.dK kvs)) (.int i) d g = (kvs.length < 16777216 ∧ g (.dK (putM kvs (.inl i) d))) := by rw [← sizeLine_eq]; rfl
theorem oPA_ks {kvs : List (Key × D)} : oPA (some (.dK kvs)) (.str s) d g = (kvs.length < 16777216 ∧ g (.dK (putM kvs (.inr s) d))) := by rw [← sizeLine_eq]; rfl
theorem oPA_t {kvs : List (List Key × D)} : oPA (some (.dT kvs)) (.tup ds) d g = oSome (kT ds) fun c => kvs.length < 16777216 ∧ g (.dT (putM kvs c d)) := by
  rw [← sizeLine_eq]; unfold oPA oSome; cases h : kT ds <;> simp [h]
def consK (a : Key) (o : Option (List Key)) : Option (List Key) := match o with
  | some l => some (a :: l)
  | none => none
theorem consK_s {a : Key} {l : List Key} : consK a (some l) = some (a :: l) := rfl
theorem kT_nil : kT [] = some [] := rfl
theorem kT_i {t : List D} : kT (.int i :: t) = consK (.inl i) (kT t) := by
  show (match k1 (.int i), kT t with | some a, some b => some (a :: b) | _, _ => none) = _
  cases kT t <;> rfl
theorem kT_s {t : List D} : kT (.str s :: t) = consK (.inr s) (kT t) := by
  show (match k1 (.str s), kT t with | some a, some b => some (a :: b) | _, _ => none) = _
  cases kT t <;> rfl
theorem uzDict {Qm : MH → Prop} : zDict (.ref a) k d M Qm = oPA (M a) k d fun mo => Qm (mup M a mo) := rfl
theorem uIn {neg : Bool} : bIn neg x y M Q = oSome (seqOf M y) fun ds => flatD x = true ∧ ds.all flatD = true ∧ Q (.bl (if neg = true then !(ds.any fun z => eqD z x) else ds.any fun z => eqD z x)) M := by
  unfold bIn oSome; cases seqOf M y <;> rfl
theorem uRepS : bRepS (.str z) (.int n) M Q = ((0 ≤ n ∧ n ≤ 1000 ∧ z.length ≤ 1000) ∧ Q (.str (repS z n)) M) := propext Iff.rfl
theorem uRep : bRep (.lst ds) (.int n) M Q = ((0 ≤ n ∧ n ≤ 1000 ∧ ds.length ≤ 1000) ∧ Q (.lst (List.replicate n.toNat ds).flatten) M) := propext Iff.rfl
theorem uRepM : bRepM (.lst ds) (.int n) M Q = ((0 ≤ n ∧ n ≤ 1000 ∧ ds.length ≤ 1000) ∧ ∀ p, M p = none → Q (.ref p) (mup M p (.lst (List.replicate n.toNat ds).flatten))) := propext Iff.rfl
theorem uCatT : bCatT (.tup ds) (.tup es) M Q = (ds.length + es.length ≤ 16777216 ∧ Q (.tup (ds ++ es)) M) := by rw [← sizeLine_eq]; rfl
theorem uSlT {lo hi : Option Int} : cSlT (.tup ds) lo hi M Q = Q (.tup (cutD ds lo hi)) M := propext Iff.rfl
def oLD (o : Option MO) (f : Nat → Prop) : Prop := match o with
  | some (.dK kvs) => f kvs.length
  | some (.dT kvs) => f kvs.length
  | _ => False
theorem oLD_k {kvs : List (Key × D)} {f : Nat → Prop} : oLD (some (.dK kvs)) f = f kvs.length := propext Iff.rfl
theorem oLD_t {kvs : List (List Key × D)} {f : Nat → Prop} : oLD (some (.dT kvs)) f = f kvs.length := propext Iff.rfl
theorem uLenD : cLenD [.ref a] M Q = oLD (M a) fun n => Q (.int (n : Nat)) M := by
  show (match M a with | some (.dK kvs) => Q (.int (kvs.length : Nat)) M | some (.dT kvs) => Q (.int (kvs.length : Nat)) M | _ => False) = _
  unfold oLD
  cases M a with
  | none => rfl
  | some o => cases o <;> rfl
theorem uSortDI : cSortDI [.ref a] M Q = oSD (M a) fun ys => Q (.lst (ys.map D.int)) M := propext Iff.rfl
end
end Tl
namespace Tl
open PySem PySem.Spec PyProof.Rows L2
/-! ### widelanes: expressions, statements, programs -/
inductive Op7 where
  | add | sub | mul | div | rem | lt | eq
deriving DecidableEq
def Op7.s : Op7 → Str
  | .add => "+" | .sub => "-" | .mul => "*" | .div => "div" | .rem => "rem" | .lt => "<" | .eq => "="
theorem op_lane {o : Op7} : (o.s = Str.ofString "lane") = False := by cases o <;> simp only [Op7.s, ofS_inj, String.reduceEq]
theorem op_lanes {o : Op7} : (o.s = Str.ofString "lanes") = False := by cases o <;> simp only [Op7.s, ofS_inj, String.reduceEq]
theorem op_mine {o : Op7} : (o.s = Str.ofString "mine") = False := by cases o <;> simp only [Op7.s, ofS_inj, String.reduceEq]
theorem op_num {o : Op7} : (o.s = Str.ofString "num") = False := by cases o <;> simp only [Op7.s, ofS_inj, String.reduceEq]
theorem op_name {o : Op7} : (o.s = Str.ofString "name") = False := by cases o <;> simp only [Op7.s, ofS_inj, String.reduceEq]
theorem op_box {o : Op7} : (o.s = Str.ofString "box") = False := by cases o <;> simp only [Op7.s, ofS_inj, String.reduceEq]
inductive Ex where
  | num (i : Int) | nam (x : Str) | lane | lanes | mine | box (e : Ex) | op (w : Op7) (a b : Ex)
def Ex.d : Ex → D
  | .num i => .tup [.str "num", .int i]
  | .nam x => .tup [.str "name", .str x]
  | .lane => .tup [.str "lane"]
  | .lanes => .tup [.str "lanes"]
  | .mine => .tup [.str "mine"]
  | .box e => .tup [.str "box", e.d]
  | .op w a b => .tup [.str w.s, a.d, b.d]
def Ex.deep : Ex → Nat
  | .box e => e.deep + 1
  | .op _ a b => max a.deep b.deep + 1
  | _ => 1
inductive Sm where
  | set (l : Int) (x : Str) (e : Ex) | put (l : Int) (a b : Ex) | tell (l : Int) (e : Ex) | ret (l : Int) (e : Ex) | stop (l : Int) | brk (l : Int) | agn (l : Int) | meet (l : Int)
  | join (l : Int) (x w : Str) (e : Ex) | call (l : Int) (x f : Str) (es : List Ex) | if1 (l : Int) (e : Ex) (b : List Sm) | if2 (l : Int) (e : Ex) (b c : List Sm) | whl (l : Int) (e : Ex) (b : List Sm)
mutual
def Sm.d : Sm → D
  | .set l x e => .tup [.str "set", .int l, .str x, e.d]
  | .put l a b => .tup [.str "put", .int l, a.d, b.d]
  | .tell l e => .tup [.str "tell", .int l, e.d]
  | .ret l e => .tup [.str "return", .int l, e.d]
  | .stop l => .tup [.str "stop", .int l]
  | .brk l => .tup [.str "break", .int l]
  | .agn l => .tup [.str "again", .int l]
  | .meet l => .tup [.str "meet", .int l]
  | .join l x w e => .tup [.str "join", .int l, .str x, .str w, e.d]
  | .call l x f es => .tup [.str "call", .int l, .str x, .str f, .lst (es.map Ex.d)]
  | .if1 l e b => .tup [.str "if", .int l, e.d, .lst (stD b), .non]
  | .if2 l e b c => .tup [.str "if", .int l, e.d, .lst (stD b), .lst (stD c)]
  | .whl l e b => .tup [.str "while", .int l, e.d, .lst (stD b)]
def stD : List Sm → List D
  | [] => []
  | s :: t => s.d :: stD t
end
theorem stD_map : ∀ b : List Sm, stD b = b.map Sm.d
  | [] => by unfold stD; rfl
  | s :: t => by unfold stD; rw [stD_map t]; rfl
theorem stD_len (b : List Sm) : (stD b).length = b.length := by rw [stD_map, List.length_map]
theorem stD_app (a b : List Sm) : stD (a ++ b) = stD a ++ stD b := by rw [stD_map, stD_map, stD_map, List.map_append]
mutual
def Sm.deep : Sm → Nat
  | .if1 _ _ b => deeps b + 1
  | .if2 _ _ b c => max (deeps b) (deeps c) + 1
  | .whl _ _ b => deeps b + 1
  | _ => 1
def deeps : List Sm → Nat
  | [] => 0
  | s :: t => max s.deep (deeps t)
end
theorem deeps_mem : ∀ {b : List Sm} {s : Sm}, s ∈ b → s.deep ≤ deeps b
  | x :: t, s, h => by
    unfold deeps
    rcases List.mem_cons.mp h with rfl | h
    · omega
    · have := deeps_mem h; omega
def Sm.line : Sm → Int
  | .set l _ _ => l | .put l _ _ => l | .tell l _ => l | .ret l _ => l | .stop l => l | .brk l => l | .agn l => l | .meet l => l | .join l _ _ _ => l | .call l _ _ _ => l | .if1 l _ _ => l | .if2 l _ _ _ => l | .whl l _ _ => l
def Sm.word : Sm → Str
  | .set .. => "set" | .put .. => "put" | .tell .. => "tell" | .ret .. => "return" | .stop .. => "stop" | .brk .. => "break" | .agn .. => "again" | .meet .. => "meet" | .join .. => "join" | .call .. => "call" | .if1 .. => "if" | .if2 .. => "if" | .whl .. => "while"
def Sm.blocks : Sm → List (List Sm)
  | .if1 _ _ b => [b] | .if2 _ _ b c => [b, c] | .whl _ _ b => [b] | _ => []
def Sm.rest : Sm → List D
  | .set _ x e => [.str x, e.d] | .put _ a b => [a.d, b.d] | .tell _ e => [e.d] | .ret _ e => [e.d] | .join _ x w e => [.str x, .str w, e.d] | .call _ x f es => [.str x, .str f, .lst (es.map Ex.d)]
  | .if1 _ e b => [e.d, .lst (stD b), .non] | .if2 _ e b c => [e.d, .lst (stD b), .lst (stD c)] | .whl _ e b => [e.d, .lst (stD b)] | _ => []
theorem sm_d (s : Sm) : s.d = .tup (.str s.word :: .int s.line :: s.rest) := by cases s <;> (unfold Sm.d; rfl)
structure Df where
  name : Str
  ps : List Str
  body : List Sm
  first : Int
  last : Int
def Df.d (f : Df) : D := .tup [.str f.name, .lst (f.ps.map .str), .lst (stD f.body), .int f.first, .int f.last]
abbrev Pg := List Df
def pgD (p : Pg) : List D := p.map Df.d
/-! ### marks -/
inductive MK where
  | name (f x : Str) | row (l : Int) | dfn (f : Str) | back (f : Str)
deriving DecidableEq
def MK.k : MK → List Key
  | .name f x => [.inr "name", .inr f, .inr x]
  | .row l => [.inr "row", .inl l]
  | .dfn f => [.inr "def", .inr f]
  | .back f => [.inr "back", .inr f]
def MK.d : MK → D
  | .name f x => .tup [.str "name", .str f, .str x]
  | .row l => .tup [.str "row", .int l]
  | .dfn f => .tup [.str "def", .str f]
  | .back f => .tup [.str "back", .str f]
theorem MK.k_inj {a b : MK} (h : a.k = b.k) : a = b := by
  have n1 : ("def" : Str) ≠ "back" := by decide
  cases a <;> cases b <;> simp only [MK.k, List.cons.injEq, Sum.inr.injEq, Sum.inl.injEq, and_true, true_and, reduceCtorEq, and_false, false_and] at h <;> first | exact h.elim | (subst h; rfl) | (obtain ⟨rfl, rfl⟩ := h; rfl) | exact absurd h.1 n1 | exact absurd h.1.symm n1
abbrev Why := List (Option MK)
def oD : Option MK → D
  | none => .non
  | some k => k.d
def whyD (w : Why) : D := .lst (w.map oD)
abbrev FM := List (MK × Int × Option MK)
def fmD (fd : FM) : List (List Key × D) := fd.map fun p => (p.1.k, .tup [.int p.2.1, oD p.2.2])
def hasK (fd : FM) (k : MK) : Bool := fd.any fun p => decide (p.1 = k)
theorem val_fm (fd : FM) (k : MK) : (valD (fmD fd) k.k).isSome = hasK fd k := by
  induction fd with
  | nil => rfl
  | cons p t ih =>
    unfold fmD hasK
    rw [List.map_cons, List.any_cons]
    by_cases e : p.1 = k
    · rw [valD_pos (by rw [e]), decide_eq_true e]; rfl
    · rw [valD_neg (fun h => e (MK.k_inj h)), decide_eq_false e]; exact ih
theorem val_name (fd : FM) (f x : Str) : (valD (fmD fd) [.inr "name", .inr f, .inr x]).isSome = hasK fd (.name f x) := val_fm fd (.name f x)
theorem val_row (fd : FM) (l : Int) : (valD (fmD fd) [.inr "row", .inl l]).isSome = hasK fd (.row l) := val_fm fd (.row l)
theorem val_def (fd : FM) (f : Str) : (valD (fmD fd) [.inr "def", .inr f]).isSome = hasK fd (.dfn f) := val_fm fd (.dfn f)
theorem val_back (fd : FM) (f : Str) : (valD (fmD fd) [.inr "back", .inr f]).isSome = hasK fd (.back f) := val_fm fd (.back f)
structure Spot where
  deed : Sm
  way : Why
  loop : Option Int
def loopD : Option Int → D
  | none => .non
  | some l => .int l
def Spot.d (s : Spot) : D := .tup [s.deed.d, whyD s.way, loopD s.loop]
theorem block_deep {s : Sm} {b : List Sm} {n : Nat} (h : s.deep ≤ n) (hb : b ∈ s.blocks) : deeps b < n := by
  cases s <;> unfold Sm.deep at h <;> simp only [Sm.blocks, List.mem_cons, List.not_mem_nil, or_false] at hb <;> first | exact hb.elim | (subst hb; omega) | (rcases hb with rfl | rfl <;> omega)
/-! ### what is placed, without the ways -/
mutual
def plnS (loop : Option Int) : Sm → List (Sm × Option Int)
  | .if1 l e b => (.if1 l e b, loop) :: pln loop b
  | .if2 l e b c => (.if2 l e b c, loop) :: (pln loop b ++ pln loop c)
  | .whl l e b => (.whl l e b, loop) :: pln (some l) b
  | s => [(s, loop)]
def pln (loop : Option Int) : List Sm → List (Sm × Option Int)
  | [] => []
  | s :: t => plnS loop s ++ pln loop t
end
/-! ### waits -/
end Tl
namespace Tl
open PySem PySem.Spec PyProof.Rows L2
/-! ### cells: what stands where, beside what stood before -/
structure Cel (M0 M : MH) (cs : List (Addr × MO)) : Prop where
  nd : (cs.map (·.1)).Nodup
  at_ : ∀ c ∈ cs, M c.1 = some c.2
  old : ∀ a o, M0 a = some o → M a = some o
  new : ∀ c ∈ cs, M0 c.1 = none
section
variable {M0 M : MH} {cs pre post : List (Addr × MO)} {a p : Addr} {o o' : MO}
theorem Cel.nil : Cel M M [] := ⟨List.nodup_nil, fun _ h => (by cases h), fun _ _ h => h, fun _ h => (by cases h)⟩
theorem Cel.fresh (h : Cel M0 M cs) (hp : M p = none) : Cel M0 (mup M p o) ((p, o) :: cs) := by
  have hne : ∀ c ∈ cs, c.1 ≠ p := fun c hc e => by have := h.at_ c hc; rw [e, hp] at this; cases this
  refine ⟨?_, ?_, ?_, ?_⟩
  · rw [List.map_cons, List.nodup_cons]
    refine ⟨fun hm => ?_, h.nd⟩
    obtain ⟨c, hc, e⟩ := List.mem_map.mp hm
    exact hne c hc e
  · intro c hc
    rcases List.mem_cons.mp hc with rfl | hc
    · exact mup_same
    · rw [mup_ne (hne c hc)]; exact h.at_ c hc
  · intro b u e
    have := h.old b u e
    rw [mup_ne (by rintro rfl; rw [hp] at this; cases this)]; exact this
  · intro c hc
    rcases List.mem_cons.mp hc with rfl | hc
    · cases e : M0 p with
      | none => rfl
      | some u => have := h.old p u e; rw [hp] at this; cases this
    · exact h.new c hc
theorem Cel.here (h : Cel M0 M (pre ++ (a, o) :: post)) : M a = some o := h.at_ (a, o) (by simp)
theorem Cel.ne_mid (h : (List.map (fun x : Addr × MO => x.1) (pre ++ (a, o) :: post)).Nodup) : (∀ c ∈ pre, c.1 ≠ a) ∧ ∀ c ∈ post, c.1 ≠ a := by
  rw [List.map_append, List.map_cons] at h
  obtain ⟨h1, h2, h3⟩ := List.nodup_append.mp h
  obtain ⟨h4, h5⟩ := List.nodup_cons.mp h2
  exact ⟨fun c hc e => h3 c.1 (List.mem_map.mpr ⟨c, hc, rfl⟩) a (List.mem_cons_self ..) e, fun c hc e => h4 (List.mem_map.mpr ⟨c, hc, e⟩)⟩
theorem Cel.put (h : Cel M0 M (pre ++ (a, o) :: post)) : Cel M0 (mup M a o') (pre ++ (a, o') :: post) := by
  obtain ⟨n1, n2⟩ := Cel.ne_mid h.nd
  refine ⟨?_, ?_, ?_, ?_⟩
  · have := h.nd
    rw [List.map_append, List.map_cons] at this ⊢
    exact this
  · intro c hc
    rcases List.mem_append.mp hc with hc | hc
    · rw [mup_ne (n1 c hc)]; exact h.at_ c (List.mem_append_left _ hc)
    · rcases List.mem_cons.mp hc with rfl | hc
      · exact mup_same
      · rw [mup_ne (n2 c hc)]; exact h.at_ c (List.mem_append_right _ (List.mem_cons_of_mem _ hc))
  · intro b u e
    have hn := h.new (a, o) (by simp)
    rw [mup_ne (by rintro rfl; rw [hn] at e; cases e)]
    exact h.old b u e
  · intro c hc
    rcases List.mem_append.mp hc with hc | hc
    · exact h.new c (List.mem_append_left _ hc)
    · rcases List.mem_cons.mp hc with rfl | hc
      · exact h.new (a, o) (by simp)
      · exact h.new c (List.mem_append_right _ (List.mem_cons_of_mem _ hc))
theorem Cel.del (h : Cel M0 M (pre ++ (a, o) :: post)) : Cel M0 (mdel M a) (pre ++ post) := by
  obtain ⟨n1, n2⟩ := Cel.ne_mid h.nd
  have md : ∀ b, b ≠ a → mdel M a b = M b := fun b hb => by unfold mdel; rw [if_neg hb]
  refine ⟨?_, ?_, ?_, ?_⟩
  · have := h.nd
    rw [List.map_append, List.map_cons] at this
    rw [List.map_append]
    obtain ⟨h1, h2, h3⟩ := List.nodup_append.mp this
    exact List.nodup_append.mpr ⟨h1, (List.nodup_cons.mp h2).2, fun x hx y hy => h3 x hx y (List.mem_cons_of_mem _ hy)⟩
  · intro c hc
    rcases List.mem_append.mp hc with hc | hc
    · rw [md _ (n1 c hc)]; exact h.at_ c (List.mem_append_left _ hc)
    · rw [md _ (n2 c hc)]; exact h.at_ c (List.mem_append_right _ (List.mem_cons_of_mem _ hc))
  · intro b u e
    have hn := h.new (a, o) (by simp)
    rw [md _ (by rintro rfl; rw [hn] at e; cases e)]
    exact h.old b u e
  · intro c hc
    rcases List.mem_append.mp hc with hc | hc
    · exact h.new c (List.mem_append_left _ hc)
    · exact h.new c (List.mem_append_right _ (List.mem_cons_of_mem _ hc))
theorem Cel.re {K : PySem.W.Frag} {d : D} (h : Cel M0 M cs) : ReR K d M d M0 := ReR.drop h.old
end
/-! ### freezing what a tuple holds -/
theorem rps_mid {K : PySem.W.Frag} {F : Hp} {x : D} {post : List D} : ∀ {pre : List D} {vs : List V}, Rps K F vs (pre ++ x :: post) → ∃ v1 v v2, vs = v1 ++ v :: v2 ∧ Rps K F v1 pre ∧ Rp K F v x ∧ Rps K F v2 post
  | [], _, .cons h t => ⟨[], _, _, rfl, .nil, h, t⟩
  | _ :: pre, _, .cons h t => by
    obtain ⟨v1, v, v2, rfl, r1, r2, r3⟩ := rps_mid (pre := pre) t
    exact ⟨_ :: v1, v, v2, rfl, .cons h r1, r2, r3⟩
theorem ReR.tup_freeze {K : PySem.W.Frag} {M : MH} {b : Addr} {ds : List D} (pre post : List D) (h : M b = some (.lst ds)) : ReR K (.tup (pre ++ .ref b :: post)) M (.tup (pre ++ .lst ds :: post)) (mdel M b) := fun G F H v R p => by
  obtain ⟨F', s, R', pb⟩ := R.freeze h
  cases p with
  | tup ha r =>
    obtain ⟨v1, v, v2, rfl, r1, r2, r3⟩ := rps_mid r
    cases r2
    exact ⟨F', s, R', .tup (s _ _ ha) ((r1.mono s).append (.cons pb (r3.mono s)))⟩
/-! ### picking out of a written row -/
theorem len_app (a b : Str) : (a ++ b).length = a.length + b.length := Str.length_append a b
/-! ### xs == [], xs != [], whatever stands in xs -/
/-! ### texts that are texts -/
theorem strOk_iff {x : Str} : PyData.strOk x = true ↔ ∀ c ∈ x.cps.toList, c < 1114112 := by
  unfold PyData.strOk
  rw [← Array.all_toList, List.all_eq_true]
  exact ⟨fun h c hc => of_decide_eq_true (h c hc), fun h c hc => decide_eq_true (h c hc)⟩
/-! ### what the builders of the laws lay: deeds without lines -/
inductive Od where
  | set (x : Str) (e : Ex) | ifo (e : Ex) | whl (e : Ex) | fin | els | brk | agn | meet | stop | tell (e : Ex) | ret (e : Ex) | put (a b : Ex) | join (x w : Str) (e : Ex) | call (x f : Str) (es : List Ex)
def Od.word : Od → Str
  | .set .. => "set" | .ifo .. => "if" | .whl .. => "while" | .fin => "end" | .els => "else" | .brk => "break" | .agn => "again" | .meet => "meet" | .stop => "stop" | .tell .. => "tell" | .ret .. => "return" | .put .. => "put" | .join .. => "join" | .call .. => "call"
def Od.rest : Od → List D
  | .set x e => [.str x, e.d] | .ifo e => [e.d] | .whl e => [e.d] | .tell e => [e.d] | .ret e => [e.d] | .put a b => [a.d, b.d] | .join x w e => [.str x, .str w, e.d] | .call x f es => [.str x, .str f, .lst (es.map Ex.d)] | _ => []
def Od.d (o : Od) : D := .tup (.str o.word :: o.rest)
/-- the statement that a plain deed becomes at a line -/
def Od.at_ (o : Od) (l : Int) : Option Sm := match o with
  | .set x e => some (.set l x e) | .brk => some (.brk l) | .agn => some (.agn l) | .meet => some (.meet l) | .stop => some (.stop l) | .tell e => some (.tell l e) | .ret e => some (.ret l e) | .put a b => some (.put l a b) | .join x w e => some (.join l x w e) | .call x f es => some (.call l x f es)
  | _ => none
end Tl
namespace Tl
open PySem PySem.Spec PyProof.Rows L2
/-! ### what a builder's frames hold (pure) -/
theorem deeps_app : ∀ {b c : List Sm}, deeps (b ++ c) = max (deeps b) (deeps c)
  | [], c => by rw [List.nil_append, show deeps [] = 0 from by unfold deeps; rfl]; omega
  | s :: t, c => by rw [List.cons_append, deeps, deeps, deeps_app]; omega
theorem deeps_one {s : Sm} : deeps [s] = s.deep := by rw [deeps, show deeps [] = 0 from by unfold deeps; rfl]; omega
structure Fr where
  at_ : Addr
  wh : Bool
  l : Int
  e : Ex
  body : Addr
  bs : List Sm
  els : Option (Addr × List Sm)
def Fr.word (f : Fr) : Str := if f.wh = true then "while" else "if"
def Fr.here (f : Fr) : Addr := match f.els with
  | none => f.body
  | some x => x.1
def elsD : Option (Addr × List Sm) → D
  | none => .non
  | some x => .ref x.1
def Fr.row (f : Fr) (outer : Addr) : MO := .lst [.str f.word, .int f.l, f.e.d, .ref outer, .ref f.body, elsD f.els]
def Fr.cells (f : Fr) (outer : Addr) : List (Addr × MO) :=
  (f.at_, f.row outer) :: (f.body, .lst (stD f.bs)) :: match f.els with
  | none => []
  | some x => [(x.1, .lst (stD x.2))]
def Fr.close (f : Fr) : Sm := if f.wh = true then .whl f.l f.e f.bs else match f.els with
  | none => .if1 f.l f.e f.bs
  | some x => .if2 f.l f.e f.bs x.2
theorem Cel.perm {M0 M : MH} {cs ds : List (Addr × MO)} (h : Cel M0 M cs) (p : cs.Perm ds) : Cel M0 M ds :=
  ⟨(p.map _).nodup_iff.mp h.nd, fun c hc => h.at_ c (p.mem_iff.mpr hc), h.old, fun c hc => h.new c (p.mem_iff.mpr hc)⟩
end Tl
namespace Tl
open PySem PySem.Spec PyProof.Rows L2
/-! ### mirrors of the builder of the laws k12 .. k17, k31 .. k37 -/
def letters : Str := "abcdefghijklmnopqrstuvwxyz"
def keptL : List Str := ["def", "set", "put", "tell", "if", "else", "while", "end", "break", "again", "call", "return", "stop", "join", "meet", "lane", "lanes", "mine", "box", "div", "rem", "sum", "most", "least", "ahead"]
/-! expressions -/
/-! deeds -/
abbrev Rm := List (Str × List Str)
end Tl
namespace Tl
open PySem PySem.Spec PyProof.Rows L2
/-! ### mirrors: lines laid in one another -/
structure Fp where
  wh : Bool
  l : Int
  e : Ex
  bs : List Sm
  els : Option (List Sm)
def Fp.close (f : Fp) : Sm := if f.wh = true then .whl f.l f.e f.bs else match f.els with
  | none => .if1 f.l f.e f.bs
  | some x => .if2 f.l f.e f.bs x
def addP (s : Sm) (b0 : List Sm) : List Fp → List Sm × List Fp
  | [] => (b0 ++ [s], [])
  | f :: r => (b0, (match f.els with
    | none => { f with bs := f.bs ++ [s] }
    | some x => { f with els := some (x ++ [s]) }) :: r)
def standF (o : Od) (stk : List Fp) (main : Bool) : Bool := match o with
  | .brk => stk.any (·.wh)
  | .agn => stk.any (·.wh)
  | .els => match stk with
    | [] => false
    | f :: _ => !f.wh && f.els.isNone
  | .fin => !stk.isEmpty
  | .ifo _ => decide (stk.length < 5)
  | .whl _ => decide (stk.length < 5)
  | .ret _ => !main
  | _ => true
structure LS where
  b0 : List Sm
  stk : List Fp
  line : Int
def laidGo (s : LS) : Od → LS
  | .fin => match s.stk with
    | [] => s
    | f :: r => ⟨(addP f.close s.b0 r).1, (addP f.close s.b0 r).2, s.line + 1⟩
  | .els => match s.stk with
    | [] => s
    | f :: r => ⟨s.b0, { f with els := some [] } :: r, s.line + 1⟩
  | .ifo e => ⟨s.b0, ⟨false, s.line + 1, e, [], none⟩ :: s.stk, s.line + 1⟩
  | .whl e => ⟨s.b0, ⟨true, s.line + 1, e, [], none⟩ :: s.stk, s.line + 1⟩
  | o => match o.at_ (s.line + 1) with
    | some st => ⟨(addP st s.b0 s.stk).1, (addP st s.b0 s.stk).2, s.line + 1⟩
    | none => s
def laidStep (main : Bool) (s : LS) (o : Od) : LS := if standF o s.stk main = true then laidGo s o else s
def laidS (main : Bool) (os : List Od) (l : Int) : LS := os.foldl (laidStep main) ⟨[], [], l⟩
def laidF (main : Bool) (os : List Od) (l : Int) : List Sm × Int := ((laidS main (os ++ List.replicate 5 .fin) l).b0, (laidS main (os ++ List.replicate 5 .fin) l).line + 1)
/-! what is asked holds -/
/-! rooms, variables, programs -/
theorem ix_nat {n k : Nat} (h : k < n) : ixN n (k : Int) = some k := by
  unfold ixN
  rw [if_pos (by omega), if_pos (by omega)]
  simp
def isMain (x : Str) : Bool := decide (x = ("main" : Str))
end Tl
namespace Tl
open PySem PySem.Spec PyProof.Rows L2
/-! ### changing lists that stand in a frozen list -/
theorem ReS.at_ {K : PySem.W.Frag} {τ : Sg} {M M' : MH} {i : Nat} {d d' : D} (h : nth τ i = some d) (r : ReR K d M d' M') : ReS K τ M (τ.set i (some d')) M' := fun G F H σ R sg => by
  obtain ⟨v, h1, h2⟩ := sg.2 i _ (nth_get h)
  obtain ⟨F', s, R', p⟩ := r G F H v R h2
  refine ⟨F', s, R', ?_⟩
  have g := sg.mono s
  have e : σ = σ.set i (some v) := by
    apply List.ext_getElem?
    intro j
    by_cases hij : i = j
    · subst hij
      rw [h1, List.getElem?_set_self (List.getElem?_eq_some_iff.mp h1).1]
    · rw [List.getElem?_set_ne hij]
  rw [e]
  exact g.set p
theorem ReR.lst_freeze {K : PySem.W.Frag} {M : MH} {b : Addr} {ds : List D} (pre post : List D) (h : M b = some (.lst ds)) : ReR K (.lst (pre ++ .ref b :: post)) M (.lst (pre ++ .lst ds :: post)) (mdel M b) := fun G F H v R p => by
  obtain ⟨F', s, R', pb⟩ := R.freeze h
  cases p with
  | lst ha r =>
    obtain ⟨v1, v, v2, rfl, r1, r2, r3⟩ := rps_mid r
    cases r2
    exact ⟨F', s, R', .lst (s _ _ ha) ((r1.mono s).append (.cons pb (r3.mono s)))⟩
section
variable {α : Type} {f : α → D} {M0 M : MH}
def celsL (f : α → D) (cs : List (Addr × List α)) : List (Addr × MO) := cs.map fun c => (c.1, .lst (c.2.map f))
def refsL (cs : List (Addr × List α)) : List D := cs.map fun c => .ref c.1
def lstsL (f : α → D) (xss : List (List α)) : List D := xss.map fun xs => .lst (xs.map f)
theorem ReR.all {K : PySem.W.Frag} : ∀ (cs : List (Addr × List α)) (pre : List D) {M : MH}, Cel M0 M (celsL f cs) → ReR K (.lst (pre ++ refsL cs)) M (.lst (pre ++ lstsL f (cs.map (·.2)))) M0
  | [], pre, M, h => h.re
  | c :: cs, pre, M, h => by
    have h1 : Cel M0 M ([] ++ (c.1, .lst (c.2.map f)) :: celsL f cs) := h
    have a := ReR.lst_freeze (K := K) pre (refsL cs) h1.here
    have b := ReR.all (K := K) cs (pre ++ [.lst (c.2.map f)]) h1.del
    rw [List.append_assoc, List.append_assoc] at b
    exact a.trans b
end
theorem Cel.lift {M0 M : MH} {cs : List (Addr × MO)} {p : Addr} {o : MO} (h : Cel M0 M cs) (hp : M p = none) : Cel (mup M0 p o) (mup M p o) cs := by
  have hne : ∀ c ∈ cs, c.1 ≠ p := fun c hc e => by have := h.at_ c hc; rw [e, hp] at this; cases this
  refine ⟨h.nd, fun c hc => by rw [mup_ne (hne c hc)]; exact h.at_ c hc, fun a u e => ?_, fun c hc => by rw [mup_ne (hne c hc)]; exact h.new c hc⟩
  by_cases q : a = p
  · subst q; rw [mup_same] at e ⊢; exact e
  · rw [mup_ne q] at e ⊢; exact h.old a u e
theorem Cel.free {M0 M : MH} {cs : List (Addr × MO)} {p : Addr} (h : Cel M0 M cs) (hp : M p = none) : M0 p = none := by
  cases e : M0 p with
  | none => rfl
  | some u => rw [h.old p u e] at hp; cases hp
/-! ### x is True -/
def bIsB : R2t := fun x y M Q => match x, y with
  | .bl a, .bl b => Q (.bl (a == b)) M
  | _, _ => False
theorem uIsB {a b : Bool} {M : MH} {Q : VD} : bIsB (.bl a) (.bl b) M Q = Q (.bl (a == b)) M := propext Iff.rfl
end Tl
namespace Tl
open PySem PySem.Spec PyProof.Rows L2
/-! ### lines, in their order -/
mutual
def lnS : Sm → List Int
  | .if1 l _ b => l :: ln b
  | .if2 l _ b c => l :: (ln b ++ ln c)
  | .whl l _ b => l :: ln b
  | s => [s.line]
def ln : List Sm → List Int
  | [] => []
  | s :: t => lnS s ++ ln t
end
def Fp.seq (f : Fp) : List Int := f.l :: (ln f.bs ++ match f.els with
  | none => []
  | some x => ln x)
def LS.seq (b0 : List Sm) : List Fp → List Int
  | [] => ln b0
  | f :: r => LS.seq b0 r ++ f.seq
structure LI (l : Int) (k : Nat) (s : LS) : Prop where
  wf : ∀ f ∈ s.stk, f.wh = true → f.els = none
  inc : (LS.seq s.b0 s.stk).Pairwise (· < ·)
  rng : ∀ x ∈ LS.seq s.b0 s.stk, l < x ∧ x ≤ s.line
  len : (LS.seq s.b0 s.stk).length ≤ k
  low : l ≤ s.line
theorem LI.add {l : Int} {k : Nat} {s : LS} {b : List Sm} {st : List Fp} (h : LI l k s) (wf : ∀ f ∈ st, f.wh = true → f.els = none) (e : LS.seq b st = LS.seq s.b0 s.stk ++ [s.line + 1]) : LI l (k + 1) ⟨b, st, s.line + 1⟩ := by
  refine ⟨wf, ?_, ?_, ?_, ?_⟩
  · show (LS.seq b st).Pairwise _
    rw [e, List.pairwise_append]
    refine ⟨h.inc, List.pairwise_singleton _ _, fun x hx y hy => ?_⟩
    rw [List.mem_singleton.mp hy]
    have := (h.rng x hx).2
    omega
  · intro x hx
    have hx : x ∈ LS.seq b st := hx
    rw [e] at hx
    show l < x ∧ x ≤ s.line + 1
    rcases List.mem_append.mp hx with hx | hx
    · have := h.rng x hx; omega
    · rw [List.mem_singleton.mp hx]; have := h.low; omega
  · show (LS.seq b st).length ≤ _
    rw [e, List.length_append]
    have := h.len
    simp only [List.length_singleton]; omega
  · show l ≤ s.line + 1
    have := h.low; omega
theorem LI.mono {l : Int} {k m : Nat} {s : LS} (h : LI l k s) (hk : k ≤ m) : LI l m s := ⟨h.wf, h.inc, h.rng, Nat.le_trans h.len hk, h.low⟩
/-! ### what is asked of each statement -/
/-! ### the program whole -/
def dfLn (o : Df) : List Int := o.first :: ln o.body
def pgLn (pg : Pg) : List Int := (pg.map dfLn).flatten
/-- a def as the builder lays it -/
def laidDf (oss : List (List Od)) (rs : Rm) (o : Df) : Prop := ∃ os ∈ oss, (o.name, o.ps) ∈ rs ∧ o.body = (laidF (isMain o.name) os o.first).1 ∧ o.last = (laidF (isMain o.name) os o.first).2
structure PI (oss : List (List Od)) (rs : Rm) (n : Nat) (s : Pg × Int) : Prop where
  names : s.1.map (fun o => (o.name, o.ps)) = rs.take n
  defs : ∀ o ∈ s.1, laidDf oss rs o
  inc : (pgLn s.1).Pairwise (· < ·)
  rng : ∀ x ∈ pgLn s.1, 0 < x ∧ x ≤ s.2
  low : 0 ≤ s.2
  len : ((s.1.map fun o => (ln o.body).length)).sum ≤ ((oss.take n).map List.length).sum
/-! ### no own word -/
end Tl
namespace Tl
open PySem PySem.Spec PyProof.Rows L2
/-! ### the laws' own going over a body -/
structure Rd where
  deed : Sm
  rounds : List Int
  loop : Option Int
def Rd.d (s : Rd) : D := .tup [s.deed.d, .lst (s.rounds.map .int), loopD s.loop]
end Tl
namespace Tl
open PySem PySem.Spec PyProof.Rows L2
/-! ### ways by keys -/
end Tl
namespace Tl
open PySem PySem.Spec PyProof.Rows L2
/-! ### programs as data -/
mutual
theorem okD_mono : ∀ {n m : Nat} {d : D}, okD n d → n ≤ m → okD m d
  | n, m, .non, h, _ => by unfold okD; trivial
  | n, m, .int _, h, _ => by unfold okD; trivial
  | n, m, .bl _, h, _ => by unfold okD; trivial
  | n, m, .str _, h, _ => by unfold okD at h ⊢; exact h
  | n + 1, m + 1, .tup l, h, e => by unfold okD at h ⊢; exact okDs_mono h (by omega)
  | n + 1, m + 1, .lst l, h, e => by unfold okD at h ⊢; exact okDs_mono h (by omega)
  | n + 1, m + 1, .scr l, h, e => by unfold okD at h ⊢; exact okDs_mono h (by omega)
  | n + 1, m + 1, .tab l, h, e => by unfold okD at h ⊢; exact okDs_mono h (by omega)
  | n + 1, 0, .tup l, h, e => by omega
  | n + 1, 0, .lst l, h, e => by omega
  | n + 1, 0, .scr l, h, e => by omega
  | n + 1, 0, .tab l, h, e => by omega
  | 0, _, .tup l, h, _ => by unfold okD at h; exact h.elim
  | 0, _, .tab l, h, _ => by unfold okD at h; exact h.elim
  | 0, _, .lst l, h, _ => by unfold okD at h; exact h.elim
  | 0, _, .scr l, h, _ => by unfold okD at h; exact h.elim
  | _, _, .ref _, h, _ => by unfold okD at h; exact h.elim
  | _, _, .ty _, h, _ => by unfold okD at h; exact h.elim
theorem okDs_mono : ∀ {n m : Nat} {l : List D}, okDs n l → n ≤ m → okDs m l
  | n, m, [], h, _ => by unfold okDs; trivial
  | n, m, x :: t, h, e => by unfold okDs at h ⊢; exact ⟨okD_mono h.1 e, okDs_mono h.2 e⟩
end
theorem okD_str {n : Nat} {s : Str} (h : PyData.strOk s = true) : okD n (.str s) := by unfold okD; exact h
theorem okDs_nil {n : Nat} : okDs n [] := by unfold okDs; trivial
theorem okDs_cons {n : Nat} {x : D} {t : List D} (h : okD n x) (ht : okDs n t) : okDs n (x :: t) := by unfold okDs; exact ⟨h, ht⟩
theorem okD_tup {n : Nat} {l : List D} (h : okDs n l) : okD (n + 1) (.tup l) := by unfold okD; exact h
theorem okD_lst {n : Nat} {l : List D} (h : okDs n l) : okD (n + 1) (.lst l) := by unfold okD; exact h
/-! ### which meetings wait -/
/-! by the laws' own ways -/
end Tl
namespace Tl
open PySem PySem.Spec PyProof.Rows L2
/-! ### what the laws call own -/
/-! what each statement, by the marks told, makes own -/
/-! a fixpoint is closed -/
end Tl
namespace Tl
open PySem PySem.Spec PyProof.Rows L2
/-! ### list(d), d a dict by tuples or by plain keys -/
/-! ### {"x": e} -/
def tDisp1 (k : Str) (t : TEt) : TEt := fun τ M Q => t τ M fun v M1 => ∀ p, M1 p = none → Q (.ref p) (mup M1 p (.dK [(.inr k, v)]))
end Tl
namespace Tl
open PySem PySem.Spec PyProof.Rows L2
/-! ### other names -/
end Tl
namespace Tl
open PySem PySem.Spec PyProof.Rows L2
/-! ### the builder with other names -/
/-! lines laid -/
end Tl
namespace Tl
open PySem PySem.Spec PyProof.Rows L2
/-! ### the names that are drawn are unlike -/
def cds (x : Str) : List Nat := x.cps.toList
theorem cds_inj {x y : Str} (h : cds x = cds y) : x = y := by
  obtain ⟨x⟩ := x
  obtain ⟨y⟩ := y
  unfold cds at h
  congr 1
  exact Array.toList_inj.mp h
theorem cds_len (x : Str) : (cds x).length = x.length := by unfold cds; rw [Array.length_toList]; rfl
theorem cds_app (x y : Str) : cds (x ++ y) = cds x ++ cds y := by
  show (x.cps ++ y.cps).toList = _
  rw [Array.toList_append]; rfl
/-! ### names exchanged -/
end Tl
namespace Tl
open PySem PySem.Spec PyProof.Rows L2
theorem uDisp1 {k : Str} {t : TEt} {τ : Sg} {M : MH} {Q : VD} : tDisp1 k t τ M Q = t τ M fun v M1 => ∀ p, M1 p = none → Q (.ref p) (mup M1 p (.dK [(.inr k, v)])) := propext Iff.rfl
/-! ### the names in a program's marks are those that were drawn -/
end Tl
namespace Tl
open PySem PySem.Spec PyProof.Rows L2
/-! ### forms of places -/
inductive Fo where
  | fixed (n : Int) | lane (n : Int) | any
def Fo.d : Fo → D
  | .fixed n => .tup [.str "fixed", .int n]
  | .lane n => .tup [.str "lane", .int n]
  | .any => .tup [.str "any", .int 0]
end Tl
namespace Tl
open PySem PySem.Spec PyProof.Rows L2
/-! ### readings unfolded, by proofs that are told (no check by unfolding is left to the kernel) -/
theorem z_tDnK {w0 : Sg} {M : MH} {Q : VD} : tDnK w0 M Q = ∀ p, M p = none → Q (.ref p) (mup M p (.dK [])) := propext Iff.rfl
theorem z_tDnT {w0 : Sg} {M : MH} {Q : VD} : tDnT w0 M Q = ∀ p, M p = none → Q (.ref p) (mup M p (.dT [])) := propext Iff.rfl
theorem z_tDg {to ti : TEt} {τ : Sg} {M : MH} {Q : VD} : tDg to ti τ M Q = to τ M fun x M1 => ti τ M1 fun k M2 => oDic M2 x k fun r => oSome r fun d => Q d M2 := propext Iff.rfl
theorem z_tDi {neg : Bool} {ti to : TEt} {τ : Sg} {M : MH} {Q : VD} : tDi neg ti to τ M Q = ti τ M fun k M1 => to τ M1 fun x M2 => oDic M2 x k fun r => Q (.bl (if neg = true then !r.isSome else r.isSome)) M2 := propext Iff.rfl
theorem z_tDg2 {to ti tz : TEt} {τ : Sg} {M : MH} {Q : VD} : tDg2 to ti tz τ M Q = to τ M fun x M1 => (∃ a o, x = .ref a ∧ M1 a = some o ∧ isDic o) ∧ ti τ M1 fun k M2 => tz τ M2 fun z M3 => oDic M3 x k fun r => Q (r.getD z) M3 := propext Iff.rfl
theorem z_tRe {K : PySem.W.Frag} {t : TEt} {τ : Sg} {M : MH} {Q : VD} : tRe K t τ M Q = t τ M fun d M1 => ∃ d' M2, ReR K d M1 d' M2 ∧ Q d' M2 := propext Iff.rfl
theorem z_sRe {K : PySem.W.Frag} {u : TSt} {D0 : En} {τ : Sg} {M : MH} : sRe K u D0 τ M = ∃ τ' M', ReS K τ M τ' M' ∧ u D0 τ' M' := propext Iff.rfl
theorem z_tFd {P : Addr → Prop} {fl : List Str} {i : Nat} {te : TEt} {τ : Sg} {M : MH} {Q : VD} : tFd P fl i te τ M Q = te τ M fun x M1 => oObj M1 x fun _ C _ fl' ds => P C ∧ fl' = fl ∧ oSome (nthD ds i) fun d => Q d M1 := propext Iff.rfl
theorem z_sFd {P : Addr → Prop} {fl : List Str} {i : Nat} {te tv : TEt} {D0 : En} {τ : Sg} {M : MH} : sFd P fl i te tv D0 τ M = tv τ M fun y M1 => te τ M1 fun x M2 => oObj M2 x fun a C dx fl' ds => P C ∧ fl' = fl ∧ i ≤ ds.length ∧ D0.nx τ (mup M2 a (.obj C dx fl (putD ds i y))) := propext Iff.rfl
theorem z_sFa {P : Addr → Prop} {fl : List Str} {i : Nat} {te tv : TEt} {r : R2t} {D0 : En} {τ : Sg} {M : MH} : sFa P fl i te tv r D0 τ M = te τ M fun x M1 => oObj M1 x fun _ C _ fl' ds => P C ∧ fl' = fl ∧ oSome (nthD ds i) fun d =>
  tv τ M1 fun y M2 => r d y M2 fun z M3 => oObj M3 x fun a C' dx fl' ds => C' = C ∧ fl' = fl ∧ i ≤ ds.length ∧ D0.nx τ (mup M3 a (.obj C dx fl (putD ds i z))) := propext Iff.rfl
theorem z_tMe {C : Addr} {fl : List Str} {sp : SpT} {te : TEt} {ta : TAt} {τ : Sg} {M : MH} {Q : VD} : tMe C fl sp te ta τ M Q = te τ M fun x M1 => oObj M1 x fun _ C' _ fl' _ => C' = C ∧ fl' = fl ∧ ta τ M1 fun ys M2 => sp (x :: ys) M2 Q Et0 := propext Iff.rfl
theorem z_tMk {C : Addr} {fl : List Str} {sp : SpT} {ta : TAt} {τ : Sg} {M : MH} {Q : VD} : tMk C fl sp ta τ M Q = ta τ M fun ys M1 => ∀ x dx, M1 x = none → sp (.ref x :: ys) (mup M1 x (.obj C dx fl [])) (fun v M2 => v = .non ∧ Q (.ref x) M2) Et0 := propext Iff.rfl
theorem z_sNx {D0 : En} {τ : Sg} {M : MH} : sNx D0 τ M = D0.nx τ M := propext Iff.rfl
theorem z_sSq {t u : TSt} {D0 : En} {τ : Sg} {M : MH} : sSq t u D0 τ M = t { D0 with nx := u D0 } τ M := propext Iff.rfl
theorem z_sBk {D0 : En} {τ : Sg} {M : MH} : sBk D0 τ M = D0.bk τ M := propext Iff.rfl
theorem z_sCt {D0 : En} {τ : Sg} {M : MH} : sCt D0 τ M = D0.ct τ M := propext Iff.rfl
theorem z_sDr {t : TEt} {D0 : En} {τ : Sg} {M : MH} : sDr t D0 τ M = t τ M fun _ M1 => D0.nx τ M1 := propext Iff.rfl
theorem z_sRt {t : TEt} {D0 : En} {τ : Sg} {M : MH} : sRt t D0 τ M = t τ M D0.rt := propext Iff.rfl
theorem z_sRtN {D0 : En} {w1 : Sg} {M : MH} : sRtN D0 w1 M = D0.rt .non M := propext Iff.rfl
theorem z_sIf {c : TTt} {t u : TSt} {D0 : En} {τ : Sg} {M : MH} : sIf c t u D0 τ M = c τ M fun b M1 => if b = true then t D0 τ M1 else u D0 τ M1 := propext Iff.rfl
theorem z_sAs {te : TEt} {g : TGt} {D0 : En} {τ : Sg} {M : MH} : sAs te g D0 τ M = te τ M fun x M1 => g x τ M1 D0.nx := propext Iff.rfl
theorem z_gN {i : Nat} {d : D} {τ : Sg} {M : MH} {Q : Sg → MH → Prop} : gN i d τ M Q = Q (τ.set i (some d)) M := propext Iff.rfl
theorem z_gSb {to ti : TEt} {t : TSett} {v : D} {τ : Sg} {M : MH} {Q : Sg → MH → Prop} : gSb to ti t v τ M Q = to τ M fun o M1 => ti τ M1 fun i M2 => t o i v M2 fun M3 => Q τ M3 := propext Iff.rfl
theorem z_tK {d : D} {w0 : Sg} {M : MH} {Q : VD} : tK d w0 M Q = Q d M := propext Iff.rfl
theorem z_tO {r : R2t} {ta tb : TEt} {τ : Sg} {M : MH} {Q : VD} : tO r ta tb τ M Q = ta τ M fun x M1 => tb τ M1 fun y M2 => r x y M2 Q := propext Iff.rfl
theorem z_tU {r : R1t} {ta : TEt} {τ : Sg} {M : MH} {Q : VD} : tU r ta τ M Q = ta τ M fun x M1 => r x M1 Q := propext Iff.rfl
theorem z_tCa {r : RLt} {ta : TAt} {τ : Sg} {M : MH} {Q : VD} : tCa r ta τ M Q = ta τ M fun xs M1 => r xs M1 Q := propext Iff.rfl
theorem z_tN {w0 : Sg} {M : MH} {Q : List D → MH → Prop} : tN w0 M Q = Q [] M := propext Iff.rfl
theorem z_tCs {ta : TEt} {tr : TAt} {τ : Sg} {M : MH} {Q : List D → MH → Prop} : tCs ta tr τ M Q = ta τ M fun x M1 => tr τ M1 fun xs M2 => Q (x :: xs) M2 := propext Iff.rfl
theorem z_tAn {t u : TTt} {τ : Sg} {M : MH} {Q : Bool → MH → Prop} : tAn t u τ M Q = t τ M fun c M1 => if c = true then u τ M1 Q else Q false M1 := propext Iff.rfl
theorem z_tNo {t : TTt} {τ : Sg} {M : MH} {Q : Bool → MH → Prop} : tNo t τ M Q = t τ M fun c M1 => Q (!c) M1 := propext Iff.rfl
theorem z_tIfE {t : TTt} {ta tb : TEt} {τ : Sg} {M : MH} {Q : VD} : tIfE t ta tb τ M Q = t τ M fun c M1 => if c = true then ta τ M1 Q else tb τ M1 Q := propext Iff.rfl
theorem z_tCl {sp : SpT} {Et : XT} {t : TAt} {τ : Sg} {M : MH} {Q : VD} : tCl sp Et t τ M Q = t τ M fun ds M1 => sp ds M1 Q Et := propext Iff.rfl
theorem z_tTu {t : TAt} {τ : Sg} {M : MH} {Q : VD} : tTu t τ M Q = t τ M fun ds M1 => ds.length ≤ sizeLine ∧ Q (.tup ds) M1 := propext Iff.rfl
theorem z_tLi {t : TAt} {τ : Sg} {M : MH} {Q : VD} : tLi t τ M Q = t τ M fun ds M1 => ds.length ≤ sizeLine ∧ Q (.lst ds) M1 := propext Iff.rfl
theorem z_tLm {t : TAt} {τ : Sg} {M : MH} {Q : VD} : tLm t τ M Q = t τ M fun ds M1 => ds.length ≤ sizeLine ∧ ∀ p, M1 p = none → Q (.ref p) (mup M1 p (.lst ds)) := propext Iff.rfl
theorem z_tSc {r : D → Option Int → Option Int → MH → VD → Prop} {te : TEt} {tl th : TOt} {τ : Sg} {M : MH} {Q : VD} : tSc r te tl th τ M Q = te τ M fun x M1 => tl τ M1 fun l M2 => th τ M2 fun u M3 => r x l u M3 Q := propext Iff.rfl
theorem z_oNo {w0 : Sg} {M : MH} {Q : Option Int → MH → Prop} : oNo w0 M Q = Q none M := propext Iff.rfl
theorem z_tMt {r : RMt} {to : TEt} {t : TAt} {τ : Sg} {M : MH} {Q : VD} : tMt r to t τ M Q = to τ M fun x M1 => (lstOf M1 x).isSome = true ∧ t τ M1 fun xs M2 => r x xs M2 Q := propext Iff.rfl
theorem z_tMt0 {r : RMt} {to : TEt} {τ : Sg} {M : MH} {Q : VD} : tMt0 r to τ M Q = to τ M fun x M1 => (lstOf M1 x).isSome = true ∧ r x [] M1 Q := propext Iff.rfl
theorem z_tYe {w0 : Sg} {M : MH} {Q : Bool → MH → Prop} : tYe w0 M Q = Q true M := propext Iff.rfl
theorem z_tLt {ds : List D} {w0 : Sg} {M : MH} {Q : List D → MH → Prop} : tLt ds w0 M Q = Q ds M := propext Iff.rfl
end Tl
namespace Tl
open PySem PySem.Spec PyProof.Rows L2
/-! ### == of plain data is sameness -/
mutual
def plD : D → Prop
  | .non => True
  | .int _ => True
  | .str _ => True
  | .tup l => plDs l
  | .lst l => plDs l
  | _ => False
def plDs : List D → Prop
  | [] => True
  | x :: t => plD x ∧ plDs t
end
mutual
theorem pl_eqv : ∀ (x y : D) (d e : PyData), plD x → plD y → pyD x = some d → pyD y = some e → (PyData.eqv d e = true ↔ x = y)
  | .non, y, d, e, hx, hy, h1, h2 => by
    unfold pyD at h1; cases h1
    cases y with
    | non => unfold pyD at h2; cases h2; unfold PyData.eqv; simp
    | int j => unfold pyD at h2; cases h2; unfold PyData.eqv; simp
    | str j => unfold pyD at h2; cases h2; unfold PyData.eqv; simp
    | tup l => unfold pyD at h2; obtain ⟨ys, _, rfl⟩ := Option.map_eq_some_iff.mp h2; unfold PyData.eqv; simp
    | lst l => unfold pyD at h2; obtain ⟨ys, _, rfl⟩ := Option.map_eq_some_iff.mp h2; unfold PyData.eqv; simp
    | _ => unfold plD at hy; exact hy.elim
  | .int i, y, d, e, hx, hy, h1, h2 => by
    unfold pyD at h1; cases h1
    cases y with
    | non => unfold pyD at h2; cases h2; unfold PyData.eqv; simp
    | int j => unfold pyD at h2; cases h2; unfold PyData.eqv; simp
    | str j => unfold pyD at h2; cases h2; unfold PyData.eqv; simp
    | tup l => unfold pyD at h2; obtain ⟨ys, _, rfl⟩ := Option.map_eq_some_iff.mp h2; unfold PyData.eqv; simp
    | lst l => unfold pyD at h2; obtain ⟨ys, _, rfl⟩ := Option.map_eq_some_iff.mp h2; unfold PyData.eqv; simp
    | _ => unfold plD at hy; exact hy.elim
  | .str i, y, d, e, hx, hy, h1, h2 => by
    unfold pyD at h1; cases h1
    cases y with
    | non => unfold pyD at h2; cases h2; unfold PyData.eqv; simp
    | int j => unfold pyD at h2; cases h2; unfold PyData.eqv; simp
    | str j => unfold pyD at h2; cases h2; unfold PyData.eqv; simp
    | tup l => unfold pyD at h2; obtain ⟨ys, _, rfl⟩ := Option.map_eq_some_iff.mp h2; unfold PyData.eqv; simp
    | lst l => unfold pyD at h2; obtain ⟨ys, _, rfl⟩ := Option.map_eq_some_iff.mp h2; unfold PyData.eqv; simp
    | _ => unfold plD at hy; exact hy.elim
  | .tup l, y, d, e, hx, hy, h1, h2 => by
    unfold pyD at h1
    obtain ⟨xs, e1, rfl⟩ := Option.map_eq_some_iff.mp h1
    cases y with
    | non => unfold pyD at h2; cases h2; unfold PyData.eqv; simp
    | int j => unfold pyD at h2; cases h2; unfold PyData.eqv; simp
    | str j => unfold pyD at h2; cases h2; unfold PyData.eqv; simp
    | tup m =>
      unfold pyD at h2
      obtain ⟨ys, e2, rfl⟩ := Option.map_eq_some_iff.mp h2
      unfold plD at hx hy
      have := pl_eqvs l m xs ys hx hy e1 e2
      unfold PyData.eqv
      rw [this, D.tup.injEq]
    | lst m => unfold pyD at h2; obtain ⟨ys, _, rfl⟩ := Option.map_eq_some_iff.mp h2; unfold PyData.eqv; simp
    | _ => unfold plD at hy; exact hy.elim
  | .lst l, y, d, e, hx, hy, h1, h2 => by
    unfold pyD at h1
    obtain ⟨xs, e1, rfl⟩ := Option.map_eq_some_iff.mp h1
    cases y with
    | non => unfold pyD at h2; cases h2; unfold PyData.eqv; simp
    | int j => unfold pyD at h2; cases h2; unfold PyData.eqv; simp
    | str j => unfold pyD at h2; cases h2; unfold PyData.eqv; simp
    | lst m =>
      unfold pyD at h2
      obtain ⟨ys, e2, rfl⟩ := Option.map_eq_some_iff.mp h2
      unfold plD at hx hy
      have := pl_eqvs l m xs ys hx hy e1 e2
      unfold PyData.eqv
      rw [this, D.lst.injEq]
    | tup m => unfold pyD at h2; obtain ⟨ys, _, rfl⟩ := Option.map_eq_some_iff.mp h2; unfold PyData.eqv; simp
    | _ => unfold plD at hy; exact hy.elim
  | .bl _, _, _, _, hx, _, _, _ => by unfold plD at hx; exact hx.elim
  | .tab _, _, _, _, hx, _, _, _ => by unfold plD at hx; exact hx.elim
  | .scr _, _, _, _, hx, _, _, _ => by unfold plD at hx; exact hx.elim
  | .ref _, _, _, _, hx, _, _, _ => by unfold plD at hx; exact hx.elim
  | .ty _, _, _, _, hx, _, _, _ => by unfold plD at hx; exact hx.elim
theorem pl_eqvs : ∀ (x y : List D) (d e : List PyData), plDs x → plDs y → pyDs x = some d → pyDs y = some e → (PyData.eqvAll d e = true ↔ x = y)
  | [], [], d, e, _, _, h1, h2 => by unfold pyDs at h1 h2; cases h1; cases h2; unfold PyData.eqvAll; simp
  | [], y :: t, d, e, _, _, h1, h2 => by
    unfold pyDs at h1 h2; cases h1
    cases q : pyD y with
    | none => simp only [q] at h2; cases h2
    | some a => cases q2 : pyDs t with
      | none => simp only [q, q2] at h2; cases h2
      | some b => simp only [q, q2] at h2; cases h2; unfold PyData.eqvAll; simp
  | x :: t, [], d, e, _, _, h1, h2 => by
    unfold pyDs at h1 h2; cases h2
    cases q : pyD x with
    | none => simp only [q] at h1; cases h1
    | some a => cases q2 : pyDs t with
      | none => simp only [q, q2] at h1; cases h1
      | some b => simp only [q, q2] at h1; cases h1; unfold PyData.eqvAll; simp
  | x :: t, y :: u, d, e, hx, hy, h1, h2 => by
    unfold pyDs at h1 h2
    unfold plDs at hx hy
    cases q : pyD x with
    | none => simp only [q] at h1; cases h1
    | some a => cases q2 : pyDs t with
      | none => simp only [q, q2] at h1; cases h1
      | some b => cases q3 : pyD y with
        | none => simp only [q3] at h2; cases h2
        | some a2 => cases q4 : pyDs u with
          | none => simp only [q3, q4] at h2; cases h2
          | some b2 =>
            simp only [q, q2] at h1
            simp only [q3, q4] at h2
            cases h1; cases h2
            unfold PyData.eqvAll
            rw [Bool.and_eq_true, pl_eqv x y a a2 hx.1 hy.1 q q3, pl_eqvs t u b b2 hx.2 hy.2 q2 q4, List.cons.injEq]
end
theorem eqD_pl {M : MH} {x y z w : D} {Q : VD} (n : Nat) (hx : asD M x = some z) (hy : asD M y = some w) (ok : okD n z) (ok2 : okD n w) (p : plD z) (p2 : plD w) (h : ∀ b : Bool, (b = true ↔ z = w) → Q (.bl b) M) (hn : n ≤ 64 := by decide) : bEqD x y M Q := by
  obtain ⟨d, e, c, dp⟩ := okD_py n z ok
  obtain ⟨d2, e2, c2, dp2⟩ := okD_py n w ok2
  unfold bEqD
  simp only [pyM_asD hx, pyM_asD hy, e, e2]
  have sh : SeqAt.shaped d = true := Bool.and_eq_true_iff.mpr ⟨c, decide_eq_true (by omega)⟩
  have sh2 : SeqAt.shaped d2 = true := Bool.and_eq_true_iff.mpr ⟨c2, decide_eq_true (by omega)⟩
  exact ⟨sh, sh2, h _ (pl_eqv z w d d2 p p2 e e2)⟩
theorem neD_pl {M : MH} {x y z w : D} {Q : VD} (n : Nat) (hx : asD M x = some z) (hy : asD M y = some w) (ok : okD n z) (ok2 : okD n w) (p : plD z) (p2 : plD w) (h : ∀ b : Bool, (b = true ↔ z = w) → Q (.bl (!b)) M) (hn : n ≤ 64 := by decide) : bNeD x y M Q := by
  obtain ⟨d, e, c, dp⟩ := okD_py n z ok
  obtain ⟨d2, e2, c2, dp2⟩ := okD_py n w ok2
  unfold bNeD
  simp only [pyM_asD hx, pyM_asD hy, e, e2]
  have sh : SeqAt.shaped d = true := Bool.and_eq_true_iff.mpr ⟨c, decide_eq_true (by omega)⟩
  have sh2 : SeqAt.shaped d2 = true := Bool.and_eq_true_iff.mpr ⟨c2, decide_eq_true (by omega)⟩
  exact ⟨sh, sh2, h _ (pl_eqv z w d d2 p p2 e e2)⟩
theorem ex_pl : ∀ e : Ex, plD e.d
  | .num i => by unfold Ex.d plD plDs plDs plDs plD; exact ⟨trivial, trivial, trivial⟩
  | .nam x => by unfold Ex.d plD plDs plDs plDs plD; exact ⟨trivial, trivial, trivial⟩
  | .lane => by unfold Ex.d plD plDs plDs plD; exact ⟨trivial, trivial⟩
  | .lanes => by unfold Ex.d plD plDs plDs plD; exact ⟨trivial, trivial⟩
  | .mine => by unfold Ex.d plD plDs plDs plD; exact ⟨trivial, trivial⟩
  | .box e => by unfold Ex.d plD plDs plDs plDs; exact ⟨by unfold plD; trivial, ex_pl e, trivial⟩
  | .op w a b => by unfold Ex.d plD plDs plDs plDs plDs; exact ⟨by unfold plD; trivial, ex_pl a, ex_pl b, trivial⟩
end Tl
namespace Tl
open PySem PySem.Spec PyProof.Rows L2
/-! ### rows: a mirror of how a program is made into rows -/
inductive Sn where
  | lane | lanes | mine
deriving DecidableEq
def Sn.s : Sn → Str
  | .lane => "lane" | .lanes => "lanes" | .mine => "mine"
inductive Rw where
  | tick (l : Int) | num (l at_ n : Int) | copy (l at_ from_ : Int) | sign (l at_ : Int) (w : Sn) | op (l at_ : Int) (w : Op7) (one other : Int) | get (l at_ pl : Int) | put (l pl from_ : Int) | tell (l from_ : Int)
  | split (l from_ row : Int) | jump (l row : Int) | call (l at_ first many row : Int) | back (l : Int) | join (l at_ : Int) (w : Str) (from_ : Int) | meet (l : Int) | stop (l : Int)
def Rw.d : Rw → D
  | .tick l => .tup [.str "tick", .int l]
  | .num l a n => .tup [.str "num", .int l, .int a, .int n]
  | .copy l a f => .tup [.str "copy", .int l, .int a, .int f]
  | .sign l a w => .tup [.str "sign", .int l, .int a, .str w.s]
  | .op l a w o p => .tup [.str "op", .int l, .int a, .str w.s, .int o, .int p]
  | .get l a p => .tup [.str "get", .int l, .int a, .int p]
  | .put l p f => .tup [.str "put", .int l, .int p, .int f]
  | .tell l f => .tup [.str "tell", .int l, .int f]
  | .split l f r => .tup [.str "split", .int l, .int f, .int r]
  | .jump l r => .tup [.str "jump", .int l, .int r]
  | .call l a f m r => .tup [.str "call", .int l, .int a, .int f, .int m, .int r]
  | .back l => .tup [.str "back", .int l]
  | .join l a w f => .tup [.str "join", .int l, .int a, .str w, .int f]
  | .meet l => .tup [.str "meet", .int l]
  | .stop l => .tup [.str "stop", .int l]
/-! expressions and statements of a body, in their order -/
mutual
def allSt : Sm → List Sm
  | .if1 l e b => .if1 l e b :: allBd b
  | .if2 l e b c => .if2 l e b c :: (allBd b ++ allBd c)
  | .whl l e b => .whl l e b :: allBd b
  | s => [s]
def allBd : List Sm → List Sm
  | [] => []
  | s :: t => allSt s ++ allBd t
end
/-! slots of names -/
/-! rows of an expression -/
/-! the maker -/
structure Mk where
  rows : List Rw
  calls : List (Nat × Str)
  leaves : List Nat
  loops : List (Nat × List Nat)
def Mk.add (m : Mk) (rs : List Rw) : Mk := { m with rows := m.rows ++ rs }
theorem allBd_app : ∀ {a b : List Sm}, allBd (a ++ b) = allBd a ++ allBd b
  | [], b => by rw [show allBd [] = [] from by unfold allBd; rfl]; rfl
  | s :: t, b => by rw [List.cons_append, allBd, allBd, allBd_app, List.append_assoc]
theorem allBd_one {s : Sm} : allBd [s] = allSt s := by rw [allBd, show allBd [] = [] from by unfold allBd; rfl, List.append_nil]
theorem allSt_eq (s : Sm) : allSt s = s :: (s.blocks.map allBd).flatten := by
  cases s <;> (unfold allSt Sm.blocks; simp)
end Tl
namespace Tl
open PySem PySem.Spec PyProof.Rows L2
/-! ### setdefault of a dict by numbers and texts -/
def isDK : MO → Prop
  | .dK _ => True
  | _ => False
def oSdk (o : Option MO) (k : D) (z : D) (f : D → Option MO → Prop) : Prop := match o with
  | some (.dK kvs) => match k1 k with
    | some c => kvs.length < sizeLine ∧ match valD kvs c with
      | some d => f d none
      | none => f z (some (.dK (putM kvs c z)))
    | none => False
  | _ => False
def sSdk (x k z : D) (M : MH) (Q : VD) : Prop := match x with
  | .ref a => oSdk (M a) k z fun d u => Q d (match u with
    | some o => mup M a o
    | none => M)
  | _ => False
def tSdk (to ti tz : TEt) : TEt := fun τ M Q => to τ M fun x M1 => (∃ a o, x = .ref a ∧ M1 a = some o ∧ isDK o) ∧ ti τ M1 fun k M2 => tz τ M2 fun z M3 => sSdk x k z M3 Q
theorem utSdk {to ti tz : TEt} {τ : Sg} {M : MH} {Q : VD} : tSdk to ti tz τ M Q = to τ M fun x M1 => (∃ a o, x = .ref a ∧ M1 a = some o ∧ isDK o) ∧ ti τ M1 fun k M2 => tz τ M2 fun z M3 => sSdk x k z M3 Q := propext Iff.rfl
/-! ### slots -/
theorem is_m {M : MH} {r : Addr} {ds : List D} (h : M r = some (.lst ds)) : (lstOf M (.ref r)).isSome = true := by
  unfold lstOf; dsimp only; rw [h]; rfl
end Tl
namespace Tl
open PySem PySem.Spec PyProof.Rows L2
/-! ### texts: split, join, startswith, str(int), int(text) -/
abbrev RSt := Str → D → MH → VD → Prop
def mSplit : RSt := fun a y M Q => match y with
  | .str b => (b.length == 0) = false ∧ a.length + 2 ≤ sizeLine ∧ Q (.lst ((Txt.split a b).map .str)) M
  | _ => False
def mStarts : RSt := fun a y M Q => match y with
  | .str b => Q (.bl (Txt.startswith a b)) M
  | _ => False
def mJoin : RSt := fun a y M Q => ∃ ys : List Str, lstOf M y = some (ys.map D.str) ∧ (ys.map (·.length)).sum + ys.length * a.length ≤ 16777216 ∧ Q (.str (Txt.join a ys)) M
theorem rps_strs {K : PySem.W.Frag} {F : Hp} : ∀ ys : List Str, Rps K F (ys.map V.str) (ys.map D.str)
  | [] => .nil
  | y :: ys => .cons (.str y) (rps_strs ys)
theorem strs_of_rps2 {K : PySem.W.Frag} {F : Hp} : ∀ {ys : List Str} {vs : List V}, Rps K F vs (ys.map D.str) → vs = ys.map V.str
  | [], _, h => by cases h; rfl
  | y :: ys, _, h => by
    cases h with
    | cons h t =>
      cases h
      rw [strs_of_rps2 t]
      rfl
/-- a method of a text, one argument -/
def tSm (r : RSt) (to te : TEt) : TEt := fun τ M Q => to τ M fun x M1 => match x with
  | .str a => te τ M1 fun y M2 => r a y M2 Q
  | _ => False
theorem lv_sm {X : Cx} {E : XK} {Et : XT} {r : RSt} {to te : TEt} {rr : V → List V → Hp → VK → Prop} (hi : ∀ (a : Str) (y : V) (H : Hp) (Q : VK) (G F : Hp) (M : MH) (dy : D) (Qt : VD), Rel X.K G F H M → Rp X.K F y dy → r a dy M Qt →
    (∀ v F' H' M' d, Same F F' → Rel X.K G F' H' M' → Rp X.K F' v d → Qt d M' → Q v H') → rr (.str a) [y] H Q) : ∀ σ H Q, liftE X.K E Et (tSm r to te) σ H Q → tM1 rr (liftE X.K E Et to) (liftE X.K E Et te) σ H Q := by
  rintro σ H Q ⟨G, F, M, τ, Qt, a, h, k⟩
  refine ⟨G, F, M, τ, _, a, h, fun v F1 H1 M1 d s1 r1 p1 q1 => ?_⟩
  cases d with
  | str z =>
    cases p1
    refine ⟨⟨z, rfl⟩, G, F1, M1, τ, _, a.step s1 r1, q1, fun y F2 H2 M2 dy s2 r2 p2 q2 => ?_⟩
    exact hi z y H2 Q G F2 M2 dy Qt r2 p2 q2 fun v F' H' M' d s => k v F' H' M' d ((s1.trans s2).trans s)
  | _ => exact q1.elim
section
variable {X : Cx} {E : XK} {Et : XT} {o e : Expr} {to te : TEt} {apos pos : Pos}
theorem q_split (ho : QE X E Et o to) (he : QE X E Et e te) (hs : starEach [e] X.env = [(false, eval e X.env)] := by rfl) (hbase : attributeBase o "split" X.env (eval o X.env) = eval o X.env := by rfl) (hline : (apos.endLine == pos.line) = true := by rfl) :
    QE X E Et (.Call (.Attribute o "split" apos) [e] [] pos) (tSm mSplit to te) :=
  PEimp (pe_split ho he hs hbase hline) (lv_sm fun a y H Q G F M dy Qt R p h k => by
    cases dy with
    | str b =>
      cases p
      refine ⟨a, b, rfl, rfl, h.1, h.2.1, fun q nq => ?_⟩
      obtain ⟨s2, R2⟩ := R.newF (o := .lst ((Txt.split a b).map V.str)) nq
      exact k _ _ _ M _ s2 R2 (.lst upd_same (rps_strs _)) h.2.2
    | _ => exact h.elim)
theorem q_join (ho : QE X E Et o to) (he : QE X E Et e te) (hs : starEach [e] X.env = [(false, eval e X.env)] := by rfl) (hbase : attributeBase o "join" X.env (eval o X.env) = eval o X.env := by rfl) (hline : (apos.endLine == pos.line) = true := by rfl) :
    QE X E Et (.Call (.Attribute o "join" apos) [e] [] pos) (tSm mJoin to te) :=
  PEimp (pe_join ho he hs hbase hline) (lv_sm fun a y H Q G F M dy Qt R p h k => by
    obtain ⟨ys, e1, hz, h⟩ := h
    obtain ⟨b, vs, rfl, hs, r⟩ := lst_of R p e1
    have hvs := strs_of_rps2 r
    subst hvs
    exact ⟨a, b, ys, rfl, rfl, .inl hs, hz, k _ F H M _ (Same.refl _) R (.str _) h⟩)
theorem q_startswith (ho : QE X E Et o to) (he : QE X E Et e te) (hs : starEach [e] X.env = [(false, eval e X.env)] := by rfl) (hbase : attributeBase o "startswith" X.env (eval o X.env) = eval o X.env := by rfl) (hline : (apos.endLine == pos.line) = true := by rfl) :
    QE X E Et (.Call (.Attribute o "startswith" apos) [e] [] pos) (tSm mStarts to te) :=
  PEimp (pe_m1 PySem.F.slot_str_startswith PySem.F.type_str_startswith mt_startswith ho he hs hbase hline) (lv_sm fun a y H Q G F M dy Qt R p h k => by
    cases dy with
    | str b =>
      cases p
      exact ⟨a, b, rfl, rfl, k _ F H M _ (Same.refl _) R (.bl _) h⟩
    | _ => exact h.elim)
def cStr : RLt := fun ds M Q => match ds with
  | [.int i] => i.natAbs.log2 < 1920 ∧ Q (.str (toString i : String)) M
  | _ => False
def cIntS : RLt := fun ds M Q => match ds with
  | [.str a] => ∃ n, PySem.intText? a = some n ∧ a.length ≤ 640 ∧ Q (.int n) M
  | _ => False
theorem cq_str : CallQ X (.type "str") cStr := CallRimp call_str_int (by
  rintro xs H Q ⟨G, F, M, ds, Qt, R, r, h, k⟩
  match ds, r, h with
  | [.int i], .cons (.int _) .nil, h => exact ⟨i, rfl, h.1, k _ F H M _ (Same.refl _) R (.str _) h.2⟩)
theorem cq_intS : CallQ X (.type "int") cIntS := CallRimp call_int_str (by
  rintro xs H Q ⟨G, F, M, ds, Qt, R, r, h, k⟩
  match ds, r, h with
  | [.str a], .cons (.str _) .nil, h =>
    obtain ⟨n, h1, h2, h3⟩ := h
    exact ⟨a, n, rfl, h1, h2, k _ F H M _ (Same.refl _) R (.int _) h3⟩)
/-- * where one factor is short -/
theorem oq_mulS : OpQ X (binaryOp .Mult) (bInt CMul fun i j => .int (i * j)) := OpRimp op_mul (lr2_int (fun _ _ _ => .int _) bInt_inv)
theorem ms_r {i j : Int} (h : -(2 ^ 64) < j ∧ j < 2 ^ 64) : CMul i j := .inr h
theorem ms_l {i j : Int} (h : -(2 ^ 64) < i ∧ i < 2 ^ 64) : CMul i j := .inl h
/-- a sign in a text -/
def bInS : R2t := fun x y M Q => match x, y with
  | .str a, .str z => ∃ c, a = ⟨#[c]⟩ ∧ Q (.bl (decide (c ∈ z.cps.toList))) M
  | _, _ => False
theorem oq_inS : OpQ X (compareOp .In) bInS := OpRimp op_in_sign (by
  rintro x y H Q ⟨G, F, M, dx, dy, Qt, R, px, py, h, k⟩
  match dx, px, dy, py, h with
  | .str a, .str _, .str z, .str _, h =>
    obtain ⟨c, rfl, h⟩ := h
    exact ⟨c, z, rfl, rfl, k _ F H M _ (Same.refl _) R (.bl _) h⟩)
end
/-! ### zip of two tuples -/
def iZiT (ta : TAt) : TIt := fun τ M Q => ta τ M fun ds M1 => match ds with
  | [d, d2] => match tupOf d, tupOf d2 with
    | some xs, some ys => Q ⟨zipD xs ys, fun _ => True⟩ M1
    | _, _ => False
  | _ => False
/-! readings -/
theorem uZiT {ta : TAt} {τ : Sg} {M : MH} {Q : Its → MH → Prop} : iZiT ta τ M Q = ta τ M fun ds M1 => oL2 ds fun d d2 => oSome (tupOf d) fun xs => oSome (tupOf d2) fun ys => Q ⟨zipD xs ys, fun _ => True⟩ M1 := by
  unfold iZiT
  congr 1
  funext ds M1
  match ds with
  | [] => rfl
  | [_] => rfl
  | [d, d2] =>
    show (match tupOf d, tupOf d2 with | some xs, some ys => Q ⟨zipD xs ys, fun _ => True⟩ M1 | _, _ => False) = oSome (tupOf d) fun xs => oSome (tupOf d2) fun ys => Q ⟨zipD xs ys, fun _ => True⟩ M1
    cases tupOf d with
    | none => rfl
    | some xs => cases tupOf d2 <;> rfl
  | _ :: _ :: _ :: _ => rfl
section
variable {τ : Sg} {M : MH} {Q : VD} {a b : Str} {i : Int} {y : D} {r : RSt} {to te : TEt}
theorem utSm : tSm r to te τ M Q = to τ M fun x M1 => oStr x fun a => te τ M1 fun y M2 => r a y M2 Q := propext Iff.rfl
theorem umSplit : mSplit a (.str b) M Q = ((b.length == 0) = false ∧ a.length + 2 ≤ 16777216 ∧ Q (.lst ((Txt.split a b).map .str)) M) := by rw [← sizeLine_eq]; rfl
theorem umStarts : mStarts a (.str b) M Q = Q (.bl (Txt.startswith a b)) M := propext Iff.rfl
theorem umJoin : mJoin a y M Q = ∃ ys : List Str, lstOf M y = some (ys.map D.str) ∧ (ys.map (·.length)).sum + ys.length * a.length ≤ 16777216 ∧ Q (.str (Txt.join a ys)) M := propext Iff.rfl
theorem ucStr : cStr [.int i] M Q = (i.natAbs.log2 < 1920 ∧ Q (.str (toString i : String)) M) := propext Iff.rfl
theorem ucIntS : cIntS [.str a] M Q = ∃ n, PySem.intText? a = some n ∧ a.length ≤ 640 ∧ Q (.int n) M := propext Iff.rfl
theorem ubInS : bInS (.str a) (.str b) M Q = ∃ c, a = ⟨#[c]⟩ ∧ Q (.bl (decide (c ∈ b.cps.toList))) M := propext Iff.rfl
end
end Tl
namespace Tl
open PySem PySem.Spec PyProof.Rows L2
/-! ### names, numbers and expressions as words -/
def okName (x : Str) : Prop := (1 ≤ x.length ∧ x.length ≤ 8 ∧ (cds x).all (fun c => decide (97 ≤ c) && decide (c ≤ 122)) = true) ∧ x ∉ keptL
instance (x : Str) : Decidable (okName x) := by unfold okName; infer_instance
def numT (i : Int) : Str := (toString i : String)
def okW : Ex → Prop
  | .num i => -999999999 ≤ i ∧ i ≤ 999999999
  | .nam x => okName x
  | .box e => okW e
  | .op _ a b => okW a ∧ okW b
  | _ => True
def wordsE : Ex → List Str
  | .num i => [numT i]
  | .nam x => [x]
  | .lane => ["lane"]
  | .lanes => ["lanes"]
  | .mine => ["mine"]
  | .box e => "box" :: wordsE e
  | .op w a b => w.s :: (wordsE a ++ wordsE b)
def blank : Str := " "
def txtE (e : Ex) : Str := Txt.join blank (wordsE e)
theorem words_ne : ∀ e : Ex, wordsE e ≠ []
  | .num _ | .nam _ | .lane | .lanes | .mine | .box _ | .op _ _ _ => by simp [wordsE]
/-! signs of a number -/
theorem cds_pos {n : Nat} : cds (numT (n : Int)) = TL.numL n := TL.tl_num n
theorem cds_ofS (a b : String) : cds (Str.ofString (a ++ b)) = cds (Str.ofString a) ++ cds (Str.ofString b) := by
  unfold cds
  rw [Str.ofString_eq_toList, Str.ofString_eq_toList, Str.ofString_eq_toList]
  simp
theorem cds_neg {n : Nat} : cds (numT (-((n + 1 : Nat) : Int))) = 45 :: TL.numL (n + 1) := by
  have e : (toString (-((n + 1 : Nat) : Int)) : String) = "-" ++ (toString ((n + 1 : Nat) : Int) : String) := rfl
  unfold numT
  rw [e, cds_ofS]
  show [45] ++ _ = _
  rw [show cds (Str.ofString (toString ((n + 1 : Nat) : Int))) = TL.numL (n + 1) from TL.tl_num (n + 1)]
  rfl
theorem num_cases (i : Int) : (∃ n : Nat, i = (n : Int) ∧ cds (numT i) = TL.numL n) ∨ ∃ n : Nat, i = -((n + 1 : Nat) : Int) ∧ cds (numT i) = 45 :: TL.numL (n + 1) := by
  by_cases h : 0 ≤ i
  · obtain ⟨n, rfl⟩ := Int.eq_ofNat_of_zero_le h
    exact .inl ⟨n, rfl, cds_pos⟩
  · refine .inr ⟨(-i).toNat - 1, by omega, ?_⟩
    have : i = -((((-i).toNat - 1) + 1 : Nat) : Int) := by omega
    rw [this]
    have e2 : (-(-((((-i).toNat - 1) + 1 : Nat) : Int))).toNat - 1 = (-i).toNat - 1 := by omega
    rw [e2]
    exact cds_neg
theorem dig_mem {n c : Nat} (h : c ∈ TL.numL n) : 48 ≤ c ∧ c ≤ 57 := TL.numL_digits n c h
theorem num_head : ∀ {n : Nat}, 0 < n → (TL.numL n).head? ≠ some 48 := by
  intro n
  induction n using Nat.strongRecOn with
  | _ n ih =>
    intro h
    by_cases h10 : n < 10
    · rw [TL.numL_lt h10]
      intro e
      cases n with
      | zero => omega
      | succ n => simp at e
    · rw [TL.numL_step (by omega), List.head?_append]
      have h2 := ih (n / 10) (by omega) (by omega)
      have h3 := TL.numL_ne (n / 10)
      cases hc : TL.numL (n / 10) with
      | nil => exact absurd hc h3
      | cons c t => rw [hc] at h2; exact h2
theorem num_int (i : Int) (h : -999999999 ≤ i ∧ i ≤ 999999999) : PySem.intText? (numT i) = some i ∧ (numT i).length ≤ 10 := by
  rcases num_cases i with ⟨n, rfl, e⟩ | ⟨n, rfl, e⟩
  · have hl := TL.numL_len (n := n) (k := 9) (by decide) (by omega)
    refine ⟨TL.int_num (by omega), ?_⟩
    rw [← cds_len, e]; omega
  · have hl := TL.numL_len (n := n + 1) (k := 9) (by decide) (by omega)
    have hl2 : (numT (-((n + 1 : Nat) : Int))).length ≤ 10 := by rw [← cds_len, e, List.length_cons]; omega
    refine ⟨?_, hl2⟩
    have := intText_neg (x := numT (-((n + 1 : Nat) : Int))) (cs := TL.numL (n + 1)) e (TL.numL_digits _) (TL.numL_ne _) (by omega)
    rw [this, TL.numL_val]
/-- whether a text writes a number -/
def figsF (x : Str) : List Nat := if (cds x).head? = some 45 then (cds x).tail else cds x
def isNumF (x : Str) : Bool := !((cds x).head? == some 45 && figsF x == [48]) && decide ((figsF x).length ≤ 9) && !(figsF x).isEmpty && (figsF x).all (fun c => decide (48 ≤ c) && decide (c ≤ 57)) && (figsF x == [48] || !((figsF x).head? == some 48))
theorem num_is {i : Int} (h : -999999999 ≤ i ∧ i ≤ 999999999) : isNumF (numT i) = true := by
  have hall : ∀ n, (TL.numL n).all (fun c => decide (48 ≤ c) && decide (c ≤ 57)) = true := fun n => List.all_eq_true.mpr fun c hc => by
    have := dig_mem hc
    simp [this.1, this.2]
  have hne : ∀ n, (TL.numL n).isEmpty = false := fun n => by
    have := TL.numL_ne n
    cases hc : TL.numL n with
    | nil => exact absurd hc this
    | cons => rfl
  rcases num_cases i with ⟨n, rfl, e⟩ | ⟨n, rfl, e⟩
  · have hl := TL.numL_len (n := n) (k := 9) (by decide) (by omega)
    have hh : (TL.numL n).head? ≠ some 45 := fun hc => by
      have := dig_mem (List.mem_of_mem_head? hc)
      omega
    unfold isNumF figsF
    rw [e, if_neg hh, hall, hne, decide_eq_true hl]
    have h1 : ((TL.numL n).head? == some 45) = false := by simpa using hh
    rw [h1]
    by_cases hn : n = 0
    · subst hn; decide +kernel
    · have h2 : ((TL.numL n).head? == some 48) = false := by simpa using num_head (n := n) (by omega)
      rw [h2]; simp
  · have hl := TL.numL_len (n := n + 1) (k := 9) (by decide) (by omega)
    have h3 : (TL.numL (n + 1) == [48]) = false := by
      have := num_head (n := n + 1) (by omega)
      cases hc : TL.numL (n + 1) with
      | nil => rfl
      | cons c t =>
        rw [hc] at this
        have hcc : c ≠ 48 := by simpa using this
        simp [hcc]
    have h2 : ((TL.numL (n + 1)).head? == some 48) = false := by simpa using num_head (n := n + 1) (by omega)
    have hf : figsF (numT (-((n + 1 : Nat) : Int))) = TL.numL (n + 1) := by unfold figsF; rw [e]; rfl
    unfold isNumF
    rw [hf, e, hall, hne, decide_eq_true hl, h2, h3]
    simp
/-- a name is no number, a number is no name -/
theorem num_notName (i : Int) : ¬ okName (numT i) := fun h => by
  have h1 := h.1.2.2
  have h2 := List.all_eq_true.mp h1
  rcases num_cases i with ⟨n, rfl, e⟩ | ⟨n, rfl, e⟩
  · rw [e] at h2
    cases hc : TL.numL n with
    | nil => exact TL.numL_ne n hc
    | cons c t =>
      have := h2 c (by rw [hc]; exact List.mem_cons_self ..)
      have hd := dig_mem (n := n) (c := c) (by rw [hc]; exact List.mem_cons_self ..)
      simp only [Bool.and_eq_true, decide_eq_true_eq] at this
      omega
  · rw [e] at h2
    have := h2 45 (List.mem_cons_self ..)
    simp at this
theorem num_not {i : Int} {x : Str} {c : Nat} (hx : (cds x).head? = some c) (hc : c ≠ 45 ∧ (c < 48 ∨ 57 < c)) : numT i ≠ x := fun h => by
  subst h
  rcases num_cases i with ⟨n, rfl, e⟩ | ⟨n, rfl, e⟩
  · rw [e] at hx
    have := dig_mem (List.mem_of_mem_head? hx)
    omega
  · rw [e] at hx
    exact hc.1 (Option.some.inj hx).symm
theorem num_notMinus (i : Int) : numT i ≠ "-" := fun h => by
  have h2 := congrArg cds h
  rcases num_cases i with ⟨n, rfl, e⟩ | ⟨n, rfl, e⟩
  · rw [e] at h2
    have : TL.numL n = [45] := h2
    have h3 := dig_mem (n := n) (c := 45) (by rw [this]; exact List.mem_cons_self ..)
    omega
  · rw [e] at h2
    have : 45 :: TL.numL (n + 1) = [45] := h2
    exact TL.numL_ne (n + 1) (List.cons.inj this).2
/-! split -/
theorem word_free : ∀ {e : Ex}, okW e → ∀ w ∈ wordsE e, 32 ∉ cds w
  | .num i, _, w, h => by
    rw [List.mem_singleton.mp h]
    rcases num_cases i with ⟨n, rfl, e⟩ | ⟨n, rfl, e⟩
    · rw [e]; intro hm; have := dig_mem hm; omega
    · rw [e]; intro hm
      rcases List.mem_cons.mp hm with hm | hm
      · omega
      · have := dig_mem hm; omega
  | .nam x, hx, w, h => by
    rw [List.mem_singleton.mp h]
    intro hm
    have := List.all_eq_true.mp hx.1.2.2 32 hm
    simp at this
  | .lane, _, w, h => by rw [List.mem_singleton.mp h]; decide +kernel
  | .lanes, _, w, h => by rw [List.mem_singleton.mp h]; decide +kernel
  | .mine, _, w, h => by rw [List.mem_singleton.mp h]; decide +kernel
  | .box e, hx, w, h => by
    rcases List.mem_cons.mp h with rfl | h
    · decide +kernel
    · exact word_free (e := e) hx w h
  | .op o a b, hx, w, h => by
    rcases List.mem_cons.mp h with rfl | h
    · cases o <;> decide +kernel
    · rcases List.mem_append.mp h with h | h
      · exact word_free hx.1 w h
      · exact word_free hx.2 w h
/-! join -/
theorem join_eq (ws : List Str) : Txt.join blank ws = Str.join blank ws := TL.join_eq blank ws
theorem tjoin_one (w : Str) : Txt.join blank [w] = w := by rw [join_eq]; rfl
theorem join_cons {w : Str} {ws : List Str} (h : ws ≠ []) : Txt.join blank (w :: ws) = w ++ blank ++ Txt.join blank ws := by
  rw [join_eq, join_eq]
  cases ws with
  | nil => exact absurd rfl h
  | cons x t => rfl
theorem str_assoc (a b c : Str) : a ++ b ++ c = a ++ (b ++ c) := cds_inj (by rw [cds_app, cds_app, cds_app, cds_app, List.append_assoc])
theorem join_app {bs : List Str} (hb : bs ≠ []) : ∀ {as : List Str}, as ≠ [] → Txt.join blank (as ++ bs) = Txt.join blank as ++ blank ++ Txt.join blank bs
  | [], h => absurd rfl h
  | [a], _ => by rw [List.singleton_append, join_cons hb, tjoin_one]
  | a :: a2 :: t, _ => by
    rw [List.cons_append, join_cons (by simp), join_app hb (as := a2 :: t) (by simp), join_cons (w := a) (ws := a2 :: t) (by simp)]
    simp only [str_assoc]
theorem txt_box (e : Ex) : txtE (.box e) = "box" ++ blank ++ txtE e := join_cons (words_ne e)
theorem txt_op (w : Op7) (a b : Ex) : txtE (.op w a b) = w.s ++ blank ++ txtE a ++ blank ++ txtE b := by
  unfold txtE
  show Txt.join blank (w.s :: (wordsE a ++ wordsE b)) = _
  rw [join_cons (by simp [words_ne]), join_app (words_ne b) (words_ne a)]
  simp only [str_assoc]
/-! lengths -/
theorem words_len : ∀ {e : Ex}, (wordsE e).length + 1 ≤ 2 ^ e.deep
  | .num _ | .nam _ | .lane | .lanes | .mine => by show 1 + 1 ≤ 2 ^ 1; decide
  | .box e => by
    have := words_len (e := e)
    show (wordsE e).length + 1 + 1 ≤ 2 ^ (e.deep + 1)
    rw [Nat.pow_succ]; omega
  | .op _ a b => by
    have h1 := words_len (e := a)
    have h2 := words_len (e := b)
    have h3 : 2 ^ a.deep ≤ 2 ^ max a.deep b.deep := Nat.pow_le_pow_right (by decide) (Nat.le_max_left ..)
    have h4 : 2 ^ b.deep ≤ 2 ^ max a.deep b.deep := Nat.pow_le_pow_right (by decide) (Nat.le_max_right ..)
    show (wordsE a ++ wordsE b).length + 1 + 1 ≤ 2 ^ (max a.deep b.deep + 1)
    rw [List.length_append, Nat.pow_succ]; omega
theorem word_len : ∀ {e : Ex}, okW e → ∀ w ∈ wordsE e, w.length ≤ 10
  | .num i, hi, w, h => by rw [List.mem_singleton.mp h]; exact (num_int i hi).2
  | .nam x, hx, w, h => by rw [List.mem_singleton.mp h]; have := hx.1.2.1; omega
  | .lane, _, w, h => by rw [List.mem_singleton.mp h]; decide +kernel
  | .lanes, _, w, h => by rw [List.mem_singleton.mp h]; decide +kernel
  | .mine, _, w, h => by rw [List.mem_singleton.mp h]; decide +kernel
  | .box e, hx, w, h => by
    rcases List.mem_cons.mp h with rfl | h
    · decide +kernel
    · exact word_len (e := e) hx w h
  | .op o a b, hx, w, h => by
    rcases List.mem_cons.mp h with rfl | h
    · cases o <;> decide +kernel
    · rcases List.mem_append.mp h with h | h
      · exact word_len hx.1 w h
      · exact word_len hx.2 w h
theorem sum_le_mul {k : Nat} : ∀ {ws : List Str}, (∀ w ∈ ws, w.length ≤ k) → (ws.map (·.length)).sum ≤ k * ws.length
  | [], _ => Nat.zero_le _
  | w :: t, h => by
    have h1 := h w (List.mem_cons_self ..)
    have h2 := sum_le_mul fun x hx => h x (List.mem_cons_of_mem _ hx)
    rw [List.map_cons, List.sum_cons, List.length_cons, Nat.mul_succ]; omega
theorem join_len : ∀ ws : List Str, (Txt.join blank ws).length ≤ (ws.map (·.length)).sum + ws.length := fun ws => by
  rw [join_eq]
  have := StrLaws.join_length_le blank ws
  have h1 : blank.length = 1 := by decide +kernel
  rw [h1] at this
  omega
theorem txt_len {e : Ex} (h : okW e) : (txtE e).length ≤ 11 * 2 ^ e.deep := by
  have h1 := join_len (wordsE e)
  have h2 := sum_le_mul (word_len h)
  have h3 := words_len (e := e)
  unfold txtE
  omega
/-! signs -/
theorem starts_one {x : Str} {c : Nat} : Txt.startswith x ⟨#[c]⟩ = ((cds x).head? == some c) := by
  have h := StrLaws.subAt_one x c 0
  unfold Txt.startswith
  rw [Bool.eq_iff_iff, Bool.and_eq_true, decide_eq_true_eq, h, beq_iff_eq, List.head?_eq_getElem?]
  rfl
theorem cds_cut1 (x : Str) : cds (cutS x (some 1) none) = (cds x).drop 1 := by
  rw [C8.cutS_slice, ← SX.S_tl x, SX.slice_from (by decide)]
  rfl
theorem mem_letters {c : Nat} : c ∈ cds letters ↔ 97 ≤ c ∧ c ≤ 122 := by
  have e : cds letters = (List.range 26).map (97 + ·) := by decide +kernel
  rw [e, List.mem_map]
  constructor
  · rintro ⟨k, hk, rfl⟩
    have := List.mem_range.mp hk
    omega
  · intro h
    exact ⟨c - 97, List.mem_range.mpr (by omega), by omega⟩
def figures : Str := "0123456789"
theorem mem_figures {c : Nat} : c ∈ cds figures ↔ 48 ≤ c ∧ c ≤ 57 := by
  have e : cds figures = (List.range 10).map (48 + ·) := by decide +kernel
  rw [e, List.mem_map]
  constructor
  · rintro ⟨k, hk, rfl⟩
    have := List.mem_range.mp hk
    omega
  · intro h
    exact ⟨c - 48, List.mem_range.mpr (by omega), by omega⟩
/-- a text has signs, and these alone -/
def allIn (x z : Str) : Bool := !(cds x).isEmpty && (cds x).all fun c => decide (c ∈ cds z)
theorem allIn_letters (x : Str) : allIn x letters = (!(cds x).isEmpty && (cds x).all fun c => decide (97 ≤ c) && decide (c ≤ 122)) := by
  unfold allIn
  congr 2
  funext c
  rw [Bool.eq_iff_iff, decide_eq_true_eq, mem_letters, Bool.and_eq_true, decide_eq_true_eq, decide_eq_true_eq]
theorem allIn_figures (x : Str) : allIn x figures = (!(cds x).isEmpty && (cds x).all fun c => decide (48 ≤ c) && decide (c ≤ 57)) := by
  unfold allIn
  congr 2
  funext c
  rw [Bool.eq_iff_iff, decide_eq_true_eq, mem_figures, Bool.and_eq_true, decide_eq_true_eq, decide_eq_true_eq]
theorem empty_iff {x : Str} : x = "" ↔ cds x = [] := ⟨fun h => by rw [h]; decide +kernel, fun h => cds_inj (by rw [h]; decide +kernel)⟩
theorem name_iff {x : Str} : okName x ↔ x.length ≤ 8 ∧ x ∉ keptL ∧ allIn x letters = true := by
  unfold okName
  rw [allIn_letters, Bool.and_eq_true]
  have h0 : (!(cds x).isEmpty) = true ↔ 1 ≤ x.length := by
    rw [← cds_len]
    cases cds x <;> simp
  rw [h0]
  constructor
  · rintro ⟨⟨h1, h2, h3⟩, h4⟩; exact ⟨h2, h4, h1, h3⟩
  · rintro ⟨h2, h4, h1, h3⟩; exact ⟨⟨h1, h2, h3⟩, h4⟩
theorem zero_iff {x : Str} : x = "0" ↔ cds x = [48] := ⟨fun h => by rw [h]; decide +kernel, fun h => cds_inj (by rw [h]; decide +kernel)⟩
theorem any_ws {ss : List Str} {x : Str} : (ss.map D.str).any (fun d => eqD d (.str x)) = decide (x ∈ ss) := by
  rw [List.any_map, Bool.eq_iff_iff, List.any_eq_true, decide_eq_true_eq]
  exact ⟨fun ⟨y, hy, e⟩ => by rw [← eq_of_beq (show (y == x) = true from e)]; exact hy, fun h => ⟨x, h, beq_self_eq_true x⟩⟩
theorem all_ws : ∀ {ss : List Str}, (ss.map D.str).all flatD = true
  | [] => rfl
  | _ :: t => by rw [List.map_cons, List.all_cons, all_ws (ss := t)]; rfl
theorem len_s {M : MH} {x : Str} (h : x.length ≤ 100000) : lenOf M (.str x) = some x.length := by
  show (if x.length ≤ sizeLine then some x.length else none) = _
  rw [if_pos (by rw [sizeLine_eq]; omega)]
def isPlainE : Ex → Prop
  | .box _ => False
  | .op .. => False
  | _ => True
def opsL : List Str := ["+", "-", "*", "div", "rem", "<", "="]
theorem plain_word {e : Ex} {x : Str} (hp : isPlainE e) (hw : okW e) (hx : wordsE e = [x]) : x ≠ "box" ∧ x ∉ opsL := by
  cases e with
  | num i =>
    have hx : numT i = x := by simpa [wordsE] using hx
    subst hx
    refine ⟨num_not (c := 98) (by decide +kernel) (by decide), fun z => ?_⟩
    simp only [opsL, List.mem_cons, List.not_mem_nil, or_false] at z
    rcases z with z | z | z | z | z | z | z
    · exact num_not (c := 43) (by decide +kernel) (by decide) z
    · exact num_notMinus i z
    · exact num_not (c := 42) (by decide +kernel) (by decide) z
    · exact num_not (c := 100) (by decide +kernel) (by decide) z
    · exact num_not (c := 114) (by decide +kernel) (by decide) z
    · exact num_not (c := 60) (by decide +kernel) (by decide) z
    · exact num_not (c := 61) (by decide +kernel) (by decide) z
  | nam y =>
    have hx : y = x := by simpa [wordsE] using hx
    subst hx
    have hw : okName y := hw
    have key : ∀ (z : Str) (c : Nat), (cds z).head? = some c → ¬ (97 ≤ c ∧ c ≤ 122) → y ≠ z := fun z c hz hc e => by
      subst e
      have := List.all_eq_true.mp hw.1.2.2 c (List.mem_of_mem_head? hz)
      simp only [Bool.and_eq_true, decide_eq_true_eq] at this
      exact hc this
    refine ⟨fun z => hw.2 (by rw [z]; decide +kernel), fun z => ?_⟩
    simp only [opsL, List.mem_cons, List.not_mem_nil, or_false] at z
    rcases z with z | z | z | z | z | z | z
    · exact key _ 43 (by decide +kernel) (by decide) z
    · exact key _ 45 (by decide +kernel) (by decide) z
    · exact key _ 42 (by decide +kernel) (by decide) z
    · exact hw.2 (by rw [z]; decide +kernel)
    · exact hw.2 (by rw [z]; decide +kernel)
    · exact key _ 60 (by decide +kernel) (by decide) z
    · exact key _ 61 (by decide +kernel) (by decide) z
  | lane => have hx : ("lane" : Str) = x := by simpa [wordsE] using hx
            subst hx; decide +kernel
  | lanes => have hx : ("lanes" : Str) = x := by simpa [wordsE] using hx
             subst hx; decide +kernel
  | mine => have hx : ("mine" : Str) = x := by simpa [wordsE] using hx
            subst hx; decide +kernel
  | box _ => exact hp.elim
  | op _ _ _ => exact hp.elim
end Tl
namespace Tl
open PySem PySem.Spec PyProof.Rows L2
/-! ### defs that may raise -/
section
variable {P : Program} {w : World} {K : PySem.W.Frag} {mg : Str → Option Value} {base : Heap} {f : Addr} {N ps : List Str} {k : Nat} {sp : SpT} {x : Str}
theorem fn_okX (F : He.DefD) (fd : FuncData) (hF : FunD K F.name F.qual F.params F.body F.scope [] [] f fd) (S : FnScope N ps F.scope) (len : ∀ ds M Q Et, sp ds M Q Et → ds.length = ps.length)
    (hb : ∀ (cdv : Value) (A : Around) (outer : List Env) (s : Shared) (H : Hp) (E : XK) (Et : XT), Room k (A.deeper (envOfC F.qual F.scope s.heap.objs.size f cdv)) →
      ∃ t, QSs (cxOf (L2.CX P w) P w K mg base N F.qual F.scope f cdv A outer s H E) E Et F.body t ∧ ∀ ds M Q, sp ds M Q Et → t { nx := fun _ M' => Q .non M', rt := Q } (begin_ N ds) M) : FnOk P w K mg base (L2.CX P w) (k + 1) f fd ps (lSp K sp) := by
  refine hF.ok S (fun vs H Q E h => ?_) fun cdv A outer s H vs Q E hr h => ?_
  · obtain ⟨G, F, M, ds, Qt, Et, R, r, _, h, _⟩ := h
    rw [r.length]
    exact len _ _ _ _ h
  · obtain ⟨G, F, M, ds, Qt, Et, R, r, el, h, kk⟩ := h
    obtain ⟨t, ht, hw⟩ := hb cdv A outer s H E Et hr
    refine ⟨_, ht, G, F, M, begin_ N ds, { nx := fun _ M' => Qt .non M', rt := Qt }, ⟨R, sg_start r, el⟩, ?_, hw ds M Qt h⟩
    exact ⟨fun F' H' M' σ τ s a q => kk .non F' H' M' .non s a.rel .non q, fun F' H' M' v d s R' p q => kk v F' H' M' d s R' p q, fun _ _ _ _ _ _ _ q => q.elim, fun _ _ _ _ _ _ _ q => q.elim⟩
variable {fa : List He.Fa} {fn : List He.DefD}
theorem fn_topX (T : Top fa fn K mg) (i : Nat) (d : He.DefD) (m : mg x = some (.ref (He.ga K x))) (S : FnScope N ps d.scope) (len : ∀ ds M Q Et, sp ds M Q Et → ds.length = ps.length)
    (hb : ∀ (cdv : Value) (A : Around) (outer : List Env) (s : Shared) (H : Hp) (E : XK) (Et : XT), Room k (A.deeper (envOfC d.qual d.scope s.heap.objs.size (He.ga K x) cdv)) →
      ∃ t, QSs (cxOf (L2.CX P w) P w K mg base N d.qual d.scope (He.ga K x) cdv A outer s H E) E Et d.body t ∧ ∀ ds M Q, sp ds M Q Et → t { nx := fun _ M' => Q .non M', rt := Q } (begin_ N ds) M)
    (bd : ∀ (kV doc pm : Value) (an : Option Addr) (cdv ct : Value) (us : List Value), us.length = ps.length → bindArgs (PySem.W.fnOf d.name d.qual d.params d.body d.scope .none kV doc pm an cdv ct) ⟨us, []⟩ = pure (ps.zip us))
    (h : fn[i]? = some d := by rfl) (h0 : d.dfl = [] := by rfl) (h1 : d.kwd = [] := by rfl) (hx : He.fAd K d.at_ = He.ga K x := by rfl) : Fn P w K mg base (L2.CX P w) (k + 1) x sp := by
  obtain ⟨fd, F⟩ := T.says.def_ i h
  have e0 : d.dvs K = [] := by unfold He.DefD.dvs; rw [h0]; rfl
  have e1 : d.kws K = [] := by unfold He.DefD.kws; rw [h1]; rfl
  rw [e0, e1, hx] at F
  exact ⟨⟨fd, ps, fn_okX d fd F S len hb, F.bindsN bd⟩, m, F.kp⟩
end
/-- what the head tells of an own class of errors -/
structure Ec (K : PySem.W.Frag) (mg : Str → Option Value) (x : Str) : Prop where
  m : mg x = some (.ref (He.ga K x))
  ex : PySem.W.excIn K (He.ga K x) He.veBase "ValueError.__new__" = true
  kp : PySem.W.keepIn K (.ref (He.ga K x)) = true
  sb : PySem.W.subIn K (.ref (He.ga K x)) (.type "BaseException") = some true
  tp : PySem.W.typeIn K (.ref (He.ga K x)) = some (.type "type")
theorem Top.ec {fa : List He.Fa} {fn : List He.DefD} {K : PySem.W.Frag} {mg : Str → Option Value} (T : Top fa fn K mg) (i j : Nat) {x : Str} (h : fa[i]? = some (.glo x) := by rfl) (h2 : fa[j]? = some (.exc x) := by rfl) : Ec K mg x := by
  obtain ⟨a, b, c, d⟩ := He.exc_ok (T.says.fact j h2)
  exact ⟨T.glo i h, a, b, c, d⟩
section
variable {X : Cx} {E : XK} {Et : XT} {e : Expr} {es : List Expr} {t : TAt} {pos p : Pos} {sp : SpT} {k : Nat} {x : Str}
theorem qs_raise {m : Str} {j : Nat} {p2 pos2 : Pos} (hc : X.calm = true) (tk : Takes X (fun cls d _ H => E cls d H)) (C : Ec X.K X.mg x) (hg : Gl X x := by rfl) (hdb : (x == ("__debug__" : Str)) = false := by decide) :
    QS X E Et (.Raise (some (.Call (.Name x p) [.Constant (.str m) j p2] [] pos)) none pos2) (fun _ _ M => Et (.ref (He.ga X.K x)) M) :=
  PSimp (ps_raise hc tk (pmk_own PySem.F.excBase_ValueError C.ex C.m C.kp (raises_own C.sb C.tp) hg hdb)) (by
    rintro D σ H ⟨G, F, M, τ, Dt, a, l, h⟩
    exact a.el _ _ _ _ (Same.refl _) a.rel h)
/-- a call of a def that may raise, in a def that lets it out -/
theorem q_callX (Fo : Fn X.prog X.w X.K X.mg X.base (L2.CX X.prog X.w) k x sp) (tk : Takes X (fun cls d _ H => E cls d H)) (hr : Room k X.A) (ha : QA X E Et (e :: es) t) (hg : Gl X x := by rfl) (hdb : (x == ("__debug__" : Str)) = false := by decide)
    (he : starEach (e :: es) X.env = (false, eval e X.env) :: starEach es X.env := by rfl) (hpl : (backTo pos (starEach es X.env)).any (·.1) = false := by rfl) : QE X E Et (.Call (.Name x p) (e :: es) [] pos) (tCl sp Et t) := by
  obtain ⟨⟨fd, ps, F1, b⟩, m, kp⟩ := Fo
  exact PEimp (pe_call F1 hr hg m kp b .nil (passes_call tk fun _ _ _ _ h => h) ha hdb he hpl) (lv_call fun _ _ h => h)
/-- .. that raises nothing here -/
theorem q_callL (Fo : Fn X.prog X.w X.K X.mg X.base (L2.CX X.prog X.w) k x sp) (hr : Room k X.A) (ha : QA X E Et (e :: es) t) (hg : Gl X x := by rfl) (hdb : (x == ("__debug__" : Str)) = false := by decide)
    (he : starEach (e :: es) X.env = (false, eval e X.env) :: starEach es X.env := by rfl) (hpl : (backTo pos (starEach es X.env)).any (·.1) = false := by rfl) : QE X E Et (.Call (.Name x p) (e :: es) [] pos) (tCl sp Et0 t) := by
  obtain ⟨⟨fd, ps, F1, b⟩, m, kp⟩ := Fo
  exact PEimp (pe_call F1 hr hg m kp b .nil passL ha hdb he hpl) (lv_call fun _ _ _ => .never)
end
/-! ### try: a call; except C as e: a suite -/
/-- what the clause wishes of an error of the call -/
def Etry (K : PySem.W.Frag) (c : Value) (i : Nat) (ts : Addr → Addr → TSt) (D : En) (τ : Sg) : XT := fun cls M => ∃ De, cls = .ref De ∧ PySem.W.exmOne K cls c = some true ∧
  ∀ a, M a = none → ts a De { nx := fun τ' M' => D.nx (τ'.set i none) M', rt := D.rt, bk := fun τ' M' => D.bk (τ'.set i none) M', ct := fun τ' M' => D.ct (τ'.set i none) M' } (τ.set i (some (.ref a))) M
def sTry (K : PySem.W.Frag) (c : Value) (i : Nat) (sp : SpT) (t : TAt) (ts : Addr → Addr → TSt) : TSt := fun D τ M => t τ M fun ds M1 => sp ds M1 (fun _ M2 => D.nx τ M2) (Etry K c i ts D τ)
theorem qs_try {X : Cx} {E : XK} {Et : XT} {e : Expr} {es : List Expr} {t : TAt} {pos p pos1 pos2 pos' np : Pos} {sp : SpT} {k i : Nat} {x n cn : Str} {ts : Addr → Addr → TSt} {b₀ : Stmt} {suite : List Stmt}
    (Fo : Fn X.prog X.w X.K X.mg X.base (L2.CX X.prog X.w) k x sp) (hr : Room k X.A) (C : X.mg cn = some (.ref (He.ga X.K cn))) (hN : X.N.Nodup)
    (ha : ∀ pn xe, QA (X.tr pn xe) E0 Et0 (e :: es) t)
    (hsu : ∀ (a : Addr) (oe : Obj) (De : Addr) (pn : List (Addr × Obj)), Zc (.ref De) none oe → (∃ vs, oe.data = .fields vs) → QSs (X.suite a ((a, oe) :: pn)) E0 Et0 (b₀ :: suite) (ts a De))
    (hi : X.N[i]? = some n := by rfl) (hln : X.env.kindOf n = some .local := by rfl) (hs : X.stack = X.env :: X.outer := by rfl) (hf : X.env.frame = some X.env.locals := by rfl)
    (hcg : Gl X cn := by rfl) (hcd : (cn == ("__debug__" : Str)) = false := by decide) (hg : Gl X x := by rfl) (hdb : (x == ("__debug__" : Str)) = false := by decide)
    (he : starEach (e :: es) X.env = (false, eval e X.env) :: starEach es X.env := by rfl) (hpl : (backTo pos (starEach es X.env)).any (·.1) = false := by rfl) :
    QS X E Et (.Try [.Expr (.Call (.Name x p) (e :: es) [] pos) pos1] [.ExceptHandler (some (.Name cn np)) (some n) (b₀ :: suite) pos'] [] [] pos2) (sTry X.K (.ref (He.ga X.K cn)) i sp t ts) := by
  obtain ⟨⟨fd, ps, F1, b⟩, m, kp⟩ := Fo
  refine PSimp (ps_try_as (i := i) (tb := fun W => tDrop (tCallS (lSp X.K sp) (WE W) (liftA X.K E0 Et0 t))) (ts := fun a cls d D σ H => ∃ De, cls = .ref De ∧ d = none ∧ liftS X.K E0 Et0 (ts a De) D σ H) (Wout := fun _ _ _ _ => False)
    hs hf hN hi hln ⟨hcg, hcd, Or.inl C⟩ takes0 (fun W pn xe tk _ => pss_one (ps_expr (pe_callS F1 hr hg m kp b (fun σ => passAt tk σ) (ha pn xe) hdb he hpl))) (fun a oe cls d pn hz hf => ?_)) ?_
  · refine ⟨fun pins s σ H D I w => ?_⟩
    obtain ⟨De, rfl, rfl, w⟩ := w
    exact (hsu a oe De pn hz hf).run pins s σ H D I w
  · rintro D σ H ⟨G, F, M, τ, Dt, a0, L, h⟩
    refine ⟨G, F, M, τ, _, ⟨a0.rel, a0.sg, .never⟩, h, fun vs F1 H1 M1 ds s1 r1 p1 q1 => ?_⟩
    refine ⟨G, F1, M1, ds, _, _, r1, p1, ?_, q1, fun v F2 H2 M2 d s2 r2 p2 q2 => L.nx F2 H2 M2 σ τ (s1.trans s2) (a0.step (s1.trans s2) r2) q2⟩
    rintro cls F2 H2 M2 s2 r2 ⟨De, rfl, hx, hq⟩
    refine ⟨true, hx, fun _ a ha => ⟨De, rfl, rfl, G, F2, M2, _, _, ⟨r2, (a0.sg.mono (s1.trans s2)).set (.ref a), .never⟩, ?_, hq a (r2.free ha).2⟩, fun q => nomatch q⟩
    have el := a0.el.mono (s1.trans s2)
    exact ⟨fun F' H' M' σ' τ' s a q => L.nx F' H' M' _ _ ((s1.trans s2).trans s) ⟨a.rel, a.sg.unset, el.mono s⟩ q, fun F' H' M' v d s => L.rt F' H' M' v d ((s1.trans s2).trans s),
      fun F' H' M' σ' τ' s a q => L.bk F' H' M' _ _ ((s1.trans s2).trans s) ⟨a.rel, a.sg.unset, el.mono s⟩ q, fun F' H' M' σ' τ' s a q => L.ct F' H' M' _ _ ((s1.trans s2).trans s) ⟨a.rel, a.sg.unset, el.mono s⟩ q⟩
/-! ### isinstance(e, c) of the error that the suite holds -/
def clV : D → Option Value
  | .ty T => some (.type T)
  | .ref C => some (.ref C)
  | _ => none
def cIsE (K : PySem.W.Frag) (De a : Addr) : RLt := fun ds M Q => ∃ c cv b, ds = [.ref a, c] ∧ ExcC K De ∧ clV c = some cv ∧ PySem.W.kitOne K (.ref De) cv = some b ∧ Q (.bl b) M
theorem cq_isE {X : Cx} {a De : Addr} {oe : Obj} {pn : List (Addr × Obj)} (hz : Zc (.ref De) none oe) (hf : ∃ vs, oe.data = .fields vs) : CallQ (X.suite a ((a, oe) :: pn)) (.builtin "isinstance") (cIsE X.K De a) := by
  intro pins s σ H xs us Q I r h
  obtain ⟨G, F, M, ds, Qt, R, rs, ⟨c, cv, b, rfl, C, hc, hk, q⟩, k⟩ := h
  refine call_isE C hz hf pins s σ H xs us Q I r ?_
  cases rs with
  | cons r1 rs =>
    cases rs with
    | cons r2 rs =>
      cases rs
      cases r1
      cases c with
      | ty T => cases r2; cases hc; exact ⟨.ty T, _, b, rfl, fun u ru => ru, hk, k _ F H M _ (Same.refl _) R (.bl b) q⟩
      | ref A => cases r2; cases hc; exact ⟨.ref A, _, b, rfl, fun u ru => ru, hk, k _ F H M _ (Same.refl _) R (.bl b) q⟩
      | _ => cases hc
/-- what isinstance asks of the class, by sight -/
def isEB (K : PySem.W.Frag) (x : Str) : Bool :=
  decide (PySem.W.findIn K (.ref (He.ga K x)) "__getattribute__" = some (some (.builtin "BaseException.__getattribute__"))) && (decide (PySem.W.findIn K (.ref (He.ga K x)) "__getattr__" = some none) && (decide (PySem.W.subIn K (.ref (He.ga K x)) (.type "BaseException") = some true) &&
  (PySem.W.hasDictIn K (He.ga K x) && (decide (PySem.W.findIn K (.ref (He.ga K x)) "__class__" = some (some (.builtin "object.__class__"))) && (decide (PySem.W.specialIn K (.builtin "object.__class__") "__get__" = some (some (.builtin "getset_descriptor.__get__"))) &&
  (decide (PySem.W.takesIn K (.builtin "object.__class__") = some true) && decide (PySem.W.mroIn K (He.ga K x) (.type "object") = some true)))))))
theorem isEB_ok {K : PySem.W.Frag} {x : Str} (h : isEB K x = true) : ExcC K (He.ga K x) := by
  obtain ⟨h1, h⟩ := He.ba h
  obtain ⟨h2, h⟩ := He.ba h
  obtain ⟨h3, h⟩ := He.ba h
  obtain ⟨h4, h⟩ := He.ba h
  obtain ⟨h5, h⟩ := He.ba h
  obtain ⟨h6, h⟩ := He.ba h
  obtain ⟨h7, h8⟩ := He.ba h
  exact ⟨of_decide_eq_true h1, of_decide_eq_true h2, of_decide_eq_true h3, h4, of_decide_eq_true h5, of_decide_eq_true h6, of_decide_eq_true h7, of_decide_eq_true h8⟩
/-- what isinstance and except answer of x's errors: own classes, built-in ones -/
def kitB (K : PySem.W.Frag) (x : Str) (cs : List (Str × Bool)) : Bool := cs.all fun p => decide (PySem.W.kitOne K (.ref (He.ga K x)) (.ref (He.ga K p.1)) = some p.2)
def kitTB (K : PySem.W.Frag) (x : Str) (cs : List (String × Bool)) : Bool := cs.all fun p => decide (PySem.W.kitOne K (.ref (He.ga K x)) (.type p.1) = some p.2)
theorem kitB_ok {K : PySem.W.Frag} {x : Str} {cs : List (Str × Bool)} (h : kitB K x cs = true) {y : Str} {b : Bool} (hm : (y, b) ∈ cs) : PySem.W.kitOne K (.ref (He.ga K x)) (.ref (He.ga K y)) = some b := of_decide_eq_true (List.all_eq_true.mp h _ hm)
theorem kitTB_ok {K : PySem.W.Frag} {x : Str} {cs : List (String × Bool)} (h : kitTB K x cs = true) {y : String} {b : Bool} (hm : (y, b) ∈ cs) : PySem.W.kitOne K (.ref (He.ga K x)) (.type y) = some b := of_decide_eq_true (List.all_eq_true.mp h _ hm)
end Tl
namespace Tl
open PySem PySem.Spec PyProof.Rows L2
theorem uTry {K : PySem.W.Frag} {c : Value} {i : Nat} {sp : SpT} {t : TAt} {ts : Addr → Addr → TSt} {D : En} {τ : Sg} {M : MH} : sTry K c i sp t ts D τ M = t τ M fun ds M1 => sp ds M1 (fun _ M2 => D.nx τ M2) (Etry K c i ts D τ) := propext Iff.rfl
theorem uIsT {K : PySem.W.Frag} {De a : Addr} {T : String} {M : MH} {Q : VD} : cIsE K De a [.ref a, .ty T] M Q = (ExcC K De ∧ ∃ b, PySem.W.kitOne K (.ref De) (.type T) = some b ∧ Q (.bl b) M) := by
  refine propext ⟨?_, ?_⟩
  · rintro ⟨c, cv, b, e, h1, h2, h3, h4⟩
    cases e; cases h2
    exact ⟨h1, b, h3, h4⟩
  · rintro ⟨h1, b, h3, h4⟩
    exact ⟨_, _, b, rfl, h1, rfl, h3, h4⟩
theorem uIsR {K : PySem.W.Frag} {De a C : Addr} {M : MH} {Q : VD} : cIsE K De a [.ref a, .ref C] M Q = (ExcC K De ∧ ∃ b, PySem.W.kitOne K (.ref De) (.ref C) = some b ∧ Q (.bl b) M) := by
  refine propext ⟨?_, ?_⟩
  · rintro ⟨c, cv, b, e, h1, h2, h3, h4⟩
    cases e; cases h2
    exact ⟨h1, b, h3, h4⟩
  · rintro ⟨h1, b, h3, h4⟩
    exact ⟨_, _, b, rfl, h1, rfl, h3, h4⟩
end Tl
namespace Tl
open PySem PySem.Spec PyProof.Rows L2
/-! ### the number that a text writes -/
def valF (l : List Nat) : Int := ((NumText.digitsVal l : Nat) : Int)
def numOf (x : Str) : Option Int := if isNumF x = true then some (if (cds x).head? = some 45 then -(valF (figsF x)) else valF (figsF x)) else none
theorem isNum_iff {x : Str} : isNumF x = true ↔ ¬ ((cds x).head? = some 45 ∧ figsF x = [48]) ∧ (figsF x).length ≤ 9 ∧ figsF x ≠ [] ∧ (∀ c ∈ figsF x, 48 ≤ c ∧ c ≤ 57) ∧ (figsF x = [48] ∨ (figsF x).head? ≠ some 48) := by
  unfold isNumF
  simp only [Bool.and_eq_true, Bool.not_eq_true', Bool.or_eq_true, decide_eq_true_eq, List.all_eq_true, Bool.and_eq_false_iff, beq_iff_eq, List.isEmpty_eq_false_iff, beq_eq_false_iff_ne, ne_eq]
  constructor
  · rintro ⟨⟨⟨⟨h1, h2⟩, h3⟩, h4⟩, h5⟩
    exact ⟨fun h => h1.elim (fun q => q h.1) (fun q => q h.2), h2, h3, h4, h5⟩
  · rintro ⟨h1, h2, h3, h4, h5⟩
    refine ⟨⟨⟨⟨?_, h2⟩, h3⟩, h4⟩, h5⟩
    by_cases h : (cds x).head? = some 45
    · exact .inr fun z => h1 ⟨h, z⟩
    · exact .inl h
theorem numL_back {cs : List Nat} (h : ∀ c ∈ cs, 48 ≤ c ∧ c ≤ 57) (hn : cs ≠ []) (h0 : cs = [48] ∨ cs.head? ≠ some 48) : TL.numL (NumText.digitsVal cs) = cs := by
  cases cs with
  | nil => exact absurd rfl hn
  | cons c r =>
    have hc := h c (List.mem_cons_self ..)
    have e := NumText.toDigits_digitsVal r.length (c :: r) rfl h (by
      rcases h0 with h0 | h0
      · cases h0; exact .inl rfl
      · refine .inr ⟨c, r, rfl, ?_⟩
        have : c ≠ 48 := fun z => h0 (by rw [z]; rfl)
        omega)
    unfold TL.numL
    rw [e, List.map_map]
    have : ∀ l : List Nat, (∀ c ∈ l, 48 ≤ c ∧ c ≤ 57) → l.map (Char.toNat ∘ Char.ofNat) = l := fun l hl => by
      induction l with
      | nil => rfl
      | cons a t ih =>
        rw [List.map_cons, ih fun c hc => hl c (List.mem_cons_of_mem _ hc)]
        have ha := hl a (List.mem_cons_self ..)
        have : (Char.toNat ∘ Char.ofNat) a = a := by
          show (Char.ofNat a).toNat = a
          have hv : a.isValidChar := .inl (by omega)
          unfold Char.ofNat
          rw [dif_pos hv]
          rfl
        rw [this]
    exact this _ h
theorem snoc_ind {α : Type} {p : List α → Prop} (h0 : p []) (h1 : ∀ r c, p r → p (r ++ [c])) : ∀ l, p l := fun l => by
  have : ∀ r : List α, p r.reverse := fun r => by
    induction r with
    | nil => exact h0
    | cons a t ih => rw [List.reverse_cons]; exact h1 _ _ ih
  have := this l.reverse
  rwa [List.reverse_reverse] at this
theorem val_lt {cs : List Nat} (h : ∀ c ∈ cs, 48 ≤ c ∧ c ≤ 57) : NumText.digitsVal cs < 10 ^ cs.length := by
  revert h
  refine snoc_ind (p := fun cs => (∀ c ∈ cs, 48 ≤ c ∧ c ≤ 57) → NumText.digitsVal cs < 10 ^ cs.length) (fun _ => by decide) (fun r c ih h => ?_) cs
  rw [NumText.digitsVal_snoc, List.length_append, List.length_singleton, Nat.pow_succ]
  have h1 := ih fun d hd => h d (List.mem_append_left _ hd)
  have h2 := h c (List.mem_append_right _ (List.mem_singleton.mpr rfl))
  omega
/-- a text that writes a number is the number's text -/
theorem numOf_txt {x : Str} {i : Int} (h : numOf x = some i) : x = numT i ∧ -999999999 ≤ i ∧ i ≤ 999999999 := by
  unfold numOf at h
  split at h
  · rename_i hn
    obtain ⟨h1, h2, h3, h4, h5⟩ := isNum_iff.mp hn
    have hb := numL_back h4 h3 h5
    have hv := val_lt h4
    have hp : 10 ^ (figsF x).length ≤ 10 ^ 9 := Nat.pow_le_pow_right (by decide) h2
    have hp9 : (10 : Nat) ^ 9 = 1000000000 := by decide
    cases h
    unfold valF
    split
    · rename_i hm
      have hf : cds x = 45 :: figsF x := by
        unfold figsF
        rw [if_pos hm]
        cases hc : cds x with
        | nil => rw [hc] at hm; cases hm
        | cons a t => rw [hc] at hm; cases hm; rfl
      have hz : NumText.digitsVal (figsF x) ≠ 0 := fun z => by
        rw [z] at hb
        exact h1 ⟨hm, hb.symm.trans (by decide +kernel)⟩
      refine ⟨cds_inj ?_, by omega, by omega⟩
      obtain ⟨m, hm2⟩ : ∃ m, NumText.digitsVal (figsF x) = m + 1 := ⟨_, (Nat.succ_pred_eq_of_ne_zero hz).symm⟩
      rw [hm2, cds_neg, ← hm2, hb, hf]
    · rename_i hm
      have hf : cds x = figsF x := by unfold figsF; rw [if_neg hm]
      refine ⟨cds_inj ?_, by omega, by omega⟩
      rw [cds_pos, hb, hf]
  · cases h
theorem numOf_num {i : Int} (h : -999999999 ≤ i ∧ i ≤ 999999999) : numOf (numT i) = some i := by
  unfold numOf
  rw [if_pos (num_is h)]
  rcases num_cases i with ⟨n, rfl, e⟩ | ⟨n, rfl, e⟩
  · have hh : (cds (numT (n : Int))).head? ≠ some 45 := fun hc => by
      rw [e] at hc
      have := dig_mem (List.mem_of_mem_head? hc)
      omega
    unfold figsF valF
    rw [if_neg hh, if_neg hh, e, TL.numL_val]
  · have hh : (cds (numT (-((n + 1 : Nat) : Int)))).head? = some 45 := by rw [e]; rfl
    unfold figsF valF
    rw [if_pos hh, if_pos hh, e]
    show some (-((NumText.digitsVal (TL.numL (n + 1)) : Nat) : Int)) = _
    rw [TL.numL_val]
theorem numOf_int {x : Str} {i : Int} (h : numOf x = some i) : PySem.intText? x = some i ∧ x.length ≤ 10 := by
  obtain ⟨rfl, h1⟩ := numOf_txt h
  exact num_int i h1
theorem numOf_is {x : Str} : isNumF x = (numOf x).isSome := by
  unfold numOf
  cases isNumF x with
  | true => rfl
  | false => rfl
/-! ### x.find(sign) -/
def mFind : RSt := fun a y M Q => match y with
  | .str b => Q (.int (Txt.find a b)) M
  | _ => False
theorem umFind {a b : Str} {M : MH} {Q : VD} : mFind a (.str b) M Q = Q (.int (Txt.find a b)) M := propext Iff.rfl
/-- a sign that is in no text -/
def bInSN : R2t := fun x y M Q => match x, y with
  | .str a, .str z => ∃ c, a = ⟨#[c]⟩ ∧ Q (.bl (!decide (c ∈ z.cps.toList))) M
  | _, _ => False
theorem ubInSN {a b : Str} {M : MH} {Q : VD} : bInSN (.str a) (.str b) M Q = ∃ c, a = ⟨#[c]⟩ ∧ Q (.bl (!decide (c ∈ b.cps.toList))) M := propext Iff.rfl
theorem atI_ex {α : Type} {xs : List α} {i : Int} (h0 : 0 ≤ i) (h : i < xs.length) : ∃ c, atI xs i = some c ∧ c ∈ xs := by
  obtain ⟨j, rfl⟩ := Int.eq_ofNat_of_zero_le h0
  have hj : j < xs.length := by omega
  exact ⟨xs[j], atI_nat (by rw [List.getElem?_eq_getElem hj]), List.getElem_mem hj⟩
end Tl
namespace Tl
open PySem PySem.Spec PyProof.Rows L2
/-! ### the reader of words -/
/-- what an error may leave: more than there was -/
def Ext (M M' : MH) : Prop := ∀ a o, M a = some o → M' a = some o
theorem Ext.refl {M : MH} : Ext M M := fun _ _ h => h
theorem Ext.trans {M M1 M2 : MH} (h : Ext M M1) (k : Ext M1 M2) : Ext M M2 := fun a o e => k a o (h a o e)
theorem Ext.mup {M : MH} {p : Addr} {o : MO} (h : M p = none) : Ext M (mup M p o) := fun a u e => by
  rw [mup_ne (fun z => by rw [z, h] at e; cases e)]; exact e
def signOf (x : Str) : Option Ex := if x = "lane" then some .lane else if x = "lanes" then some .lanes else if x = "mine" then some .mine else none
def plainOf (x : Str) : Option Ex := match signOf x with
  | some e => some e
  | none => if okName x then some (.nam x) else (Tl.numOf x).map .num
def opOf (x : Str) : Option Op7 := [Op7.add, .sub, .mul, .div, .rem, .lt, .eq].find? fun o => decide (o.s = x)
theorem opOf_s (o : Op7) : opOf o.s = some o := by cases o <;> decide +kernel
theorem opOf_some {x : Str} {o : Op7} (h : opOf x = some o) : x = o.s := by
  unfold opOf at h
  have := List.find?_some h
  exact (of_decide_eq_true this).symm
theorem opOf_none {x : Str} : opOf x = none ↔ x ∉ opsL := by
  unfold opOf
  rw [List.find?_eq_none]
  constructor
  · intro h hm
    simp only [opsL, List.mem_cons, List.not_mem_nil, or_false] at hm
    rcases hm with rfl | rfl | rfl | rfl | rfl | rfl | rfl
    · exact absurd rfl (fun z => h .add (by decide) (decide_eq_true z))
    · exact absurd rfl (fun z => h .sub (by decide) (decide_eq_true z))
    · exact absurd rfl (fun z => h .mul (by decide) (decide_eq_true z))
    · exact absurd rfl (fun z => h .div (by decide) (decide_eq_true z))
    · exact absurd rfl (fun z => h .rem (by decide) (decide_eq_true z))
    · exact absurd rfl (fun z => h .lt (by decide) (decide_eq_true z))
    · exact absurd rfl (fun z => h .eq (by decide) (decide_eq_true z))
  · intro h o _ e
    exact h (by rw [← of_decide_eq_true e]; cases o <;> decide +kernel)
def exprAt : Nat → List Str → Option (Ex × List Str)
  | _, [] => none
  | 0, w :: ws => if w = "box" then none else match opOf w with
    | some _ => none
    | none => (plainOf w).map fun e => (e, ws)
  | r + 1, w :: ws => if w = "box" then (exprAt r ws).map fun p => (.box p.1, p.2) else match opOf w with
    | some o => (exprAt r ws).bind fun p => (exprAt r p.2).map fun q => (.op o p.1 q.1, q.2)
    | none => (plainOf w).map fun e => (e, ws)
theorem plain_some {x : Str} {e : Ex} (h : plainOf x = some e) : wordsE e = [x] ∧ isPlainE e ∧ okW e ∧ e.deep = 1 := by
  unfold plainOf at h
  cases hs : signOf x with
  | some e2 =>
    rw [hs] at h
    cases h
    unfold signOf at hs
    split at hs
    · rename_i hx; cases hs; rw [hx]; exact ⟨rfl, trivial, trivial, rfl⟩
    · split at hs
      · rename_i hx; cases hs; rw [hx]; exact ⟨rfl, trivial, trivial, rfl⟩
      · split at hs
        · rename_i hx; cases hs; rw [hx]; exact ⟨rfl, trivial, trivial, rfl⟩
        · cases hs
  | none =>
    rw [hs] at h
    dsimp only at h
    split at h
    · rename_i hn
      cases h
      exact ⟨rfl, trivial, hn, rfl⟩
    · cases hn : Tl.numOf x with
      | none => rw [hn] at h; cases h
      | some i =>
        rw [hn] at h
        cases h
        obtain ⟨h1, h2⟩ := numOf_txt hn
        exact ⟨by rw [h1]; rfl, trivial, h2, rfl⟩
theorem plain_back {e : Ex} {x : Str} (hx : wordsE e = [x]) (hp : isPlainE e) (hw : okW e) : plainOf x = some e := by
  have hsg : ∀ y ∈ (["lane", "lanes", "mine"] : List Str), y ∈ keptL := by decide +kernel
  have hno : ∀ y : Str, y ∉ (["lane", "lanes", "mine"] : List Str) → signOf y = none := fun y hy => by
    unfold signOf
    rw [if_neg (fun z => hy (by rw [z]; decide +kernel)), if_neg (fun z => hy (by rw [z]; decide +kernel)), if_neg (fun z => hy (by rw [z]; decide +kernel))]
  cases e with
  | num i =>
    have hx : numT i = x := by simpa [wordsE] using hx
    subst hx
    unfold plainOf
    rw [hno _ (fun z => by
      simp only [List.mem_cons, List.not_mem_nil, or_false] at z
      rcases z with z | z | z
      · exact num_not (c := 108) (by decide +kernel) (by decide) z
      · exact num_not (c := 108) (by decide +kernel) (by decide) z
      · exact num_not (c := 109) (by decide +kernel) (by decide) z)]
    dsimp only
    rw [if_neg (num_notName i), numOf_num hw]
    rfl
  | nam y =>
    have hx : y = x := by simpa [wordsE] using hx
    subst hx
    unfold plainOf
    rw [hno _ (fun z => hw.2 (hsg _ z))]
    dsimp only
    rw [if_pos (show okName y from hw)]
  | lane =>
    have hx : ("lane" : Str) = x := by simpa [wordsE] using hx
    subst hx
    rfl
  | lanes =>
    have hx : ("lanes" : Str) = x := by simpa [wordsE] using hx
    subst hx
    rfl
  | mine =>
    have hx : ("mine" : Str) = x := by simpa [wordsE] using hx
    subst hx
    rfl
  | box _ => exact hp.elim
  | op _ _ _ => exact hp.elim
theorem op_noBox (o : Op7) : o.s ≠ ("box" : Str) := by cases o <;> decide +kernel
theorem ex_shape (e : Ex) : (∃ x, wordsE e = [x] ∧ isPlainE e) ∨ (∃ e1, e = .box e1) ∨ ∃ o a b, e = .op o a b := by
  cases e with
  | box e1 => exact .inr (.inl ⟨e1, rfl⟩)
  | op o a b => exact .inr (.inr ⟨o, a, b, rfl⟩)
  | _ => exact .inl ⟨_, rfl, trivial⟩
theorem deep_pos (e : Ex) : 1 ≤ e.deep := by cases e <;> unfold Ex.deep <;> omega
/-- what is well said is read -/
theorem exprAt_words : ∀ (room : Nat) (e : Ex) (post : List Str), e.deep ≤ room + 1 → okW e → exprAt room (wordsE e ++ post) = some (e, post) := by
  intro room
  induction room with
  | zero =>
    intro e post hd hw
    rcases ex_shape e with ⟨x, hx, hp⟩ | ⟨e1, rfl⟩ | ⟨o, a, b, rfl⟩
    · obtain ⟨h1, h2⟩ := plain_word hp hw hx
      rw [hx]
      show exprAt 0 (x :: post) = _
      unfold exprAt
      rw [if_neg h1, opOf_none.mpr h2]
      dsimp only
      rw [plain_back hx hp hw]
      rfl
    · have := deep_pos e1; unfold Ex.deep at hd; omega
    · have := deep_pos a; unfold Ex.deep at hd; omega
  | succ r ih =>
    intro e post hd hw
    rcases ex_shape e with ⟨x, hx, hp⟩ | ⟨e1, rfl⟩ | ⟨o, a, b, rfl⟩
    · obtain ⟨h1, h2⟩ := plain_word hp hw hx
      rw [hx]
      show exprAt (r + 1) (x :: post) = _
      unfold exprAt
      rw [if_neg h1, opOf_none.mpr h2]
      dsimp only
      rw [plain_back hx hp hw]
      rfl
    · unfold Ex.deep at hd
      show exprAt (r + 1) ("box" :: (wordsE e1 ++ post)) = _
      unfold exprAt
      rw [if_pos rfl, ih e1 post (by omega) hw]
      rfl
    · unfold Ex.deep at hd
      show exprAt (r + 1) (o.s :: ((wordsE a ++ wordsE b) ++ post)) = _
      unfold exprAt
      rw [if_neg (op_noBox o), opOf_s]
      dsimp only
      rw [List.append_assoc, ih a _ (by omega) hw.1, Option.bind_some, ih b _ (by omega) hw.2]
      rfl
theorem exprAt_some : ∀ (room : Nat) (ws : List Str) (e : Ex) (rest : List Str), exprAt room ws = some (e, rest) → ws = wordsE e ++ rest ∧ e.deep ≤ room + 1 ∧ okW e := by
  intro room
  induction room with
  | zero =>
    intro ws e rest h
    cases ws with
    | nil => unfold exprAt at h; cases h
    | cons w ws =>
      unfold exprAt at h
      split at h
      · cases h
      · split at h
        · cases h
        · cases hp : plainOf w with
          | none => rw [hp] at h; cases h
          | some e2 =>
            rw [hp] at h
            cases h
            obtain ⟨h1, h2, h3, h4⟩ := plain_some hp
            exact ⟨by rw [h1]; rfl, by omega, h3⟩
  | succ r ih =>
    intro ws e rest h
    cases ws with
    | nil => unfold exprAt at h; cases h
    | cons w ws =>
      unfold exprAt at h
      split at h
      · rename_i hw
        cases h1 : exprAt r ws with
        | none => rw [h1] at h; cases h
        | some p =>
          rw [h1] at h
          obtain ⟨a, pr⟩ := p
          cases h
          obtain ⟨k1, k2, k3⟩ := ih _ _ _ h1
          exact ⟨by rw [hw, k1]; rfl, by unfold Ex.deep; dsimp only; omega, k3⟩
      · split at h
        · rename_i o ho
          cases h1 : exprAt r ws with
          | none => rw [h1] at h; cases h
          | some p =>
            rw [h1, Option.bind_some] at h
            obtain ⟨a, pr⟩ := p
            dsimp only at h
            cases h2 : exprAt r pr with
            | none => rw [h2] at h; cases h
            | some q =>
              rw [h2] at h
              obtain ⟨b, qr⟩ := q
              cases h
              obtain ⟨k1, k2, k3⟩ := ih _ _ _ h1
              obtain ⟨l1, l2, l3⟩ := ih _ _ _ h2
              exact ⟨by rw [opOf_some ho, k1, l1]; simp [wordsE], by unfold Ex.deep; dsimp only; omega, k3, l3⟩
        · cases hp : plainOf w with
          | none => rw [hp] at h; cases h
          | some e2 =>
            rw [hp] at h
            cases h
            obtain ⟨h1, h2, h3, h4⟩ := plain_some hp
            exact ⟨by rw [h1]; rfl, by omega, h3⟩
theorem exprAt_len {room : Nat} {ws : List Str} {e : Ex} {rest : List Str} (h : exprAt room ws = some (e, rest)) : rest.length < ws.length := by
  obtain ⟨h1, _, _⟩ := exprAt_some _ _ _ _ h
  have := words_ne e
  rw [h1, List.length_append]
  cases hc : wordsE e with
  | nil => exact absurd hc this
  | cons => simp
/-- all expressions of a list of words -/
def exprsF : Nat → List Str → Option (List Ex)
  | _, [] => some []
  | 0, _ :: _ => none
  | n + 1, w :: ws => (exprAt 6 (w :: ws)).bind fun p => (exprsF n p.2).map (p.1 :: ·)
def exprsOf (ws : List Str) : Option (List Ex) := exprsF ws.length ws
def okX7 (e : Ex) : Prop := e.deep ≤ 7 ∧ okW e
theorem exprsF_iff : ∀ (n : Nat) (ws : List Str) (es : List Ex), ws.length ≤ n → (exprsF n ws = some es ↔ ws = es.flatMap wordsE ∧ ∀ e ∈ es, okX7 e) := by
  intro n
  induction n with
  | zero =>
    intro ws es hn
    have : ws = [] := List.length_eq_zero_iff.mp (by omega)
    subst this
    unfold exprsF
    constructor
    · intro h; cases h; simp
    · rintro ⟨h, _⟩
      cases es with
      | nil => rfl
      | cons e es =>
        have := words_ne e
        rw [List.flatMap_cons] at h
        exact absurd (List.append_eq_nil_iff.mp h.symm).1 this
  | succ n ih =>
    intro ws es hn
    cases ws with
    | nil =>
      unfold exprsF
      constructor
      · intro h; cases h; simp
      · rintro ⟨h, _⟩
        cases es with
        | nil => rfl
        | cons e es =>
          have := words_ne e
          rw [List.flatMap_cons] at h
          exact absurd (List.append_eq_nil_iff.mp h.symm).1 this
    | cons w ws =>
      unfold exprsF
      constructor
      · intro h
        cases h1 : exprAt 6 (w :: ws) with
        | none => rw [h1] at h; cases h
        | some p =>
          rw [h1, Option.bind_some] at h
          obtain ⟨e, r⟩ := p
          dsimp only at h
          cases h2 : exprsF n r with
          | none => rw [h2] at h; cases h
          | some es2 =>
            rw [h2] at h
            cases h
            obtain ⟨k1, k2, k3⟩ := exprAt_some _ _ _ _ h1
            have kl := exprAt_len h1
            simp only [List.length_cons] at kl hn
            obtain ⟨l1, l2⟩ := (ih r es2 (by omega)).mp h2
            refine ⟨by rw [k1, l1]; simp, fun x hx => ?_⟩
            rcases List.mem_cons.mp hx with rfl | hx
            · exact ⟨k2, k3⟩
            · exact l2 x hx
      · rintro ⟨h1, h2⟩
        cases es with
        | nil => cases h1
        | cons e es =>
          rw [List.flatMap_cons] at h1
          obtain ⟨d1, d2⟩ := h2 e (List.mem_cons_self ..)
          rw [h1, exprAt_words 6 e _ (by omega) d2, Option.bind_some]
          dsimp only
          have hl := congrArg List.length h1
          rw [List.length_append, List.length_cons] at hl
          have : 1 ≤ (wordsE e).length := by
            cases hc : wordsE e with
            | nil => exact absurd hc (words_ne e)
            | cons => simp
          simp only [List.length_cons] at hn
          rw [(ih _ es (by omega)).mpr ⟨rfl, fun x hx => h2 x (List.mem_cons_of_mem _ hx)⟩]
          rfl
theorem exprsOf_iff {ws : List Str} {es : List Ex} : exprsOf ws = some es ↔ ws = es.flatMap wordsE ∧ ∀ e ∈ es, okX7 e := exprsF_iff _ _ _ (Nat.le_refl _)
theorem exprsOf_nil : exprsOf [] = some [] := rfl
theorem exprsOf_cons {w : Str} {ws : List Str} : exprsOf (w :: ws) = (exprAt 6 (w :: ws)).bind fun p => (exprsOf p.2).map (p.1 :: ·) := by
  cases h1 : exprAt 6 (w :: ws) with
  | none => unfold exprsOf; rw [List.length_cons, exprsF, h1]; rfl
  | some p =>
    obtain ⟨e, r⟩ := p
    unfold exprsOf
    rw [List.length_cons, exprsF, h1, Option.bind_some, Option.bind_some]
    dsimp only
    have hl := exprAt_len h1
    rw [List.length_cons] at hl
    congr 1
    cases h2 : exprsF r.length r with
    | some es => exact (exprsF_iff _ _ _ (by omega)).mpr ((exprsF_iff _ _ _ (Nat.le_refl _)).mp h2)
    | none =>
      cases h3 : exprsF ws.length r with
      | none => rfl
      | some es =>
        have := (exprsF_iff _ _ _ (Nat.le_refl _)).mpr ((exprsF_iff _ _ _ (by omega)).mp h3)
        rw [h2] at this
        cases this
end Tl
namespace Tl
open PySem PySem.Spec PyProof.Rows L2
/-! ### a text and its pieces -/
theorem cut_ex (s : Nat) : ∀ l : List Nat, ∃ ps : List (List Nat), ps ≠ [] ∧ (∀ p ∈ ps, s ∉ p) ∧ l = TL.joinL [s] ps ∧ (ps.map List.length).sum + ps.length = l.length + 1
  | [] => ⟨[[]], by simp, by simp, rfl, rfl⟩
  | c :: t => by
    obtain ⟨ps, h1, h2, h3, h4⟩ := cut_ex s t
    cases ps with
    | nil => exact absurd rfl h1
    | cons p r =>
      by_cases hc : c = s
      · refine ⟨[] :: p :: r, by simp, fun q hq => ?_, ?_, ?_⟩
        · rcases List.mem_cons.mp hq with rfl | hq
          · simp
          · exact h2 q hq
        · show c :: t = [] ++ ([s] ++ TL.joinL [s] (p :: r))
          rw [← h3, hc]; rfl
        · simp only [List.map_cons, List.sum_cons, List.length_cons, List.length_nil] at h4 ⊢
          omega
      · refine ⟨(c :: p) :: r, by simp, fun q hq => ?_, ?_, ?_⟩
        · rcases List.mem_cons.mp hq with rfl | hq
          · intro z
            rcases List.mem_cons.mp z with z | z
            · exact hc z.symm
            · exact h2 p (List.mem_cons_self ..) z
          · exact h2 q (List.mem_cons_of_mem _ hq)
        · cases r with
          | nil => rw [h3]; rfl
          | cons q r => rw [h3]; rfl
        · simp only [List.map_cons, List.sum_cons, List.length_cons] at h4 ⊢
          omega
def sgn (s : Nat) : Str := ⟨#[s]⟩
theorem split_ex (s : Nat) (hs : s < 256) (x : Str) : x = Txt.join (sgn s) (Txt.split x (sgn s)) ∧ Txt.split x (sgn s) ≠ [] ∧ (∀ p ∈ Txt.split x (sgn s), s ∉ cds p) ∧ ((Txt.split x (sgn s)).map (·.length)).sum + (Txt.split x (sgn s)).length = x.length + 1 := by
  obtain ⟨ps, h1, h2, h3, h4⟩ := cut_ex s (cds x)
  have hx : x = Txt.join (sgn s) (ps.map fun p => ⟨p.toArray⟩) := by
    refine cds_inj ?_
    rw [TL.join_eq]
    show _ = TL.tl _
    rw [TL.tl_join, List.map_map]
    have : (TL.tl ∘ fun p : List Nat => (⟨p.toArray⟩ : Str)) = id := by funext p; simp [TL.tl]
    rw [this, List.map_id]
    exact h3
  have hsp : Txt.split x (sgn s) = ps.map fun p => ⟨p.toArray⟩ := by
    conv => lhs; rw [hx]
    refine TL.split_join (y := sgn s) (s := s) (S := []) rfl (by simp [sgn, hs]) (fun e => h1 (List.map_eq_nil_iff.mp e)) fun p hp => ?_
    obtain ⟨q, hq, rfl⟩ := List.mem_map.mp hp
    have := h2 q hq
    simpa [TL.tl] using this
  rw [hsp]
  refine ⟨hx, fun e => h1 (List.map_eq_nil_iff.mp e), fun p hp => ?_, ?_⟩
  · obtain ⟨q, hq, rfl⟩ := List.mem_map.mp hp
    have := h2 q hq
    simpa [cds] using this
  · rw [List.map_map, List.length_map, ← cds_len (x := x), ← h4]
    congr 2
theorem sum_ge {l : List Nat} {n : Nat} (h : n ∈ l) : n ≤ l.sum := by
  induction l with
  | nil => cases h
  | cons a t ih =>
    rw [List.sum_cons]
    rcases List.mem_cons.mp h with rfl | h
    · omega
    · have := ih h; omega
theorem split_len (x : Str) : (Txt.split x blank).length ≤ x.length + 1 ∧ ∀ w ∈ Txt.split x blank, w.length ≤ x.length := by
  obtain ⟨_, h2, _, h4⟩ := split_ex 32 (by decide) x
  have e : sgn 32 = blank := by decide +kernel
  rw [e] at h2 h4
  refine ⟨by omega, fun w hw => ?_⟩
  have := sum_ge (List.mem_map.mpr ⟨w, hw, rfl⟩ : w.length ∈ (Txt.split x blank).map (·.length))
  have h5 : 1 ≤ (Txt.split x blank).length := List.length_pos_iff.mpr h2
  omega
end Tl
namespace Tl
open PySem PySem.Spec PyProof.Rows L2
/-! ### a, b = a list -/
def gLs (n : Nat) (t : TGst) : TGt := fun d τ M Q => match lstOf M d with
  | some ds => ds.length = n ∧ t ds τ M Q
  | none => False
theorem qg_lst {X : Cx} {E : XK} {Et : XT} {pos : Pos} {es : List Expr} {k : Nat} {t : TGst} {n : Nat} (hc : X.calm = true) (h : QGs X E Et es t)
    (hn : (assignEach es X.env).length = n := by rfl) (hst : (assignEach es X.env).findIdx? (·.1) = none := by rfl) : QG X E Et (.Tuple es k pos) (gLs n t) := by
  refine ⟨fun pins s σ H v u Q I r hw => ?_⟩
  obtain ⟨G, F, M, τ, d, Qt, a, p, hw, kk⟩ := hw
  unfold gLs at hw
  cases e : lstOf M d with
  | none => rw [e] at hw; exact hw.elim
  | some ds =>
    rw [e] at hw
    obtain ⟨b, vs, rfl, hs, rs⟩ := lst_of a.rel p e
    exact (pg_lst hc h hn hst).run pins s σ H _ u Q I r ⟨b, vs, rfl, hs, by rw [rs.length]; exact hw.1, G, F, M, τ, _, Qt, a, rs, hw.2, kk⟩
theorem ugLs {n : Nat} {t : TGst} {d : D} {τ : Sg} {M : MH} {Q : Sg → MH → Prop} : gLs n t d τ M Q = oSome (lstOf M d) fun ds => ds.length = n ∧ t ds τ M Q := by
  unfold gLs oSome
  cases lstOf M d <;> rfl
/-! ### enumerate(a list, start=k) -/
def EnTurn (k : Int) (a e it : Addr) : Nat → Heap → Prop := fun i h => (∃ old, IsEnum h e it (k + (i : Nat)) old) ∧ h.IsListIter it a i ∧ e ≠ it ∧ a ≠ it ∧ a ≠ e
def IteS (K : PySem.W.Frag) (k : Int) (a : Addr) : It where
  go := fun i H => ∃ (xs : List V) (x : V), SqL K H a xs ∧ xs[i]? = some x
  yld := fun i H v H' => ∃ T x, v = .ref T ∧ H T = none ∧ H' = upd H T (.tup [.int (k + (i : Nat)), x]) ∧ ∀ xs, SqL K H a xs → xs[i]? = some x
  stop := fun i H => ∃ xs : List V, SqL K H a xs ∧ xs.length ≤ i
/-- where the items end, whatever the count -/
theorem draws_end {prog : Program} {w : World} {A : Around} (hh : A.handled = none) (it l : Addr) {items : Array Value} {i : Nat} (hx : items[i]? = none) :
    Draws prog w A it [it, l] i (fun _ _ => False) (fun j h => j = i ∧ h.IsListIter it l i ∧ h.IsList l items) where
  live := fun _ _ ⟨_, ⟨o, ho, _⟩, _⟩ => ⟨o, ho⟩
  frame := fun _ _ _ ⟨e, h1, h2⟩ hk => ⟨e, h1.at fun o q => hk it (by simp) o q, h2.at fun o q => hk l (by simp) o q⟩
  item := fun j s Q E hj ⟨e, _⟩ _ => absurd hj (by omega)
  done := fun s Q E ⟨_, h1, h2⟩ hE => wpAny_nextOf_list_end hh h1 h2 hx hE
theorem turn_enumS {P : Program} {w : World} {K : PySem.W.Frag} {elts : List Expr} {kk : Nat} {tpos : Pos} (k : Int) (a e it : Addr) :
    Turn P w K (.Tuple elts kk tpos) (IteS K k a) [e, it] e (EnTurn k a e it) where
  mem := by simp
  obj := fun i h ⟨⟨old, he⟩, ⟨o, ho, hc, hd⟩, _⟩ b hb => by
    rcases List.mem_cons.mp hb with rfl | hb
    · exact ⟨_, he, fun v q => nomatch q⟩
    · rw [List.mem_singleton.mp hb]; exact ⟨o, ho, fun v q => by rw [hd] at q; cases q⟩
  keep := fun i h h' ⟨⟨old, he⟩, hi, hne⟩ kp => ⟨⟨old, kp e (by simp) _ he⟩, hi.at fun o q => kp it (by simp) o q, hne⟩
  item := by
    intro X hP hw hK hc i pins s σ H E I hf st hg
    subst hP hw hK
    obtain ⟨⟨old, he⟩, hit, hne, hai, hae⟩ := st
    obtain ⟨xs, x, hq, hx⟩ := hg
    obtain ⟨its, rv, pl, hz⟩ := I.list hq
    obtain ⟨u, hu, ru⟩ := rv.get hx
    have hel : e < s.heap.objs.size := Heap.lt_size he
    have hil : it < s.heap.objs.size := by obtain ⟨_, q, _⟩ := hit; exact Heap.lt_size q
    have hsz : i < its.toArray.size := by
      have := (List.getElem?_eq_some_iff.mp hu).1
      simpa using this
    have hh : X.A.in1.handled = none := I.ok.hd hc
    refine wpAny_pyNext_enum_itemC (Draws.list hh it a hai its.toArray) he ⟨hit, pl.isList⟩ hsz hne (by simp only [List.mem_cons, List.not_mem_nil, or_false, not_or]; exact ⟨hne, Ne.symm hae⟩) fun y h' tk hy ho hit' hT hsz' hk => ?_
    have eu : y = u := by
      have h1 : its[i]? = some y := by simpa using hy
      exact Option.some.inj (h1.symm.trans hu)
    subst eu
    refine ⟨_, rfl, wpAny_letOwnedTupleGo_enum (s := { s with heap := h', toks := tk + 1 }) ho fun h'' he' sb => ?_⟩
    have hT2 : h''.get? s.heap.objs.size = some { cls := .type "tuple", data := .seq #[.int (k + (i : Nat)) tk, y] } := (sb.2 _ (Nat.ne_of_gt hel)).trans hT
    have new : ObjOk X.prog X.w (upd H s.heap.objs.size (.tup [.int (k + (i : Nat)), x])) h'' s.heap.objs.size (.tup [.int (k + (i : Nat)), x]) :=
      ⟨by show 2 ≤ sizeLine; decide, [.int (k + (i : Nat)) tk, y], .cons ⟨_, rfl⟩ (.cons ru .nil), ⟨_, hT2, rfl, _, rfl⟩⟩
    have I1 : Inv X pins σ (upd H s.heap.objs.size (.tup [.int (k + (i : Nat)), x])) { s with heap := h'', toks := tk + 1 } :=
      I.turnedNew (ch := [e, it]) (fun b ob hb q => (sb.2 b (fun z => hb (by simp [z]))).trans (hk b ob (fun z => hb (by simp [z])) (fun z => hb (by simp [z])) q)) hf (Nat.le_refl _) new
    refine ⟨.ref s.heap.objs.size, _, I1, rfl, ⟨_, x, rfl, I.hok.fresh (Nat.le_refl _), rfl, fun ys hy => by rw [I.list_inj hy hq]; exact hx⟩, ⟨⟨y, ?_⟩, hit'.1.at fun o q => (sb.2 it (Ne.symm hne)).trans q, hne, hai, hae⟩, fun b hb => ?_⟩
    · have e1 : k + ((i + 1 : Nat) : Int) = k + (i : Int) + 1 := by omega
      rw [e1]
      exact he'
    · have hb' : b < s.heap.objs.size := by
        rcases List.mem_cons.mp hb with rfl | hb
        · exact hel
        · rw [List.mem_singleton.mp hb]; exact hil
      rw [upd_ne (Nat.ne_of_lt hb')]
      exact (hf b hb).1
  done := by
    intro X hP hw hK hc i pins s σ H E I hf st hg
    subst hP hw hK
    obtain ⟨⟨old, he⟩, hit, hne, hai, hae⟩ := st
    obtain ⟨xs, hq, hx⟩ := hg
    obtain ⟨its, rv, pl, hz⟩ := I.list hq
    obtain ⟨f0, f1, f2, f3, f4, f5⟩ := hf it (by simp)
    have hl := rv.length
    have hh : X.A.in1.handled = none := I.ok.hd hc
    exact wpAny_pyNext_enum_endD (draws_end hh it a (items := its.toArray) (i := i) (by simp; omega)) he ⟨rfl, hit, pl.isList⟩ fun h' eb => ⟨rfl, I.turned (t' := s.toks) (fun b o hb q => eb b o hb q) f0 f1 f3 f4 f5⟩
  self := fun A i s Q E st h => by
    obtain ⟨⟨_, he⟩, _⟩ := st
    exact wpAny_pyIter_enum he h
def iEnumS (K : PySem.W.Frag) (k : Int) (ta : TA) : TI := fun σ H R => ta σ H fun vs H1 => ∃ a xs, vs = [.ref a] ∧ SqL K H1 a xs ∧ R (IteS K k a) H1
theorem pi_enumS {X : Cx} {e : Expr} {k : Int} {j : Nat} {ta : TA} {p p2 p3 pos tpos : Pos} {elts : List Expr} {kk : Nat} (hg : Gl X "enumerate") (hm : X.mg "enumerate" = none) (ha : PA X [e] ta) (hk : -(2 ^ 63) ≤ k ∧ k < 2 ^ 63)
    (hs : starEach [e] X.env = [(false, eval e X.env)] := by rfl) :
    L2.PI X (.Tuple elts kk tpos) (.Call (.Name "enumerate" p) [e] [⟨some "start", .Constant (.int k) j p2, p3⟩] pos) (iEnumS X.K k ta) := by
  refine ⟨fun pins s σ H R I h => ?_⟩
  refine wpAny_Call_Name_kw (ld_blt I hg hm boot_enumerate ?_)
  refine PySem.W.callWith_of (P := fun _ => True) (by rw [hs]; rfl) (fun _ _ => ⟨.machine, .inr (.inl rfl), PySem.W.Looks.of_pure rfl⟩) (evalArgs_kw2 rfl ?_ hs)
  refine thn (ha.run pos pins s σ H _ I h) fun us s1 ⟨vs, H1, I1, r1, q1⟩ => ?_
  refine kwAll_cons (thn ((pe_int (X := X) (i := k) (j := j) (pos := p2)).run pins s1 σ H1 (fun v H2 => v = .int k ∧ H2 = H1) I1 ⟨rfl, rfl⟩) fun u s2 ⟨v, H2, I2, r2, ev, eH⟩ => kwAll_nil ⟨trivial, ?_⟩)
  subst ev eH
  obtain ⟨t, rfl⟩ := r2
  obtain ⟨a, xs, ex, hq, q⟩ := q1
  subst ex
  cases r1 with
  | cons r rr =>
    cases rr
    cases r
    obtain ⟨its, rv, pl, hz⟩ := I2.list hq
    refine enum_begins_start (begins_list a its.toArray) pl.isList hk.1 hk.2 fun h' he ho hsz kp => ?_
    refine wpAny_pyIter_enum he ?_
    have I3 : Inv X pins σ H2 { s2 with heap := h' } := I2.kept (t' := s2.toks) kp
    have hal : a < s2.heap.objs.size := by obtain ⟨o, ho, _⟩ := pl.isList; exact Heap.lt_size ho
    refine ⟨s2.heap.objs.size + 1, [s2.heap.objs.size + 1, s2.heap.objs.size], _, _, H2, rfl, I3, turn_enumS k a (s2.heap.objs.size + 1) s2.heap.objs.size, ⟨⟨.none, by rw [show k + ((0 : Nat) : Int) = k by omega]; exact he⟩, ⟨_, ho, rfl, rfl⟩, Nat.succ_ne_self _, Nat.ne_of_lt hal, Nat.ne_of_lt (Nat.lt_succ_of_lt hal)⟩, fun b hb => ?_, q⟩
    have hle : s2.heap.objs.size ≤ b := by
      rcases List.mem_cons.mp hb with rfl | hb
      · exact Nat.le_add_right _ _
      · rw [List.mem_singleton.mp hb]; exact Nat.le_refl _
    exact I2.fpOk hle (I2.hok.fresh hle)
def enumS (k : Int) (xs : List D) : List D := xs.mapIdx fun i d => .tup [.int (k + (i : Nat)), d]
def iEnS (k : Int) (ta : TAt) : TIt := fun τ M Q => ta τ M fun ds M1 => match ds with
  | [d] => (match lstOf M1 d with
    | some xs => Q ⟨enumS k xs, fun M => lstOf M d = some xs⟩ M1
    | none => False)
  | _ => False
theorem enumS_get {k : Int} {xs : List D} {i : Nat} {x : D} (h : (enumS k xs)[i]? = some x) : ∃ y, xs[i]? = some y ∧ x = .tup [.int (k + (i : Nat)), y] := by
  unfold enumS at h
  rw [List.getElem?_mapIdx] at h
  obtain ⟨y, h1, h2⟩ := Option.map_eq_some_iff.mp h
  exact ⟨y, h1, h2.symm⟩
theorem itOk_enumS {K : PySem.W.Frag} {F0 : Hp} {k : Int} {a : Addr} {d : D} {ds : List D} (p : Rp K F0 (.ref a) d) : ItOk K F0 (IteS K k a) ⟨enumS k ds, fun M => lstOf M d = some ds⟩ where
  go := fun i G F H M x s R h hx => by
    obtain ⟨b, vs, e, hs, r⟩ := lst_of R (p.mono s) h
    cases e
    obtain ⟨y, hy, _⟩ := enumS_get hx
    obtain ⟨v, hv, _⟩ := r.getD hy
    exact ⟨vs, v, hs, hv⟩
  yld := fun i G F H M x v H' s R h hx y => by
    obtain ⟨b, vs, e, hs, r⟩ := lst_of R (p.mono s) h
    cases e
    obtain ⟨z, hz, rfl⟩ := enumS_get hx
    obtain ⟨v', hv, rv⟩ := r.getD hz
    obtain ⟨T, w, rfl, nT, rfl, f⟩ := y
    have := SqL_get hs hv f
    subst this
    obtain ⟨s2, r2⟩ := R.newF (o := .tup [.int (k + (i : Nat)), w]) nT
    exact ⟨_, s2, r2, .tup upd_same (.cons (.int _) (.cons (rv.mono s2) .nil))⟩
  stop := fun i G F H M s R h hl => by
    obtain ⟨b, vs, e, hs, r⟩ := lst_of R (p.mono s) h
    cases e
    have hl : (enumS k ds).length ≤ i := hl
    unfold enumS at hl
    rw [List.length_mapIdx] at hl
    exact ⟨vs, hs, by rw [r.length]; exact hl⟩
theorem qi_enumS {X : Cx} {E : XK} {Et : XT} {e : Expr} {k : Int} {j : Nat} {ta : TAt} {p p2 p3 pos tpos : Pos} {elts : List Expr} {kk : Nat} (hm : X.mg "enumerate" = none) (ha : QA X E Et [e] ta) (hk : -(2 ^ 63) ≤ k ∧ k < 2 ^ 63) (hg : Gl X "enumerate" := by rfl) (hs : starEach [e] X.env = [(false, eval e X.env)] := by rfl) :
    QI X E Et (.Tuple elts kk tpos) (.Call (.Name "enumerate" p) [e] [⟨some "start", .Constant (.int k) j p2, p3⟩] pos) (iEnS k ta) := by
  refine ⟨fun pins s σ H R I h => (pi_enumS hg hm ha hk hs).run pins s σ H R I ?_⟩
  obtain ⟨G, F, M, τ, Qt, a, h, kk⟩ := h
  refine ⟨G, F, M, τ, _, a, h, fun vs F1 H1 M1 ds s1 r1 p1 q1 => ?_⟩
  match ds, p1, q1 with
  | [d], .cons h1 .nil, q1 =>
    have q1 : (match lstOf M1 d with | some xs => Qt ⟨enumS k xs, fun M => lstOf M d = some xs⟩ M1 | none => False) := q1
    cases q : lstOf M1 d with
    | none => rw [q] at q1; exact q1.elim
    | some xs =>
      rw [q] at q1
      obtain ⟨b, vs, rfl, hs, r⟩ := lst_of r1 h1 q
      exact ⟨b, vs, rfl, hs, kk _ _ F1 H1 M1 s1 r1 (itOk_enumS h1) q1⟩
theorem uEnS {k : Int} {tA : TAt} {τ : Sg} {M : MH} {Q : Its → MH → Prop} : iEnS k tA τ M Q = tA τ M fun ds M1 => oL1 ds fun d => oSome (lstOf M1 d) fun xs => Q ⟨enumS k xs, fun M => lstOf M d = some xs⟩ M1 := by
  unfold iEnS
  congr 1
  funext ds M1
  unfold oL1 oSome
  match ds with
  | [] => rfl
  | [d] => cases h : lstOf M1 d <;> simp only [h]
  | _ :: _ :: _ => rfl
end Tl
namespace Tl
open PySem PySem.Spec PyProof.Rows L2
/-! ### min and max of two pairs whose first numbers are unlike -/
/-! ### xs.clear() -/
/-! ### a, b = a list, in a comprehension -/
/-! ### x.m(..) in a comprehension -/
/-! ### == of a list of changing lists -/
end Tl
set_option maxHeartbeats 2000000
namespace Tl
open PySem PySem.Spec PyProof.Rows L2
/-! ### cells apart and together -/
section
variable {M0 M1 M2 M M' : MH} {cs ds : List (Addr × MO)}
theorem Cel.glue (h : Cel M0 M1 cs) (g : Cel M1 M2 ds) : Cel M0 M2 (ds ++ cs) := by
  refine ⟨?_, fun c hc => ?_, fun a o e => g.old a o (h.old a o e), fun c hc => ?_⟩
  · rw [List.map_append, List.nodup_append]
    refine ⟨g.nd, h.nd, fun a ha b hb e => ?_⟩
    obtain ⟨c, hc, rfl⟩ := List.mem_map.mp ha
    obtain ⟨d, hd, e2⟩ := List.mem_map.mp hb
    have h1 := g.new c hc
    have h2 := h.at_ d hd
    rw [← show c.1 = d.1 from e.trans e2.symm, h1] at h2
    cases h2
  · rcases List.mem_append.mp hc with hc | hc
    · exact g.at_ c hc
    · exact g.old _ _ (h.at_ c hc)
  · rcases List.mem_append.mp hc with hc | hc
    · cases e : M0 c.1 with
      | none => rfl
      | some o => have := h.old _ _ e; rw [g.new c hc] at this; cases this
    · exact h.new c hc
/-- M without some cells -/
def without (M : MH) (as : List Addr) : MH := fun a => if a ∈ as then none else M a
theorem Cel.part (h : Cel M0 M (ds ++ cs)) : Cel M0 (without M (ds.map (·.1))) cs ∧ Cel (without M (ds.map (·.1))) M ds := by
  have nd := h.nd
  rw [List.map_append, List.nodup_append] at nd
  obtain ⟨n1, n2, n3⟩ := nd
  refine ⟨⟨n2, fun c hc => ?_, fun a o e => ?_, fun c hc => h.new c (List.mem_append_right _ hc)⟩, ⟨n1, fun c hc => h.at_ c (List.mem_append_left _ hc), fun a o e => ?_, fun c hc => ?_⟩⟩
  · unfold without
    rw [if_neg fun q => n3 _ q _ (List.mem_map_of_mem hc) rfl]
    exact h.at_ c (List.mem_append_right _ hc)
  · unfold without
    rw [if_neg fun q => ?_]
    · exact h.old a o e
    · obtain ⟨d, hd, rfl⟩ := List.mem_map.mp q
      rw [h.new d (List.mem_append_left _ hd)] at e
      cases e
  · unfold without at e
    split at e
    · cases e
    · exact e
  · unfold without
    rw [if_pos (List.mem_map_of_mem hc)]
end
/-! ### shared boxes -/
structure Tch where
  put : Bool
  lane : Int
  place : Int
  line : Int
def wS : Bool → Str
  | true => "put"
  | false => "get"
abbrev C5 := Int × Int × Int × Int × Int
def c5D (c : C5) : List D := [.int c.1, .int c.2.1, .int c.2.2.1, .int c.2.2.2.1, .int c.2.2.2.2]
def clD : Option C5 → D
  | none => .non
  | some c => .tup (c5D c)
def Tch.d (t : Tch) : D := .tup [.int t.lane, .int t.line, .str (wS t.put)]
def Tch.deed (t : Tch) : D := .lst [.str (wS t.put), .int t.lane, .int t.place, .int t.line]
structure Sh where
  s : Addr
  n : Addr
  k : Addr
  dx : Addr
abbrev Kvs := List (Key × D)
def Sh.cells (C : Addr) (fl : List Str) (A : Sh) (ns : List Int) (kvs : Kvs) (cl : Option C5) : List (Addr × MO) := [(A.s, .obj C A.dx fl [.ref A.n, .ref A.k, clD cl]), (A.n, .lst (ns.map .int)), (A.k, .dK kvs)]
end Tl
namespace Tl
open PySem PySem.Spec PyProof.Rows L2
/-! ### set(texts), all unlike, and how many they are -/
section
variable {P : Program} {w : World} {A : Around} {R : Result → PySem.Shared → Prop} {I : Addr} {fp wr : List Addr} {G : Array GenState → Array GenState → Prop} {n : Nat} {Pv : Nat → Value → Prop} {St : Nat → PySem.Shared → Prop}
def texIn (xs : List Str) (i : Nat) : Str → Bool := fun x => (xs.take i).any (· == x)
theorem setOf_at {h h' : Heap} {D : Addr} {S : Str → Bool} {m : Nat} (k : ∀ o, h.get? D = some o → h'.get? D = some o) (x : h.SetOf (PySem.strKind P w) D S m) : h'.SetOf (PySem.strKind P w) D S m := by
  obtain ⟨o, es, ep, t, ho, r⟩ := x
  exact ⟨o, es, ep, t, k o ho, r⟩
end
def tLnT (ta : TEt) : TEt := fun τ M Q => ta τ M fun x M1 => oSome (lstOf M1 x) fun ds => ∃ xs : List Str, ds = xs.map D.str ∧ xs.Nodup ∧ xs.length < 4000 ∧ Q (.int xs.length) M1
theorem rps_str {K : PySem.W.Frag} {F : Hp} : ∀ {xs : List Str} {vs : List V}, Rps K F vs (xs.map D.str) → vs = xs.map V.str
  | [], _, .nil => rfl
  | x :: t, _, .cons (.str _) r => by rw [rps_str r]; rfl
theorem utLnT {ta : TEt} {τ : Sg} {M : MH} {Q : VD} : tLnT ta τ M Q = ta τ M fun x M1 => oSome (lstOf M1 x) fun ds => ∃ xs : List Str, ds = xs.map D.str ∧ xs.Nodup ∧ xs.length < 4000 ∧ Q (.int xs.length) M1 := propext Iff.rfl
end Tl
set_option maxHeartbeats 2000000
namespace Tl
open PySem PySem.Spec PyProof.Rows L2
/-! ### lines of a program's text -/
def okXp (e : Ex) : Prop := okW e ∧ e.deep ≤ 7
inductive Lin where
  | dff (x : Str) (ps : List Str) | iff (e : Ex) | whl (e : Ex) | els | fin | pln (s : Sm)
/-- what stands behind the word of a statement that is no block -/
def Sm.wrds : Sm → List Str
  | .set _ x e => x :: wordsE e | .put _ a b => wordsE a ++ wordsE b | .tell _ e => wordsE e | .ret _ e => wordsE e | .join _ x w e => x :: w :: wordsE e | .call _ x f es => x :: f :: es.flatMap wordsE | _ => []
def Sm.at_ (l : Int) : Sm → Sm
  | .set _ x e => .set l x e | .put _ a b => .put l a b | .tell _ e => .tell l e | .ret _ e => .ret l e | .stop _ => .stop l | .brk _ => .brk l | .agn _ => .agn l | .meet _ => .meet l
  | .join _ x w e => .join l x w e | .call _ x f es => .call l x f es | .if1 _ e b => .if1 l e b | .if2 _ e b c => .if2 l e b c | .whl _ e b => .whl l e b
theorem at_d (l : Int) (s : Sm) : (s.at_ l).d = .tup (.str s.word :: .int l :: s.rest) := by cases s <;> (unfold Sm.at_ Sm.d; rfl)
def Lin.words : Lin → List Str
  | .dff x ps => "def" :: x :: ps | .iff e => "if" :: wordsE e | .whl e => "while" :: wordsE e | .els => ["else"] | .fin => ["end"] | .pln s => s.word :: s.wrds
def Lin.word : Lin → Str
  | .dff _ _ => "def" | .iff _ => "if" | .whl _ => "while" | .els => "else" | .fin => "end" | .pln s => s.word
def Lin.rest : Lin → List D
  | .dff x ps => [.str x, .lst (ps.map .str)] | .iff e => [e.d] | .whl e => [e.d] | .pln s => s.rest | _ => []
def Lin.d (l : Lin) : D := .tup (.str l.word :: l.rest)
def Lin.txt (l : Lin) : Str := Txt.join blank l.words
def joinL : List Str := ["sum", "most", "least", "ahead"]
def okStm : Sm → Prop
  | .set _ x e => okName x ∧ okXp e | .put _ a b => okXp a ∧ okXp b | .tell _ e => okXp e | .ret _ e => okXp e | .join _ x w e => okName x ∧ w ∈ joinL ∧ okXp e
  | .call _ x f es => okName x ∧ okName f ∧ es.length ≤ 6 ∧ ∀ e ∈ es, okXp e | .if1 .. => False | .if2 .. => False | .whl .. => False | _ => True
def Lin.ok : Lin → Prop
  | .dff x ps => okName x ∧ ps.length ≤ 6 ∧ ∀ p ∈ ps, okName p | .iff e => okXp e | .whl e => okXp e | .pln s => okStm s | _ => True
def okWd (w : Str) : Prop := 32 ∉ cds w ∧ w.length ≤ 10 ∧ 10 ∉ cds w
theorem name_free {x : Str} (h : okName x) : okWd x := by
  obtain ⟨⟨h1, h2, h3⟩, _⟩ := h
  refine ⟨fun q => ?_, by omega, fun q => ?_⟩
  · have := List.all_eq_true.mp h3 32 q
    exact absurd this (by decide)
  · have := List.all_eq_true.mp h3 10 q
    exact absurd this (by decide)
theorem word_free10 : ∀ {e : Ex}, okW e → ∀ w ∈ wordsE e, 10 ∉ cds w
  | .num i, _, w, h => by
    rw [List.mem_singleton.mp h]
    rcases num_cases i with ⟨n, rfl, e⟩ | ⟨n, rfl, e⟩
    · rw [e]; intro hm; have := dig_mem hm; omega
    · rw [e]; intro hm
      rcases List.mem_cons.mp hm with hm | hm
      · omega
      · have := dig_mem hm; omega
  | .nam x, hx, w, h => by
    rw [List.mem_singleton.mp h]
    intro hm
    have := List.all_eq_true.mp hx.1.2.2 10 hm
    simp at this
  | .lane, _, w, h => by rw [List.mem_singleton.mp h]; decide +kernel
  | .lanes, _, w, h => by rw [List.mem_singleton.mp h]; decide +kernel
  | .mine, _, w, h => by rw [List.mem_singleton.mp h]; decide +kernel
  | .box e, hx, w, h => by
    rcases List.mem_cons.mp h with rfl | h
    · decide +kernel
    · exact word_free10 (e := e) hx w h
  | .op o a b, hx, w, h => by
    rcases List.mem_cons.mp h with rfl | h
    · cases o <;> decide +kernel
    · rcases List.mem_append.mp h with h | h
      · exact word_free10 hx.1 w h
      · exact word_free10 hx.2 w h
theorem okXp_wd {e : Ex} (h : okXp e) : ∀ w ∈ wordsE e, okWd w := fun w hw => ⟨word_free h.1 w hw, word_len h.1 w hw, word_free10 h.1 w hw⟩
theorem okXp_len {e : Ex} (h : okXp e) : (wordsE e).length ≤ 127 := by
  have := words_len (e := e)
  have h2 : 2 ^ e.deep ≤ 2 ^ 7 := Nat.pow_le_pow_right (by decide) h.2
  omega
theorem kept_wd : ∀ w ∈ (["def", "if", "while", "else", "end", "set", "put", "tell", "return", "stop", "break", "again", "meet", "join", "call", "sum", "most", "least", "ahead"] : List Str), okWd w := by
  unfold okWd
  decide +kernel
theorem flat_wd : ∀ {es : List Ex}, (∀ e ∈ es, okXp e) → (∀ w ∈ es.flatMap wordsE, okWd w) ∧ (es.flatMap wordsE).length ≤ 127 * es.length
  | [], _ => ⟨fun w hw => by simp at hw, by simp⟩
  | e :: t, h => by
    obtain ⟨i1, i2⟩ := flat_wd (es := t) fun x hx => h x (List.mem_cons_of_mem _ hx)
    have h1 := h e (List.mem_cons_self ..)
    refine ⟨fun w hw => ?_, ?_⟩
    · rw [List.flatMap_cons] at hw
      rcases List.mem_append.mp hw with hw | hw
      · exact okXp_wd h1 w hw
      · exact i1 w hw
    · rw [List.flatMap_cons, List.length_append, List.length_cons]
      have := okXp_len h1
      omega
theorem sm_wd {s : Sm} (h : okStm s) : (∀ w ∈ s.word :: s.wrds, okWd w) ∧ (s.word :: s.wrds).length ≤ 800 := by
  have nw : ∀ {x : Str}, okName x → okWd x := fun q => name_free q
  have kw : ∀ {x : Str}, x ∈ (["def", "if", "while", "else", "end", "set", "put", "tell", "return", "stop", "break", "again", "meet", "join", "call", "sum", "most", "least", "ahead"] : List Str) → okWd x := fun q => kept_wd _ q
  cases s with
  | set l x e =>
    have := okXp_len h.2
    refine ⟨fun w hw => ?_, by simp only [Sm.wrds, List.length_cons]; omega⟩
    simp only [Sm.wrds, Sm.word, List.mem_cons] at hw
    rcases hw with rfl | rfl | hw
    · exact kw (by decide)
    · exact nw h.1
    · exact okXp_wd h.2 w hw
  | put l a b =>
    have h1 := okXp_len h.1
    have h2 := okXp_len h.2
    refine ⟨fun w hw => ?_, by simp only [Sm.wrds, List.length_cons, List.length_append]; omega⟩
    simp only [Sm.wrds, Sm.word, List.mem_cons, List.mem_append] at hw
    rcases hw with rfl | hw | hw
    · exact kw (by decide)
    · exact okXp_wd h.1 w hw
    · exact okXp_wd h.2 w hw
  | tell l e =>
    have := okXp_len h
    refine ⟨fun w hw => ?_, by simp only [Sm.wrds, List.length_cons]; omega⟩
    simp only [Sm.wrds, Sm.word, List.mem_cons] at hw
    rcases hw with rfl | hw
    · exact kw (by decide)
    · exact okXp_wd h w hw
  | ret l e =>
    have := okXp_len h
    refine ⟨fun w hw => ?_, by simp only [Sm.wrds, List.length_cons]; omega⟩
    simp only [Sm.wrds, Sm.word, List.mem_cons] at hw
    rcases hw with rfl | hw
    · exact kw (by decide)
    · exact okXp_wd h w hw
  | join l x w e =>
    have := okXp_len h.2.2
    refine ⟨fun v hw => ?_, by simp only [Sm.wrds, List.length_cons]; omega⟩
    simp only [Sm.wrds, Sm.word, List.mem_cons] at hw
    rcases hw with rfl | rfl | rfl | hw
    · exact kw (by decide)
    · exact nw h.1
    · have hj := h.2.1
      unfold joinL at hj
      simp only [List.mem_cons, List.not_mem_nil, or_false] at hj
      rcases hj with rfl | rfl | rfl | rfl <;> exact kw (by decide)
    · exact okXp_wd h.2.2 v hw
  | call l x f es =>
    obtain ⟨f1, f2⟩ := flat_wd h.2.2.2
    have := h.2.2.1
    refine ⟨fun w hw => ?_, by simp only [Sm.wrds, List.length_cons]; omega⟩
    simp only [Sm.wrds, Sm.word, List.mem_cons] at hw
    rcases hw with rfl | rfl | rfl | hw
    · exact kw (by decide)
    · exact nw h.1
    · exact nw h.2.1
    · exact f1 w hw
  | stop l => exact ⟨fun w hw => by simp only [Sm.wrds, Sm.word, List.mem_cons, List.not_mem_nil, or_false] at hw; rw [hw]; exact kw (by decide), by simp [Sm.wrds]⟩
  | brk l => exact ⟨fun w hw => by simp only [Sm.wrds, Sm.word, List.mem_cons, List.not_mem_nil, or_false] at hw; rw [hw]; exact kw (by decide), by simp [Sm.wrds]⟩
  | agn l => exact ⟨fun w hw => by simp only [Sm.wrds, Sm.word, List.mem_cons, List.not_mem_nil, or_false] at hw; rw [hw]; exact kw (by decide), by simp [Sm.wrds]⟩
  | meet l => exact ⟨fun w hw => by simp only [Sm.wrds, Sm.word, List.mem_cons, List.not_mem_nil, or_false] at hw; rw [hw]; exact kw (by decide), by simp [Sm.wrds]⟩
  | if1 l e b => exact h.elim
  | if2 l e b c => exact h.elim
  | whl l e b => exact h.elim
theorem lin_wd {l : Lin} (h : l.ok) : (∀ w ∈ l.words, okWd w) ∧ l.words.length ≤ 800 := by
  have kw : ∀ {x : Str}, x ∈ (["def", "if", "while", "else", "end", "set", "put", "tell", "return", "stop", "break", "again", "meet", "join", "call", "sum", "most", "least", "ahead"] : List Str) → okWd x := fun q => kept_wd _ q
  cases l with
  | dff x ps =>
    have := h.2.1
    refine ⟨fun w hw => ?_, by simp only [Lin.words, List.length_cons]; omega⟩
    simp only [Lin.words, List.mem_cons] at hw
    rcases hw with rfl | rfl | hw
    · exact kw (by decide)
    · exact name_free h.1
    · exact name_free (h.2.2 w hw)
  | iff e =>
    have := okXp_len h
    refine ⟨fun w hw => ?_, by simp only [Lin.words, List.length_cons]; omega⟩
    simp only [Lin.words, List.mem_cons] at hw
    rcases hw with rfl | hw
    · exact kw (by decide)
    · exact okXp_wd h w hw
  | whl e =>
    have := okXp_len h
    refine ⟨fun w hw => ?_, by simp only [Lin.words, List.length_cons]; omega⟩
    simp only [Lin.words, List.mem_cons] at hw
    rcases hw with rfl | hw
    · exact kw (by decide)
    · exact okXp_wd h w hw
  | els => exact ⟨fun w hw => by simp only [Lin.words, List.mem_cons, List.not_mem_nil, or_false] at hw; rw [hw]; exact kw (by decide), by simp [Lin.words]⟩
  | fin => exact ⟨fun w hw => by simp only [Lin.words, List.mem_cons, List.not_mem_nil, or_false] at hw; rw [hw]; exact kw (by decide), by simp [Lin.words]⟩
  | pln s => exact sm_wd h
theorem lin_split {l : Lin} (h : l.ok) : Txt.split l.txt blank = l.words := TL.split_join (y := blank) (s := 32) (S := []) (by decide +kernel) (by decide +kernel) (by cases l <;> simp [Lin.words]) fun p hp => ((lin_wd h).1 p hp).1
theorem lin_len {l : Lin} (h : l.ok) : l.txt.length ≤ 10000 := by
  obtain ⟨h1, h2⟩ := lin_wd h
  have h3 := sum_le_mul (k := 10) (ws := l.words) fun w hw => (h1 w hw).2.1
  have h4 := join_len l.words
  unfold Lin.txt
  omega
end Tl
set_option maxHeartbeats 2000000
namespace Tl
open PySem PySem.Spec PyProof.Rows L2
/-! ### lines that stand in one another -/
structure Opn where
  line : Int
  l : Lin
  b : List Sm
  c : Option (List Sm)
def Lin.isIf : Lin → Bool
  | .iff _ => true
  | _ => false
def Lin.isWhl : Lin → Bool
  | .whl _ => true
  | _ => false
def Lin.isDef : Lin → Bool
  | .dff .. => true
  | _ => false
def Lin.plain : Lin → Prop
  | .pln (.if1 ..) => False
  | .pln (.if2 ..) => False
  | .pln (.whl ..) => False
  | _ => True
theorem plain_ok {l : Lin} (h : l.ok) : l.plain := by
  cases l with
  | pln s => cases s <;> first | exact trivial | exact h
  | _ => exact trivial
def stWords : List Str := ["set", "put", "tell", "return", "stop", "break", "again", "meet", "join", "call", "if", "while"]
theorem word_in (s : Sm) : s.word ∈ stWords := by
  unfold stWords
  cases s <;> simp [Sm.word]
theorem plain_wd {s : Sm} : ¬ s.word = Str.ofString "def" ∧ ¬ s.word = Str.ofString "else" ∧ ¬ s.word = Str.ofString "end" := by
  have key : ∀ w ∈ stWords, ¬ w = Str.ofString "def" ∧ ¬ w = Str.ofString "else" ∧ ¬ w = Str.ofString "end" := by decide +kernel
  exact key _ (word_in s)
theorem plain_wd2 {s : Sm} (h : (Lin.pln s).plain) : ¬ s.word = Str.ofString "if" ∧ ¬ s.word = Str.ofString "while" := by
  cases s with
  | set l x e => exact ⟨(by decide +kernel : ¬ Str.ofString "set" = Str.ofString "if"), (by decide +kernel : ¬ Str.ofString "set" = Str.ofString "while")⟩
  | put l a b => exact ⟨(by decide +kernel : ¬ Str.ofString "put" = Str.ofString "if"), (by decide +kernel : ¬ Str.ofString "put" = Str.ofString "while")⟩
  | tell l e => exact ⟨(by decide +kernel : ¬ Str.ofString "tell" = Str.ofString "if"), (by decide +kernel : ¬ Str.ofString "tell" = Str.ofString "while")⟩
  | ret l e => exact ⟨(by decide +kernel : ¬ Str.ofString "return" = Str.ofString "if"), (by decide +kernel : ¬ Str.ofString "return" = Str.ofString "while")⟩
  | stop l => exact ⟨(by decide +kernel : ¬ Str.ofString "stop" = Str.ofString "if"), (by decide +kernel : ¬ Str.ofString "stop" = Str.ofString "while")⟩
  | brk l => exact ⟨(by decide +kernel : ¬ Str.ofString "break" = Str.ofString "if"), (by decide +kernel : ¬ Str.ofString "break" = Str.ofString "while")⟩
  | agn l => exact ⟨(by decide +kernel : ¬ Str.ofString "again" = Str.ofString "if"), (by decide +kernel : ¬ Str.ofString "again" = Str.ofString "while")⟩
  | meet l => exact ⟨(by decide +kernel : ¬ Str.ofString "meet" = Str.ofString "if"), (by decide +kernel : ¬ Str.ofString "meet" = Str.ofString "while")⟩
  | join l x w e => exact ⟨(by decide +kernel : ¬ Str.ofString "join" = Str.ofString "if"), (by decide +kernel : ¬ Str.ofString "join" = Str.ofString "while")⟩
  | call l x f es => exact ⟨(by decide +kernel : ¬ Str.ofString "call" = Str.ofString "if"), (by decide +kernel : ¬ Str.ofString "call" = Str.ofString "while")⟩
  | if1 l e b => exact h.elim
  | if2 l e b c => exact h.elim
  | whl l e b => exact h.elim
theorem rest_few (s : Sm) : s.rest.length ≤ 3 := by cases s <;> simp [Sm.rest]
def Lin.name : Lin → Str
  | .dff x _ => x
  | _ => ""
def Opn.add (o : Opn) (s : Sm) : Opn := match o.c with
  | none => { o with b := o.b ++ [s] }
  | some c => { o with c := some (c ++ [s]) }
def Opn.st (o : Opn) : Sm := match o.l with
  | .iff e => (match o.c with
    | none => .if1 o.line e o.b
    | some c => .if2 o.line e o.b c)
  | .whl e => .whl o.line e o.b
  | _ => .stop 0
def Opn.df (o : Opn) (last : Int) : Df := match o.l with
  | .dff x ps => ⟨x, ps, o.b, o.line, last⟩
  | _ => ⟨"", [], [], 0, 0⟩
/-- what may be open: a def alone lowest, ifs and whiles in it; an else in an if alone -/
def Opn.ok (o : Opn) : Prop := (o.l.isIf = true ∨ o.l.isWhl = true ∨ o.l.isDef = true) ∧ (o.c.isSome = true → o.l.isIf = true)
def pileOk : List Opn → Prop
  | [] => True
  | [o] => o.ok ∧ o.l.isDef = true
  | o :: p :: t => o.ok ∧ o.l.isDef = false ∧ pileOk (p :: t)
/-- whether a line may stand in what is open -/
def mayLn (p : List Opn) (l : Lin) : Bool := match l with
  | .dff .. => p.isEmpty
  | l => match p with
    | [] => false
    | i :: r => match l with
      | .els => i.l.isIf && i.c.isNone
      | .pln (.brk _) => (i :: r).any fun o => o.l.isWhl
      | .pln (.agn _) => (i :: r).any fun o => o.l.isWhl
      | .pln (.ret ..) => decide (((i :: r).getLast (List.cons_ne_nil _ _)).l.name ≠ "main")
      | .iff _ => decide ((i :: r).length ≤ 5)
      | .whl _ => decide ((i :: r).length ≤ 5)
      | _ => true
def nestStep (k : Int) (st : Pg × List Opn) (l : Lin) : Pg × List Opn := match l, st.2 with
  | .dff x ps, p => (st.1, ⟨k, .dff x ps, [], none⟩ :: p)
  | .iff e, p => (st.1, ⟨k, .iff e, [], none⟩ :: p)
  | .whl e, p => (st.1, ⟨k, .whl e, [], none⟩ :: p)
  | .els, i :: p => (st.1, { i with c := some [] } :: p)
  | .fin, [i] => (st.1 ++ [i.df k], [])
  | .fin, i :: j :: p => (st.1, j.add i.st :: p)
  | .pln s, i :: p => (st.1, i.add (s.at_ k) :: p)
  | _, [] => st
def nestGo : Int → Pg × List Opn → List Lin → Option (Pg × List Opn)
  | _, st, [] => some st
  | k, st, l :: t => if mayLn st.2 l = true then nestGo (k + 1) (nestStep k st l) t else none
theorem add_l {o : Opn} {s : Sm} : (o.add s).l = o.l ∧ (o.add s).line = o.line ∧ (o.add s).c.isSome = o.c.isSome := by
  unfold Opn.add
  cases h : o.c <;> simp [h]
theorem add_ok {o : Opn} {s : Sm} (h : o.ok) : (o.add s).ok := by
  unfold Opn.ok at *
  rw [add_l.1, add_l.2.2]
  exact h
theorem pile_hd {i j : Opn} {p : List Opn} (h : pileOk (i :: p)) (hl : j.l.isDef = i.l.isDef) (ok : j.ok) : pileOk (j :: p) := by
  cases p with
  | nil => exact ⟨ok, hl.trans h.2⟩
  | cons a t => exact ⟨ok, hl.trans h.2.1, h.2.2⟩
theorem pile_tl {i : Opn} {p : List Opn} (h : pileOk (i :: p)) : pileOk p := by
  cases p with
  | nil => trivial
  | cons a t => exact h.2.2
theorem pile_at {i : Opn} {p : List Opn} (h : pileOk (i :: p)) : i.ok := by
  cases p with
  | nil => exact h.1
  | cons a t => exact h.1
theorem step_ok {k : Int} {st : Pg × List Opn} {l : Lin} (h : pileOk st.2) (m : mayLn st.2 l = true) : pileOk (nestStep k st l).2 := by
  obtain ⟨pg, p⟩ := st
  cases l with
  | dff x ps =>
    cases p with
    | nil => exact ⟨⟨.inr (.inr rfl), fun q => by cases q⟩, rfl⟩
    | cons a t => exact absurd m (by unfold mayLn; simp)
  | iff e =>
    cases p with
    | nil => exact absurd m (by unfold mayLn; simp)
    | cons a t => exact ⟨⟨.inl rfl, fun q => by cases q⟩, rfl, h⟩
  | whl e =>
    cases p with
    | nil => exact absurd m (by unfold mayLn; simp)
    | cons a t => exact ⟨⟨.inr (.inl rfl), fun q => by cases q⟩, rfl, h⟩
  | els =>
    cases p with
    | nil => exact absurd m (by unfold mayLn; simp)
    | cons a t =>
      have m : (a.l.isIf && a.c.isNone) = true := m
      rw [Bool.and_eq_true] at m
      exact pile_hd (j := { a with c := some [] }) h rfl ⟨.inl m.1, fun _ => m.1⟩
  | fin =>
    cases p with
    | nil => exact h
    | cons a t =>
      cases t with
      | nil => exact trivial
      | cons b t => exact pile_hd (pile_tl h) (by rw [add_l.1]) (add_ok (pile_at (pile_tl h)))
  | pln s =>
    cases p with
    | nil => exact h
    | cons a t => exact pile_hd h (by rw [add_l.1]) (add_ok (pile_at h))
/-- short enough -/
structure smallP (n : Nat) (pg : Pg) (p : List Opn) : Prop where
  pg_ : pg.length ≤ n
  p_ : p.length ≤ n
  b_ : ∀ o ∈ p, o.b.length ≤ n
  c_ : ∀ o ∈ p, ∀ c, o.c = some c → c.length ≤ n
theorem small_add {n : Nat} {o : Opn} {s : Sm} (h1 : o.b.length ≤ n) (h2 : ∀ c, o.c = some c → c.length ≤ n) : (o.add s).b.length ≤ n + 1 ∧ ∀ c, (o.add s).c = some c → c.length ≤ n + 1 := by
  unfold Opn.add
  cases h : o.c with
  | none => exact ⟨by simp only [List.length_append, List.length_singleton]; omega, fun c q => by simp at q⟩
  | some c0 =>
    refine ⟨by show o.b.length ≤ n + 1; omega, fun c q => ?_⟩
    have q : some (c0 ++ [s]) = some c := q
    cases q
    have := h2 c0 h
    rw [List.length_append, List.length_singleton]
    omega
theorem step_small {k : Int} {n : Nat} {st : Pg × List Opn} {l : Lin} (h : smallP n st.1 st.2) : smallP (n + 1) (nestStep k st l).1 (nestStep k st l).2 := by
  obtain ⟨pg, p⟩ := st
  obtain ⟨h1, h2, h3, h4⟩ := h
  have old : smallP (n + 1) pg p := ⟨Nat.le_succ_of_le h1, Nat.le_succ_of_le h2, fun o ho => Nat.le_succ_of_le (h3 o ho), fun o ho c hc => Nat.le_succ_of_le (h4 o ho c hc)⟩
  have new : ∀ l : Lin, smallP (n + 1) pg (⟨k, l, [], none⟩ :: p) := fun l => by
    refine ⟨old.pg_, by simp only [List.length_cons]; exact Nat.succ_le_succ h2, fun o ho => ?_, fun o ho c hc => ?_⟩
    · rcases List.mem_cons.mp ho with rfl | ho
      · exact Nat.zero_le _
      · exact old.b_ o ho
    · rcases List.mem_cons.mp ho with rfl | ho
      · cases hc
      · exact old.c_ o ho c hc
  have hd : ∀ (i j : Opn) (t : List Opn), (∀ o ∈ t, o ∈ p) → t.length + 1 ≤ n + 1 → j.b.length ≤ n + 1 → (∀ c, j.c = some c → c.length ≤ n + 1) → smallP (n + 1) pg (j :: t) := fun i j t ht hl q1 q2 => by
    refine ⟨old.pg_, hl, fun o ho => ?_, fun o ho c hc => ?_⟩
    · rcases List.mem_cons.mp ho with rfl | ho
      · exact q1
      · exact old.b_ o (ht o ho)
    · rcases List.mem_cons.mp ho with rfl | ho
      · exact q2 c hc
      · exact old.c_ o (ht o ho) c hc
  cases l with
  | dff x ps => exact new _
  | iff e => exact new _
  | whl e => exact new _
  | els =>
    cases p with
    | nil => exact old
    | cons a t => exact hd a { a with c := some [] } t (fun o ho => List.mem_cons_of_mem _ ho) (by simp only [List.length_cons] at h2; omega) (old.b_ a (List.mem_cons_self ..)) (fun c q => by cases q; exact Nat.zero_le _)
  | fin =>
    cases p with
    | nil => exact old
    | cons a t =>
      cases t with
      | nil => exact ⟨by show (pg ++ [a.df k]).length ≤ n + 1; rw [List.length_append, List.length_singleton]; exact Nat.succ_le_succ h1, Nat.zero_le _, (fun o ho => by cases ho), (fun o ho => by cases ho)⟩
      | cons b t =>
        have sb := small_add (s := a.st) (h3 b (by simp)) (h4 b (by simp))
        exact hd b (b.add a.st) t (fun o ho => List.mem_cons_of_mem _ (List.mem_cons_of_mem _ ho)) (by simp only [List.length_cons] at h2; omega) sb.1 sb.2
  | pln s =>
    cases p with
    | nil => exact old
    | cons a t =>
      have sb := small_add (s := s.at_ k) (h3 a (by simp)) (h4 a (by simp))
      exact hd a (a.add (s.at_ k)) t (fun o ho => List.mem_cons_of_mem _ ho) (by simp only [List.length_cons] at h2; omega) sb.1 sb.2
/-! what is open, as cells -/
structure OA where
  s : Addr
  f : Addr
  g : Addr
  dx : Addr
  o : Opn
section
variable (C : Addr) (fl : List Str)
def OA.obj (a : OA) : MO := .obj C a.dx fl [.int a.o.line, a.o.l.d, .ref a.f, if a.o.c.isSome = true then .ref a.g else .non]
def OA.more (a : OA) : List (Addr × MO) := match a.o.c with
  | none => []
  | some c => [(a.g, .lst (stD c))]
def OA.cells (a : OA) : List (Addr × MO) := (a.s, a.obj C fl) :: (a.f, .lst (stD a.o.b)) :: a.more
end
def pileD (p : List OA) : List D := (p.map fun a => D.ref a.s).reverse
section
variable {C : Addr} {fl : List Str} {M0 M : MH}
theorem OA.init_ {a dx p : Addr} {k : Int} {l : Lin} (h : Cel M0 M [(a, .obj C dx fl [])]) (hp : mup M a (.obj C dx fl [.int k, l.d]) p = none) :
    Cel M0 (mup (mup (mup M a (.obj C dx fl [.int k, l.d])) p (.lst [])) a (.obj C dx fl [.int k, l.d, .ref p, .non])) (OA.cells C fl ⟨a, p, p, dx, ⟨k, l, [], none⟩⟩) := by
  have h1 : Cel M0 (mup M a (.obj C dx fl [.int k, l.d])) [(a, .obj C dx fl [.int k, l.d])] := Cel.put (pre := []) h
  have h2 := h1.fresh (o := .lst []) hp
  have h3 := Cel.put (o' := .obj C dx fl [.int k, l.d, .ref p, .non]) (pre := [(p, .lst [])]) (post := []) h2
  exact h3.perm (List.Perm.swap _ _ _)
end
theorem iff_d (e : Ex) : (Lin.iff e).d = .tup [.str "if", e.d] := rfl
theorem whl_d (e : Ex) : (Lin.whl e).d = .tup [.str "while", e.d] := rfl
theorem dff_d (x : Str) (ps : List Str) : (Lin.dff x ps).d = .tup [.str "def", .str x, .lst (ps.map .str)] := rfl
theorem pileD_len (p : List OA) : (pileD p).length = p.length := by unfold pileD; rw [List.length_reverse, List.length_map]
theorem pileD_in {a : OA} {p : List OA} : atI (pileD (a :: p)) (-1) = some (.ref a.s) := by
  unfold atI ixN
  rw [pileD_len, if_neg (by omega), if_pos (by rw [List.length_cons]; omega)]
  show (pileD (a :: p))[((-1 : Int) + ((a :: p).length : Nat)).toNat]? = _
  rw [show ((-1 : Int) + ((a :: p).length : Nat)).toNat = p.length by rw [List.length_cons]; omega]
  unfold pileD
  rw [List.map_cons, List.reverse_cons, List.getElem?_append_right (by rw [List.length_reverse, List.length_map]; exact Nat.le_refl _)]
  simp
theorem pileD_out {a : OA} {p : List OA} : atI (pileD (a :: p)) 0 = some (.ref ((a :: p).getLast (List.cons_ne_nil _ _)).s) := by
  have e : (pileD (a :: p))[0]? = some (.ref ((a :: p).getLast (List.cons_ne_nil _ _)).s) := by
    unfold pileD
    rw [← List.head?_eq_getElem?, List.head?_reverse, List.getLast?_map, List.getLast?_eq_some_getLast (List.cons_ne_nil _ _)]
    rfl
  exact atI_nat e
theorem pile_lowest : ∀ {p : List Opn} (h : p ≠ []), pileOk p → (p.getLast h).ok ∧ (p.getLast h).l.isDef = true
  | [o], _, k => k
  | o :: q :: t, _, k => by
    rw [List.getLast_cons (List.cons_ne_nil q t)]
    exact pile_lowest (List.cons_ne_nil q t) k.2.2
theorem pile_all : ∀ {p : List Opn}, pileOk p → ∀ o ∈ p, o.ok
  | [], _, o, ho => by cases ho
  | a :: t, k, o, ho => by
    rcases List.mem_cons.mp ho with rfl | ho
    · exact pile_at k
    · exact pile_all (pile_tl k) o ho
theorem getLast_o : ∀ {p : List OA} (h : p ≠ []), (p.getLast h).o = ((p.map (·.o)).getLast (by simpa using h))
  | [a], _ => rfl
  | a :: b :: t, _ => by
    rw [List.getLast_cons (List.cons_ne_nil b t)]
    exact getLast_o (List.cons_ne_nil b t)
/-- the word that a def, if or while begins with -/
theorem head_word {o : Opn} (h : o.ok) : ∃ w r, o.l.d = .tup (.str w :: r) ∧ decide (w = ("while" : Str)) = o.l.isWhl ∧ decide (w = ("if" : Str)) = o.l.isIf := by
  obtain ⟨k, l, b, c⟩ := o
  cases l with
  | dff x ps => exact ⟨"def", _, rfl, (show decide (("def" : Str) = "while") = false by decide +kernel), (show decide (("def" : Str) = "if") = false by decide +kernel)⟩
  | iff e => exact ⟨"if", _, rfl, (show decide (("if" : Str) = "while") = false by decide +kernel), (show decide (("if" : Str) = "if") = true by decide +kernel)⟩
  | whl e => exact ⟨"while", _, rfl, (show decide (("while" : Str) = "while") = true by decide +kernel), (show decide (("while" : Str) = "if") = false by decide +kernel)⟩
  | els => rcases h.1 with q | q | q <;> cases q
  | fin => rcases h.1 with q | q | q <;> cases q
  | pln s => rcases h.1 with q | q | q <;> cases q
theorem def_name {l : Lin} (h : l.isDef = true) : ∃ ps : List Str, l.d = .tup [.str "def", .str l.name, .lst (ps.map .str)] := by
  cases l with
  | dff x ps => exact ⟨ps, rfl⟩
  | _ => cases h
/-! the pile and the program, as cells -/
def nestC (C : Addr) (fl : List Str) (pr q : Addr) (done : Pg) (p : List OA) : List (Addr × MO) := (pr, .lst (pgD done)) :: (q, .lst (pileD p)) :: p.flatMap (OA.cells C fl)
def Opn.cur (o : Opn) : List Sm := match o.c with
  | none => o.b
  | some c => c
def OA.top (a : OA) : Addr := if a.o.c.isSome = true then a.g else a.f
section
variable {C : Addr} {fl : List Str} {M0 M : MH} {pre post : List (Addr × MO)} {a : OA}
theorem OA.s_ (h : Cel M0 M (pre ++ (a.cells C fl ++ post))) : M a.s = some (a.obj C fl) := h.at_ (a.s, a.obj C fl) (by unfold OA.cells; simp)
theorem OA.top_ (h : Cel M0 M (pre ++ (a.cells C fl ++ post))) : M a.top = some (.lst (stD a.o.cur)) := by
  refine h.at_ (a.top, .lst (stD a.o.cur)) (List.mem_append_right _ (List.mem_append_left _ ?_))
  unfold OA.cells OA.more OA.top Opn.cur
  cases a.o.c with
  | none => simp
  | some c => simp
theorem OA.put_ {s : Sm} (h : Cel M0 M (pre ++ (a.cells C fl ++ post))) : Cel M0 (mup M a.top (.lst (stD a.o.cur ++ [s.d]))) (pre ++ (({ a with o := a.o.add s } : OA).cells C fl ++ post)) := by
  obtain ⟨s0, f, g, dx, ⟨k, l, b, c⟩⟩ := a
  have e : ∀ x : List Sm, stD x ++ [s.d] = stD (x ++ [s]) := fun x => by rw [stD_app]; rfl
  cases c with
  | none =>
    have h1 : Cel M0 M ((pre ++ [(s0, .obj C dx fl [.int k, l.d, .ref f, .non])]) ++ (f, .lst (stD b)) :: post) := by
      rw [List.append_assoc]; exact h
    have h2 := Cel.put (o' := .lst (stD b ++ [s.d])) h1
    rw [List.append_assoc, e] at h2
    show Cel M0 (mup M f (.lst (stD b ++ [s.d]))) _
    rw [e]
    exact h2
  | some c =>
    have h1 : Cel M0 M ((pre ++ [(s0, .obj C dx fl [.int k, l.d, .ref f, .ref g]), (f, .lst (stD b))]) ++ (g, .lst (stD c)) :: post) := by
      rw [List.append_assoc]; exact h
    have h2 := Cel.put (o' := .lst (stD c ++ [s.d])) h1
    rw [List.append_assoc, e] at h2
    show Cel M0 (mup M g (.lst (stD c ++ [s.d]))) _
    rw [e]
    exact h2
end
theorem pileD_cons (a : OA) (p : List OA) : pileD (a :: p) = pileD p ++ [.ref a.s] := by unfold pileD; rw [List.map_cons, List.reverse_cons]
theorem nestGo_cons {k : Int} {st : Pg × List Opn} {l : Lin} {t : List Lin} : nestGo k st (l :: t) = if mayLn st.2 l = true then nestGo (k + 1) (nestStep k st l) t else none := rfl
theorem nestGo_app : ∀ {ys : List Lin} {k : Int} {st : Pg × List Opn} {l : Lin}, nestGo k st (ys ++ [l]) = (nestGo k st ys).bind fun st1 => if mayLn st1.2 l = true then some (nestStep (k + (ys.length : Nat)) st1 l) else none
  | [], k, st, l => by
    show (if mayLn st.2 l = true then nestGo (k + 1) (nestStep k st l) [] else none) = _
    simp only [nestGo, Option.bind_some, List.length_nil]
    rw [show k + ((0 : Nat) : Int) = k by omega]
  | y :: t, k, st, l => by
    rw [List.cons_append]
    unfold nestGo
    split
    · rw [nestGo_app (ys := t), List.length_cons, show k + ((t.length + 1 : Nat) : Int) = k + 1 + (t.length : Int) by omega]
    · rfl
theorem nestGo_pre : ∀ {ys zs : List Lin} {k : Int} {st r : Pg × List Opn}, nestGo k st (ys ++ zs) = some r → ∃ st1, nestGo k st ys = some st1 ∧ nestGo (k + (ys.length : Nat)) st1 zs = some r
  | [], zs, k, st, r, h => ⟨st, rfl, by rw [show k + (([] : List Lin).length : Int) = k by simp]; exact h⟩
  | y :: t, zs, k, st, r, h => by
    rw [List.cons_append, nestGo_cons] at h
    rw [nestGo_cons]
    split at h
    · rename_i hm
      rw [if_pos hm]
      obtain ⟨st1, h1, h2⟩ := nestGo_pre (ys := t) h
      exact ⟨st1, h1, by rw [List.length_cons, show k + ((t.length + 1 : Nat) : Int) = k + 1 + (t.length : Int) by omega]; exact h2⟩
    · cases h
theorem nest_turn {ls : List Lin} {i : Nat} {l : Lin} {r : Pg × List Opn} (h : nestGo 1 ([], []) ls = some r) (hi : ls[i]? = some l) {st : Pg × List Opn} (hs : nestGo 1 ([], []) (ls.take i) = some st) :
    mayLn st.2 l = true ∧ nestGo 1 ([], []) (ls.take (i + 1)) = some (nestStep (1 + (i : Nat)) st l) := by
  have hlt : i < ls.length := (List.getElem?_eq_some_iff.mp hi).1
  have et : ls.take (i + 1) = ls.take i ++ [l] := by rw [List.take_add_one, hi]; rfl
  have h2 := h
  rw [← List.take_append_drop (i + 1) ls] at h2
  obtain ⟨st1, h3, _⟩ := nestGo_pre h2
  rw [et, nestGo_app, hs] at h3 ⊢
  simp only [Option.bind_some] at h3 ⊢
  split at h3
  · rename_i hm
    refine ⟨hm, ?_⟩
    rw [if_pos hm, List.length_take, Nat.min_eq_left (Nat.le_of_lt hlt)]
  · cases h3
end Tl
set_option maxHeartbeats 2000000
namespace Tl
open PySem PySem.Spec PyProof.Rows L2
/-! ### names of defs and their calls -/
def roomsD (pg : Pg) : List (Key × D) := pg.map fun o => ((.inr o.name : Key), D.int (o.ps.length : Nat))
def roomOf (pg : Pg) (f : Str) : Option Nat := (pg.find? fun o => decide (o.name = f)).map fun o => o.ps.length
theorem rooms_val : ∀ {pg : Pg} {f : Str}, valD (roomsD pg) (.inr f) = (roomOf pg f).map fun n => D.int (n : Nat)
  | [], f => rfl
  | o :: t, f => by
    unfold roomsD roomOf
    rw [List.map_cons, List.find?_cons]
    by_cases e : o.name = f
    · rw [valD_pos (by rw [e]), decide_eq_true e]
      rfl
    · rw [valD_neg (fun q => e (Sum.inr.inj q)), decide_eq_false e]
      exact rooms_val (pg := t)
theorem room_none {pg : Pg} {f : Str} (h : f ∉ pg.map (·.name)) : roomOf pg f = none := by
  unfold roomOf
  rw [Option.map_eq_none_iff, List.find?_eq_none]
  intro o ho q
  exact h (List.mem_map.mpr ⟨o, ho, by simpa using q⟩)
theorem rooms_put {pg : Pg} {o : Df} (h : o.name ∉ pg.map (·.name)) : putM (roomsD pg) (.inr o.name) (.int (o.ps.length : Nat)) = roomsD (pg ++ [o]) := by
  have hv : valD (roomsD pg) (.inr o.name) = none := by rw [rooms_val, room_none h]; rfl
  unfold putM
  rw [if_neg]
  · unfold roomsD
    rw [List.map_append]
    rfl
  · rw [Bool.not_eq_true, List.any_eq_false]
    unfold valD at hv
    rw [Option.map_eq_none_iff, List.find?_eq_none] at hv
    exact hv
end Tl
set_option maxHeartbeats 2000000
namespace Tl
open PySem PySem.Spec PyProof.Rows L2
/-! ### lines of a text -/
def lineEnd : Str := "\n"
theorem join_free {s : Nat} (hs : s ∉ cds blank) : ∀ {ws : List Str}, (∀ w ∈ ws, s ∉ cds w) → s ∉ cds (Txt.join blank ws)
  | [], _ => by rw [join_eq]; exact fun q => by cases q
  | w :: t, h => by
    have i1 := join_free hs (ws := t) fun x hx => h x (List.mem_cons_of_mem _ hx)
    by_cases ht : t = []
    · subst ht
      rw [tjoin_one]
      exact h w (List.mem_cons_self ..)
    · rw [join_cons ht, cds_app, cds_app]
      intro q
      rcases List.mem_append.mp q with q | q
      · rcases List.mem_append.mp q with q | q
        · exact h w (List.mem_cons_self ..) q
        · exact hs q
      · exact i1 q
theorem line_free {l : Lin} (h : l.ok) : 10 ∉ cds l.txt := join_free (by decide +kernel) fun w hw => ((lin_wd h).1 w hw).2.2
theorem joinL_len (ws : List Str) : (Txt.join lineEnd ws).length ≤ (ws.map (·.length)).sum + ws.length := by
  rw [TL.join_eq]
  have := StrLaws.join_length_le lineEnd ws
  have h1 : lineEnd.length = 1 := by decide +kernel
  rw [h1] at this
  omega
theorem text_len {ls : List Lin} (h : ∀ l ∈ ls, l.ok) : (Txt.join lineEnd (ls.map Lin.txt)).length ≤ 10001 * ls.length := by
  have h1 := joinL_len (ls.map Lin.txt)
  have h2 := sum_le_mul (k := 10000) (ws := ls.map Lin.txt) fun w hw => by
    obtain ⟨l, hl, rfl⟩ := List.mem_map.mp hw
    exact lin_len (h l hl)
  rw [List.length_map] at h1 h2
  omega
end Tl
set_option maxHeartbeats 2000000
namespace Tl
open PySem PySem.Spec PyProof.Rows L2
/-! ### a lane alone: mirrors -/
inductive Ew where
  | done | outside | nought | tired | deep
deriving DecidableEq
def Ew.s : Ew → Str
  | .done => "done" | .outside => "outside" | .nought => "nought" | .tired => "tired" | .deep => "deep"
structure Th where
  put : Bool
  place : Int
  line : Int
def Th.d (t : Th) : D := .tup [.str (wS t.put), .int t.place, .int t.line]
abbrev Nms := List (Str × Int)
abbrev Pus := List (Int × Int)
def pusD (ns : Pus) : List (Key × D) := ns.map fun p => (.inl p.1, .int p.2)
/-! an expression's number: the places read, and the number or how the lane ends -/
/-! the walker's state -/
structure Fa where
  names : Nms
  last : Int
  taker : Str
inductive Wy where
  | df | wh | iff
deriving DecidableEq
def Wy.s : Wy → Str
  | .df => "def" | .wh => "while" | .iff => "if"
structure Ba where
  body : List Sm
  at_ : Nat
  why : Wy
/-- stacks: the newest first -/
structure Ws where
  told : List Int
  steps : Nat
  fin : Option (Ew × Int)
  brought : List (Int × Int)
  tcs : List (List Th)
  pus : List Pus
  lines : List Int
  boxes : List Int
  wait : Option Sm
  frs : List Fa
  bks : List Ba
def Ws.names (s : Ws) : Nms := match s.frs with
  | [] => []
  | f :: _ => f.names
def Ws.next (s : Ws) : Ws := match s.bks with
  | [] => s
  | b :: r => { s with bks := { b with at_ := b.at_ + 1 } :: r }
def Ws.push (s : Ws) (b : List Sm) (y : Wy) : Ws := { s with bks := ⟨b, 0, y⟩ :: s.bks }
end Tl
set_option maxHeartbeats 2000000
namespace Tl
open PySem PySem.Spec PyProof.Rows L2
/-! ### == of lists of dicts of whole numbers that hold the same -/
/-! in the tree layer -/
def isPus (M : MH) (l : List D) (ks : List Pus) : Prop := Paired (fun d (k : Pus) => ∃ c, d = .ref c ∧ M c = some (.dK (pusD k)) ∧ (k.map (·.1)).Nodup) l ks
theorem isPus.get {M : MH} : ∀ {l : List D} {ks : List Pus} {j : Nat} {d : D}, isPus M l ks → l[j]? = some d → ∃ k c, ks[j]? = some k ∧ d = .ref c ∧ M c = some (.dK (pusD k)) ∧ (k.map (·.1)).Nodup := by
  intro l ks j d h
  unfold isPus at h
  induction h generalizing j with
  | nil => intro e; cases e
  | @cons a b as bs h1 t ih =>
    intro e
    cases j with
    | zero =>
      rw [List.getElem?_cons_zero] at e
      cases e
      obtain ⟨c, e1, e2, e3⟩ := h1
      exact ⟨b, c, rfl, e1, e2, e3⟩
    | succ j =>
      rw [List.getElem?_cons_succ] at e
      exact ih e
theorem isPus.length {M : MH} {l : List D} {ks : List Pus} (h : isPus M l ks) : l.length = ks.length := Paired.length h
end Tl
set_option maxHeartbeats 2000000
namespace Tl
open PySem PySem.Spec PyProof.Rows L2
/-! ### a law whose def calls repr: what it promises where the law's caller stands (no repr is under way) -/
structure FnAt (P : Program) (w : World) (K : PySem.W.Frag) (mg : Str → Option Value) (base : Heap) (f : Addr) (ps : List Str) (fd : FuncData) (sp : Sp) : Prop where
  run : ∀ (s : Shared) (H : Hp) (args : Args) (us : List Value) (vs : List V) (Q : VK) (E : XK), Env0 P w K mg base callerA [] s H → BindsTo s fd args (ps.zip us) → Vals vs us → sp vs H Q E →
    codeAny (model P w) callerA (.call (.ref f) args) (CR CX0 [] P w H s Q E) s
theorem FnAt.of {P : Program} {w : World} {K : PySem.W.Frag} {mg : Str → Option Value} {base : Heap} {k : Nat} {x qual : Str} {params : Arguments} {body : List Stmt} {scope : Scope} {f : Addr} {fd : FuncData} {N ps : List Str} {sp : Sp}
    (F : FunD K x qual params body scope [] [] f fd) (S : FnScope N ps scope) (hr : Room (k + 1) callerA) (len : ∀ vs H Q E, sp vs H Q E → vs.length = ps.length)
    (hbody : ∀ (cdv : Value) (s : Shared) (H : Hp) (vs : List V) (Q : VK) (E : XK), Room k (callerA.deeper (envOfC qual scope s.heap.objs.size f cdv)) → sp vs H Q E →
      ∃ t, PSs (cxOf CX0 P w K mg base N qual scope f cdv callerA [] s H E) body t ∧ t { nx := fun _ H' => Q .non H', rt := Q } (L2.start N vs) H) : FnAt P w K mg base f ps fd sp := by
  obtain ⟨oc, od, dV, kV, doc, pm, an, cdv, ct, osl, rfl, lk, hcd, _, _⟩ := F.ex
  refine ⟨fun s H args us vs Q E e0 hb r hsp => ?_⟩
  have hl := len _ _ _ _ hsp
  have KX : K.In s.heap := e0.mod.kin.keeps fun b o e => (e0.bs b o e).1
  have lim : s.heap.NoLimit := e0.mod.nolimit.keeps fun b o e => (e0.bs b o e).1
  refine codeAny_call_function hr.depth (KX _ _ lk) rfl S.co S.gen rfl (PySem.W.codeRec_of KX hcd) (hb _ _ _ _ ?_)
  refine wpAny_newFunctionEnv_cells S.kind (fun ⟨n, v⟩ hy => ?_) fun env he s1 hx => ?_
  · rcases S.par n (List.of_mem_zip hy).1 with q | q
    · exact .inl q
    · exact .inr ⟨q, PySem.W.cellsFrom_some _ _ _ (.inl q)⟩
  subst he
  refine ⟨lim.keeps hx.toInCall.keep, codeAny_func ?_⟩
  obtain ⟨t, ht, hq⟩ := hbody cdv s H vs Q E (hr.deeper _) hsp
  refine wpAny_mono (ht.run [] s1 (L2.start N vs) H _ (inv_start S hr.hd e0 hl r hx) hq) (fun fl s' hs => ?_) fun e s' hs => hs
  cases fl with
  | ret u => obtain ⟨v, σ', H', J, rv, q⟩ := hs; exact ⟨v, H', J.os, J.bare, J.base, J.hok, rv, q⟩
  | next => obtain ⟨σ', H', J, q⟩ := hs; exact ⟨V.non, H', J.os, J.bare, J.base, J.hok, rfl, q⟩
  | brk => obtain ⟨_, _, _, q⟩ := hs; exact False.elim q
  | cont => obtain ⟨_, _, _, q⟩ := hs; exact False.elim q
/-- the script's abstract heap: nothing is tracked but, at most, the script -/
theorem law_at {P : Program} {w : World} {K : PySem.W.Frag} {mg mb : Str → Option Value} {fa a : Addr} {fd : FuncData} {x : Str} {sp : Sp} {s₁ : Shared} {vs : List Value} {ns : List Int}
    (KX : K.In s₁.heap) (hns : s₁.heap.Ns mainGlobals mg) (hb : s₁.heap.Ns builtinsNs mb) (hbb : ∀ x : Str, x ≠ "__name__" → mb x = bootBuiltins x) (hlim : s₁.heap.NoLimit) (hg : s₁.gens = #[])
    (ha : s₁.heap.get? a = some { cls := .type "list", data := .seq vs.toArray }) (hi : IntsAre vs ns) (hl : ns.length ≤ sizeLine)
    (F : ∀ base : Heap, K.In base → base.Ns mainGlobals mg → FnAt P w K mg base fa [x] fd sp) (hbind : ∀ (s : Shared) (u : Value), BindsTo s fd ⟨[u], []⟩ [(x, u)])
    (hsp : ∀ H : Hp, Only H → SqL K H a (ns.map V.int) → sp [.ref a] H (fun v _ => v = .bl true) fun _ _ _ => False) :
    codeAny (model P w) callerA (.call (.ref fa) ⟨[.ref a], []⟩) (fun r s' => r = .ok (.ret (.bool true)) ∧ OldK s₁.heap s'.heap ∧ s'.os = s₁.os ∧ AllBare s'.gens) s₁ := by
  have rv := vals_ints hi
  have go : ∀ H : Hp, Only H → SqL K H a (ns.map V.int) → HOk P w H s₁.heap → (∀ b, H b ≠ none → b = a) → (H a ≠ none → K.lookup a = none) →
      codeAny (model P w) callerA (.call (.ref fa) ⟨[.ref a], []⟩) (fun r s' => r = .ok (.ret (.bool true)) ∧ OldK s₁.heap s'.heap ∧ s'.os = s₁.os ∧ AllBare s'.gens) s₁ := by
    intro H hO hS hok hA hK
    have untr : ∀ b, b ≠ a → H b = none := fun b hne => by
      cases q : H b with
      | none => rfl
      | some u => exact absurd (hA b (by rw [q]; exact Option.some_ne_none u)) hne
    have dict0 : ∀ {b : Addr} {o : Obj} {es : Array DictEntry} {ep : Nat}, s₁.heap.get? b = some o → o.data = .dict es ep → H b = none := fun {b o es ep} e d => by
      by_cases hne : b = a
      · subst hne
        rw [ha] at e
        cases e
        exact nomatch (show Data.seq vs.toArray _ = Data.dict es ep from d)
      · exact untr b hne
    have nsH : ∀ {b : Addr} {m : Str → Option Value}, s₁.heap.Ns b m → (hidT s₁.heap H).Ns b m := fun {b m} ⟨o, es, ep, e, d, r⟩ => ⟨o, es, ep, hidT_get e (dict0 e d), d, r⟩
    have KH : K.In (hidT s₁.heap H) := fun b o e => hidT_get (KX b o e) (by
      by_cases hne : b = a
      · subst hne
        cases q : H b with
        | none => rfl
        | some u => rw [hK (by rw [q]; exact Option.some_ne_none u)] at e; cases e
      · exact untr b hne)
    have md : Mod K mg (hidT s₁.heap H) := ⟨KH, nsH hns, ⟨mb, nsH hb, hbb⟩, let ⟨mc, h1, h2⟩ := hlim; ⟨mc, nsH h1, h2⟩⟩
    have none_in : ∀ {b : Addr}, b ∈ ([] : List Addr) → False := fun z => by cases z
    have e0 : Env0 P w K mg (hidT s₁.heap H) callerA [] s₁ H := ⟨rfl, md, fun b o e => of_hidT e, Nat.le_of_eq (hidT_size _ _), trivial, fun b hb => (none_in hb).elim, hok, .of_eq hg⟩
    refine codeAny_mono ((F _ KH (nsH hns)).run s₁ H ⟨[.ref a], []⟩ [.ref a] [.ref a] _ _ e0 (hbind s₁ (.ref a)) (.cons rfl .nil) (hsp H hO hS)) fun r s' h => ?_
    match r, h with
    | .error e, h => exact h.elim
    | .ok .next, h => exact False.elim h
    | .ok .brk, h => exact False.elim h
    | .ok .cont, h => exact False.elim h
    | .ok (.ret u), ⟨v, H', os, bare, un, hok', r', q⟩ =>
      have q' : v = .bl true := q
      subst q'
      obtain rfl : u = Value.bool true := r'
      refine ⟨rfl, OldK.of_keep fun b o e => ?_, os, bare⟩
      cases q : H b with
      | none => exact un.keep b o e q (fun z => none_in z) (fun z => by cases z)
      | some u =>
        rcases hO b with z | ⟨ob, xs, z⟩
        · rw [q] at z; cases z
        · obtain ⟨e1, _⟩ := hok b _ z
          obtain ⟨e2, _⟩ := hok' b _ (un.frzs b ob _ z)
          rw [e] at e1
          cases e1
          exact e2
  cases hk : K.lookup a with
  | some o =>
    have e := KX a o hk
    rw [ha] at e
    cases e
    exact go (fun _ => none) (fun _ => .inl rfl) (.inr ⟨_, vs.toArray, _, hk, rfl, rfl, rfl, by rw [List.size_toArray, hi.length]; exact hl, by simpa using rv⟩) (fun b u z => nomatch (show (none : Option HO) = some u from z)) (fun b z => absurd rfl z) fun z => absurd rfl z
  | none =>
    have at_a : (fun b => if b = a then some (HO.frz { cls := .type "list", data := .seq vs.toArray } (.lst (ns.map V.int))) else none) a = some (HO.frz { cls := .type "list", data := .seq vs.toArray } (.lst (ns.map V.int))) := if_pos rfl
    refine go (fun b => if b = a then some (.frz { cls := .type "list", data := .seq vs.toArray } (.lst (ns.map V.int))) else none) (fun b => ?_) (.inl (.inr ⟨_, at_a⟩)) (fun b u z => ?_) (fun b z => ?_) fun _ => hk
    · by_cases hb : b = a
      · exact .inr ⟨_, _, if_pos hb⟩
      · exact .inl (if_neg hb)
    · by_cases hb : b = a
      · subst hb
        rw [at_a] at z
        cases z
        exact ⟨ha, by rw [List.length_map]; exact hl, vs, _, rv, ha⟩
      · exact nomatch (if_neg hb).symm.trans z
    · by_cases hb : b = a
      · exact hb
      · exact absurd (if_neg hb) z
/-- the goal that the head leaves, for such a law -/
theorem walk_at {l : PySem.W.OpenLaw} {n : Nat} {q : Program} {loose : List Str} {XP : (Str → Option Value) → Heap → Prop} {YP : World → Heap → Prop} {d : DefRec} {x : Str}
    (hn : l.most = some n) (hn2 : n ≤ sizeLine) (hdf : d.params.defaults = [])
    (F : ∀ (w : World) (mg : Str → Option Value) (fa : Addr) (h : Heap), YP w h → h.Ns mainGlobals mg → mg d.name = some (.ref fa) →
      ∃ (K : PySem.W.Frag) (fd : FuncData) (sp : Sp), K.In h ∧ (∀ (s : Shared) (u : Value), BindsTo s fd ⟨[u], []⟩ [(x, u)]) ∧
        (∀ (H : Hp) (a : Addr) (ns : List Int), ns.length ≤ n → Only H → SqL K H a (ns.map V.int) → sp [.ref a] H (fun v _ => v = .bl true) fun _ _ _ => False) ∧
        ∀ base : Heap, K.In base → base.Ns mainGlobals mg → FnAt l.prog w K mg base fa [x] fd sp) :
    PySem.W.WalkO q loose XP YP l.row.toRowW d [] (fun f vs => PySem.call f vs) := by
  refine Att.attach_call hn hdf fun w s₀ s₁ mg mb fa o pm cd doc a vs ns G Y ho hd hcd hmg hobj hints hlen hg => ?_
  obtain ⟨K, fd, sp, KX, hb, hsp, hF⟩ := F w mg fa _ Y G.T.g hmg
  exact law_at KX G.T.g G.T.b G.T.builtins G.T.nolimit hg hobj hints (Nat.le_trans hlen hn2) hF hb fun H hO hS => hsp H a ns hlen hO hS
end Tl
set_option maxHeartbeats 2000000
namespace Tl
open PySem PySem.Spec PyProof.Rows L2
/-! ### repr of a list -/
/-! the law's def, where its caller stands -/
end Tl
set_option maxHeartbeats 2000000
namespace Tl
open PySem PySem.Spec PyProof.Rows L2
/-! ### {"a": e, ..}: a dict by texts with any values -/
end Tl
set_option maxHeartbeats 2000000
namespace Tl
open PySem PySem.Spec PyProof.Rows L2
/-! ### d.update(e): both are dicts by numbers and texts -/
end Tl
set_option maxHeartbeats 2000000
namespace Tl
open PySem PySem.Spec PyProof.Rows L2
/-! ### readings: a dict of computed values, a dict taken into another one -/
end Tl
set_option maxHeartbeats 2000000
namespace Tl
open PySem PySem.Spec PyProof.Rows L2
/-! ### an error that leaves a list comprehension (its element a call) -/
section
variable {B h h' : Heap} {l : List Env} {a C L : Addr} {Z : Obj → Prop}
theorem hid_get {b : Addr} (hb : b ≠ C) : (PySem.W.hideAll h [C]).get? b = h.get? b := by
  cases q : h.get? b with
  | some o => exact PySem.W.hideAll_get [C] q (by simpa using hb)
  | none =>
    cases q2 : (PySem.W.hideAll h [C]).get? b with
    | none => rfl
    | some o =>
      have z := PySem.W.of_hideAll [C] q2
      rw [q] at z
      cases z
theorem hid_self : (PySem.W.hideAll h [C]).get? C = none := PySem.W.hideAll_none [C] (List.mem_singleton.mpr rfl)
theorem hid_none {b : Addr} (e : h.get? b = none) : (PySem.W.hideAll h [C]).get? b = none := by
  by_cases q : b = C
  · rw [q]; exact hid_self
  · rw [hid_get q]; exact e
theorem funFrames_less (k : ∀ b, B.get? b = none → (PySem.W.hideAll B [C]).get? b = none) : ∀ {l : List Env}, h.FunFrames B l → h.FunFrames (PySem.W.hideAll B [C]) l
  | [], _ => trivial
  | _ :: _, ⟨hk, ⟨L', o, hf, hb, ho, hd⟩, hr⟩ => ⟨hk, ⟨L', o, hf, k _ hb, ho, hd⟩, funFrames_less k hr⟩
/-- held, with the block's names let go -/
theorem held_less {m m' : Str → Option Value} (hh : HandSPX.HeldZ B l a Z L h) (hn : h.Ns C m) (hn' : h'.Ns C m') (hs : Heap.SameBut C h h') : HandSPX.HeldZ (PySem.W.hideAll B [C]) l a Z L h' := by
  obtain ⟨b1, b0, f1, oe, vs, T, oT, ts, he, hz, hd, h1, hnT, hTe, hT, hdT, h3⟩ := hh
  obtain ⟨oC, es, ep, hoC, hdC, _⟩ := hn
  have ha : a ≠ C := fun q => by rw [q, hoC] at he; cases he; rw [hdC] at hd; cases hd
  have hTC : T ≠ C := fun q => by rw [q, hoC] at hT; cases hT; rw [hdC] at hdT; cases hdT
  refine ⟨fun b o hb => ?_, hid_none b0, funFrames_less (fun b e => hid_none e) (Heap.FunFrames.sameBut hs hn' f1), oe, vs, T, oT, ts, (hs.2 a ha).trans he, hz, hd, h1, hid_none hnT, hTe, (hs.2 T hTC).trans hT, hdT, h3⟩
  have hbC : b ≠ C := fun q => by rw [q, hid_self] at hb; cases hb
  rw [hid_get hbC] at hb
  exact (hs.2 b hbC).trans (b1 b o hb)
end
/-- noted by the def's frame, whatever flew -/
theorem sky_held {M : Model} {A : Around} {E₁ : Value → Shared → Prop} {env : Env} {outer : List Env} {L a : Addr} {Z : Obj → Prop} {B : Heap} {s : Shared} {Q : Unit → Shared → Prop} (hZ : HandSPX.Steady Z) (hfr : A.frames = some (env :: outer)) (hf : env.frame = some L)
    (x : Sky B (env :: outer) a Z L s.heap) (hQ : ∀ h', HandSPX.HeldZ B (env :: outer) a Z L h' → s.heap.UpToSlots h' → Q () { s with heap := h' }) : wpAny M A (noteFrame (.ref a) env) Q E₁ s := by
  rcases x with ⟨hB, hn, hl, oe, vs, he, hz, hd, h1⟩ | fl | hh
  · exact HandSPX.look_newZ hZ hfr hl hf he hB hn hd h1 hz hQ
  · exact HandSPX.looks_onZ hZ hfr hf fl hQ
  · exact HandSPX.againZ hf hh.2.2.2 (hQ s.heap hh (Heap.UpToSlots.refl _))
/-- what X knows of a block's names -/
def BlkAt (X : Cx) (C : Addr) : Prop := C ≠ X.env.locals ∧ C ∉ X.fs ∧ (C ∈ X.ex ∨ X.s_0.heap.objs.size ≤ C) ∧ (∀ x c, X.env.cells.lookup x = some c → c ≠ C) ∧ ∀ p ∈ X.pn, p.1 ≠ C
theorem comp_fails {X : Cx} {E : XK} {ce : Env} {u : Value} {s : Shared} {m : Str → Option Value} (tk : Takes X (fun cls d _ H => E cls d H)) (hs : X.stack = X.env :: X.outer) (hf : X.env.frame = some X.env.locals) (hce : ce.frame = X.env.frame)
    (hC : BlkAt X ce.locals) (hn : s.heap.Ns ce.locals m) (x : XE X (fun cls d _ H => E cls d H ∧ H ce.locals = none) u s) : notedBy (model X.prog X.w) X.A ce (CompFails (model X.prog X.w) X.A X.xe ce) u s := by
  obtain ⟨a, B, sI, pins, σ, H, cls, d, rfl, I, nb, up, sky, na, os, ag, hE, hHC⟩ := x
  have hfr : X.A.frames = some (X.env :: X.outer) := by rw [I.ok.frames, hs]
  show wpAny _ _ (noteFrame (.ref a) ce) _ _ s
  rw [noteFrame_env _ hce]
  rw [hs] at sky
  refine sky_held Zc.steady hfr hf sky fun h1 hh1 up1 => ?_
  have hn1 : h1.Ns ce.locals m := up1.ns hn
  refine ⟨m, hn1, fun h2 m2 hn2 sb => ?_⟩
  have hh2 := held_less hh1 hn1 hn2 sb
  have hh2' := hh2
  obtain ⟨_, _, _, oe, vs, T, oT, ts, he, hz, hd, hv1, _, _, _, _, _⟩ := hh2'
  unfold PySem.passOn
  refine wpAny_bind (wpAny_field he hd hv1 ?_)
  rw [if_neg (show ¬ ((Value.ref T == Value.none) = true) from by simp)]
  rw [hce, hf]
  refine wpAny_bind (HandSPX.setFlight_onZ hh2 fun h3 hh3 up3 => wpAny_throw ?_)
  refine tk _ _ ⟨a, PySem.W.hideAll B [ce.locals], { sI with heap := PySem.W.hideAll sI.heap [ce.locals] }, [], σ, H, cls, d, rfl, ?_, fun b o e hb => ?_, fun b o e hnf => ?_, ?_, na, os, ag, hE⟩
  · obtain ⟨f1, f2, f3, f4, f5⟩ := hC
    have I' : Inv X [] σ H sI := I.pins_of fun p hp => nomatch hp
    exact I'.turned (t' := sI.toks) (it := ce.locals) (fun b o hb e => (hid_get hb).trans e) hHC f1 f3 f4 fun p hp => f5 p (by rw [List.append_nil] at hp; exact hp)
  · have hbC : b ≠ ce.locals := fun q => by rw [q, hid_self] at e; cases e
    rw [hid_get hbC] at e ⊢
    exact nb b o e hb
  · have hbC : b ≠ ce.locals := fun q => by rw [q, hid_self] at e; cases e
    have e : sI.heap.get? b = some o := by rw [← hid_get hbC]; exact e
    obtain ⟨sl, q1⟩ := up b o e hnf
    obtain ⟨sl1, q2⟩ := up1 b _ q1 hnf
    obtain ⟨sl3, q3⟩ := up3 b _ ((sb.2 b hbC).trans q2) hnf
    exact ⟨sl3, q3⟩
  · rw [hs]
    exact .inr (.inr hh3)
/-- a block that lets errors go to xe -/
abbrev blkX (X : Cx) (s : Shared) (H : Hp) (scope : Scope) (cenv : Env) (fp : List Addr) (xe : Value → Shared → Prop) : Cx := { X.blk s H scope cenv fp with xe := xe }
theorem inv_xe {X : Cx} {pins : List (Addr × Obj)} {σ : L2.St} {H : Hp} {s : Shared} (f : Value → Shared → Prop) (I : Inv X pins σ H s) : Inv { X with xe := f } pins σ H s := by
  obtain ⟨⟨o1, o2, o3, o4, o5, o6, o7, o8, o9, o10, o11, o12, o13, o14, o15, o16, o17, o18⟩, i2, i3, i4, i5, i6, i7, i8, i9, i10, i11⟩ := I
  exact ⟨⟨o1, o2, o3, o4, o5, o6, o7, o8, o9, o10, o11, o12, o13, o14, o15, o16, o17, o18⟩, i2, i3, i4, i5, i6, i7, i8, i9, i10, i11⟩
theorem inv_ex {X : Cx} {pins : List (Addr × Obj)} {σ : L2.St} {H : Hp} {s : Shared} {f : Value → Shared → Prop} (I : Inv { X with xe := f } pins σ H s) : Inv X pins σ H s := by
  obtain ⟨⟨o1, o2, o3, o4, o5, o6, o7, o8, o9, o10, o11, o12, o13, o14, o15, o16, o17, o18⟩, i2, i3, i4, i5, i6, i7, i8, i9, i10, i11⟩ := I
  exact ⟨⟨o1, o2, o3, o4, o5, o6, o7, o8, o9, o10, o11, o12, o13, o14, o15, o16, o17, o18⟩, i2, i3, i4, i5, i6, i7, i8, i9, i10, i11⟩
section
variable {X : Cx}
/-- an error of a call in the block, as the def owes it -/
theorem blk_fails {E : XK} {scope : Scope} {ce : Env} {fp : List Addr} {pins pins' : List (Addr × Obj)} {σ σ' : L2.St} {H3 H' : Hp} {s3 s' s'' : Shared} {u : Value} (tk : Takes X (fun cls d _ H => E cls d H)) (hs : X.stack = X.env :: X.outer) (hf : X.env.frame = some X.env.locals)
    (I3 : Inv X pins σ H3 s3) (f3 : ∀ b ∈ fp, FpOk X pins H3 b) (hce : ce.frame = X.env.frame) (hC : FpOk X pins H3 ce.locals) (I' : Inv (X.blk s3 H3 scope ce fp) pins' σ' H' s') (c : L2.CX X.prog X.w X.stack H' s' E u s'') :
    notedBy (model X.prog X.w) X.A ce (CompFails (model X.prog X.w) X.A X.xe ce) u s'' := by
  have nC : H' ce.locals = none := I'.free
  obtain ⟨m, hn, _⟩ := I'.loc
  have hn : s'.heap.Ns ce.locals m := hn
  obtain ⟨oC, es, ep, eC, hdC, rC⟩ := hn
  have hfC : ce.locals ∉ frs X.stack := fun h => by
    rw [hs] at h
    obtain ⟨e, he, q⟩ := List.mem_filterMap.mp h
    rcases List.mem_cons.mp he with rfl | he
    · rw [hf] at q
      exact hC.2.1 (Option.some.inj q).symm
    · exact hC.2.2.1 (List.mem_filterMap.mpr ⟨e, he, q⟩)
  have I7 : Inv X pins σ H' s' := I3.call' (ch := fp) I'.os I'.base I'.hok I'.bare fun b hb => ⟨(f3 b hb).2.2.2.1, (f3 b hb).2.1, (f3 b hb).2.2.2.2.1, (f3 b hb).2.2.2.2.2⟩
  obtain ⟨a, B, H2, cls, d, rfl, fl, hok, ub, na, os, ag, hE⟩ := c
  refine comp_fails tk hs hf hce ⟨hC.2.1, hC.2.2.1, hC.2.2.2.1, hC.2.2.2.2.1, fun p hp => hC.2.2.2.2.2 p (List.mem_append_left _ hp)⟩ (m := m) ⟨oC, es, ep, fl.1 _ _ (ub.keep _ _ eC nC hfC), hdC, rC⟩ ?_
  exact XE.of_call (E := fun cls d H => E cls d H ∧ H ce.locals = none) (W := fun cls d _ H => E cls d H ∧ H ce.locals = none) I7 (fun _ _ _ h => h) ⟨a, B, H2, cls, d, rfl, fl, hok, ub, na, os, ag, hE, ub.free _ _ eC nC⟩
/-- [elt for target in iter], the element a call that may raise: the error goes on in the def's frame. Beside L2.pe_lc: errors, no tests. -/
theorem pe_lcX {E : XK} {elt tg iter : Expr} {scope : Scope} {own : List (Str × Nat)} {pos : Pos} {wi : TI} {g : TG} {te : TE} (tk : Takes X (fun cls d _ H => E cls d H)) (hst : X.stack = X.env :: X.outer) (hfr : X.env.frame = some X.env.locals)
    (hc : X.calm = true) (hN : X.N.Nodup) (hi : L2.PI X tg iter wi) (ok : L2.BlkOk X.N X.env.scope scope own)
    (hg : ∀ (s : Shared) (H : Hp) (C : Addr) (cl : List (Str × Addr)) (fp : List Addr), PG (X.blk s H scope (compEnvC scope cl C X.env) fp) tg g)
    (he : ∀ (s : Shared) (H : Hp) (C : Addr) (cl : List (Str × Addr)) (fp : List Addr) (xe : Value → Shared → Prop), Passes (L2.CX X.prog X.w) (blkX X s H scope (compEnvC scope cl C X.env) fp xe) E → PE (blkX X s H scope (compEnvC scope cl C X.env) fp xe) elt te)
    (hs : ∀ x, foldedSetIterable iter X.env x = pure x := by intro _; rfl) : PE X (.ListComp elt [⟨tg, iter, [], 0⟩] scope pos) (tLc wi g tYes te (own.map (·.2))) := by
  refine ⟨fun pins s σ H Q I h => ?_⟩
  rw [eval_ListComp]
  refine comprehension_at (use := none) rfl hs (closure_ok fun y hy e => ?_) ok.kind (fun y hy e => by rw [ok.uniq y hy, e]) (thn (hi.run pins s σ H _ I h) fun xv s1 hx => thn hx fun itv s2 h2 => ?_)
  · rcases ok.free y hy e with k | k
    · exact I.ok.has _ (.inl k)
    · exact I.ok.has _ (.inr k)
  obtain ⟨it, fp, tn, J, H2, e, I2, T, st2, f2, q⟩ := h2
  subst e
  refine wpAny_newObj_type (newEnv_comp ?_) (by show 0 ≤ sizeLine; decide)
  -- the list that is made: D; the block's names: C
  generalize hD : s2.heap.objs.size = D
  obtain ⟨W, ⟨m0, w0⟩, turn⟩ := q D (I2.hok.fresh (Nat.le_of_eq hD))
  generalize hs3 : ({ s2 with heap := s2.heap.push { cls := .type "list", data := .seq ([] : List Value).toArray } } : Shared) = s3
  generalize hH3 : upd H2 D (.lst []) = H3 at w0
  have h3 : s3.heap = s2.heap.push { cls := .type "list", data := .seq ([] : List Value).toArray } := by rw [← hs3]
  have I3 : Inv X pins σ H3 s3 := by
    rw [← hs3, ← hH3]
    refine I2.laid (t' := s2.toks) (fun b o e => Heap.get?_push_of_some _ e) (Nat.le_of_eq hD) ⟨Nat.zero_le _, [], 0, .nil, ?_⟩
    rw [← hD]
    exact Heap.get?_push_size _ rfl
  have f3 : ∀ b ∈ fp, FpOk X pins H3 b ∧ b < s3.heap.objs.size := fun b hb => by
    obtain ⟨o, e, _⟩ := T.obj _ _ st2 b hb
    have hlt := Heap.lt_size e
    refine ⟨⟨?_, (f2 b hb).2⟩, by rw [h3, Heap.size_push]; exact Nat.lt_succ_of_lt hlt⟩
    rw [← hH3, upd_ne (by rw [← hD]; exact Nat.ne_of_lt hlt)]
    exact (f2 b hb).1
  have I4 := block_start I3 ok hN f3
  have pg := hg s3 H3 s3.heap.objs.size (cellsFrom (s3.heap.objs.size + 1) scope.names (cloFrom X.env.cells scope.names [])) fp
  have pe := he s3 H3 s3.heap.objs.size (cellsFrom (s3.heap.objs.size + 1) scope.names (cloFrom X.env.cells scope.names [])) fp
  show codeAny _ _ (.compStart (.ListComp elt [⟨tg, iter, [], 0⟩] scope pos) 0 (.ref it) (.ref D) (compEnvC scope (cellsFrom (s3.heap.objs.size + 1) scope.names (cloFrom X.env.cells scope.names [])) s3.heap.objs.size X.env))
    (compEnds (model X.prog X.w) X.A X.xe none (EP X pins σ Q) (.ref D) (compEnvC scope (cellsFrom (s3.heap.objs.size + 1) scope.names (cloFrom X.env.cells scope.names [])) s3.heap.objs.size X.env)) { s3 with heap := pushCells (s3.heap.push { cls := .type "dict", data := .dict #[] }) scope.names }
  have hcF : (compEnvC scope (cellsFrom (s3.heap.objs.size + 1) scope.names (cloFrom X.env.cells scope.names [])) s3.heap.objs.size X.env).frame = X.env.frame := rfl
  have hcL : (compEnvC scope (cellsFrom (s3.heap.objs.size + 1) scope.names (cloFrom X.env.cells scope.names [])) s3.heap.objs.size X.env).locals = s3.heap.objs.size := rfl
  generalize compEnvC scope (cellsFrom (s3.heap.objs.size + 1) scope.names (cloFrom X.env.cells scope.names [])) s3.heap.objs.size X.env = ce at I4 pg pe hcF hcL ⊢
  generalize hs4 : ({ s3 with heap := pushCells (s3.heap.push { cls := .type "dict", data := .dict #[] }) scope.names } : Shared) = s4 at I4 ⊢
  have st3 : tn 0 s3.heap := T.keep _ _ _ st2 fun b _ o e => by rw [h3]; exact Heap.get?_push_of_some _ e
  have st4 : tn 0 s4.heap := T.keep _ _ _ st3 fun b _ o e => by rw [← hs4]; exact pushCells_keeps _ _ _ _ (Heap.get?_push_of_some _ e)
  have fpC : ∀ {H' : Hp}, H' ce.locals = none → FpOk X pins H' ce.locals := fun {H'} n => by
    rw [hcL] at n ⊢
    exact I3.fpOk (Nat.le_refl _) n
  -- an error
  have out := pe (notedBy (model X.prog X.w) X.A ce (CompFails (model X.prog X.w) X.A X.xe ce)) fun pb σb Hb sb u s' Ib c =>
    blk_fails tk hst hfr I3 (fun b hb => (f3 b hb).1) hcF (fpC (I3.hok.fresh (by rw [hcL]; exact Nat.le_refl _))) (inv_ex Ib) c
  have stat : ∀ {σ' : L2.St} {H' : Hp} {s' : Shared}, Inv (X.blk s3 H3 scope ce fp) [] σ' H' s' → (∀ b ∈ fp, H' b = none) → ∀ b ∈ fp, FpOk (X.blk s3 H3 scope ce fp) [] H' b := fun {σ' H' s'} I' hn b hb =>
    ⟨hn b hb, (I'.ok.exf b hb).1, I'.ok.exfs b hb, .inl hb, fun x c e => (I'.ok.exf b hb).2 x c e, fun p hp => absurd (show p ∈ ([] : List (Addr × Obj)) ++ [] from hp) (by simp)⟩
  have loop : codeAny (model X.prog X.w) X.A (.compLoop (.ListComp elt [⟨tg, iter, [], 0⟩] scope pos) 0 (.ref it) (.ref D) ce) (compEnds (model X.prog X.w) X.A X.xe none (EP X pins σ Q) (.ref D) ce) s4 := by
    refine compLoop_any (fun n s' => ∃ i H', Inv (X.blk s3 H3 scope ce fp) [] (wipe σ (own.map (·.2))) H' s' ∧ tn i s'.heap ∧ (∀ b ∈ fp, H' b = none) ∧ W i n H') ?_ m0 ⟨0, H3, I4, st4, fun b hb => (f3 b hb).1.1, w0⟩
    rintro n s5 ⟨i, H5, I5, st5, n5, w5⟩
    rcases turn i n H5 w5 with ⟨stop, qq⟩ | ⟨go, Nx, hNx, step⟩
    · refine thnF (T.done (X.blk s3 H3 scope ce fp) rfl rfl rfl hc i [] s5 _ H5 (fun _ _ => False) I5 (stat I5 n5) st5 stop) fun r s6 ⟨hr, I6⟩ => ?_
      subst hr
      have I7 : Inv X pins σ H5 s6 := I3.call' (ch := fp) I6.os I6.base I6.hok I6.bare fun b hb => ⟨(f3 b hb).1.2.2.2.1, (f3 b hb).1.2.1, (f3 b hb).1.2.2.2.2.1, (f3 b hb).1.2.2.2.2.2⟩
      obtain ⟨f0, f1, f2, f3, f4, f5⟩ := fpC (H' := H5) I6.free
      obtain ⟨m, hn, _⟩ := I6.loc
      exact ⟨m, hn, fun h'' sb => ⟨.ref D, H5, I7.turned (t' := s6.toks) (fun b o hb e => (sb.2 b hb).trans e) f0 f1 f3 f4 f5, rfl, qq⟩⟩
    · refine thnF (T.item (X.blk s3 H3 scope ce fp) rfl rfl rfl hc i [] s5 _ H5 (fun _ _ => False) I5 (stat I5 n5) st5 go) fun r s6 ⟨u, hr, h6⟩ => ?_
      subst hr
      refine thnF h6 fun _ s7 ⟨x, H7, I7, r7, y7, st7, n7⟩ => ?_
      refine thnF (pg.run _ s7 _ H7 x u _ (I7.pinned (stat I7 n7) (T.obj _ _ st7)) r7 (step x H7 y7)) fun _ s8 ⟨σ8, H8, I8, hw8, q8⟩ => ?_
      refine thnF ((pts_nil (X := X.blk s3 H3 scope ce fp)).run _ s8 σ8 H8 _ I8 q8) fun b s9 ⟨H9, I9, q9⟩ => ?_
      have fin : ∀ {s' : Shared} {H' : Hp}, Inv (X.blk s3 H3 scope ce fp) ([] ++ pinsAt fp s7.heap) σ8 H' s' → Nx H' → ∃ m, m < n ∧ ∃ i H', Inv (X.blk s3 H3 scope ce fp) [] (wipe σ (own.map (·.2))) H' s' ∧ tn i s'.heap ∧ (∀ b ∈ fp, H' b = none) ∧ W i m H' := fun {s' H'} I' nx => by
        obtain ⟨m', hm, w'⟩ := hNx H' nx
        have pin' : ∀ b ∈ fp, ∀ o, s7.heap.get? b = some o → s'.heap.get? b = some o ∧ H' b = none := fun b hb o e =>
          let z := I'.pin (b, o) (List.mem_append_right _ (List.mem_append_right _ (mem_pinsAt hb e)))
          ⟨z.1, z.2.1⟩
        refine ⟨m', hm, i + 1, H', (I'.unpinned (pins := [])).weak (by rw [← hw8, wipe_length]) (fun j v e => by rw [← hw8] at e; exact (wipe_some e).1), T.keep _ _ _ st7 fun b hb o e => (pin' b hb o e).1, fun b hb => ?_, w'⟩
        obtain ⟨o, e, _⟩ := T.obj _ _ st7 b hb
        exact (pin' b hb o e).2
      cases b with
      | false =>
        simp only [Bool.false_eq_true, if_false] at q9 ⊢
        exact fin I9 q9
      | true =>
        simp only [if_true] at q9 ⊢
        refine thn (out.run _ s9 σ8 H9 _ (inv_xe _ I9) q9) fun z s10 ⟨yv, H10, I10, r10, acc, hD10, hz10, nx⟩ => ?_
        exact app_ok (X := X.blk s3 H3 scope ce fp) (inv_ex I10) hD10 hz10 r10 fun s11 I11 => fin I11 nx
  exact codeAny_compStart_list loop (T.self X.A 0 _ _ _ st4 loop)
end
end Tl
set_option maxHeartbeats 2000000
namespace Tl
open PySem PySem.Spec PyProof.Rows L2
/-! ### the tree reading of a comprehension whose element may raise -/
section
variable {X : Cx} {E : XK} {Et : XT} {elt tg iter : Expr} {scope : Scope} {own : List (Str × Nat)} {pos : Pos} {ti : TIt} {g : TG} {gt : TGt} {te : TEt}
theorem el_hid {G F : Hp} {D : Addr} {vacc : List V} (hG : G D = none) (el : EL X.K G F E Et) : EL X.K (upd G D (.lst vacc)) F E Et := fun cls F' H' M' s r e => by
  obtain ⟨s2, r2⟩ := r.showF hG
  exact el cls _ H' M' (s.trans s2) r2 e
theorem lv_lcX {vs : List Nat} (go : GOwn X.K g gt vs) : ∀ σ H Q, liftE X.K E Et (tLcF ti gt tYe te vs) σ H Q → tLc (liftI X.K E Et ti) g tYes (liftE X.K E Et te) vs σ H Q := by
  rintro σ H Q ⟨G, F, M, τ, Qt, a, h, kk⟩
  refine ⟨G, F, M, τ, _, a, h, fun J I F1 H1 M1 s1 r1 ok q1 => ?_⟩
  obtain ⟨hz, W, w0, ws, turn, done⟩ := q1
  intro Dl hD
  have hG : G Dl = none := r1.freeG hD
  refine ⟨fun i m H => m = I.items.length - i ∧ i ≤ I.items.length ∧ ∃ F' M' vacc acc, Same F1 F' ∧ Rel X.K (upd G Dl (.lst vacc)) F' H M' ∧ Rps X.K F' vacc acc ∧ W i acc M', ⟨_, rfl, Nat.zero_le _, F1, M1, [], [], Same.refl _, r1.newG hD, .nil, w0⟩, ?_⟩
  rintro i m H2 ⟨rfl, hi, F2, M2, vacc, acc, s2, r2, p2, hw⟩
  obtain ⟨hsrc, hlen⟩ := ws i acc M2 hw
  by_cases hlt : i < I.items.length
  · have hx : I.items[i]? = some I.items[i] := List.getElem?_eq_getElem hlt
    refine .inr ⟨ok.go i _ F2 H2 M2 _ s2 r2 hsrc hx, fun H' => ∃ F' M' vacc acc, Same F1 F' ∧ Rel X.K (upd G Dl (.lst vacc)) F' H' M' ∧ Rps X.K F' vacc acc ∧ W (i + 1) acc M', fun H' z => ⟨I.items.length - (i + 1), by omega, rfl, hlt, z⟩, fun v H3 y => ?_⟩
    obtain ⟨F3, s3, r3, p3⟩ := ok.yld i _ F2 H2 M2 _ v H3 s2 r2 hsrc hx y
    have a3 : At X.K E0 Et0 (upd G Dl (.lst vacc)) F3 H3 M2 (wipe σ vs) (wip τ vs) := ⟨r3, sg_wipe (a.sg.mono ((s1.trans s2).trans s3)) vs, .never⟩
    refine go.lift a3 p3 (turn i _ acc M2 hx hw) fun F4 H4 M4 σ4 τ4 s4 a4 e4 q4 => ⟨e4.trans (wipe_wipe σ vs), ?_⟩
    show liftE X.K E Et te σ4 H4 _
    have q4 : te τ4 M4 fun y M5 => W (i + 1) (acc ++ [y]) M5 := q4
    refine ⟨_, F4, M4, τ4, _, ⟨a4.rel, a4.sg, el_hid hG (a.el.mono (((s1.trans s2).trans s3).trans s4))⟩, q4, fun y F6 H6 M6 d s6 r6 p6 q6 => ?_⟩
    exact ⟨vacc, (r6.hid Dl _ upd_same).1, by rw [p2.length]; omega, F6, M6, vacc ++ [y], acc ++ [d], (((s2.trans s3).trans s4).trans s6), r6.putG, (p2.mono ((s3.trans s4).trans s6)).append (.cons p6 .nil), q6⟩
  · have e : i = I.items.length := by omega
    subst e
    refine .inl ⟨ok.stop _ _ F2 H2 M2 s2 r2 hsrc (Nat.le_refl _), ?_⟩
    obtain ⟨s3, r3⟩ := r2.showF hG
    exact kk _ _ _ M2 _ ((s1.trans s2).trans s3) r3 (.lst upd_same (p2.mono s3)) (done acc M2 hw)
theorem q_lcX (tk : Takes X (fun cls d _ H => E cls d H)) (hc : X.calm = true) (hN : X.N.Nodup) (hi : QI X E Et tg iter ti) (ok : L2.BlkOk X.N X.env.scope scope own) (go : GOwn X.K g gt (own.map (·.2)))
    (hg : ∀ (s : Shared) (H : Hp) (C : Addr) (cl : List (Str × Addr)) (fp : List Addr), PG (X.blk s H scope (compEnvC scope cl C X.env) fp) tg g)
    (he : ∀ (s : Shared) (H : Hp) (C : Addr) (cl : List (Str × Addr)) (fp : List Addr) (xe : Value → Shared → Prop), Passes (L2.CX X.prog X.w) (blkX X s H scope (compEnvC scope cl C X.env) fp xe) E → QE (blkX X s H scope (compEnvC scope cl C X.env) fp xe) E Et elt te)
    (hst : X.stack = X.env :: X.outer := by rfl) (hfr : X.env.frame = some X.env.locals := by rfl) (hs : ∀ x, foldedSetIterable iter X.env x = pure x := by intro _; rfl) :
    QE X E Et (.ListComp elt [⟨tg, iter, [], 0⟩] scope pos) (tLcF ti gt tYe te (own.map (·.2))) := PEimp (pe_lcX tk hst hfr hc hN hi ok hg he hs) (lv_lcX go)
end
/-- a call in a block that lets errors out -/
theorem q_callO {X : Cx} {E : XK} {Et : XT} {e : Expr} {es : List Expr} {t : TAt} {pos p : Pos} {sp : SpT} {k : Nat} {x : Str} (Fo : Fn X.prog X.w X.K X.mg X.base (L2.CX X.prog X.w) k x sp) (ps : Passes (L2.CX X.prog X.w) X E) (hr : Room k X.A) (ha : QA X E Et (e :: es) t) (hg : Gl X x := by rfl) (hdb : (x == ("__debug__" : Str)) = false := by decide)
    (he : starEach (e :: es) X.env = (false, eval e X.env) :: starEach es X.env := by rfl) (hpl : (backTo pos (starEach es X.env)).any (·.1) = false := by rfl) : QE X E Et (.Call (.Name x p) (e :: es) [] pos) (tCl sp Et t) := by
  obtain ⟨⟨fd, ps', F1, b⟩, m, kp⟩ := Fo
  exact PEimp (pe_call F1 hr hg m kp b .nil ps ha hdb he hpl) (lv_call fun _ _ h => h)
end Tl
set_option maxHeartbeats 2000000
namespace Tl
open PySem PySem.Spec PyProof.Rows L2
/-! ### programs that are refused -/
theorem take_at {α : Type} {ls : List α} {i : Nat} {l : α} (hi : ls[i]? = some l) : ls.take (i + 1) = ls.take i ++ [l] := by rw [List.take_add_one, hi]; rfl
theorem nest_snoc {ls : List Lin} {i : Nat} {l : Lin} (hi : ls[i]? = some l) {st : Pg × List Opn} (hs : nestGo 1 ([], []) (ls.take i) = some st) (hm : mayLn st.2 l = true) : nestGo 1 ([], []) (ls.take (i + 1)) = some (nestStep (1 + (i : Nat)) st l) := by
  have hlt : i < ls.length := (List.getElem?_eq_some_iff.mp hi).1
  rw [take_at hi, nestGo_app, hs]
  simp only [Option.bind_some]
  rw [if_pos hm, List.length_take, Nat.min_eq_left (Nat.le_of_lt hlt)]
theorem nest_stop {ls : List Lin} {i : Nat} {l : Lin} (hi : ls[i]? = some l) {st : Pg × List Opn} (hs : nestGo 1 ([], []) (ls.take i) = some st) (hm : mayLn st.2 l = false) : nestGo 1 ([], []) ls = none := by
  cases e : nestGo 1 ([], []) ls with
  | none => rfl
  | some r =>
    have := (nest_turn e hi hs).1
    rw [hm] at this
    cases this
theorem room_some {pg : Pg} {f : Str} (h : f ∈ pg.map (·.name)) : ∃ n, roomOf pg f = some n := by
  unfold roomOf
  obtain ⟨o, ho, e⟩ := List.mem_map.mp h
  cases q : pg.find? (fun o => decide (o.name = f)) with
  | none =>
    have := List.find?_eq_none.mp q o ho
    exact absurd (decide_eq_true e) this
  | some o' => exact ⟨_, rfl⟩
/-- whether a call is of a def that is there, and as it wants -/
def callOk (pg : Pg) : Sm → Prop
  | .call _ _ f es => f ≠ "main" ∧ roomOf pg f = some es.length
  | _ => True
instance (pg : Pg) : DecidablePred (callOk pg) := fun s => by unfold callOk; cases s <;> infer_instance
/-- names as they ought to be (parameters are taken to be unlike) -/
def namesIn (pg : Pg) : Prop := (pg.map (·.name)).Nodup ∧ roomOf pg "main" = some 0 ∧ ∀ o ∈ pg, ∀ s ∈ allBd o.body, callOk pg s
instance (pg : Pg) : Decidable (namesIn pg) := by unfold namesIn; infer_instance
end Tl
set_option maxHeartbeats 2000000
namespace Tl
open PySem PySem.Spec PyProof.Rows L2
/-! ### lines that may be none -/
end Tl
set_option maxHeartbeats 2000000
namespace Tl
open PySem PySem.Spec PyProof.Rows L2
/-! ### a program as its text -/
mutual
def shS : Sm → List Str
  | .if1 _ e b => (Lin.iff e).txt :: (shB b ++ [("end" : Str)])
  | .if2 _ e b c => (Lin.iff e).txt :: (shB b ++ ("else" : Str) :: (shB c ++ [("end" : Str)]))
  | .whl _ e b => (Lin.whl e).txt :: (shB b ++ [("end" : Str)])
  | .set l x e => [(Lin.pln (.set l x e)).txt]
  | .put l a b => [(Lin.pln (.put l a b)).txt]
  | .tell l e => [(Lin.pln (.tell l e)).txt]
  | .ret l e => [(Lin.pln (.ret l e)).txt]
  | .stop l => [(Lin.pln (.stop l)).txt]
  | .brk l => [(Lin.pln (.brk l)).txt]
  | .agn l => [(Lin.pln (.agn l)).txt]
  | .meet l => [(Lin.pln (.meet l)).txt]
  | .join l x w e => [(Lin.pln (.join l x w e)).txt]
  | .call l x f es => [(Lin.pln (.call l x f es)).txt]
def shB : List Sm → List Str
  | [] => []
  | s :: t => shS s ++ shB t
end
def shP (pg : Pg) : List Str := pg.flatMap fun o => (Lin.dff o.name o.ps).txt :: (shB o.body ++ [("end" : Str)])
theorem shB_nil : shB [] = [] := by unfold shB; rfl
theorem shB_cons {s : Sm} {t : List Sm} : shB (s :: t) = shS s ++ shB t := by rw [shB]
theorem shB_app : ∀ {a b : List Sm}, shB (a ++ b) = shB a ++ shB b
  | [], b => by rw [shB_nil]; rfl
  | s :: t, b => by rw [List.cons_append, shB_cons, shB_cons, shB_app, List.append_assoc]
theorem shB_one {s : Sm} : shB [s] = shS s := by rw [shB_cons, shB_nil, List.append_nil]
theorem shS_pln {s : Sm} (h : (Lin.pln s).plain) (k : Int) : shS (s.at_ k) = [(Lin.pln s).txt] := by
  cases s <;> first | exact h.elim | (unfold Sm.at_ shS; rfl)
/-- the lines of what is open -/
def opnTx (o : Opn) : List Str := o.l.txt :: (shB o.b ++ match o.c with
  | none => []
  | some c => ("else" : Str) :: shB c)
def allTx (st : Pg × List Opn) : List Str := shP st.1 ++ st.2.reverse.flatMap opnTx
theorem shP_app {a b : Pg} : shP (a ++ b) = shP a ++ shP b := by unfold shP; rw [List.flatMap_append]
theorem add_tx {o : Opn} {s : Sm} : opnTx (o.add s) = opnTx o ++ shS s := by
  unfold Opn.add opnTx
  cases o.c with
  | none => simp [shB_app, shB_one]
  | some c => simp [shB_app, shB_one]
theorem allTx_push {d : Pg} {o : Opn} {p : List Opn} : allTx (d, o :: p) = allTx (d, p) ++ opnTx o := by
  unfold allTx
  simp
theorem step_tx {k : Int} {st : Pg × List Opn} {l : Lin} (hp : l.plain) (ok : pileOk st.2) (hm : mayLn st.2 l = true) : allTx (nestStep k st l) = allTx st ++ [l.txt] := by
  obtain ⟨d, p⟩ := st
  cases l with
  | dff x ps =>
    show allTx (d, _ :: p) = _
    rw [allTx_push]
    unfold opnTx
    simp [shB_nil]
  | iff e =>
    show allTx (d, _ :: p) = _
    rw [allTx_push]
    unfold opnTx
    simp [shB_nil]
  | whl e =>
    show allTx (d, _ :: p) = _
    rw [allTx_push]
    unfold opnTx
    simp [shB_nil]
  | els =>
    cases p with
    | nil => cases hm
    | cons i p =>
      have hm : (i.l.isIf && i.c.isNone) = true := hm
      rw [Bool.and_eq_true] at hm
      show allTx (d, { i with c := some [] } :: p) = _
      rw [allTx_push, allTx_push]
      unfold opnTx
      cases hc : i.c with
      | some c => rw [hc] at hm; cases hm.2
      | none =>
        simp [shB_nil]
        rfl
  | fin =>
    cases p with
    | nil => cases hm
    | cons i p =>
      have hi := pile_at ok
      cases p with
      | nil =>
        have hd : i.l.isDef = true := ok.2
        show allTx (d ++ [i.df k], []) = _
        rw [allTx_push]
        unfold allTx opnTx
        rw [shP_app]
        obtain ⟨line, l, b, c⟩ := i
        cases l with
        | dff x ps =>
          cases c with
          | some c => exact absurd (hi.2 rfl) Bool.false_ne_true
          | none =>
            unfold Opn.df shP
            simp
            rfl
        | iff e => cases hd
        | whl e => cases hd
        | els => cases hd
        | fin => cases hd
        | pln s => cases hd
      | cons j p =>
        have hd : i.l.isDef = false := ok.2.1
        show allTx (d, j.add i.st :: p) = _
        rw [allTx_push, allTx_push, allTx_push, add_tx]
        have : shS i.st = opnTx i ++ [Lin.fin.txt] := by
          obtain ⟨line, l, b, c⟩ := i
          have e0 : Lin.fin.txt = "end" := rfl
          unfold Opn.st opnTx
          cases l with
          | iff e => cases c <;> simp [shS, e0]
          | whl e =>
            cases c with
            | some c => exact absurd (hi.2 rfl) Bool.false_ne_true
            | none => simp [shS, e0]
          | dff x ps => cases hd
          | els => rcases hi.1 with q | q | q <;> cases q
          | fin => rcases hi.1 with q | q | q <;> cases q
          | pln s => rcases hi.1 with q | q | q <;> cases q
        rw [this]
        simp
  | pln s =>
    cases p with
    | nil => cases s <;> cases hm
    | cons i p =>
      show allTx (d, i.add (s.at_ k) :: p) = _
      rw [allTx_push, allTx_push, add_tx, shS_pln hp]
      simp
theorem go_tx : ∀ {ls : List Lin} {k : Int} {st r : Pg × List Opn}, (∀ l ∈ ls, l.plain) → pileOk st.2 → nestGo k st ls = some r → allTx r = allTx st ++ ls.map Lin.txt
  | [], k, st, r, _, _, h => by cases h; simp
  | l :: t, k, st, r, hp, ok, h => by
    unfold nestGo at h
    split at h
    · rename_i hm
      rw [go_tx (fun x hx => hp x (List.mem_cons_of_mem _ hx)) (step_ok ok hm) h, step_tx (hp l (List.mem_cons_self ..)) ok hm, List.map_cons, List.append_assoc]
      rfl
    · cases h
/-- a program that was read is shown as its lines -/
theorem shP_of {ls : List Lin} {pg : Pg} (hp : ∀ l ∈ ls, l.plain) (h : nestGo 1 ([], []) ls = some (pg, [])) : shP pg = ls.map Lin.txt := by
  have := go_tx (st := ([], [])) hp trivial h
  unfold allTx at this
  simpa [shP] using this
end Tl
set_option maxHeartbeats 2000000
namespace Tl
open PySem PySem.Spec PyProof.Rows L2
/-! ### parts of a statement as texts -/
theorem name_str {x : Str} (h : okName x) : PyData.strOk x = true := by
  rw [strOk_iff]
  intro c hc
  have hc : c ∈ cds x := hc
  have := List.all_eq_true.mp h.1.2.2 c hc
  simp only [Bool.and_eq_true, decide_eq_true_eq] at this
  omega
theorem lits_str : ∀ x ∈ (["num", "name", "lane", "lanes", "mine", "box", "+", "-", "*", "div", "rem", "<", "=", "sum", "most", "least", "ahead"] : List Str), PyData.strOk x = true := by decide +kernel
theorem exw_ok : ∀ {e : Ex}, okW e → okD (e.deep + 1) e.d
  | .num i, _ => okD_tup (okDs_cons (okD_str (lits_str _ (by simp))) (okDs_cons (by unfold okD; trivial) okDs_nil))
  | .nam x, h => okD_tup (okDs_cons (okD_str (lits_str _ (by simp))) (okDs_cons (okD_str (name_str h)) okDs_nil))
  | .lane, _ => okD_tup (okDs_cons (okD_str (lits_str _ (by simp))) okDs_nil)
  | .lanes, _ => okD_tup (okDs_cons (okD_str (lits_str _ (by simp))) okDs_nil)
  | .mine, _ => okD_tup (okDs_cons (okD_str (lits_str _ (by simp))) okDs_nil)
  | .box e, h => by
    have := exw_ok (e := e) h
    exact okD_tup (okDs_cons (okD_str (lits_str _ (by simp))) (okDs_cons this okDs_nil))
  | .op o a b, h => by
    have h1 := okD_mono (exw_ok h.1) (show a.deep + 1 ≤ max a.deep b.deep + 1 by omega)
    have h2 := okD_mono (exw_ok h.2) (show b.deep + 1 ≤ max a.deep b.deep + 1 by omega)
    exact okD_tup (okDs_cons (okD_str (by cases o <;> exact lits_str _ (by decide))) (okDs_cons h1 (okDs_cons h2 okDs_nil)))
/-- a part, and the words that it writes -/
def isPart (p : D) (ws : List Str) : Prop := (∃ x, p = .str x ∧ ws = [x] ∧ PyData.strOk x = true ∧ x.length ≤ 10) ∨ (∃ e, p = e.d ∧ okXp e ∧ ws = wordsE e) ∨ (∃ es : List Ex, es.length ≤ 6 ∧ p = .lst (es.map Ex.d) ∧ (∀ e ∈ es, okXp e) ∧ ws = es.flatMap wordsE)
theorem pls_of : ∀ {l : List D}, (∀ d ∈ l, plD d) → plDs l
  | [], _ => by unfold plDs; trivial
  | d :: t, h => by unfold plDs; exact ⟨h d (List.mem_cons_self ..), pls_of fun x hx => h x (List.mem_cons_of_mem _ hx)⟩
theorem join_wd : ∀ w ∈ joinL, PyData.strOk w = true ∧ w.length ≤ 10 := by decide +kernel
theorem ex_lst {e : Ex} {l : List D} : e.d ≠ .lst l := by cases e <;> (unfold Ex.d; intro h; cases h)
theorem part_ne {M : MH} {p : D} {ws : List Str} {Q : VD} (h : isPart p ws) (hQ : Q (.bl (!ws.isEmpty)) M) : bNeD p (.lst []) M Q := by
  have fin : ∀ {z : D}, asD M p = some z → okD 12 z → plD z → (z = .lst [] ↔ ws = []) → bNeD p (.lst []) M Q := fun {z} e ok pl hz => by
    refine neD_pl 12 e (show asD M (.lst []) = some (.lst []) from rfl) ok (okD_lst okDs_nil) pl (by unfold plD plDs; trivial) fun b hb => ?_
    have : b = ws.isEmpty := by
      rw [Bool.eq_iff_iff, hb, hz, List.isEmpty_iff]
    rw [this]
    exact hQ
  rcases h with ⟨x, rfl, rfl, hs, _⟩ | ⟨e, rfl, ok, rfl⟩ | ⟨es, hl, rfl, ok, rfl⟩
  · exact fin rfl (okD_str hs) (by unfold plD; trivial) ⟨fun q => (by cases q), fun q => (by cases q)⟩
  · exact fin (show asD M e.d = some e.d by cases e <;> rfl) (okD_mono (exw_ok ok.1) (by have := ok.2; omega)) (ex_pl e) ⟨fun q => absurd q ex_lst, fun q => absurd q (words_ne e)⟩
  · refine fin (show asD M (.lst _) = some (.lst _) from rfl) (okD_lst (okDs_of fun d hd => ?_)) ?_ ⟨fun q => ?_, fun q => ?_⟩
    · obtain ⟨e, he, rfl⟩ := List.mem_map.mp hd
      exact okD_mono (exw_ok (ok e he).1) (by have := (ok e he).2; omega)
    · unfold plD
      exact pls_of fun d hd => by obtain ⟨e, he, rfl⟩ := List.mem_map.mp hd; exact ex_pl e
    · cases es with
      | nil => rfl
      | cons a t => cases q
    · cases es with
      | nil => rfl
      | cons a t =>
        rw [List.flatMap_cons] at q
        exact absurd (List.append_eq_nil_iff.mp q).1 (words_ne a)
/-- the parts behind the word and the line -/
def prtS : Sm → List (D × List Str)
  | .set _ x e => [(.str x, [x]), (e.d, wordsE e)] | .put _ a b => [(a.d, wordsE a), (b.d, wordsE b)] | .tell _ e => [(e.d, wordsE e)] | .ret _ e => [(e.d, wordsE e)]
  | .join _ x w e => [(.str x, [x]), (.str w, [w]), (e.d, wordsE e)] | .call _ x f es => [(.str x, [x]), (.str f, [f]), (.lst (es.map Ex.d), es.flatMap wordsE)] | _ => []
theorem prt_rest {s : Sm} (h : (Lin.pln s).plain) : s.rest = (prtS s).map (·.1) := by cases s <;> first | exact h.elim | rfl
theorem prt_wrds {s : Sm} (h : (Lin.pln s).plain) : s.wrds = (prtS s).flatMap (·.2) := by cases s <;> first | exact h.elim | (unfold Sm.wrds prtS; simp)
theorem prt_ok {s : Sm} (h : okStm s) : ∀ p ∈ prtS s, isPart p.1 p.2 := by
  have nm : ∀ {x : Str}, okName x → isPart (.str x) [x] := fun {x} q => .inl ⟨x, rfl, rfl, name_str q, by have := q.1.2.1; omega⟩
  have xp : ∀ {e : Ex}, okXp e → isPart e.d (wordsE e) := fun {e} q => .inr (.inl ⟨e, rfl, q, rfl⟩)
  intro p hp
  cases s <;> simp only [prtS, List.mem_cons, List.not_mem_nil, or_false] at hp
  case set => rcases hp with rfl | rfl; exact nm h.1; exact xp h.2
  case put => rcases hp with rfl | rfl; exact xp h.1; exact xp h.2
  case tell => subst hp; exact xp h
  case ret => subst hp; exact xp h
  case join l x w e =>
    rcases hp with rfl | rfl | rfl
    · exact nm h.1
    · exact .inl ⟨w, rfl, rfl, join_wd w h.2.1⟩
    · exact xp h.2.2
  case call l x f es =>
    rcases hp with rfl | rfl | rfl
    · exact nm h.1
    · exact nm h.2.1
    · exact .inr (.inr ⟨es, h.2.2.1, rfl, h.2.2.2, rfl⟩)
/-- a join of joins -/
theorem join_flat : ∀ {ps : List (D × List Str)} {w : Str}, (∀ p ∈ ps, p.2 ≠ []) → Txt.join blank (w :: ps.map fun p => Txt.join blank p.2) = Txt.join blank (w :: ps.flatMap (·.2))
  | [], w, _ => rfl
  | p :: t, w, h => by
    have hp := h p (List.mem_cons_self ..)
    have ih := join_flat (ps := t) (w := w) fun q hq => h q (List.mem_cons_of_mem _ hq)
    rw [List.map_cons, List.flatMap_cons]
    rw [join_cons (by simp), join_cons (w := w) (ws := p.2 ++ _) (by simp [hp])]
    congr 1
    cases t with
    | nil => simp [tjoin_one]
    | cons q r =>
      have hq := h q (by simp)
      have ih2 := join_flat (ps := q :: r) (w := Txt.join blank p.2) fun z hz => h z (List.mem_cons_of_mem _ hz)
      rw [ih2, join_cons (by simp [hq]), join_app (by simp [hq]) hp]
theorem pln_txt {s : Sm} (h : (Lin.pln s).plain) : (Lin.pln s).txt = Txt.join blank (s.word :: ((prtS s).filter fun p => !p.2.isEmpty).map fun p => Txt.join blank p.2) := by
  rw [join_flat fun p hp => by have := (List.mem_filter.mp hp).2; intro e; rw [e] at this; cases this]
  show Txt.join blank (s.word :: s.wrds) = _
  rw [prt_wrds h]
  congr 2
  generalize prtS s = ps
  induction ps with
  | nil => rfl
  | cons p t ih =>
    rw [List.filter_cons]
    cases e : p.2 with
    | nil => simp [e, ih]
    | cons a r => simp [e, ih]
theorem cut_two {a b : D} {l : List D} : cutD (a :: b :: l) (some 2) none = l := by
  unfold cutD
  rw [show (2 : Int) = ((2 : Nat) : Int) from rfl, HT.sIx_nat, HT.sIx_none]
  simp only [List.length_cons]
  rw [Nat.min_eq_left (by omega)]
  show l.take (l.length + 1 + 1 - 2) = l
  rw [List.take_of_length_le (by omega)]
theorem join_ge : ∀ ws : List Str, (ws.map (·.length)).sum ≤ (Txt.join blank ws).length
  | [] => Nat.zero_le _
  | [w] => by rw [tjoin_one]; simp
  | w :: v :: t => by
    have := join_ge (v :: t)
    rw [join_cons (by simp), len_app, len_app]
    simp only [List.map_cons, List.sum_cons] at this ⊢
    omega
/-- what is shown: statements as they are read -/
def okHd : Sm → Prop
  | .if1 _ e _ => okXp e
  | .if2 _ e _ _ => okXp e
  | .whl _ e _ => okXp e
  | s => okStm s
def okShB (b : List Sm) : Prop := ∀ s ∈ allBd b, okHd s
end Tl
set_option maxHeartbeats 2000000
namespace Tl
open PySem PySem.Spec PyProof.Rows L2
/-! ### what a program that was read keeps of its lines -/
/-- a statement's head, its line left out -/
def hdLn : Sm → Lin
  | .if1 _ e _ => .iff e
  | .if2 _ e _ _ => .iff e
  | .whl _ e _ => .whl e
  | s => .pln (s.at_ 0)
def Lin.n0 : Lin → Lin
  | .pln s => .pln (s.at_ 0)
  | l => l
/-- a line that begins a statement -/
def Lin.stm : Lin → Bool
  | .iff _ => true
  | .whl _ => true
  | .pln _ => true
  | _ => false
def opnBd (o : Opn) : List Sm := allBd o.b ++ allBd (o.c.getD [])
def opnHd (o : Opn) : List Lin := (if o.l.stm = true then [o.l] else []) ++ (opnBd o).map hdLn
def allHd (st : Pg × List Opn) : List Lin := (st.1.flatMap fun o => (allBd o.body).map hdLn) ++ st.2.flatMap opnHd
theorem allBd_nil : allBd [] = [] := by unfold allBd; rfl
theorem opnBd_add {o : Opn} {s : Sm} (x : Lin) : x ∈ (opnBd (o.add s)).map hdLn ↔ x ∈ (opnBd o).map hdLn ∨ x ∈ (allSt s).map hdLn := by
  unfold opnBd Opn.add
  cases o.c with
  | none => simp only [Option.getD_none, allBd_app, allBd_one, allBd_nil, List.append_nil, List.map_append, List.mem_append]
  | some c => simp only [Option.getD_some, allBd_app, allBd_one, List.map_append, List.mem_append, or_assoc]
theorem opnBd_len {o : Opn} {s : Sm} : (opnBd (o.add s)).length = (opnBd o).length + (allSt s).length := by
  unfold opnBd Opn.add
  cases o.c with
  | none => simp [allBd_app, allBd_one, allBd_nil]
  | some c => simp only [Option.getD_some, allBd_app, allBd_one, List.length_append]; omega
theorem add_stm {o : Opn} {s : Sm} : (o.add s).l = o.l := by unfold Opn.add; cases o.c <;> rfl
theorem hd_pln {s : Sm} (h : (Lin.pln s).plain) (k : Int) : (allSt (s.at_ k)).map hdLn = [(Lin.pln s).n0] := by
  cases s <;> first | exact h.elim | (unfold Sm.at_ allSt; rfl)
theorem hd_st {i : Opn} (ok : i.ok) (hd : i.l.isDef = false) (x : Lin) : x ∈ (allSt i.st).map hdLn ↔ x = i.l ∨ x ∈ (opnBd i).map hdLn := by
  obtain ⟨line, l, b, c⟩ := i
  cases l with
  | iff e => cases c <;> simp [Opn.st, allSt, hdLn, opnBd, allBd_nil]
  | whl e =>
    cases c with
    | some c => exact absurd (ok.2 rfl) Bool.false_ne_true
    | none => simp [Opn.st, allSt, hdLn, opnBd, allBd_nil]
  | dff x ps => cases hd
  | els => rcases ok.1 with q | q | q <;> cases q
  | fin => rcases ok.1 with q | q | q <;> cases q
  | pln s => rcases ok.1 with q | q | q <;> cases q
theorem len_st {i : Opn} (ok : i.ok) (hd : i.l.isDef = false) : (allSt i.st).length = (opnBd i).length + 1 := by
  obtain ⟨line, l, b, c⟩ := i
  cases l with
  | iff e => cases c <;> simp [Opn.st, allSt, opnBd, allBd_nil]
  | whl e =>
    cases c with
    | some c => exact absurd (ok.2 rfl) Bool.false_ne_true
    | none => simp [Opn.st, allSt, opnBd, allBd_nil]
  | dff x ps => cases hd
  | els => rcases ok.1 with q | q | q <;> cases q
  | fin => rcases ok.1 with q | q | q <;> cases q
  | pln s => rcases ok.1 with q | q | q <;> cases q
theorem stm_of {i : Opn} (ok : i.ok) (hd : i.l.isDef = false) : i.l.stm = true := by
  rcases ok.1 with q | q | q
  · cases hl : i.l <;> rw [hl] at q <;> first | rfl | cases q
  · cases hl : i.l <;> rw [hl] at q <;> first | rfl | cases q
  · rw [hd] at q; cases q
theorem mem_hd {o : Opn} {x : Lin} : x ∈ opnHd o ↔ (o.l.stm = true ∧ x = o.l) ∨ x ∈ (opnBd o).map hdLn := by
  unfold opnHd
  cases h : o.l.stm <;> simp [h]
theorem step_hd {k : Int} {st : Pg × List Opn} {l : Lin} (hp : l.plain) (ok : pileOk st.2) (hm : mayLn st.2 l = true) (x : Lin) : x ∈ allHd (nestStep k st l) ↔ x ∈ allHd st ∨ (l.stm = true ∧ x = l.n0) := by
  obtain ⟨d, p⟩ := st
  have new : ∀ (q : Opn) (r : List Opn), x ∈ allHd (d, q :: r) ↔ x ∈ allHd (d, r) ∨ x ∈ opnHd q := fun q r => by
    unfold allHd
    simp only [List.flatMap_cons, List.mem_append]
    exact Iff.of_eq (by ac_rfl)
  cases l with
  | dff y ps =>
    show x ∈ allHd (d, _ :: p) ↔ _
    rw [new, mem_hd]
    simp [opnBd, allBd_nil, Lin.stm]
  | iff e =>
    show x ∈ allHd (d, _ :: p) ↔ _
    rw [new, mem_hd]
    simp [opnBd, allBd_nil, Lin.stm, Lin.n0]
  | whl e =>
    show x ∈ allHd (d, _ :: p) ↔ _
    rw [new, mem_hd]
    simp [opnBd, allBd_nil, Lin.stm, Lin.n0]
  | els =>
    cases p with
    | nil => cases hm
    | cons i p =>
      have hm : (i.l.isIf && i.c.isNone) = true := hm
      rw [Bool.and_eq_true] at hm
      show x ∈ allHd (d, { i with c := some [] } :: p) ↔ _
      rw [new, new, mem_hd, mem_hd]
      cases hc : i.c with
      | some c => rw [hc] at hm; cases hm.2
      | none => simp [opnBd, hc, Lin.stm]
  | fin =>
    cases p with
    | nil => cases hm
    | cons i p =>
      have hi := pile_at ok
      cases p with
      | nil =>
        have hd : i.l.isDef = true := ok.2
        show x ∈ allHd (d ++ [i.df k], []) ↔ _
        rw [new, mem_hd]
        obtain ⟨line, l, b, c⟩ := i
        cases l with
        | dff y ps =>
          cases c with
          | some c => exact absurd (hi.2 rfl) Bool.false_ne_true
          | none => simp [allHd, opnBd, allBd_nil, Lin.stm, Opn.df]
        | iff e => cases hd
        | whl e => cases hd
        | els => cases hd
        | fin => cases hd
        | pln s => cases hd
      | cons j p =>
        have hd : i.l.isDef = false := ok.2.1
        show x ∈ allHd (d, j.add i.st :: p) ↔ _
        rw [new, new, new, mem_hd, mem_hd, mem_hd, opnBd_add, hd_st hi hd, add_stm]
        have := stm_of hi hd
        rw [show Lin.fin.stm = false from rfl]
        simp only [this, Bool.false_eq_true, false_and, or_false, true_and]
        exact Iff.of_eq (by ac_rfl)
  | pln s =>
    cases p with
    | nil => cases s <;> cases hm
    | cons i p =>
      show x ∈ allHd (d, i.add (s.at_ k) :: p) ↔ _
      rw [new, new, mem_hd, mem_hd, opnBd_add, hd_pln hp, add_stm]
      simp only [Lin.stm, true_and, List.mem_singleton]
      exact Iff.of_eq (by ac_rfl)
/-- the statements' heads of a program: the lines that begin statements -/
theorem go_hd : ∀ {ls : List Lin} {k : Int} {st r : Pg × List Opn}, (∀ l ∈ ls, l.plain) → pileOk st.2 → nestGo k st ls = some r → ∀ x, x ∈ allHd r ↔ x ∈ allHd st ∨ ∃ l ∈ ls, l.stm = true ∧ x = l.n0
  | [], k, st, r, _, _, h, x => by cases h; simp
  | l :: t, k, st, r, hp, ok, h, x => by
    unfold nestGo at h
    split at h
    · rename_i hm
      rw [go_hd (fun x hx => hp x (List.mem_cons_of_mem _ hx)) (step_ok ok hm) h, step_hd (hp l (List.mem_cons_self ..)) ok hm]
      simp only [List.mem_cons, exists_eq_or_imp, or_assoc]
    · cases h
end Tl
set_option maxHeartbeats 2000000
namespace Tl
open PySem PySem.Spec PyProof.Rows L2
/-! ### how many statements, how deep -/
def cntSt (st : Pg × List Opn) : Nat := (st.1.map fun o => (allBd o.body).length).sum + (st.2.map fun o => (opnBd o).length + 1).sum
theorem step_cnt {k : Int} {st : Pg × List Opn} {l : Lin} (hp : l.plain) (ok : pileOk st.2) (hm : mayLn st.2 l = true) : cntSt (nestStep k st l) ≤ cntSt st + 1 := by
  obtain ⟨d, p⟩ := st
  have new : ∀ (q : Opn) (r : List Opn), cntSt (d, q :: r) = cntSt (d, r) + ((opnBd q).length + 1) := fun q r => by unfold cntSt; simp only [List.map_cons, List.sum_cons]; omega
  cases l with
  | dff y ps => show cntSt (d, _ :: p) ≤ _; rw [new]; simp [opnBd, allBd_nil]
  | iff e => show cntSt (d, _ :: p) ≤ _; rw [new]; simp [opnBd, allBd_nil]
  | whl e => show cntSt (d, _ :: p) ≤ _; rw [new]; simp [opnBd, allBd_nil]
  | els =>
    cases p with
    | nil => cases hm
    | cons i p =>
      show cntSt (d, { i with c := some [] } :: p) ≤ _
      rw [new, new]
      simp [opnBd, allBd_nil]
      omega
  | fin =>
    cases p with
    | nil => cases hm
    | cons i p =>
      have hi := pile_at ok
      cases p with
      | nil =>
        have hd : i.l.isDef = true := ok.2
        show cntSt (d ++ [i.df k], []) ≤ _
        rw [new]
        have : (allBd (i.df k).body).length ≤ (opnBd i).length := by
          obtain ⟨line, l, b, c⟩ := i
          cases l with
          | dff y ps => unfold Opn.df opnBd; simp
          | _ => cases hd
        unfold cntSt
        simp only [List.map_append, List.map_cons, List.map_nil, List.sum_append, List.sum_cons, List.sum_nil]
        omega
      | cons j p =>
        have hd : i.l.isDef = false := ok.2.1
        show cntSt (d, j.add i.st :: p) ≤ _
        rw [new, new, new, opnBd_len, len_st hi hd]
        omega
  | pln s =>
    cases p with
    | nil => cases s <;> cases hm
    | cons i p =>
      show cntSt (d, i.add (s.at_ k) :: p) ≤ _
      rw [new, new, opnBd_len]
      have := congrArg List.length (hd_pln hp k)
      rw [List.length_map] at this
      rw [this, List.length_singleton]
      omega
theorem go_cnt : ∀ {ls : List Lin} {k : Int} {st r : Pg × List Opn}, (∀ l ∈ ls, l.plain) → pileOk st.2 → nestGo k st ls = some r → cntSt r ≤ cntSt st + ls.length
  | [], k, st, r, _, _, h => by cases h; simp
  | l :: t, k, st, r, hp, ok, h => by
    unfold nestGo at h
    split at h
    · rename_i hm
      have h1 := go_cnt (fun x hx => hp x (List.mem_cons_of_mem _ hx)) (step_ok ok hm) h
      have h2 := step_cnt (k := k) (hp l (List.mem_cons_self ..)) ok hm
      rw [List.length_cons]
      omega
    · cases h
def depJ : List Opn → Prop
  | [] => True
  | i :: r => deeps i.b + r.length ≤ 6 ∧ (∀ c, i.c = some c → deeps c + r.length ≤ 6) ∧ depJ r
theorem depJ_add {i : Opn} {r : List Opn} {s : Sm} (h : depJ (i :: r)) (hs : s.deep + r.length ≤ 6) : depJ (i.add s :: r) := by
  obtain ⟨h1, h2, h3⟩ := h
  unfold Opn.add
  cases hc : i.c with
  | none =>
    refine ⟨?_, fun c q => ?_, h3⟩
    · dsimp only; rw [deeps_app, deeps_one]; omega
    · dsimp only at q; cases q
  | some c0 =>
    refine ⟨h1, fun c q => ?_, h3⟩
    have q : some (c0 ++ [s]) = some c := q
    cases q
    have := h2 c0 hc
    rw [deeps_app, deeps_one]
    omega
def depSt (st : Pg × List Opn) : Prop := (∀ o ∈ st.1, deeps o.body ≤ 6) ∧ depJ st.2 ∧ st.2.length ≤ 6
theorem step_dep {k : Int} {st : Pg × List Opn} {l : Lin} (hp : l.plain) (ok : pileOk st.2) (hm : mayLn st.2 l = true) (h : depSt st) : depSt (nestStep k st l) := by
  obtain ⟨d, p⟩ := st
  obtain ⟨h1, h2, h3⟩ := h
  have d0 : deeps [] = 0 := by unfold deeps; rfl
  cases l with
  | dff y ps =>
    have hm : p.isEmpty = true := hm
    rw [List.isEmpty_iff] at hm
    subst hm
    exact ⟨h1, ⟨by rw [d0]; simp, (fun c q => by cases q), trivial⟩, by simp [nestStep]⟩
  | iff e =>
    cases p with
    | nil => cases hm
    | cons i r =>
      have := of_decide_eq_true (show decide ((i :: r).length ≤ 5) = true from hm)
      exact ⟨h1, ⟨by rw [d0]; omega, (fun c q => by cases q), h2⟩, by show (_ :: i :: r).length ≤ 6; rw [List.length_cons]; omega⟩
  | whl e =>
    cases p with
    | nil => cases hm
    | cons i r =>
      have := of_decide_eq_true (show decide ((i :: r).length ≤ 5) = true from hm)
      exact ⟨h1, ⟨by rw [d0]; omega, (fun c q => by cases q), h2⟩, by show (_ :: i :: r).length ≤ 6; rw [List.length_cons]; omega⟩
  | els =>
    cases p with
    | nil => cases hm
    | cons i r =>
      refine ⟨h1, ⟨h2.1, fun c q => ?_, h2.2.2⟩, h3⟩
      have q : some [] = some c := q
      cases q
      have h3 : (i :: r).length ≤ 6 := h3
      rw [List.length_cons] at h3
      rw [d0]; omega
  | fin =>
    cases p with
    | nil => cases hm
    | cons i r =>
      have hi := pile_at ok
      cases r with
      | nil =>
        refine ⟨fun o ho => ?_, trivial, by simp [nestStep]⟩
        have ho : o ∈ d ++ [i.df k] := ho
        rcases List.mem_append.mp ho with ho | ho
        · exact h1 o ho
        · rw [List.mem_singleton.mp ho]
          have := h2.1
          obtain ⟨line, l, b, c⟩ := i
          cases l with
          | dff y ps => unfold Opn.df; simp at this; exact this
          | _ => unfold Opn.df; rw [d0]; omega
      | cons j t =>
        have hd : i.l.isDef = false := ok.2.1
        obtain ⟨d1, d2, d3⟩ := h2
        have h3 : (i :: j :: t).length ≤ 6 := h3
        rw [List.length_cons] at d1 d2
        simp only [List.length_cons] at h3
        refine ⟨h1, depJ_add d3 ?_, by show (_ :: t).length ≤ 6; rw [List.length_cons]; omega⟩
        obtain ⟨line, l, b, c⟩ := i
        unfold Opn.st
        cases l with
        | iff e =>
          cases c with
          | none => show (Sm.if1 line e b).deep + t.length ≤ 6; rw [Sm.deep]; dsimp only at d1; omega
          | some c =>
            have := d2 c rfl
            show (Sm.if2 line e b c).deep + t.length ≤ 6
            rw [Sm.deep]; dsimp only at d1; omega
        | whl e => show (Sm.whl line e b).deep + t.length ≤ 6; rw [Sm.deep]; dsimp only at d1; omega
        | _ =>
          have e1 : (Sm.stop 0).deep = 1 := rfl
          show (Sm.stop 0).deep + t.length ≤ 6
          omega
  | pln s =>
    cases p with
    | nil => cases s <;> cases hm
    | cons i r =>
      have e1 : (s.at_ k).deep = 1 := by cases s <;> first | exact hp.elim | rfl
      have h3 : (i :: r).length ≤ 6 := h3
      rw [List.length_cons] at h3
      exact ⟨h1, depJ_add h2 (by omega), by show (_ :: r).length ≤ 6; rw [List.length_cons]; exact h3⟩
theorem go_dep : ∀ {ls : List Lin} {k : Int} {st r : Pg × List Opn}, (∀ l ∈ ls, l.plain) → pileOk st.2 → depSt st → nestGo k st ls = some r → depSt r
  | [], k, st, r, _, _, h0, h => by cases h; exact h0
  | l :: t, k, st, r, hp, ok, h0, h => by
    unfold nestGo at h
    split at h
    · rename_i hm
      exact go_dep (fun x hx => hp x (List.mem_cons_of_mem _ hx)) (step_ok ok hm) (step_dep (hp l (List.mem_cons_self ..)) ok hm h0) h
    · cases h
/-! ### heads of defs -/
/-- the names of the defs that lines begin, with their lines -/
def hdsL : Int → List Lin → List (Str × Int)
  | _, [] => []
  | k, .dff x _ :: t => (x, k) :: hdsL (k + 1) t
  | k, _ :: t => hdsL (k + 1) t
def hdsO : List Opn → List (Str × Int)
  | [] => []
  | i :: r => match (i :: r).getLast (List.cons_ne_nil _ _) with
    | o => [(o.l.name, o.line)]
def hdsSt (st : Pg × List Opn) : List (Str × Int) := (st.1.map fun o => (o.name, o.first)) ++ hdsO st.2
theorem hdsO_same {i j : Opn} {r : List Opn} (h1 : j.l.name = i.l.name) (h2 : j.line = i.line) : hdsO (j :: r) = hdsO (i :: r) := by
  unfold hdsO
  cases r with
  | nil => simp [h1, h2]
  | cons a t => simp
theorem hdsO_push {i j : Opn} {r : List Opn} : hdsO (j :: i :: r) = hdsO (i :: r) := by unfold hdsO; simp
/-- each def ends ahead of the line at which the next one begins -/
def chain : Int → List Df → Prop
  | _, [] => True
  | k, o :: t => o.first = k ∧ chain (o.last + 1) t
def lastOf : Int → List Df → Int
  | k, [] => k
  | _, o :: t => lastOf (o.last + 1) t
theorem chain_app {o : Df} : ∀ {k : Int} {d : List Df}, chain k (d ++ [o]) ↔ chain k d ∧ o.first = lastOf k d
  | k, [] => by simp [chain, lastOf]
  | k, a :: t => by
    show a.first = k ∧ chain (a.last + 1) (t ++ [o]) ↔ (a.first = k ∧ chain (a.last + 1) t) ∧ _
    rw [chain_app (k := a.last + 1) (d := t), and_assoc]
    rfl
theorem lastOf_app {o : Df} : ∀ {k : Int} {d : List Df}, lastOf k (d ++ [o]) = o.last + 1
  | k, [] => rfl
  | k, a :: t => lastOf_app (k := a.last + 1) (d := t)
/-- behind the lines up to k -/
def hdSt (k : Int) (st : Pg × List Opn) : Prop := chain 1 st.1 ∧ (st.2 = [] → k = lastOf 1 st.1) ∧ ∀ h : st.2 ≠ [], (st.2.getLast h).line = lastOf 1 st.1
theorem step_hds {k : Int} {st : Pg × List Opn} {l : Lin} (hp : l.plain) (ok : pileOk st.2) (hm : mayLn st.2 l = true) (h : hdSt k st) : hdsSt (nestStep k st l) = hdsSt st ++ hdsL k [l] ∧ hdSt (k + 1) (nestStep k st l) := by
  obtain ⟨d, p⟩ := st
  obtain ⟨h1, h2, h3⟩ := h
  have keep : ∀ {i j : Opn} {r : List Opn}, p = i :: r → j.l = i.l → j.line = i.line → nestStep k (d, p) l = (d, j :: r) → hdsL k [l] = [] → hdsSt (nestStep k (d, p) l) = hdsSt (d, p) ++ hdsL k [l] ∧ hdSt (k + 1) (nestStep k (d, p) l) := fun {i j r} e1 e2 e3 e4 e5 => by
    rw [e4, e5, List.append_nil]
    subst e1
    refine ⟨?_, h1, (fun q => nomatch q), fun hne => ?_⟩
    · unfold hdsSt
      rw [hdsO_same (by rw [e2]) e3]
    · have := h3 (List.cons_ne_nil _ _)
      cases r with
      | nil => exact (show j.line = _ from e3.trans this)
      | cons a t =>
        rw [List.getLast_cons (List.cons_ne_nil _ _)] at this ⊢
        exact this
  have push : ∀ {i j : Opn} {r : List Opn}, p = i :: r → nestStep k (d, p) l = (d, j :: i :: r) → hdsL k [l] = [] → hdsSt (nestStep k (d, p) l) = hdsSt (d, p) ++ hdsL k [l] ∧ hdSt (k + 1) (nestStep k (d, p) l) := fun {i j r} e1 e4 e5 => by
    rw [e4, e5, List.append_nil]
    subst e1
    refine ⟨?_, h1, (fun q => nomatch q), fun hne => ?_⟩
    · unfold hdsSt
      rw [hdsO_push]
    · have := h3 (List.cons_ne_nil _ _)
      show ((j :: i :: r).getLast _).line = lastOf 1 d
      rw [List.getLast_cons (List.cons_ne_nil _ _)]
      exact this
  cases l with
  | dff y ps =>
    have hm : p.isEmpty = true := hm
    rw [List.isEmpty_iff] at hm
    subst hm
    refine ⟨?_, h1, (fun q => nomatch q), fun _ => ?_⟩
    · show hdsSt (d, [⟨k, .dff y ps, [], none⟩]) = hdsSt (d, []) ++ [(y, k)]
      unfold hdsSt hdsO
      simp [Lin.name]
    · exact h2 rfl
  | iff e =>
    cases p with
    | nil => cases hm
    | cons i r => exact push rfl rfl rfl
  | whl e =>
    cases p with
    | nil => cases hm
    | cons i r => exact push rfl rfl rfl
  | els =>
    cases p with
    | nil => cases hm
    | cons i r => exact keep (j := { i with c := some [] }) rfl rfl rfl rfl rfl
  | pln s =>
    cases p with
    | nil => cases s <;> cases hm
    | cons i r => exact keep (j := i.add (s.at_ k)) rfl add_l.1 add_l.2.1 rfl rfl
  | fin =>
    cases p with
    | nil => cases hm
    | cons i r =>
      cases r with
      | nil =>
        have hd : i.l.isDef = true := ok.2
        have h3 : i.line = lastOf 1 d := h3 (List.cons_ne_nil _ _)
        have e1 : (i.df k).name = i.l.name ∧ (i.df k).first = i.line ∧ (i.df k).last = k := by
          obtain ⟨line, l, b, c⟩ := i
          cases l with
          | dff y ps => exact ⟨rfl, rfl, rfl⟩
          | _ => cases hd
        refine ⟨?_, chain_app.mpr ⟨h1, by rw [e1.2.1, h3]⟩, fun _ => ?_, fun q => absurd rfl q⟩
        · show hdsSt (d ++ [i.df k], []) = hdsSt (d, [i]) ++ []
          unfold hdsSt hdsO
          simp [e1.1, e1.2.1]
        · show k + 1 = lastOf 1 (d ++ [i.df k])
          rw [lastOf_app, e1.2.2]
      | cons j t =>
        have hl : (j.add i.st).l = j.l ∧ (j.add i.st).line = j.line := ⟨add_l.1, add_l.2.1⟩
        have h3 := h3 (List.cons_ne_nil _ _)
        refine ⟨?_, h1, (fun q => nomatch q), fun hne => ?_⟩
        · show hdsSt (d, j.add i.st :: t) = hdsSt (d, i :: j :: t) ++ []
          unfold hdsSt
          rw [hdsO_push, hdsO_same (by rw [hl.1]) hl.2, List.append_nil]
        · show ((j.add i.st :: t).getLast _).line = lastOf 1 d
          rw [List.getLast_cons (List.cons_ne_nil _ _)] at h3
          cases t with
          | nil => exact hl.2.trans h3
          | cons a t =>
            rw [List.getLast_cons (List.cons_ne_nil _ _)] at h3 ⊢
            exact h3
theorem hdsL_cons {k : Int} {l : Lin} {t : List Lin} : hdsL k (l :: t) = hdsL k [l] ++ hdsL (k + 1) t := by cases l <;> rfl
theorem go_hds : ∀ {ls : List Lin} {k : Int} {st r : Pg × List Opn}, (∀ l ∈ ls, l.plain) → pileOk st.2 → hdSt k st → nestGo k st ls = some r → hdsSt r = hdsSt st ++ hdsL k ls ∧ hdSt (k + (ls.length : Nat)) r
  | [], k, st, r, _, _, h0, h => by cases h; exact ⟨by simp [hdsL], by simpa using h0⟩
  | l :: t, k, st, r, hp, ok, h0, h => by
    unfold nestGo at h
    split at h
    · rename_i hm
      obtain ⟨g1, g2⟩ := step_hds (hp l (List.mem_cons_self ..)) ok hm h0
      obtain ⟨g3, g4⟩ := go_hds (fun x hx => hp x (List.mem_cons_of_mem _ hx)) (step_ok ok hm) g2 h
      refine ⟨by rw [g3, g1, hdsL_cons (t := t), List.append_assoc], ?_⟩
      rw [show k + ((l :: t).length : Nat) = k + 1 + (t.length : Nat) by rw [List.length_cons]; omega]
      exact g4
    · cases h
end Tl
set_option maxHeartbeats 2000000
namespace Tl
open PySem PySem.Spec PyProof.Rows L2
/-! ### k08: the law's pile -/
def lawMay (pile : List Str) (w : Str) (im : Bool) : Bool :=
  if w = "def" then pile.isEmpty else if pile.isEmpty = true then false else if w = "else" then decide (pile.getLastD "" = "if") else if w = "break" ∨ w = "again" then decide (("while" : Str) ∈ pile) else
  if w = "return" then !im else if w = "if" ∨ w = "while" then decide (pile.length < 6) else true
def lawLaid (pile : List Str) (w : Str) : List Str :=
  if w = "def" ∨ w = "if" ∨ w = "while" then pile ++ [w] else if w = "else" then pile.dropLast ++ [("other" : Str)] else if w = "end" then pile.dropLast else pile
def ow (o : Opn) : Str := match o.l with
  | .dff .. => "def"
  | .iff _ => (match o.c with
    | none => "if"
    | some _ => "other")
  | .whl _ => "while"
  | _ => ""
def pileW (p : List Opn) : List Str := (p.map ow).reverse
def imOk (p : List Opn) (im : Bool) : Prop := ∀ h : p ≠ [], im = decide ((p.getLast h).l.name = "main")
theorem pileW_cons {o : Opn} {p : List Opn} : pileW (o :: p) = pileW p ++ [ow o] := by unfold pileW; simp
theorem pileW_len {p : List Opn} : (pileW p).length = p.length := by unfold pileW; simp
theorem pileW_emp {p : List Opn} : (pileW p).isEmpty = p.isEmpty := by cases p <;> simp [pileW]
theorem lit_ne : (decide (Str.ofString "def" = Str.ofString "if") = false ∧ decide (Str.ofString "other" = Str.ofString "if") = false ∧ decide (Str.ofString "while" = Str.ofString "if") = false ∧ decide (Str.ofString "" = Str.ofString "if") = false) ∧
    decide (Str.ofString "def" = Str.ofString "while") = false ∧ decide (Str.ofString "if" = Str.ofString "while") = false ∧ decide (Str.ofString "other" = Str.ofString "while") = false ∧ decide (Str.ofString "" = Str.ofString "while") = false := by decide +kernel
theorem ow_if {o : Opn} : decide (ow o = "if") = (o.l.isIf && o.c.isNone) := by
  obtain ⟨line, l, b, c⟩ := o
  cases l with
  | iff e =>
    cases c with
    | none => exact decide_eq_true rfl
    | some c => exact lit_ne.1.2.1
  | dff y ps => exact lit_ne.1.1
  | whl e => exact lit_ne.1.2.2.1
  | els => exact lit_ne.1.2.2.2
  | fin => exact lit_ne.1.2.2.2
  | pln s => exact lit_ne.1.2.2.2
theorem ow_whl {o : Opn} : decide (ow o = "while") = o.l.isWhl := by
  obtain ⟨line, l, b, c⟩ := o
  cases l with
  | iff e =>
    cases c with
    | none => exact lit_ne.2.2.1
    | some c => exact lit_ne.2.2.2.1
  | whl e => exact decide_eq_true rfl
  | dff y ps => exact lit_ne.2.1
  | els => exact lit_ne.2.2.2.2
  | fin => exact lit_ne.2.2.2.2
  | pln s => exact lit_ne.2.2.2.2
theorem any_whl {p : List Opn} : decide (("while" : Str) ∈ pileW p) = p.any fun o => o.l.isWhl := by
  unfold pileW
  rw [Bool.eq_iff_iff, decide_eq_true_iff, List.any_eq_true, List.mem_reverse, List.mem_map]
  constructor
  · rintro ⟨o, ho, e⟩
    exact ⟨o, ho, by rw [← ow_whl]; exact decide_eq_true e⟩
  · rintro ⟨o, ho, e⟩
    rw [← ow_whl] at e
    exact ⟨o, ho, of_decide_eq_true e⟩
/-- the law's pile tells what may stand -/
theorem may_eq {p : List Opn} {l : Lin} {im : Bool} (hp : l.plain) (him : imOk p im) : lawMay (pileW p) l.word im = mayLn p l := by
  unfold lawMay
  rw [pileW_emp, pileW_len, any_whl]
  have hl : ∀ {i : Opn} {r : List Opn}, (pileW (i :: r)).getLastD "" = ow i := fun {i r} => by rw [pileW_cons]; simp
  cases p with
  | nil =>
    cases l with
    | dff y ps => rfl
    | pln s => rw [show (Lin.pln s).word = s.word from rfl, if_neg plain_wd.1]; cases s <;> rfl
    | _ => rfl
  | cons i r =>
    rw [hl, ow_if]
    have h5 : decide ((i :: r).length < 6) = decide ((i :: r).length ≤ 5) := decide_eq_decide.mpr (by omega)
    rw [h5]
    cases l with
    | dff y ps => rfl
    | iff e => rfl
    | whl e => rfl
    | els => rfl
    | fin => rfl
    | pln s =>
      have := him (List.cons_ne_nil _ _)
      cases s with
      | ret l e =>
        show (!im) = decide _
        rw [this]
        exact (decide_not (p := _)).symm
      | if1 l e b => exact hp.elim
      | if2 l e b c => exact hp.elim
      | whl l e b => exact hp.elim
      | _ => rfl
theorem ow_add {o : Opn} {s : Sm} : ow (o.add s) = ow o := by
  unfold ow Opn.add
  cases o.c <;> rfl
theorem laid_eq {d : Pg} {p : List Opn} {l : Lin} {k : Int} (hp : l.plain) (ok : pileOk p) (hm : mayLn p l = true) : lawLaid (pileW p) l.word = pileW (nestStep k (d, p) l).2 := by
  unfold lawLaid
  cases l with
  | dff y ps => show pileW p ++ [("def" : Str)] = pileW (_ :: p); rw [pileW_cons]; rfl
  | iff e => show pileW p ++ [("if" : Str)] = pileW (_ :: p); rw [pileW_cons]; rfl
  | whl e => show pileW p ++ [("while" : Str)] = pileW (_ :: p); rw [pileW_cons]; rfl
  | els =>
    cases p with
    | nil => cases hm
    | cons i r =>
      have hm : (i.l.isIf && i.c.isNone) = true := hm
      rw [Bool.and_eq_true] at hm
      show (pileW (i :: r)).dropLast ++ [("other" : Str)] = pileW ({ i with c := some [] } :: r)
      rw [pileW_cons, pileW_cons, List.dropLast_concat]
      unfold ow
      cases hl : i.l <;> rw [hl] at hm <;> first | (dsimp only; rfl) | (cases hm.1)
  | fin =>
    cases p with
    | nil => cases hm
    | cons i r =>
      show (pileW (i :: r)).dropLast = _
      rw [pileW_cons, List.dropLast_concat]
      cases r with
      | nil => rfl
      | cons j t => show _ = pileW (j.add i.st :: t); rw [pileW_cons, pileW_cons, ow_add]
  | pln s =>
    cases p with
    | nil => cases s <;> cases hm
    | cons i r =>
      have h1 := plain_wd (s := s)
      have h2 := plain_wd2 hp
      rw [show (Lin.pln s).word = s.word from rfl, if_neg (fun q => by rcases q with q | q | q; exact h1.1 q; exact h2.1 q; exact h2.2 q), if_neg h1.2.1, if_neg h1.2.2]
      show _ = pileW (i.add _ :: r)
      rw [pileW_cons, pileW_cons, ow_add]
def imNext (im : Bool) : Lin → Bool
  | .dff x _ => decide (x = "main")
  | _ => im
theorem im_step {d : Pg} {p : List Opn} {l : Lin} {k : Int} {im : Bool} (ok : pileOk p) (hm : mayLn p l = true) (h : imOk p im) : imOk (nestStep k (d, p) l).2 (imNext im l) := by
  cases l with
  | dff y ps =>
    have hm : p.isEmpty = true := hm
    rw [List.isEmpty_iff] at hm
    subst hm
    intro _
    rfl
  | iff e =>
    cases p with
    | nil => cases hm
    | cons i r => intro _; show im = decide (((_ :: i :: r).getLast _).l.name = "main"); rw [List.getLast_cons (List.cons_ne_nil _ _)]; exact h _
  | whl e =>
    cases p with
    | nil => cases hm
    | cons i r => intro _; show im = decide (((_ :: i :: r).getLast _).l.name = "main"); rw [List.getLast_cons (List.cons_ne_nil _ _)]; exact h _
  | els =>
    cases p with
    | nil => cases hm
    | cons i r =>
      intro _
      have := h (List.cons_ne_nil _ _)
      show im = decide ((({ i with c := some [] } :: r).getLast _).l.name = "main")
      cases r with
      | nil => exact this
      | cons a t => rw [List.getLast_cons (List.cons_ne_nil _ _)] at this ⊢; exact this
  | pln s =>
    cases p with
    | nil => cases s <;> cases hm
    | cons i r =>
      intro _
      have := h (List.cons_ne_nil _ _)
      show im = decide (((i.add (s.at_ k) :: r).getLast _).l.name = "main")
      cases r with
      | nil => show im = decide ((i.add (s.at_ k)).l.name = "main"); rw [add_l.1]; exact this
      | cons a t => rw [List.getLast_cons (List.cons_ne_nil _ _)] at this ⊢; exact this
  | fin =>
    cases p with
    | nil => cases hm
    | cons i r =>
      cases r with
      | nil => intro q; exact absurd rfl q
      | cons j t =>
        intro _
        have := h (List.cons_ne_nil _ _)
        rw [List.getLast_cons (List.cons_ne_nil _ _)] at this
        show im = decide (((j.add i.st :: t).getLast _).l.name = "main")
        cases t with
        | nil => show im = decide ((j.add i.st).l.name = "main"); rw [add_l.1]; exact this
        | cons a t => rw [List.getLast_cons (List.cons_ne_nil _ _)] at this ⊢; exact this
/-! ### the word that may stand -/
end Tl
set_option maxHeartbeats 2000000
namespace Tl
open PySem PySem.Spec PyProof.Rows L2
/-! ### k08: names and lines -/
def mixH (c : Int) (k : Nat) : Int :=
  let one := (c % 1000003 + 1) * (48271 + 2 * (k : Int) * k) % 2147483647
  one * (one % 65537 + (k : Int)) % 2147483629
/-! lines -/
theorem imNext_one {im : Bool} {l : Lin} (h : l.word ≠ "def") : imNext im l = im := by cases l <;> first | exact absurd rfl h | rfl
/-! ### the builder -/
end Tl
set_option maxHeartbeats 2000000
namespace Tl
open PySem PySem.Spec PyProof.Rows L2
/-! ### k08: the text ended, and what is read of it -/
/-! what is read -/
theorem step_dfs {k : Int} {d : Pg} {p : List Opn} {l : Lin} {L : List Lin} (ok : pileOk p) (hm : mayLn p l = true) (hl : l ∈ L) (h1 : ∀ o ∈ d, Lin.dff o.name o.ps ∈ L) (h2 : ∀ i ∈ p, i.l.isDef = true → i.l ∈ L) :
    (∀ o ∈ (nestStep k (d, p) l).1, Lin.dff o.name o.ps ∈ L) ∧ ∀ i ∈ (nestStep k (d, p) l).2, i.l.isDef = true → i.l ∈ L := by
  have push : ∀ {o : Opn} {r : List Opn}, (o.l.isDef = true → o.l ∈ L) → (∀ i ∈ r, i.l.isDef = true → i.l ∈ L) → ∀ i ∈ o :: r, i.l.isDef = true → i.l ∈ L := fun {o r} a c i hi => by
    rcases List.mem_cons.mp hi with rfl | hi
    · exact a
    · exact c i hi
  cases l with
  | dff y ps => exact ⟨h1, push (fun _ => hl) h2⟩
  | iff e =>
    cases p with
    | nil => cases hm
    | cons i r => exact ⟨h1, push (fun q => by cases q) h2⟩
  | whl e =>
    cases p with
    | nil => cases hm
    | cons i r => exact ⟨h1, push (fun q => by cases q) h2⟩
  | els =>
    cases p with
    | nil => cases hm
    | cons i r => exact ⟨h1, push (fun q => h2 i (List.mem_cons_self ..) q) fun x hx => h2 x (List.mem_cons_of_mem _ hx)⟩
  | pln s =>
    cases p with
    | nil => cases s <;> cases hm
    | cons i r => exact ⟨h1, push (o := i.add (s.at_ k)) (fun q => by rw [add_l.1] at q ⊢; exact h2 i (List.mem_cons_self ..) q) fun x hx => h2 x (List.mem_cons_of_mem _ hx)⟩
  | fin =>
    cases p with
    | nil => cases hm
    | cons i r =>
      cases r with
      | nil =>
        refine ⟨fun o ho => ?_, fun x hx => by cases hx⟩
        have ho : o ∈ d ++ [i.df k] := ho
        rcases List.mem_append.mp ho with ho | ho
        · exact h1 o ho
        · rw [List.mem_singleton.mp ho]
          have hd : i.l.isDef = true := ok.2
          have := h2 i (List.mem_cons_self ..) hd
          obtain ⟨line, l, b, c⟩ := i
          cases l with
          | dff y ps => exact this
          | _ => cases hd
      | cons j t => exact ⟨h1, push (o := j.add i.st) (fun q => by rw [add_l.1] at q ⊢; exact h2 j (by simp) q) fun x hx => h2 x (by simp [hx])⟩
theorem go_dfs {L : List Lin} : ∀ {ls : List Lin} {k : Int} {d : Pg} {p : List Opn} {r : Pg × List Opn}, pileOk p → (∀ l ∈ ls, l ∈ L) → (∀ o ∈ d, Lin.dff o.name o.ps ∈ L) → (∀ i ∈ p, i.l.isDef = true → i.l ∈ L) → nestGo k (d, p) ls = some r → ∀ o ∈ r.1, Lin.dff o.name o.ps ∈ L
  | [], k, d, p, r, _, _, h1, _, h => by cases h; exact h1
  | l :: t, k, d, p, r, ok, hL, h1, h2, h => by
    unfold nestGo at h
    split at h
    · rename_i hm
      obtain ⟨g1, g2⟩ := step_dfs (k := k) ok hm (hL l (List.mem_cons_self ..)) h1 h2
      exact go_dfs (step_ok ok hm) (fun x hx => hL x (List.mem_cons_of_mem _ hx)) g1 g2 h
    · cases h
theorem cnt_mem {d : Pg} {o : Df} (h : o ∈ d) : (allBd o.body).length ≤ (d.map fun o => (allBd o.body).length).sum := by
  induction d with
  | nil => cases h
  | cons a t ih =>
    rw [List.map_cons, List.sum_cons]
    rcases List.mem_cons.mp h with rfl | h
    · omega
    · have := ih h; omega
theorem hd_ok {s : Sm} {l : Lin} (h : l.ok) (hs : l.stm = true) (e : hdLn s = l.n0) : okHd s := by
  cases l with
  | iff x =>
    cases s <;> first | (cases e; exact h) | cases e
  | whl x => cases s <;> first | (cases e; exact h) | cases e
  | pln t =>
    have h : okStm t := h
    cases t <;> first | exact h.elim | (cases s <;> first | (cases e; exact h) | cases e)
  | _ => cases hs
end Tl
set_option maxHeartbeats 2000000
namespace Tl
open PySem PySem.Spec PyProof.Rows L2
/-! ### k08: small facts of the walk -/
theorem cut_all_but {xs : List D} : cutD xs none (some (-1)) = xs.dropLast := by
  unfold cutD
  rw [HT.sIx_none, List.drop_zero, Nat.sub_zero, List.dropLast_eq_take]
  congr 1
  unfold HT.sIx
  cases xs with
  | nil => rfl
  | cons a t => simp only [List.length_cons]; split <;> omega
theorem words_ok {p : List Str} (h : ∀ x ∈ p, PyData.strOk x = true) : okD 12 (.lst (p.map .str)) := okD_lst (okDs_of fun d hd => by
  obtain ⟨x, hx, rfl⟩ := List.mem_map.mp hd
  exact okD_str (h x hx))
theorem words_pl {p : List Str} : plD (.lst (p.map .str)) := by
  unfold plD
  exact pls_of fun d hd => by
    obtain ⟨x, hx, rfl⟩ := List.mem_map.mp hd
    unfold plD; trivial
/-- a list of texts == [] -/
theorem eq_empty {p : List Str} {M : MH} {Q : VD} (h : ∀ x ∈ p, PyData.strOk x = true) (hQ : Q (.bl p.isEmpty) M) : bEqD (.lst (p.map .str)) (.lst []) M Q := by
  refine eqD_pl 12 (show asD M (.lst _) = some (.lst _) from rfl) (show asD M (.lst []) = some (.lst []) from rfl) (words_ok h) (okD_lst okDs_nil) words_pl (by unfold plD plDs; trivial) fun b hb => ?_
  have : b = p.isEmpty := by
    rw [Bool.eq_iff_iff, hb, List.isEmpty_iff]
    cases p <;> simp
  rw [this]
  exact hQ
theorem atI_lastZ {α : Type} {xs : List α} {x : α} : atI (xs ++ [x]) (-1) = some x := by
  unfold atI ixN
  rw [if_neg (by omega), if_pos (by rw [List.length_append]; simp only [List.length_cons, List.length_nil]; omega)]
  show (xs ++ [x])[((-1 : Int) + ((xs ++ [x]).length : Nat)).toNat]? = some x
  rw [show ((-1 : Int) + ((xs ++ [x]).length : Nat)).toNat = xs.length by rw [List.length_append]; simp only [List.length_cons, List.length_nil]; omega]
  simp
theorem at_last {p : List Str} (h : p.isEmpty = false) : atI (p.map D.str) (-1) = some (.str (p.getLastD "")) := by
  have hne : p ≠ [] := fun e => by rw [e] at h; cases h
  obtain ⟨q, x, rfl⟩ : ∃ q x, p = q ++ [x] := ⟨p.dropLast, p.getLast hne, (List.dropLast_concat_getLast hne).symm⟩
  rw [List.map_append, List.map_singleton, atI_lastZ]
  simp
theorem pile_words {p : List Opn} (ok : pileOk p) : ∀ x ∈ pileW p, PyData.strOk x = true := by
  have key : ∀ w ∈ (["def", "if", "other", "while", ""] : List Str), PyData.strOk w = true := by decide +kernel
  intro x hx
  unfold pileW at hx
  obtain ⟨o, _, rfl⟩ := List.mem_map.mp (List.mem_reverse.mp hx)
  unfold ow
  cases o.l with
  | iff e => cases o.c <;> exact key _ (by simp)
  | dff y ps => exact key _ (by simp)
  | whl e => exact key _ (by simp)
  | _ => exact key _ (by simp)
def letters26 : Str := "abcdefghijklmnopqrstuvwxyz"
theorem let_at {i : Int} (h0 : 0 ≤ i) (h1 : i < 26) : atI letters26.cps.toList i = some (97 + i.toNat) := by
  have : ∀ n < 26, atI letters26.cps.toList ((n : Nat) : Int) = some (97 + n) := by decide +kernel
  have h2 := this i.toNat (by omega)
  rwa [Int.toNat_of_nonneg h0] at h2
end Tl
namespace Tl
open PySem PySem.Spec PyProof.Rows L2
end Tl
namespace Tl
open PySem PySem.Spec PyProof.Rows L2
/-! ### set(texts), and how many unlike ones they are -/
section
variable {P : Program} {w : World} {A : Around} {R : Result → PySem.Shared → Prop} {I : Addr} {fp wr : List Addr} {G : Array GenState → Array GenState → Prop} {n : Nat} {Pv : Nat → Value → Prop} {St : Nat → PySem.Shared → Prop}
theorem texIn_moreG {xs : List Str} {i : Nat} (hi : i < xs.length) : ∀ x, (texIn xs i x || decide (x = xs.getD i Str.empty)) = texIn xs (i + 1) x := by
  have eg : xs.getD i Str.empty = xs[i] := by rw [List.getD_eq_getElem?_getD, List.getElem?_eq_getElem hi]; rfl
  have et : xs.take (i + 1) = xs.take i ++ [xs[i]] := by rw [List.take_add_one, List.getElem?_eq_getElem hi]; rfl
  intro x
  unfold texIn
  rw [et, List.any_append, eg]
  congr 1
  by_cases e : x = xs[i]
  · rw [decide_eq_true e, e]; simp
  · rw [decide_eq_false e]
    symm
    rw [List.any_eq_false]
    intro y hy q
    rw [List.mem_singleton.mp hy] at q
    exact e (by simpa using q : xs[i] = x).symm
/-- how many unlike ones there are among the first i -/
def dcn (xs : List Str) : Nat → Nat
  | 0 => 0
  | i + 1 => if texIn xs i (xs.getD i Str.empty) = true then dcn xs i else dcn xs i + 1
theorem dcn_le (xs : List Str) : ∀ i, dcn xs i ≤ i
  | 0 => Nat.le_refl _
  | i + 1 => by
    have := dcn_le xs i
    unfold dcn
    split <;> omega
theorem texIn_mem {xs : List Str} {i : Nat} {x : Str} : texIn xs i x = true ↔ x ∈ xs.take i := by
  unfold texIn
  rw [List.any_eq_true]
  constructor
  · rintro ⟨y, hy, e⟩
    have e : y = x := by simpa using e
    rw [← e]; exact hy
  · intro h
    exact ⟨x, h, by simp⟩
theorem dcn_nodup {xs : List Str} : ∀ {i : Nat}, i ≤ xs.length → (dcn xs i = i ↔ (xs.take i).Nodup)
  | 0, _ => by simp [dcn]
  | i + 1, hi => by
    have ih := dcn_nodup (xs := xs) (i := i) (by omega)
    have hl := dcn_le xs i
    have et : xs.take (i + 1) = xs.take i ++ [xs.getD i Str.empty] := by
      rw [List.take_add_one, List.getD_eq_getElem?_getD, List.getElem?_eq_getElem (by omega)]
      rfl
    rw [et, List.nodup_append]
    unfold dcn
    by_cases e : texIn xs i (xs.getD i Str.empty) = true
    · rw [if_pos e]
      have hm := texIn_mem.mp e
      constructor
      · intro h; omega
      · intro h
        exact absurd rfl (h.2.2 _ hm _ (List.mem_singleton.mpr rfl))
    · rw [if_neg e]
      constructor
      · intro h
        refine ⟨ih.mp (by omega), by simp, fun a ha b hb q => ?_⟩
        rw [List.mem_singleton.mp hb] at q
        exact e (texIn_mem.mpr (q ▸ ha))
      · intro h
        have := ih.mpr h.1
        omega
theorem dcn_all {xs : List Str} : dcn xs xs.length = xs.length ↔ xs.Nodup := by
  have := dcn_nodup (xs := xs) (Nat.le_refl _)
  rwa [List.take_length] at this
theorem loopTxG (W : WalksS P w A.in1 I fp wr G n Pv St) (D : Addr) (hD : D ∉ fp) (xs : List Str) (hn : xs.length = n) (few : n < 4000) (val : ∀ i v, Pv i v → ∃ t, v = .str (xs.getD i Str.empty) t) :
    ∀ (m i : Nat) (s : PySem.Shared), n - i = m → i ≤ n → St i s → s.heap.SetOf (PySem.strKind P w) D (texIn xs i) (dcn xs i) →
      (∀ s', Moved (D :: wr) G s s' → s'.heap.SetOf (PySem.strKind P w) D (texIn xs n) (dcn xs n) → R (.ok (.ret .none)) s') → codeAny (model P w) A (.builtin "set.update.loop" ⟨[.ref D, .ref I], []⟩) R s := by
  have out : D ∉ wr := fun q => hD (W.sub _ q)
  have up : ∀ b ∈ wr, b ∈ D :: wr := fun b q => List.mem_cons_of_mem _ q
  intro m
  induction m with
  | zero =>
    intro i s hm hi st hS fin
    obtain rfl : i = n := by omega
    refine codeAny_builtin PyProof.Rows.F.entry_set_update_loop ?_; rw [Around.under_plainId PyProof.Rows.F.plain_set_update_loop _]
    exact wpAny_bind (m := pyNext (.ref I)) (W.done s _ _ st fun s' mv => wpAny_pure (fin s' (mv.mono up) (setOf_at (fun o q => mv.heap D o out q) hS)))
  | succ m ih =>
    intro i s hm hi st hS fin
    have lt : i < n := by omega
    refine codeAny_builtin PyProof.Rows.F.entry_set_update_loop ?_; rw [Around.under_plainId PyProof.Rows.F.plain_set_update_loop _]
    refine wpAny_bind (m := pyNext (.ref I)) (W.item i s _ _ lt st fun v s' hv st' mv => ?_)
    obtain ⟨t, rfl⟩ := val i v hv
    have hS' := setOf_at (fun o q => mv.heap D o out q) hS
    have more := texIn_moreG (xs := xs) (i := i) (by omega)
    have hdl := dcn_le xs i
    refine wpAny_bind (m := holding [Value.str (xs.getD i Str.empty) t] (setAdd D (.str (xs.getD i Str.empty) t))) (wpAny_holding ?_); unfold setAdd
    refine wpAny_holding (wpAny_bind ((PySem.strKind P w).pyHash (k := xs.getD i Str.empty) (strKind_is _ _ _ _) ?_))
    refine wpAny_setAddHashed_of (knd := PySem.strKind P w) (s := { s' with toks := s'.toks + 1 }) (strKind_is _ _ _ _) rfl hS' (by unfold scanBound; omega) fun h' sb hS2 => ?_
    have hS3 : h'.SetOf (PySem.strKind P w) D (texIn xs (i + 1)) (dcn xs (i + 1)) := SetOf_congr hS2 more rfl
    have old : ∀ b, b ≠ D → ∀ o, s'.heap.get? b = some o → h'.get? b = some o := fun b ne o q => (sb.2 b ne).trans q
    refine wpAny_pure ⟨plainId_quiet PyProof.Rows.F.plain_set_update_loop _, ih (i + 1) _ (by omega) lt (W.frame _ s' _ _ st' (Nat.le_succ _) fun b hb o q => old b (fun z => hD (z ▸ hb)) o q) hS3 fun s2 mv2 hS4 => ?_⟩
    exact fin s2 (Moved.trans W.gtrans ((mv.mono up).then_heap (Nat.le_succ _) fun b o hb q => old b (fun z => hb (z ▸ List.mem_cons_self)) o q) mv2) hS4
end
section
variable {P : Program} {w : World} {A : Around} {E : Value → PySem.Shared → Prop} {s : PySem.Shared}
set_option maxHeartbeats 3200000 in
theorem set_textsG {l : Addr} {items : Array Value} {xs : List Str} {Q : Value → PySem.Shared → Prop} (free : A.handled = none) (hl : s.heap.IsList l items) (hi : PyProof.Rows.StrsAre items.toList xs) (few : xs.length < 4000)
    (fin : ∀ (h' : Heap) (tk : Nat), h'.SetOf (PySem.strKind P w) s.heap.objs.size (texIn xs items.size) (dcn xs items.size) → (∀ b o, b < s.heap.objs.size → s.heap.get? b = some o → h'.get? b = some o) → Q (.ref s.heap.objs.size) { s with heap := h', toks := tk }) :
    wpAny (model P w) A (call (.type "set") [.ref l]) Q E s := by
  obtain ⟨ca, tl, mro⟩ := PySem.F.called_set.mro; have made := PySem.F.called_set.made; have sub := PySem.F.called_set.sub
  refine wpAny_call (codeAny_of_tree (show wpAny _ _ (callAny (.type "set") _) _ _ _ from wpAny_pure ⟨Code.quiet_builtin _ (by decide +kernel), codeAny_builtin PySem.F.entry_type_call ?_⟩))
  rw [Around.under_plain (weight_type_call_type "set" [.ref l] []) rfl]; have g1 := PySem.F.called_set.notType; have g2 := PySem.F.called_set.canCreate; have g3 := PySem.F.typeCall_set_1 (.ref l)
  repeat (any_goals (first | assumption | wp_step))
  refine codeAny_mono (code_set_new_1 (.ref l) (E := E) (Q₁ := fun ob u => ∃ led : Bool, ob = .ref s.heap.objs.size ∧ u = { s with heap := s.heap.push { cls := .type "set", dict := none, data := .set #[] 0 (.fresh 0 0 led) } }) fun led => ⟨led, rfl, rfl⟩) fun re u hu => ?_
  match re, hu with
  | .error e, hu => exact hu
  | .ok (.ret ob), hu =>
    obtain ⟨led, rfl, rfl⟩ := hu
    have gS : (s.heap.push { cls := .type "set", dict := none, data := .set #[] 0 (.fresh 0 0 led) }).get? s.heap.objs.size = some { cls := .type "set", dict := none, data := .set #[] 0 (.fresh 0 0 led) } := Heap.get?_push_size _ rfl
    have gT : Shared.TypeIs { s with heap := s.heap.push { cls := .type "set", dict := none, data := .set #[] 0 (.fresh 0 0 led) } } (.ref s.heap.objs.size) "set" := ⟨_, gS, rfl⟩
    have g4 := PySem.F.called_set.init.lookup; have g5 := PySem.F.called_set.init.bind (.ref s.heap.objs.size)
    repeat (any_goals (first | assumption | wp_step))
    refine codeAny_mono (codeAny_call_builtin (R := wants (fun r u2 => r = .none ∧ ∃ h' tk, u2 = { s with heap := h', toks := tk } ∧ h'.SetOf (PySem.strKind P w) s.heap.objs.size (texIn xs items.size) (dcn xs items.size) ∧ (∀ b o, b < s.heap.objs.size → s.heap.get? b = some o → h'.get? b = some o)) E) PySem.F.called_set.init.plain PySem.F.entry_set_init (check_set_init_1 gT ?_)) fun re2 u2 hu2 => ?_
    · obtain ⟨⟨lc, ld, la, ls⟩, ho, hc, nl, hd⟩ := hl
      simp only at hc hd; subst hc hd
      have ho' : (s.heap.push { cls := .type "set", dict := none, data := .set #[] 0 (.fresh 0 0 led) }).get? l = some { cls := .type "list", dict := ld, data := .seq items nl, slots := ls } := Heap.get?_push_of_some _ ho
      have g6 := PySem.F.sub_list_set; have g7 := PySem.F.sub_list_frozenset; have g8 : (Value.type "list" == Value.type "dict") = false := by decide
      have il : (s.heap.push { cls := .type "set", dict := none, data := .set #[] 0 (.fresh 0 0 led) }).IsList l items := ⟨_, ho', rfl, nl, rfl⟩
      unfold Builtin.«set.__init__» noKeywords Builtin.Frozenset.updateFrom; generalize gi : pyIter = PI
      wp_walk
      subst gi
      refine wpAny_pyIter_list il (wpAny_bind (wpAny_runValue ?_))
      have lS : l < s.heap.objs.size := Heap.lt_size ho
      have f3 : A.in1.in1.in1.handled = none := by simp [free]
      have neI : l ≠ (s.heap.push { cls := .type "set", dict := none, data := .set #[] 0 (.fresh 0 0 led) }).objs.size := by rw [Heap.size_push]; exact Nat.ne_of_lt (Nat.lt_succ_of_lt lS)
      have nf : s.heap.objs.size ∉ [(s.heap.push { cls := .type "set", dict := none, data := .set #[] 0 (.fresh 0 0 led) }).objs.size, l] := by
        rw [Heap.size_push]; simp only [List.mem_cons, List.mem_singleton, List.not_mem_nil, or_false, not_or]; exact ⟨Nat.ne_of_lt (Nat.lt_succ_self _), Nat.ne_of_gt lS⟩
      have len : xs.length = items.size := by rw [← StrsAre.len_eq hi, Array.length_toList]
      refine loopTxG ((Walks.list f3 _ l neI items).toS) s.heap.objs.size nf xs len (by rw [← len]; exact few) (fun i v hv => SS.strs_at hi i v (by rw [Array.getElem?_toList]; exact hv)) (items.size - 0) 0 _ (by omega) (Nat.zero_le _) ⟨⟨_, Heap.get?_push_size _ rfl, rfl, rfl⟩, (il.push _)⟩ ?first ?last
      case first =>
        have gS2 : ((s.heap.push { cls := .type "set", dict := none, data := .set #[] 0 (.fresh 0 0 led) }).push { cls := .type "list_iterator", data := .fields #[.ref l, .int 0 0] }).get? s.heap.objs.size = some { cls := .type "set", dict := none, data := .set #[] 0 (.fresh 0 0 led) } := Heap.get?_push_of_some _ gS
        exact SetOf_congr ((setObjOf_fresh (knd := PySem.strKind P w) led).setOf gS2 (by decide)) (fun _ => rfl) rfl
      case last =>
        rintro ⟨h', g', d', tk', os'⟩ mv hS'
        obtain rfl : g' = s.gens := mv.gens
        obtain rfl : d' = s.drawn := mv.drawn
        obtain rfl : os' = s.os := mv.os
        refine wpAny_pure (show wpAny _ _ (ret Value.none) _ _ _ from wpAny_pure ⟨rfl, h', tk', rfl, hS', fun b o hb q => mv.heap b o ?_ (Heap.get?_push_of_some _ (Heap.get?_push_of_some _ q))⟩)
        simp only [List.mem_cons, List.mem_singleton, List.not_mem_nil, or_false, not_or, Heap.size_push]; exact ⟨Nat.ne_of_lt hb, Nat.ne_of_lt (Nat.lt_succ_of_lt hb)⟩
    · match re2, hu2 with
      | .error e, hu2 => exact hu2
      | .ok (.ret r), hu2 =>
        obtain ⟨rfl, h', tk, rfl, hS', old⟩ := hu2
        repeat (any_goals (first | assumption | wp_step))
        exact fin _ _ hS' old
      | .ok .next, hu2 => exact hu2.elim
      | .ok .brk, hu2 => exact hu2.elim
      | .ok .cont, hu2 => exact hu2.elim
  | .ok .next, hu => exact hu.elim
  | .ok .brk, hu => exact hu.elim
  | .ok .cont, hu => exact hu.elim
end
/-- len(set(texts)) -/
def tLnXG (K : PySem.W.Frag) (ta : TE) : TE := fun σ H Q => ta σ H fun x H1 => ∃ l, ∃ xs : List Str, x = .ref l ∧ SqL K H1 l (xs.map V.str) ∧ xs.length < 4000 ∧ Q (.int (dcn xs xs.length)) H1
theorem pe_lnXG {X : Cx} {a : Expr} {ta : TE} {p p2 q pos : Pos} (hc : X.calm = true) (hg : Gl X "len") (hm : X.mg "len" = none) (hg2 : Gl X "set") (hm2 : X.mg "set" = none) (ha : PE X a ta) (na : starEach [a] X.env = (false, eval a X.env) :: starEach [] X.env := by rfl) :
    PE X (.Call (.Name "len" p) [.Call (.Name "set" p2) [a] [] q] [] pos) (tLnXG X.K ta) := ⟨fun pins s σ H Q I h => by
  refine Call_ (ld_blt I hg hm boot_len (PyProof.Rows.callWith_builtin1 (PyProof.Rows.args_cons (Call_ (ld_blt I hg2 hm2 boot_set ?_)) rfl) rfl rfl))
  refine PyProof.Rows.callWith_type1 (PyProof.Rows.args_cons (thn (ha.run pins s σ H _ I h) fun v s1 z => PyProof.Rows.args_nil ?_) na) na rfl
  obtain ⟨x, H1, I1, rv, l, xs, rfl, hq, few, q1⟩ := z
  cases rv
  obtain ⟨its, r, pl, hz⟩ := I1.list hq
  refine set_textsG (I1.ok.hd hc) pl.isList (by simpa using strsAre_of r) few fun h' tk hS hk => PyProof.Rows.args_nil ?_
  have hl : its.toArray.size = xs.length := by rw [List.size_toArray, ← r.length, List.length_map]
  rw [hl] at hS
  obtain ⟨o, es, ep, t, ho, hex, hd, _, _, _, hf, hn⟩ := hS
  have I2 : L2.Inv X pins σ H1 { s1 with heap := h', toks := tk } := I1.kept fun b o e => hk b o (Heap.lt_size e) e
  exact call_len_set ho hex hd hf (by rw [hn]; have := dcn_le xs xs.length; omega) ⟨.int (dcn xs xs.length), H1, I2.tok _, ⟨_, by rw [hn]⟩, q1⟩⟩
def tLnTG (ta : TEt) : TEt := fun τ M Q => ta τ M fun x M1 => oSome (lstOf M1 x) fun ds => ∃ xs : List Str, ds = xs.map D.str ∧ xs.length < 4000 ∧ Q (.int (dcn xs xs.length)) M1
theorem q_lenSetG {X : Cx} {E : XK} {Et : XT} {a : Expr} {ta : TEt} {p p2 q pos : Pos} (hc : X.calm = true) (hm : X.mg "len" = none) (hm2 : X.mg "set" = none) (ha : QE X E Et a ta) (hg : Gl X "len" := by rfl) (hg2 : Gl X "set" := by rfl) (na : starEach [a] X.env = (false, eval a X.env) :: starEach [] X.env := by rfl) :
    QE X E Et (.Call (.Name "len" p) [.Call (.Name "set" p2) [a] [] q] [] pos) (tLnTG ta) := PEimp (pe_lnXG hc hg hm hg2 hm2 ha na) (by
  rintro σ H Q ⟨G, F, M, τ, Qt, a, h, k⟩
  refine ⟨G, F, M, τ, _, a, h, fun v F1 H1 M1 d s1 r1 p1 q1 => ?_⟩
  cases e : lstOf M1 d with
  | none => rw [e] at q1; exact q1.elim
  | some ds =>
    rw [e] at q1
    obtain ⟨xs, rfl, few, q2⟩ := q1
    obtain ⟨b, vs, rfl, hs, rs⟩ := lst_of r1 p1 e
    rw [rps_str rs] at hs
    exact ⟨b, xs, rfl, hs, few, k _ F1 H1 M1 _ s1 r1 (.int _) q2⟩)
theorem utLnTG {ta : TEt} {τ : Sg} {M : MH} {Q : VD} : tLnTG ta τ M Q = ta τ M fun x M1 => oSome (lstOf M1 x) fun ds => ∃ xs : List Str, ds = xs.map D.str ∧ xs.length < 4000 ∧ Q (.int (dcn xs xs.length)) M1 := propext Iff.rfl
end Tl
set_option maxHeartbeats 2000000
namespace Tl
open PySem PySem.Spec PyProof.Rows L2
/-! ### any line: what it is, or that it is none -/
def nameAt (ws : List Str) (k : Nat) : Option Str := match ws[k]? with
  | some x => if okName x then some x else none
  | none => none
def justOf (ws : List Str) (k m : Nat) : Option (List Ex) := match exprsOf (ws.drop k) with
  | some es => if es.length = m then some es else none
  | none => none
def joinOf (ws : List Str) : Option Lin := match nameAt ws 1, ws[2]?, justOf ws 3 1 with
  | some x, some v, some es => if v ∈ joinL then some (.pln (.join 0 x v (es.headD .lane))) else none
  | _, _, _ => none
def defOf (ws : List Str) : Option Lin := match nameAt ws 1 with
  | some x => if (∀ y ∈ ws.drop 2, okName y) ∧ (ws.drop 2).length ≤ 6 then some (.dff x (ws.drop 2)) else none
  | none => none
def setOf_ (ws : List Str) : Option Lin := match nameAt ws 1, justOf ws 2 1 with
  | some x, some es => some (.pln (.set 0 x (es.headD .lane)))
  | _, _ => none
def callOf (ws : List Str) : Option Lin := match nameAt ws 1, nameAt ws 2, exprsOf (ws.drop 3) with
  | some x, some f, some es => if es.length ≤ 6 then some (.pln (.call 0 x f es)) else none
  | _, _, _ => none
def namedOf (ws : List Str) : Option Lin := let w := ws.headD ""
  if w = "join" then joinOf ws else if w = "set" then setOf_ ws else if w = "def" then defOf ws else callOf ws
def bareL : List Str := ["else", "end", "break", "again", "stop", "meet"]
def onesL : List Str := ["tell", "if", "while", "return"]
def bareOf (w : Str) : Lin := if w = "else" then .els else if w = "end" then .fin else if w = "break" then .pln (.brk 0) else if w = "again" then .pln (.agn 0) else if w = "stop" then .pln (.stop 0) else .pln (.meet 0)
def oneOf (w : Str) (e : Ex) : Lin := if w = "tell" then .pln (.tell 0 e) else if w = "if" then .iff e else if w = "while" then .whl e else .pln (.ret 0 e)
def partsW (ws : List Str) : Option Lin := let w := ws.headD ""
  if w ∈ bareL ∧ ws.length = 1 then some (bareOf w) else
  if w ∈ onesL then (justOf ws 1 1).map (fun es => oneOf w (es.headD .lane)) else
  if w = "put" then (justOf ws 1 2).map (fun es => .pln (.put 0 (es.headD .lane) (es.getD 1 .lane))) else
  if w = "set" ∨ w = "def" ∨ w = "call" ∨ w = "join" then namedOf ws else none
def lineOf (x : Str) : Option Lin := partsW (Txt.split x blank)
theorem exprs_one {e : Ex} (h : okXp e) : exprsOf (wordsE e) = some [e] := exprsOf_iff.mpr ⟨by simp, fun x hx => by rw [List.mem_singleton.mp hx]; exact ⟨h.2, h.1⟩⟩
theorem bare_d {w : Str} (h : w ∈ bareL) : (bareOf w).d = .tup [.str w] ∧ (bareOf w).ok ∧ (bareOf w).words = [w] ∧ (bareOf w).n0 = bareOf w := by
  simp only [bareL, List.mem_cons, List.not_mem_nil, or_false] at h
  rcases h with rfl | rfl | rfl | rfl | rfl | rfl <;> exact ⟨rfl, trivial, rfl, rfl⟩
theorem one_d {w : Str} {e : Ex} (h : w ∈ onesL) (he : okXp e) : (oneOf w e).d = .tup [.str w, e.d] ∧ (oneOf w e).ok ∧ (oneOf w e).words = w :: wordsE e ∧ (oneOf w e).n0 = oneOf w e := by
  simp only [onesL, List.mem_cons, List.not_mem_nil, or_false] at h
  rcases h with rfl | rfl | rfl | rfl <;> exact ⟨rfl, he, rfl, rfl⟩
theorem pw_one {w : Str} {t : List Str} (h : w ∈ onesL) : partsW (w :: t) = (justOf (w :: t) 1 1).map (fun es => oneOf w (es.headD .lane)) := by
  have hb : ∀ v ∈ onesL, v ∉ bareL := by decide +kernel
  unfold partsW
  dsimp only [List.headD_cons]
  rw [if_neg (fun z => hb w h z.1), if_pos h]
theorem pw_put {t : List Str} : partsW ("put" :: t) = (justOf ("put" :: t) 1 2).map (fun es => .pln (.put 0 (es.headD .lane) (es.getD 1 .lane))) := by
  have h1 : ("put" : Str) ∉ bareL ∧ ("put" : Str) ∉ onesL := by decide +kernel
  unfold partsW
  dsimp only [List.headD_cons]
  rw [if_neg (fun z => h1.1 z.1), if_neg h1.2, if_pos rfl]
theorem pw_named {w : Str} {t : List Str} (h : w = "set" ∨ w = "def" ∨ w = "call" ∨ w = "join") : partsW (w :: t) = namedOf (w :: t) := by
  have h1 : ∀ v ∈ (["set", "def", "call", "join"] : List Str), v ∉ bareL ∧ v ∉ onesL ∧ v ≠ "put" := by decide +kernel
  obtain ⟨q1, q2, q3⟩ := h1 w (by simpa using h)
  unfold partsW
  dsimp only [List.headD_cons]
  rw [if_neg (fun z => q1 z.1), if_neg q2, if_neg q3, if_pos h]
theorem nm_join {t : List Str} : namedOf ("join" :: t) = joinOf ("join" :: t) := by
  unfold namedOf
  dsimp only [List.headD_cons]
  rw [if_pos rfl]
theorem nm_set {t : List Str} : namedOf ("set" :: t) = setOf_ ("set" :: t) := by
  unfold namedOf
  dsimp only [List.headD_cons]
  rw [if_neg (by decide +kernel), if_pos rfl]
theorem nm_def {t : List Str} : namedOf ("def" :: t) = defOf ("def" :: t) := by
  unfold namedOf
  dsimp only [List.headD_cons]
  rw [if_neg (by decide +kernel), if_neg (by decide +kernel), if_pos rfl]
theorem nm_call {t : List Str} : namedOf ("call" :: t) = callOf ("call" :: t) := by
  unfold namedOf
  dsimp only [List.headD_cons]
  rw [if_neg (by decide +kernel), if_neg (by decide +kernel), if_neg (by decide +kernel)]
/-- a good line is read as itself, its number left out -/
theorem parts_words : ∀ {l : Lin}, l.ok → partsW l.words = some l.n0 := by
  intro l h
  have nm : ∀ {x : Str} {r : List Str} {w : Str}, okName x → nameAt (w :: x :: r) 1 = some x := fun {x r w} hx => by
    show (if okName x then some x else none) = _
    rw [if_pos hx]
  have js1 : ∀ {e : Ex} {w : Str}, okXp e → justOf (w :: wordsE e) 1 1 = some [e] := fun {e w} he => by
    unfold justOf
    rw [List.drop_succ_cons, List.drop_zero, exprs_one he]
    rfl
  have js2 : ∀ {e : Ex} {w x : Str}, okXp e → justOf (w :: x :: wordsE e) 2 1 = some [e] := fun {e w x} he => by
    unfold justOf
    rw [List.drop_succ_cons, List.drop_succ_cons, List.drop_zero, exprs_one he]
    rfl
  have js3 : ∀ {e : Ex} {w x v : Str}, okXp e → justOf (w :: x :: v :: wordsE e) 3 1 = some [e] := fun {e w x v} he => by
    unfold justOf
    rw [List.drop_succ_cons, List.drop_succ_cons, List.drop_succ_cons, List.drop_zero, exprs_one he]
    rfl
  cases l with
  | dff x ps =>
    rw [show (Lin.dff x ps).words = ("def" : Str) :: x :: ps from rfl, pw_named (.inr (.inl rfl)), nm_def]
    unfold defOf
    rw [nm h.1]
    exact if_pos ⟨h.2.2, h.2.1⟩
  | iff e =>
    rw [show (Lin.iff e).words = ("if" : Str) :: wordsE e from rfl, pw_one (by decide +kernel), js1 h]
    rfl
  | whl e =>
    rw [show (Lin.whl e).words = ("while" : Str) :: wordsE e from rfl, pw_one (by decide +kernel), js1 h]
    rfl
  | els => rfl
  | fin => rfl
  | pln s =>
    cases s with
    | set l x e =>
      rw [show (Lin.pln (.set l x e)).words = ("set" : Str) :: x :: wordsE e from rfl, pw_named (.inl rfl), nm_set]
      unfold setOf_
      rw [nm h.1, js2 h.2]
      rfl
    | put l a b =>
      have : justOf (("put" : Str) :: (wordsE a ++ wordsE b)) 1 2 = some [a, b] := by
        unfold justOf
        rw [List.drop_succ_cons, List.drop_zero, (exprsOf_iff (es := [a, b])).mpr ⟨by simp, fun x hx => by
          simp only [List.mem_cons, List.not_mem_nil, or_false] at hx
          rcases hx with rfl | rfl
          · exact ⟨h.1.2, h.1.1⟩
          · exact ⟨h.2.2, h.2.1⟩⟩]
        rfl
      rw [show (Lin.pln (.put l a b)).words = ("put" : Str) :: (wordsE a ++ wordsE b) from rfl, pw_put, this]
      rfl
    | tell l e =>
      rw [show (Lin.pln (.tell l e)).words = ("tell" : Str) :: wordsE e from rfl, pw_one (by decide +kernel), js1 h]
      rfl
    | ret l e =>
      rw [show (Lin.pln (.ret l e)).words = ("return" : Str) :: wordsE e from rfl, pw_one (by decide +kernel), js1 h]
      rfl
    | join l x v e =>
      rw [show (Lin.pln (.join l x v e)).words = ("join" : Str) :: x :: v :: wordsE e from rfl, pw_named (.inr (.inr (.inr rfl))), nm_join]
      unfold joinOf
      rw [nm h.1, show (("join" : Str) :: x :: v :: wordsE e)[2]? = some v from rfl, js3 h.2.2]
      exact if_pos h.2.1
    | call l x f es =>
      rw [show (Lin.pln (.call l x f es)).words = ("call" : Str) :: x :: f :: es.flatMap wordsE from rfl, pw_named (.inr (.inr (.inl rfl))), nm_call]
      unfold callOf
      rw [nm h.1, show nameAt (("call" : Str) :: x :: f :: es.flatMap wordsE) 2 = some f from if_pos h.2.1, show (("call" : Str) :: x :: f :: es.flatMap wordsE).drop 3 = es.flatMap wordsE from rfl, exprsOf_iff.mpr ⟨rfl, fun e he => ⟨(h.2.2.2 e he).2, (h.2.2.2 e he).1⟩⟩]
      exact if_pos h.2.2.1
    | stop l => rfl
    | brk l => rfl
    | agn l => rfl
    | meet l => rfl
    | if1 l e b => exact h.elim
    | if2 l e b c => exact h.elim
    | whl l e b => exact h.elim
theorem lineOf_txt {l : Lin} (h : l.ok) : lineOf l.txt = some l.n0 := by
  unfold lineOf
  rw [lin_split h]
  exact parts_words h
theorem name_at_some {ws : List Str} {k : Nat} {x : Str} (h : nameAt ws k = some x) : ws[k]? = some x ∧ okName x := by
  unfold nameAt at h
  split at h
  · rename_i y hy
    split at h
    · rename_i ok
      cases h
      exact ⟨hy, ok⟩
    · cases h
  · cases h
theorem just_some {ws : List Str} {k m : Nat} {es : List Ex} (h : justOf ws k m = some es) : ws.drop k = es.flatMap wordsE ∧ (∀ e ∈ es, okXp e) ∧ es.length = m := by
  unfold justOf at h
  split at h
  · rename_i es' he
    split at h
    · rename_i hl
      cases h
      obtain ⟨h1, h2⟩ := exprsOf_iff.mp he
      exact ⟨h1, fun e hx => ⟨(h2 e hx).2, (h2 e hx).1⟩, hl⟩
    · cases h
  · cases h
theorem just_one1 {ws : List Str} {k : Nat} {es : List Ex} (h : justOf ws k 1 = some es) : ∃ e, es = [e] ∧ ws.drop k = wordsE e ∧ okXp e := by
  obtain ⟨h1, h2, h3⟩ := just_some h
  obtain ⟨e, rfl⟩ := List.length_eq_one_iff.mp h3
  exact ⟨e, rfl, by rw [h1]; simp, h2 e (List.mem_singleton.mpr rfl)⟩
theorem two_of {ws : List Str} {a b : Str} (h0 : ws.headD "" = a) (h1 : ws[1]? = some b) : ws = a :: b :: ws.drop 2 := by
  match ws, h0, h1 with
  | [], _, h1 => cases h1
  | [_], _, h1 => cases h1
  | x :: y :: r, h0, h1 => cases h1; cases h0; rfl
/-- what is read is a good line, of just these words -/
theorem parts_some {ws : List Str} {l : Lin} (h : partsW ws = some l) : l.ok ∧ ws = l.words ∧ l.n0 = l := by
  unfold partsW at h
  dsimp only at h
  split at h
  · rename_i hc
    cases h
    obtain ⟨_, b2, b3, b4⟩ := bare_d hc.1
    refine ⟨b2, ?_, b4⟩
    rw [b3]
    obtain ⟨x, rfl⟩ := List.length_eq_one_iff.mp hc.2
    rfl
  split at h
  · rename_i hc
    cases hj : justOf ws 1 1 with
    | none => rw [hj] at h; cases h
    | some es =>
      rw [hj] at h
      cases h
      obtain ⟨e, rfl, he, ok⟩ := just_one1 hj
      obtain ⟨_, b2, b3, b4⟩ := one_d hc ok
      refine ⟨b2, ?_, b4⟩
      show ws = (oneOf _ e).words
      rw [b3]
      cases ws with
      | nil => simp [onesL] at hc; exact absurd hc (by decide +kernel)
      | cons a t => rw [← he]; rfl
  split at h
  · rename_i hc
    cases hj : justOf ws 1 2 with
    | none => rw [hj] at h; cases h
    | some es =>
      rw [hj] at h
      cases h
      obtain ⟨h1, h2, h3⟩ := just_some hj
      match es, h3 with
      | [a, b], _ =>
        refine ⟨⟨h2 a (by simp), h2 b (by simp)⟩, ?_, rfl⟩
        show ws = ("put" : Str) :: (wordsE a ++ wordsE b)
        cases ws with
        | nil => exact absurd hc (by decide +kernel)
        | cons w t =>
          cases hc
          congr 1
          simpa using h1
  split at h
  · rename_i hc
    unfold namedOf at h
    dsimp only at h
    split at h
    · rename_i hw
      unfold joinOf at h
      split at h
      · rename_i x v es h1 h2 h3
        split at h
        · rename_i hv
          cases h
          obtain ⟨n1, n2⟩ := name_at_some h1
          obtain ⟨e, rfl, he, ok⟩ := just_one1 h3
          refine ⟨⟨n2, hv, ok⟩, ?_, rfl⟩
          show ws = ("join" : Str) :: x :: v :: wordsE e
          rw [two_of hw n1]
          have : ws.drop 2 = v :: ws.drop 3 := by
            have hlt : 2 < ws.length := (List.getElem?_eq_some_iff.mp h2).1
            rw [List.drop_eq_getElem_cons hlt]
            congr 1
            exact (List.getElem?_eq_some_iff.mp h2).2
          rw [this, he]
        · cases h
      · cases h
    split at h
    · rename_i hw
      unfold setOf_ at h
      split at h
      · rename_i x es h1 h2
        cases h
        obtain ⟨n1, n2⟩ := name_at_some h1
        obtain ⟨e, rfl, he, ok⟩ := just_one1 h2
        refine ⟨⟨n2, ok⟩, ?_, rfl⟩
        show ws = ("set" : Str) :: x :: wordsE e
        rw [two_of hw n1, he]
      · cases h
    split at h
    · rename_i hw
      unfold defOf at h
      split at h
      · rename_i x h1
        split at h
        · rename_i hp
          cases h
          obtain ⟨n1, n2⟩ := name_at_some h1
          exact ⟨⟨n2, hp.2, hp.1⟩, two_of hw n1, rfl⟩
        · cases h
      · cases h
    · rename_i n1 n2 n3
      have hw : ws.headD "" = "call" := by
        rcases hc with q | q | q | q
        · exact absurd q n2
        · exact absurd q n3
        · exact q
        · exact absurd q n1
      unfold callOf at h
      split at h
      · rename_i x f es h1 h2 h3
        split at h
        · rename_i hl
          cases h
          obtain ⟨m1, m2⟩ := name_at_some h1
          obtain ⟨m3, m4⟩ := name_at_some h2
          obtain ⟨q1, q2⟩ := exprsOf_iff.mp h3
          refine ⟨⟨m2, m4, hl, fun e he => ⟨(q2 e he).2, (q2 e he).1⟩⟩, ?_, rfl⟩
          show ws = ("call" : Str) :: x :: f :: es.flatMap wordsE
          rw [two_of hw m1]
          have : ws.drop 2 = f :: ws.drop 3 := by
            have hlt : 2 < ws.length := (List.getElem?_eq_some_iff.mp m3).1
            rw [List.drop_eq_getElem_cons hlt]
            congr 1
            exact (List.getElem?_eq_some_iff.mp m3).2
          rw [this, q1]
        · cases h
      · cases h
  · cases h
theorem lineOf_some {x : Str} {l : Lin} (h : lineOf x = some l) : l.ok ∧ l.txt = x ∧ l.n0 = l := by
  obtain ⟨h1, h2, h3⟩ := parts_some h
  refine ⟨h1, ?_, h3⟩
  unfold Lin.txt
  rw [← h2]
  have e : sgn 32 = blank := by decide +kernel
  have := (split_ex 32 (by decide) x).1
  rw [e] at this
  exact this.symm
end Tl
set_option maxHeartbeats 2000000
namespace Tl
open PySem PySem.Spec PyProof.Rows L2
/-! ### what comes of any text -/
inductive RdX where
  | many | line | nest | name | ok (pg : Pg)
def linesOf : List Str → Option (List Lin)
  | [] => some []
  | x :: t => match lineOf x, linesOf t with
    | some l, some ls => some (l :: ls)
    | _, _ => none
def namesP (pg : Pg) : Prop := namesIn pg ∧ ∀ o ∈ pg, o.ps.Nodup
instance (pg : Pg) : Decidable (namesP pg) := by unfold namesP; infer_instance
def readOf (xs : List Str) : RdX := if 200 < xs.length then .many else match linesOf xs with
  | none => .line
  | some gs => match nestGo 1 ([], []) gs with
    | some (pg, []) => if namesP pg then .ok pg else .name
    | _ => .nest
theorem linesOf_some : ∀ {xs : List Str} {gs : List Lin}, linesOf xs = some gs ↔ xs.map lineOf = gs.map some
  | [], gs => by
    cases gs with
    | nil => exact ⟨fun _ => rfl, fun _ => rfl⟩
    | cons a t => exact ⟨(fun h => by cases h), (fun h => by cases h)⟩
  | x :: t, gs => by
    unfold linesOf
    constructor
    · intro h
      split at h
      · rename_i l ls h1 h2
        cases h
        rw [List.map_cons, List.map_cons, h1, linesOf_some.mp h2]
      · cases h
    · intro h
      cases gs with
      | nil => cases h
      | cons a r =>
        rw [List.map_cons, List.map_cons] at h
        obtain ⟨h1, h2⟩ := List.cons.inj h
        rw [h1, linesOf_some.mpr h2]
theorem linesOf_none : ∀ {xs : List Str}, linesOf xs = none ↔ ∃ x ∈ xs, lineOf x = none
  | [] => ⟨(fun h => by cases h), (fun ⟨x, hx, _⟩ => by cases hx)⟩
  | x :: t => by
    unfold linesOf
    constructor
    · intro h
      cases h1 : lineOf x with
      | none => exact ⟨x, List.mem_cons_self .., h1⟩
      | some l =>
        cases h2 : linesOf t with
        | none =>
          obtain ⟨y, hy, e⟩ := linesOf_none.mp h2
          exact ⟨y, List.mem_cons_of_mem _ hy, e⟩
        | some ls => rw [h1, h2] at h; cases h
    · rintro ⟨y, hy, e⟩
      rcases List.mem_cons.mp hy with rfl | hy
      · rw [e]
      · rw [linesOf_none.mpr ⟨y, hy, e⟩]
        cases lineOf x <;> rfl
theorem lines_ok {xs : List Str} {gs : List Lin} (h : linesOf xs = some gs) : gs.length = xs.length ∧ (∀ l ∈ gs, l.ok) ∧ xs = gs.map Lin.txt ∧ ∀ l ∈ gs, l.n0 = l := by
  have h := linesOf_some.mp h
  refine ⟨by simpa using (congrArg List.length h).symm, fun l hl => ?_, ?_, fun l hl => ?_⟩
  · have : some l ∈ xs.map lineOf := by rw [h]; exact List.mem_map.mpr ⟨l, hl, rfl⟩
    obtain ⟨x, _, e⟩ := List.mem_map.mp this
    exact (lineOf_some e).1
  · apply List.ext_getElem
    · simpa using congrArg List.length h
    · intro i h1 h2
      rw [List.getElem_map]
      have e : (xs.map lineOf)[i]? = (gs.map some)[i]? := by rw [h]
      rw [List.getElem?_map, List.getElem?_map, List.getElem?_eq_getElem h1, List.getElem?_eq_getElem (by simpa using h2)] at e
      exact (lineOf_some (Option.some.inj e)).2.1.symm
  · have : some l ∈ xs.map lineOf := by rw [h]; exact List.mem_map.mpr ⟨l, hl, rfl⟩
    obtain ⟨x, _, e⟩ := List.mem_map.mp this
    exact (lineOf_some e).2.2
/-- a program that was read is small -/
theorem read_fit {gs : List Lin} {pg : Pg} (hok : ∀ l ∈ gs, l.ok) (hl : gs.length ≤ 1000) (h : nestGo 1 ([], []) gs = some (pg, [])) :
    pg.length ≤ 1000 ∧ (∀ o ∈ pg, deeps o.body < 10 ∧ (allBd o.body).length ≤ 1000 ∧ okShB o.body ∧ o.ps.length ≤ 6 ∧ okName o.name) ∧ (∀ x, (∃ o ∈ pg, ∃ s ∈ allBd o.body, x = hdLn s) ↔ ∃ l ∈ gs, l.stm = true ∧ x = l.n0) := by
  have hpl : ∀ l ∈ gs, l.plain := fun l hl => plain_ok (hok l hl)
  have h1 := go_dep (st := ([], [])) hpl trivial ⟨(fun o ho => by cases ho), trivial, Nat.zero_le _⟩ h
  have h2 := go_cnt (st := ([], [])) hpl trivial h
  have h3 := go_hd (st := ([], [])) hpl trivial h
  obtain ⟨h4, h5⟩ := go_hds (st := ([], [])) hpl trivial ⟨trivial, fun _ => rfl, fun q => absurd rfl q⟩ h
  have h6 := go_dfs (L := gs) (d := []) (p := []) trivial (fun l hl => hl) (fun o ho => by cases ho) (fun i hi => by cases hi) h
  have hcnt : ∀ o ∈ pg, (allBd o.body).length ≤ 1000 := fun o ho => by
    have := cnt_mem ho
    have h2 : (pg.map fun o => (allBd o.body).length).sum + 0 ≤ 0 + gs.length := h2
    omega
  have h4 : (pg.map fun o => (o.name, o.first)) = hdsL 1 gs := by
    have : hdsSt (pg, []) = (pg.map fun o => (o.name, o.first)) := by unfold hdsSt hdsO; simp
    rw [← this, h4]
    rfl
  have hlen : pg.length ≤ 1000 := by
    have := congrArg List.length h4
    rw [List.length_map] at this
    have hh : ∀ {ls : List Lin} {k : Int}, (hdsL k ls).length ≤ ls.length := fun {ls} => by
      induction ls with
      | nil => intro k; exact Nat.le_refl _
      | cons a t ih =>
        intro k
        rw [hdsL_cons, List.length_append, List.length_cons]
        have h7 := @ih (k + 1)
        have h8 : (hdsL k [a]).length ≤ 1 := by cases a <;> simp [hdsL]
        omega
    have := @hh gs 1
    omega
  have hhd : ∀ x, (∃ o ∈ pg, ∃ s ∈ allBd o.body, x = hdLn s) ↔ ∃ l ∈ gs, l.stm = true ∧ x = l.n0 := fun x => by
    have h3 := h3 x
    unfold allHd at h3
    simp only [List.flatMap_nil, List.append_nil, List.mem_flatMap, List.mem_map, List.not_mem_nil, false_or] at h3
    rw [← h3]
    constructor
    · rintro ⟨o, ho, s, hs, rfl⟩; exact ⟨o, ho, s, hs, rfl⟩
    · rintro ⟨o, ho, s, hs, rfl⟩; exact ⟨o, ho, s, hs, rfl⟩
  have hsh : ∀ o ∈ pg, okShB o.body := fun o ho s hs => by
    obtain ⟨l, hl, h7, h8⟩ := (hhd (hdLn s)).mp ⟨o, ho, s, hs, rfl⟩
    exact hd_ok (hok l hl) h7 h8
  exact ⟨hlen, fun o ho => ⟨by have := h1.1 o ho; omega, hcnt o ho, hsh o ho, (hok _ (h6 o ho)).2.1, (hok _ (h6 o ho)).1⟩, hhd⟩
/-! ### heads of defs, in their order, with their parameters -/
def dffP : Lin → List (Str × List Str)
  | .dff x ps => [(x, ps)]
  | _ => []
def botP (p : List Opn) : List (Str × List Str) := match p.getLast? with
  | some o => dffP o.l
  | none => []
def hdP (st : Pg × List Opn) : List (Str × List Str) := (st.1.map fun o => (o.name, o.ps)) ++ botP st.2
theorem botP_push {o j : Opn} {r : List Opn} : botP (o :: j :: r) = botP (j :: r) := by unfold botP; rw [List.getLast?_cons_cons]
theorem botP_same {o i : Opn} {r : List Opn} (h : o.l = i.l) : botP (o :: r) = botP (i :: r) := by
  cases r with
  | nil => show dffP o.l = dffP i.l; rw [h]
  | cons j t => rw [botP_push, botP_push]
theorem step_hdP {k : Int} {d : Pg} {p : List Opn} {l : Lin} (ok : pileOk p) (hm : mayLn p l = true) : hdP (nestStep k (d, p) l) = hdP (d, p) ++ dffP l := by
  cases l with
  | dff y ps =>
    have hm : p.isEmpty = true := hm
    rw [List.isEmpty_iff] at hm
    subst hm
    show (d.map fun o => (o.name, o.ps)) ++ [(y, ps)] = (d.map fun o => (o.name, o.ps)) ++ [] ++ [(y, ps)]
    rw [List.append_nil]
  | iff e =>
    cases p with
    | nil => cases hm
    | cons i r => show _ ++ botP (_ :: i :: r) = (_ ++ botP (i :: r)) ++ []; rw [botP_push, List.append_nil]; try rfl
  | whl e =>
    cases p with
    | nil => cases hm
    | cons i r => show _ ++ botP (_ :: i :: r) = (_ ++ botP (i :: r)) ++ []; rw [botP_push, List.append_nil]; try rfl
  | els =>
    cases p with
    | nil => cases hm
    | cons i r => show _ ++ botP ({ i with c := some [] } :: r) = (_ ++ botP (i :: r)) ++ []; rw [botP_same (o := { i with c := some [] }) (i := i) rfl, List.append_nil]; try rfl
  | pln s =>
    cases p with
    | nil => cases s <;> cases hm
    | cons i r => show _ ++ botP (i.add (s.at_ k) :: r) = (_ ++ botP (i :: r)) ++ []; rw [botP_same add_l.1, List.append_nil]; try rfl
  | fin =>
    cases p with
    | nil => cases hm
    | cons i r =>
      cases r with
      | nil =>
        show ((d ++ [i.df k]).map fun o => (o.name, o.ps)) ++ [] = ((d.map fun o => (o.name, o.ps)) ++ dffP i.l) ++ []
        rw [List.append_nil, List.append_nil, List.map_append]
        congr 1
        have hd : i.l.isDef = true := ok.2
        obtain ⟨line, l, b, c⟩ := i
        cases l with
        | dff y ps => rfl
        | _ => cases hd
      | cons j t => show _ ++ botP (j.add i.st :: t) = (_ ++ botP (i :: j :: t)) ++ []; rw [botP_push, botP_same add_l.1, List.append_nil]; try rfl
theorem go_hdP : ∀ {ls : List Lin} {k : Int} {st r : Pg × List Opn}, pileOk st.2 → nestGo k st ls = some r → hdP r = hdP st ++ ls.flatMap dffP
  | [], k, st, r, _, h => by cases h; simp
  | l :: t, k, st, r, ok, h => by
    unfold nestGo at h
    split at h
    · rename_i hm
      rw [go_hdP (step_ok ok hm) h, step_hdP ok hm, List.flatMap_cons, List.append_assoc]
    · cases h
theorem read_heads {gs : List Lin} {pg : Pg} (h : nestGo 1 ([], []) gs = some (pg, [])) : (pg.map fun o => (o.name, o.ps)) = gs.flatMap dffP := by
  have := go_hdP (st := ([], [])) trivial h
  simpa [hdP, botP] using this
/-- names as they ought to be, told by the lines -/
def roomL (hs : List (Str × List Str)) (f : Str) : Option Nat := (hs.find? fun o => decide (o.1 = f)).map fun o => o.2.length
def namesL (gs : List Lin) : Prop := ((gs.flatMap dffP).map (·.1)).Nodup ∧ (∀ q ∈ gs.flatMap dffP, q.2.Nodup) ∧ roomL (gs.flatMap dffP) "main" = some 0 ∧ ∀ l x f es, Lin.pln (.call l x f es) ∈ gs → f ≠ "main" ∧ roomL (gs.flatMap dffP) f = some es.length
theorem room_L {pg : Pg} {f : Str} : roomOf pg f = roomL (pg.map fun o => (o.name, o.ps)) f := by
  unfold roomOf roomL
  rw [List.find?_map, Option.map_map]
  rfl
theorem names_L {gs : List Lin} {pg : Pg} (hok : ∀ l ∈ gs, l.ok) (hl : gs.length ≤ 1000) (h : nestGo 1 ([], []) gs = some (pg, [])) : namesP pg ↔ namesL gs := by
  obtain ⟨_, _, hd⟩ := read_fit hok hl h
  have hh := read_heads h
  unfold namesP namesIn namesL
  rw [room_L, ← hh]
  have e1 : (pg.map fun o => (o.name, o.ps)).map (·.1) = pg.map (·.name) := by rw [List.map_map]; rfl
  rw [e1]
  have e2 : (∀ q ∈ (pg.map fun o => (o.name, o.ps)), q.2.Nodup) ↔ ∀ o ∈ pg, o.ps.Nodup := by simp
  rw [e2]
  have e3 : (∀ o ∈ pg, ∀ s ∈ allBd o.body, callOk pg s) ↔ ∀ l x f es, Lin.pln (.call l x f es) ∈ gs → f ≠ "main" ∧ roomL (pg.map fun o => (o.name, o.ps)) f = some es.length := by
    constructor
    · intro hc l x f es hm
      obtain ⟨o, ho, s, hs, e⟩ := (hd (.pln (.call 0 x f es))).mpr ⟨_, hm, rfl, rfl⟩
      have := hc o ho s hs
      cases s with
      | call k y g vs =>
        cases e
        rw [← room_L]
        exact this
      | _ => cases e
    · intro hc o ho s hs
      cases s with
      | call k y g vs =>
        obtain ⟨l, hl, h2, h3⟩ := (hd _).mp ⟨o, ho, _, hs, rfl⟩
        cases l with
        | pln t =>
          cases t <;> first | (cases h3; have := hc _ _ _ _ hl; rw [← room_L] at this; exact this) | cases h3
        | _ => cases h3
      | _ => trivial
  rw [e3]
  constructor
  · rintro ⟨⟨a, b, c⟩, d⟩; exact ⟨a, d, b, c⟩
  · rintro ⟨a, d, b, c⟩; exact ⟨⟨a, b, c⟩, d⟩
/-! ### texts as lines -/
theorem split_textA {xs : List Str} (hne : xs ≠ []) (h : ∀ x ∈ xs, 10 ∉ cds x) : Txt.split (Txt.join lineEnd xs) lineEnd = xs :=
  TL.split_join (y := lineEnd) (s := 10) (S := []) (by decide +kernel) (by decide +kernel) hne h
theorem text_lenA {xs : List Str} (h : ∀ x ∈ xs, x.length ≤ 10000) : (Txt.join lineEnd xs).length ≤ 10001 * xs.length := by
  have h1 := joinL_len xs
  have h2 := sum_le_mul (k := 10000) (ws := xs) h
  omega
end Tl
set_option maxHeartbeats 2000000
namespace Tl
open PySem PySem.Spec PyProof.Rows L2
/-! ### rows of a text that are lines, or none (k07) -/
def argsOne : Lin → Prop
  | .pln (.call _ _ _ es) => ∀ e ∈ es, (wordsE e).length = 1
  | _ => True
def goodRow (x : Str) : Prop := x.length ≤ 200 ∧ ∃ l, lineOf x = some l ∧ argsOne l
def badRow (x : Str) : Prop := x.length ≤ 200 ∧ 10 ∉ cds x ∧ lineOf x = none
def isHd (x : Str) : Prop := cutS x none (some 4) = "def "
instance (x : Str) : Decidable (isHd x) := by unfold isHd; infer_instance
/-- a name that the law draws -/
def nameX (x : Str) : Prop := 5 ≤ x.length ∧ x.length ≤ 7 ∧ (∀ c ∈ cds x, 97 ≤ c ∧ c ≤ 122) ∧ 122 ∈ cds x
theorem kept_z : ∀ w ∈ keptL, 122 ∉ cds w := by decide +kernel
theorem nameX_ok {x : Str} (h : nameX x) : okName x := by
  obtain ⟨h1, h2, h3, h4⟩ := h
  refine ⟨⟨by omega, by omega, ?_⟩, fun q => kept_z x q h4⟩
  rw [List.all_eq_true]
  intro c hc
  have := h3 c hc
  simp [this.1, this.2]
theorem nameX_x {x : Str} (h : nameX x) (hl : x.length ≤ 6) : nameX (x ++ "x") := by
  obtain ⟨h1, h2, h3, h4⟩ := h
  have e : (Str.ofString "x").length = 1 := by decide +kernel
  refine ⟨by rw [len_app]; omega, by rw [len_app, e]; omega, fun c hc => ?_, ?_⟩
  · rw [cds_app] at hc
    rcases List.mem_append.mp hc with hc | hc
    · exact h3 c hc
    · have : cds ("x" : Str) = [120] := by decide +kernel
      rw [this, List.mem_singleton] at hc
      omega
  · rw [cds_app]; exact List.mem_append_left _ h4
/-! codes of words in a row -/
def jc : List Str → List Nat
  | [] => []
  | [w] => cds w
  | w :: v :: r => cds w ++ 32 :: jc (v :: r)
theorem cds_jc : ∀ ws : List Str, cds (Txt.join blank ws) = jc ws
  | [] => by decide +kernel
  | [w] => by rw [tjoin_one]; rfl
  | w :: v :: r => by
    have hb : cds blank = [32] := by decide +kernel
    rw [join_cons (by simp), cds_app, cds_app, hb, cds_jc (v :: r), List.append_assoc]
    rfl
theorem join_of {x : Str} {ws : List Str} (h : cds x = jc ws) : x = Txt.join blank ws := cds_inj (by rw [h, cds_jc])
theorem good_of {l : Lin} (h : l.ok) (a : argsOne l.n0) (hl : l.txt.length ≤ 200) : goodRow l.txt := ⟨hl, _, lineOf_txt h, a⟩
theorem short_row {ws : List Str} (hw : ∀ w ∈ ws, okWd w) (hl : ws.length ≤ 18) : (Txt.join blank ws).length ≤ 200 := by
  have h3 := sum_le_mul (k := 10) (ws := ws) fun w h => (hw w h).2.1
  have h4 := join_len ws
  omega
theorem row_of {x : Str} {l : Lin} (hx : cds x = jc l.words) (h : l.ok) (a : argsOne l.n0) (hl : l.words.length ≤ 18) : goodRow x := by
  have e : x = l.txt := join_of hx
  subst e
  exact good_of h a (short_row (lin_wd h).1 hl)
theorem row_bad {x : Str} {ws : List Str} (hx : cds x = jc ws) (hne : ws ≠ []) (hw : ∀ w ∈ ws, okWd w) (hp : partsW ws = none) (hl : ws.length ≤ 18) : badRow x := by
  have e : x = Txt.join blank ws := join_of hx
  have hs : Txt.split x blank = ws := by
    rw [e]
    exact TL.split_join (y := blank) (s := 32) (S := []) (by decide +kernel) (by decide +kernel) hne fun p hp => (hw p hp).1
  refine ⟨by rw [e]; exact short_row hw hl, ?_, by unfold lineOf; rw [hs]; exact hp⟩
  rw [e, cds_jc]
  have : ∀ ws : List Str, (∀ w ∈ ws, okWd w) → 10 ∉ jc ws := fun ws => by
    induction ws with
    | nil => intro _ q; cases q
    | cons a t ih =>
      intro hw q
      cases t with
      | nil => exact (hw a (List.mem_cons_self ..)).2.2 q
      | cons b r =>
        have q : 10 ∈ cds a ++ 32 :: jc (b :: r) := q
        rcases List.mem_append.mp q with q | q
        · exact (hw a (List.mem_cons_self ..)).2.2 q
        · rcases List.mem_cons.mp q with q | q
          · cases q
          · exact ih (fun w hw' => hw w (List.mem_cons_of_mem _ hw')) q
  exact this ws hw
theorem good_free {x : Str} (h : goodRow x) : 10 ∉ cds x ∧ x.length ≤ 10000 := by
  obtain ⟨h1, l, h2, _⟩ := h
  obtain ⟨k1, k2, _⟩ := lineOf_some h2
  exact ⟨by rw [← k2]; exact line_free k1, by omega⟩
def goodB (x : Str) : Bool := decide (x.length ≤ 200) && match lineOf x with
  | some (.pln (.call _ _ _ es)) => es.all fun e => decide ((wordsE e).length = 1)
  | some _ => true
  | none => false
theorem goodB_ok {x : Str} (h : goodB x = true) : goodRow x := by
  unfold goodB at h
  rw [Bool.and_eq_true, decide_eq_true_iff] at h
  refine ⟨h.1, ?_⟩
  cases e : lineOf x with
  | none => rw [e] at h; cases h.2
  | some l =>
    refine ⟨l, rfl, ?_⟩
    rw [e] at h
    cases l with
    | pln s =>
      cases s with
      | call k y f es =>
        intro e he
        have := List.all_eq_true.mp h.2 e he
        simpa using this
      | _ => trivial
    | _ => trivial
def badB (x : Str) : Bool := decide (x.length ≤ 200) && decide (10 ∉ cds x) && (lineOf x).isNone
theorem badB_ok {x : Str} (h : badB x = true) : badRow x := by
  unfold badB at h
  rw [Bool.and_eq_true, Bool.and_eq_true, decide_eq_true_iff, decide_eq_true_iff, Option.isNone_iff_eq_none] at h
  exact ⟨h.1.1, h.1.2, h.2⟩
/-! the rows that the law draws: closed ones -/
theorem good_lits : ∀ x ∈ (["tell 0", "put 0 mine", "meet", "stop", "set main 7", "else", "end", "while lane", "break", "again", "tell 5", "while 0", "if 0", "return 1", "set a 0", "put 0 5", "join a sum 0", "join a least 0", "return 0", "if lane", "if 1", "def main"] : List Str), goodRow x := by
  have : (["tell 0", "put 0 mine", "meet", "stop", "set main 7", "else", "end", "while lane", "break", "again", "tell 5", "while 0", "if 0", "return 1", "set a 0", "put 0 5", "join a sum 0", "join a least 0", "return 0", "if lane", "if 1", "def main"] : List Str).all goodB = true := by decide +kernel
  exact fun x hx => goodB_ok (List.all_eq_true.mp this x hx)
theorem bad_lits : ∀ x ∈ (["", " ", "sett x 0", "set if 0", "put 0", "put 0 0 0", "tell", "if", "if 0 0", "else 0", "end end", "break 1", "again ", "def", "return", "stop 0", "meet 0", " tell 0", "tell 0 ", "tell  0", "Tell 0", "tell -0", "tell 1234567890", "tell abcdefghi", "tell + 1", "tell box", "tell box box box box box box box 0", "set X 0", "while"] : List Str), badRow x := by
  have : (["", " ", "sett x 0", "set if 0", "put 0", "put 0 0 0", "tell", "if", "if 0 0", "else 0", "end end", "break 1", "again ", "def", "return", "stop 0", "meet 0", " tell 0", "tell 0 ", "tell  0", "Tell 0", "tell -0", "tell 1234567890", "tell abcdefghi", "tell + 1", "tell box", "tell box box box box box box box 0", "set X 0", "while"] : List Str).all badB = true := by decide +kernel
  exact fun x hx => badB_ok (List.all_eq_true.mp this x hx)
/-! the rows with a drawn name -/
theorem d_wd {w : Str} (h : w ∈ (["0", "1", "00", "3", "lane", "a", "b", "c", "d", "e", "f", "g", "plus", "sum"] : List Str)) : okWd w := by
  revert w
  unfold okWd
  decide +kernel
theorem r_plain {a : Str} (h : okName a) : ∀ x ∈ [(Str.ofString "set " ++ a ++ Str.ofString " + lane 1"), Str.ofString "join " ++ a ++ Str.ofString " sum lanes", Str.ofString "tell box " ++ a, Str.ofString "put box 1 - 0 " ++ a, Str.ofString "join " ++ a ++ Str.ofString " ahead 1",
    Str.ofString "join " ++ a ++ Str.ofString " most rem 5 3", Str.ofString "join " ++ a ++ Str.ofString " least " ++ a, Str.ofString "if " ++ a, Str.ofString "call " ++ a ++ Str.ofString " main"], goodRow x := by
  have ej : ∀ w ∈ joinL, w ∈ joinL := fun _ q => q
  simp only [List.forall_mem_cons, List.not_mem_nil, false_imp_iff, implies_true, and_true]
  refine ⟨row_of (l := .pln (.set 0 a (.op .add .lane (.num 1)))) (by simp only [cds_app]; kernel_rfl) ⟨h, by simp [okXp, okW, Ex.deep]⟩ trivial (Nat.le_of_ble_eq_true rfl),
    row_of (l := .pln (.join 0 a "sum" .lanes)) (by simp only [cds_app]; kernel_rfl) ⟨h, by decide +kernel, by simp [okXp, okW, Ex.deep]⟩ trivial (Nat.le_of_ble_eq_true rfl),
    row_of (l := .pln (.tell 0 (.box (.nam a)))) (by simp only [cds_app]; kernel_rfl) (show okXp _ from by simp [okXp, okW, Ex.deep, h]) trivial (Nat.le_of_ble_eq_true rfl),
    row_of (l := .pln (.put 0 (.box (.num 1)) (.op .sub (.num 0) (.nam a)))) (by simp only [cds_app]; kernel_rfl) ⟨by simp [okXp, okW, Ex.deep], by simp [okXp, okW, Ex.deep, h]⟩ trivial (Nat.le_of_ble_eq_true rfl),
    row_of (l := .pln (.join 0 a "ahead" (.num 1))) (by simp only [cds_app]; kernel_rfl) ⟨h, by decide +kernel, by simp [okXp, okW, Ex.deep]⟩ trivial (Nat.le_of_ble_eq_true rfl),
    row_of (l := .pln (.join 0 a "most" (.op .rem (.num 5) (.num 3)))) (by simp only [cds_app]; kernel_rfl) ⟨h, by decide +kernel, by simp [okXp, okW, Ex.deep]⟩ trivial (Nat.le_of_ble_eq_true rfl),
    row_of (l := .pln (.join 0 a "least" (.nam a))) (by simp only [cds_app, List.append_assoc]; kernel_rfl) ⟨h, by decide +kernel, by simp [okXp, okW, Ex.deep, h]⟩ trivial (Nat.le_of_ble_eq_true rfl),
    row_of (l := .iff (.nam a)) (by simp only [cds_app]; kernel_rfl) (show okXp _ from by simp [okXp, okW, Ex.deep, h]) trivial (Nat.le_of_ble_eq_true rfl),
    row_of (l := .pln (.call 0 a "main" [])) (by simp only [cds_app]; kernel_rfl) ⟨h, by decide +kernel, by decide, (fun e he => by cases he)⟩ (fun e he => by cases he) (Nat.le_of_ble_eq_true rfl)⟩
theorem r_bad {a f : Str} (h : okName a) (hf : okName f) : ∀ x ∈ [Str.ofString "set " ++ a, Str.ofString "set " ++ a ++ Str.ofString " 0 1", Str.ofString "set " ++ a ++ Str.ofString " 00", Str.ofString "call " ++ a, Str.ofString "call " ++ a ++ Str.ofString " " ++ f ++ Str.ofString " 0 0 0 0 0 0 0",
    Str.ofString "def " ++ f ++ Str.ofString " a b c d e f g", Str.ofString "join " ++ a ++ Str.ofString " plus 0", Str.ofString "join " ++ a ++ Str.ofString " sum", Str.ofString "join sum " ++ a ++ Str.ofString " 0", Str.ofString "def " ++ f ++ Str.ofString " 1",
    Str.ofString "join " ++ a ++ Str.ofString " sum 1 1", Str.ofString "call " ++ a ++ Str.ofString " 3", Str.ofString "def " ++ f ++ Str.ofString " lane"], badRow x := by
  have ha := name_free h
  have hf2 := name_free hf
  have kw : ∀ {x : Str}, x ∈ (["def", "if", "while", "else", "end", "set", "put", "tell", "return", "stop", "break", "again", "meet", "join", "call", "sum", "most", "least", "ahead"] : List Str) → okWd x := fun q => kept_wd _ q
  have wd : ∀ {ws : List Str}, (∀ w ∈ ws, w = a ∨ w = f ∨ w ∈ (["def", "if", "while", "else", "end", "set", "put", "tell", "return", "stop", "break", "again", "meet", "join", "call", "sum", "most", "least", "ahead"] : List Str) ∨ w ∈ (["0", "1", "00", "3", "lane", "a", "b", "c", "d", "e", "f", "g", "plus", "sum"] : List Str)) → ∀ w ∈ ws, okWd w := fun {ws} q w hw => by
    rcases q w hw with rfl | rfl | z | z
    · exact ha
    · exact hf2
    · exact kw z
    · exact d_wd z
  have n1 : ∀ {w x : Str} {r : List Str}, okName x → Tl.nameAt (w :: x :: r) 1 = some x := fun {w x r} q => by
    show (if okName x then some x else none) = _
    rw [if_pos q]
  simp only [List.forall_mem_cons, List.not_mem_nil, false_imp_iff, implies_true, and_true]
  refine ⟨row_bad (ws := ["set", a]) (by simp only [cds_app]; kernel_rfl) (by simp) (wd (by simp)) ?_ (Nat.le_of_ble_eq_true rfl),
    row_bad (ws := ["set", a, "0", "1"]) (by simp only [cds_app]; kernel_rfl) (by simp) (wd (by simp)) ?_ (Nat.le_of_ble_eq_true rfl),
    row_bad (ws := ["set", a, "00"]) (by simp only [cds_app]; kernel_rfl) (by simp) (wd (by simp)) ?_ (Nat.le_of_ble_eq_true rfl),
    row_bad (ws := ["call", a]) (by simp only [cds_app]; kernel_rfl) (by simp) (wd (by simp)) ?_ (Nat.le_of_ble_eq_true rfl),
    row_bad (ws := ["call", a, f, "0", "0", "0", "0", "0", "0", "0"]) (by simp only [cds_app, List.append_assoc]; kernel_rfl) (by simp) (wd (by simp)) ?_ (Nat.le_of_ble_eq_true rfl),
    row_bad (ws := ["def", f, "a", "b", "c", "d", "e", "f", "g"]) (by simp only [cds_app]; kernel_rfl) (by simp) (wd (by simp)) ?_ (Nat.le_of_ble_eq_true rfl),
    row_bad (ws := ["join", a, "plus", "0"]) (by simp only [cds_app]; kernel_rfl) (by simp) (wd (by simp)) ?_ (Nat.le_of_ble_eq_true rfl),
    row_bad (ws := ["join", a, "sum"]) (by simp only [cds_app]; kernel_rfl) (by simp) (wd (by simp)) ?_ (Nat.le_of_ble_eq_true rfl),
    row_bad (ws := ["join", "sum", a, "0"]) (by simp only [cds_app]; kernel_rfl) (by simp) (wd (by simp)) ?_ (Nat.le_of_ble_eq_true rfl),
    row_bad (ws := ["def", f, "1"]) (by simp only [cds_app]; kernel_rfl) (by simp) (wd (by simp)) ?_ (Nat.le_of_ble_eq_true rfl),
    row_bad (ws := ["join", a, "sum", "1", "1"]) (by simp only [cds_app]; kernel_rfl) (by simp) (wd (by simp)) ?_ (Nat.le_of_ble_eq_true rfl),
    row_bad (ws := ["call", a, "3"]) (by simp only [cds_app]; kernel_rfl) (by simp) (wd (by simp)) ?_ (Nat.le_of_ble_eq_true rfl),
    row_bad (ws := ["def", f, "lane"]) (by simp only [cds_app]; kernel_rfl) (by simp) (wd (by simp)) ?_ (Nat.le_of_ble_eq_true rfl)⟩
  · rw [pw_named (.inl rfl), nm_set]; unfold setOf_; rw [show justOf [("set" : Str), a] 2 1 = none from rfl]; cases Tl.nameAt [("set" : Str), a] 1 <;> rfl
  · rw [pw_named (.inl rfl), nm_set]; unfold setOf_; rw [show justOf [("set" : Str), a, "0", "1"] 2 1 = none from by show (match exprsOf [("0" : Str), "1"] with | some es => if es.length = 1 then some es else none | none => none) = none; rw [exprsOf_iff (es := [.num 0, .num 1]) |>.mpr ⟨by decide +kernel, by simp [okX7, okW, Ex.deep]⟩]; rfl]; rw [n1 h]
  · rw [pw_named (.inl rfl), nm_set]; unfold setOf_; rw [show justOf [("set" : Str), a, "00"] 2 1 = none from by show (match exprsOf [("00" : Str)] with | some es => if es.length = 1 then some es else none | none => none) = none; rw [show exprsOf [("00" : Str)] = none from Option.isNone_iff_eq_none.mp (by decide +kernel)]]; rw [n1 h]
  · rw [pw_named (.inr (.inr (.inl rfl))), nm_call]; unfold callOf; rw [show Tl.nameAt [("call" : Str), a] 2 = none from rfl]; cases Tl.nameAt [("call" : Str), a] 1 <;> rfl
  · rw [pw_named (.inr (.inr (.inl rfl))), nm_call]; unfold callOf; rw [n1 h, show Tl.nameAt (("call" : Str) :: a :: f :: ["0", "0", "0", "0", "0", "0", "0"]) 2 = some f from if_pos hf]; rw [show exprsOf ((("call" : Str) :: a :: f :: ["0", "0", "0", "0", "0", "0", "0"]).drop 3) = some (List.replicate 7 (.num 0)) from (show exprsOf (["0", "0", "0", "0", "0", "0", "0"] : List Str) = some (List.replicate 7 (.num 0)) from exprsOf_iff.mpr ⟨by decide +kernel, by simp [okX7, okW, Ex.deep]⟩)]; rfl
  · rw [pw_named (.inr (.inl rfl)), nm_def]; unfold defOf; rw [n1 hf]; exact if_neg (fun z => absurd z.2 (by simp))
  · rw [pw_named (.inr (.inr (.inr rfl))), nm_join]; unfold joinOf; rw [n1 h, show ([("join" : Str), a, "plus", "0"] : List Str)[2]? = some ("plus" : Str) from rfl]; cases justOf [("join" : Str), a, "plus", "0"] 3 1 with | none => rfl | some es => exact if_neg (by decide +kernel)
  · rw [pw_named (.inr (.inr (.inr rfl))), nm_join]; unfold joinOf; rw [n1 h, show justOf [("join" : Str), a, "sum"] 3 1 = none from rfl]; rfl
  · rw [pw_named (.inr (.inr (.inr rfl))), nm_join]; unfold joinOf; rw [show Tl.nameAt [("join" : Str), "sum", a, "0"] 1 = none from (show (if okName ("sum" : Str) then some ("sum" : Str) else none) = none from if_neg (by decide +kernel))]
  · rw [pw_named (.inr (.inl rfl)), nm_def]; unfold defOf; rw [n1 hf]; exact if_neg (fun z => absurd (z.1 "1" (by simp)) (by decide +kernel))
  · rw [pw_named (.inr (.inr (.inr rfl))), nm_join]; unfold joinOf; rw [n1 h, show justOf [("join" : Str), a, "sum", "1", "1"] 3 1 = none from by show (match exprsOf [("1" : Str), "1"] with | some es => if es.length = 1 then some es else none | none => none) = none; rw [exprsOf_iff (es := [.num 1, .num 1]) |>.mpr ⟨by decide +kernel, by simp [okX7, okW, Ex.deep]⟩]; rfl]; rfl
  · rw [pw_named (.inr (.inr (.inl rfl))), nm_call]; unfold callOf; rw [n1 h, show Tl.nameAt [("call" : Str), a, "3"] 2 = none from (show (if okName ("3" : Str) then some ("3" : Str) else none) = none from if_neg (by decide +kernel))]
  · rw [pw_named (.inr (.inl rfl)), nm_def]; unfold defOf; rw [n1 hf]; exact if_neg (fun z => absurd (z.1 "lane" (by simp)) (by decide +kernel))
end Tl
set_option maxHeartbeats 2000000
namespace Tl
open PySem PySem.Spec PyProof.Rows L2
/-! ### k07: what the law's rows keep -/
theorem cutK {x : Str} {k : Nat} : cds (cutS x none (some ((k : Nat) : Int))) = (cds x).take k := by
  unfold cutS cds
  rw [HT.sIx_nat, HT.sIx_none]
  have e : x.length = x.cps.toList.length := by simp [Str.length]
  rw [List.toList_toArray, List.drop_zero, Nat.sub_zero, e]
  by_cases h : k ≤ x.cps.toList.length
  · rw [Nat.min_eq_left h]
  · rw [Nat.min_eq_right (by omega), List.take_of_length_le (Nat.le_refl _), List.take_of_length_le (by omega)]
/-- a row begins with a word and a blank just where that is its first word, and not the only one -/
theorem cut_word {w v : Str} {r : List Str} (hw : 32 ∉ cds w) (hv : 32 ∉ cds v) : (cds (Txt.join blank (v :: r))).take ((cds w).length + 1) = cds w ++ [32] ↔ v = w ∧ r ≠ [] := by
  rw [cds_jc]
  cases r with
  | nil =>
    show (cds v).take _ = _ ↔ _
    constructor
    · intro h
      have : 32 ∈ (cds v).take ((cds w).length + 1) := by rw [h]; simp
      exact absurd (List.mem_of_mem_take this) hv
    · rintro ⟨_, h⟩; exact absurd rfl h
  | cons u t =>
    show (cds v ++ 32 :: jc (u :: t)).take _ = _ ↔ _
    constructor
    · intro h
      refine ⟨cds_inj ?_, by simp⟩
      have key : ∀ (a b R : List Nat), 32 ∉ a → 32 ∉ b → (b ++ 32 :: R).take (a.length + 1) = a ++ [32] → b = a := by
        intro a
        induction a with
        | nil =>
          intro b R _ hb h
          cases b with
          | nil => rfl
          | cons c t =>
            simp at h
            exact absurd (by rw [h]; simp) hb
        | cons c a ih =>
          intro b R ha hb h
          cases b with
          | nil =>
            simp at h
            exact absurd (by rw [h.1]; simp) ha
          | cons e b =>
            simp at h
            obtain ⟨h1, h2⟩ := h
            rw [h1, ih b R (fun q => ha (List.mem_cons_of_mem _ q)) (fun q => hb (List.mem_cons_of_mem _ q)) (by simpa using h2)]
      exact key _ _ _ hw hv h
    · rintro ⟨rfl, _⟩
      rw [show (cds v).length + 1 = (cds v ++ [32]).length by simp, show cds v ++ 32 :: jc (u :: t) = (cds v ++ [32]) ++ jc (u :: t) by simp, List.take_left]
def isDffL : Lin → Bool
  | .dff .. => true
  | _ => false
def isCallL : Lin → Bool
  | .pln (.call ..) => true
  | _ => false
theorem line_cut {l : Lin} (h : l.ok) : (cutS l.txt none (some 4) = "def " ↔ isDffL l = true) ∧ (cutS l.txt none (some 5) = "call " ↔ isCallL l = true) := by
  have h4 : cds ("def " : Str) = cds ("def" : Str) ++ [32] ∧ (cds ("def" : Str)).length + 1 = 4 ∧ 32 ∉ cds ("def" : Str) ∧ cds ("call " : Str) = cds ("call" : Str) ++ [32] ∧ (cds ("call" : Str)).length + 1 = 5 ∧ 32 ∉ cds ("call" : Str) := by decide +kernel
  obtain ⟨a1, a2, a3, b1, b2, b3⟩ := h4
  have hw := (lin_wd h).1
  have key : ∀ {v : Str} {r : List Str}, l.words = v :: r → (cutS l.txt none (some 4) = "def " ↔ v = "def" ∧ r ≠ []) ∧ (cutS l.txt none (some 5) = "call " ↔ v = "call" ∧ r ≠ []) := fun {v r} e => by
    have hv : 32 ∉ cds v := (hw v (by rw [e]; exact List.mem_cons_self ..)).1
    have et : l.txt = Txt.join blank (v :: r) := by show Txt.join blank l.words = _; rw [e]
    rw [et]
    constructor
    · rw [← cut_word a3 hv, a2, ← a1, ← cutK]
      exact ⟨fun q => by rw [← q]; rfl, fun q => cds_inj q⟩
    · rw [← cut_word b3 hv, b2, ← b1, ← cutK]
      exact ⟨fun q => by rw [← q]; rfl, fun q => cds_inj q⟩
  have no : ∀ {v : Str} {r : List Str}, l.words = v :: r → v ∈ (["if", "while", "else", "end", "set", "put", "tell", "return", "stop", "break", "again", "meet", "join"] : List Str) → isDffL l = false → isCallL l = false → (cutS l.txt none (some 4) = "def " ↔ isDffL l = true) ∧ (cutS l.txt none (some 5) = "call " ↔ isCallL l = true) := fun {v r} e hv d1 d2 => by
    have hn : ∀ v ∈ (["if", "while", "else", "end", "set", "put", "tell", "return", "stop", "break", "again", "meet", "join"] : List Str), v ≠ "def" ∧ v ≠ "call" := by decide +kernel
    obtain ⟨n1, n2⟩ := hn v hv
    obtain ⟨k1, k2⟩ := key e
    rw [k1, k2, d1, d2]
    exact ⟨⟨fun q => absurd q.1 n1, fun q => by cases q⟩, ⟨fun q => absurd q.1 n2, fun q => by cases q⟩⟩
  have dc : ("def" : Str) ≠ "call" := by decide +kernel
  cases l with
  | dff x ps =>
    obtain ⟨k1, k2⟩ := key (v := "def") (r := x :: ps) rfl
    rw [k1, k2]
    exact ⟨⟨fun _ => rfl, fun _ => ⟨rfl, by simp⟩⟩, ⟨fun q => absurd q.1 dc, fun q => by cases q⟩⟩
  | iff e => exact no (v := "if") rfl (by simp) rfl rfl
  | whl e => exact no (v := "while") rfl (by simp) rfl rfl
  | els => exact no (v := "else") rfl (by simp) rfl rfl
  | fin => exact no (v := "end") rfl (by simp) rfl rfl
  | pln s =>
    cases s with
    | call k x f es =>
      obtain ⟨k1, k2⟩ := key (v := "call") (r := x :: f :: es.flatMap wordsE) rfl
      rw [k1, k2]
      exact ⟨⟨fun q => absurd q.1.symm dc, fun q => by cases q⟩, ⟨fun _ => rfl, fun _ => ⟨rfl, by simp⟩⟩⟩
    | if1 => exact h.elim
    | if2 => exact h.elim
    | whl => exact h.elim
    | set => exact no (v := "set") rfl (by simp) rfl rfl
    | put => exact no (v := "put") rfl (by simp) rfl rfl
    | tell => exact no (v := "tell") rfl (by simp) rfl rfl
    | ret => exact no (v := "return") rfl (by simp) rfl rfl
    | stop => exact no (v := "stop") rfl (by simp) rfl rfl
    | brk => exact no (v := "break") rfl (by simp) rfl rfl
    | agn => exact no (v := "again") rfl (by simp) rfl rfl
    | meet => exact no (v := "meet") rfl (by simp) rfl rfl
    | join => exact no (v := "join") rfl (by simp) rfl rfl
theorem dff_hd {x : Str} {ps : List Str} (h : (Lin.dff x ps).ok) : isHd (Lin.dff x ps).txt := (line_cut h).1.mpr rfl
structure InvX (xs : List Str) (bad : Bool) (n : Nat) : Prop where
  row : ∀ x ∈ xs, goodRow x ∨ (bad = true ∧ badRow x)
  bad_ : bad = true → ∃ x ∈ xs, badRow x
  head : ∃ x ∈ xs, isHd x
  few : xs.length ≤ n
variable {xs more : List Str} {bad : Bool} {n m i : Nat}
theorem mem_put {x : Str} : x ∈ xs → x ∈ xs.take i ++ more ++ xs.drop i := fun h => by
  rw [← List.take_append_drop i xs] at h
  rcases List.mem_append.mp h with h | h
  · simp [h]
  · simp [h]
theorem of_put {x : Str} (h : x ∈ xs.take i ++ more ++ xs.drop i) : x ∈ xs ∨ x ∈ more := by
  rcases List.mem_append.mp h with h | h
  · rcases List.mem_append.mp h with h | h
    · exact .inl (List.mem_of_mem_take h)
    · exact .inr h
  · exact .inl (List.mem_of_mem_drop h)
theorem len_put : (xs.take i ++ more ++ xs.drop i).length = xs.length + more.length := by
  rw [List.length_append, List.length_append, List.length_take, List.length_drop]
  omega
theorem InvX.put (h : InvX xs bad n) (i : Nat) (hm : ∀ x ∈ more, goodRow x) (hl : more.length ≤ m) : InvX (xs.take i ++ more ++ xs.drop i) bad (n + m) := by
  refine ⟨fun x hx => ?_, fun hb => ?_, ?_, by rw [len_put]; have := h.few; omega⟩
  · rcases of_put hx with hx | hx
    · exact h.row x hx
    · exact .inl (hm x hx)
  · obtain ⟨x, hx, q⟩ := h.bad_ hb
    exact ⟨x, mem_put hx, q⟩
  · obtain ⟨x, hx, q⟩ := h.head
    exact ⟨x, mem_put hx, q⟩
theorem InvX.spoil (h : InvX xs bad n) (i : Nat) {x : Str} (hx : badRow x) : InvX (xs.take i ++ [x] ++ xs.drop i) true (n + 1) := by
  refine ⟨fun y hy => ?_, fun _ => ⟨x, by simp, hx⟩, ?_, by rw [len_put]; have := h.few; simp; omega⟩
  · rcases of_put hy with hy | hy
    · rcases h.row y hy with q | q
      · exact .inl q
      · exact .inr ⟨rfl, q.2⟩
    · rw [List.mem_singleton.mp hy]; exact .inr ⟨rfl, hx⟩
  · obtain ⟨y, hy, q⟩ := h.head
    exact ⟨y, mem_put hy, q⟩
theorem InvX.app (h : InvX xs bad n) (hm : ∀ x ∈ more, goodRow x) (hl : more.length ≤ m) : InvX (xs ++ more) bad (n + m) := by
  have := h.put xs.length hm hl
  rwa [List.take_length, List.drop_length, List.append_nil] at this
theorem InvX.cons (h : InvX xs bad n) {x : Str} (hx : goodRow x) : InvX (x :: xs) bad (n + 1) := by
  have := h.put (more := [x]) (m := 1) 0 (fun y hy => by rw [List.mem_singleton.mp hy]; exact hx) (Nat.le_refl _)
  simpa using this
theorem main_good : goodRow "def main" := good_lits _ (by simp)
theorem InvX.ren (h : InvX xs bad n) {y : Str} (hy : goodRow y) (hd : isHd y) : InvX (xs.map fun (x : Str) => if x = ("def main" : Str) then y else x) bad n := by
  refine ⟨fun x hx => ?_, fun hb => ?_, ?_, by rw [List.length_map]; exact h.few⟩
  · obtain ⟨z, hz, rfl⟩ := List.mem_map.mp hx
    split
    · exact .inl hy
    · exact h.row z hz
  · obtain ⟨x, hx, q⟩ := h.bad_ hb
    refine ⟨_, List.mem_map.mpr ⟨x, hx, rfl⟩, ?_⟩
    rw [if_neg (fun e => ?_)]
    · exact q
    · rw [e] at q
      obtain ⟨_, l, e2, _⟩ := main_good
      rw [q.2.2] at e2
      cases e2
  · obtain ⟨x, hx, q⟩ := h.head
    refine ⟨_, List.mem_map.mpr ⟨x, hx, rfl⟩, ?_⟩
    split
    · exact hd
    · exact q
theorem InvX.mono (h : InvX xs bad n) (hn : n ≤ m) : InvX xs bad m := ⟨h.row, h.bad_, h.head, Nat.le_trans h.few hn⟩
theorem InvX.free (h : InvX xs bad n) : ∀ x ∈ xs, 10 ∉ cds x ∧ x.length ≤ 10000 := fun x hx => by
  rcases h.row x hx with q | q
  · exact good_free q
  · exact ⟨q.2.2.1, by have := q.2.1; omega⟩
theorem InvX.short (h : InvX xs bad n) : ∀ x ∈ xs, x.length ≤ 200 := fun x hx => by
  rcases h.row x hx with q | q
  · exact q.1
  · exact q.2.1
theorem InvX.ne (h : InvX xs bad n) : xs ≠ [] := fun e => by
  obtain ⟨x, hx, _⟩ := h.head
  rw [e] at hx
  cases hx
theorem InvX.lines (h : InvX xs false n) : ∃ gs, linesOf xs = some gs ∧ ∀ l ∈ gs, argsOne l := by
  cases e : linesOf xs with
  | none =>
    obtain ⟨x, hx, q⟩ := linesOf_none.mp e
    rcases h.row x hx with ⟨_, l, e2, _⟩ | ⟨z, _⟩
    · rw [q] at e2; cases e2
    · cases z
  | some gs =>
    refine ⟨gs, rfl, fun l hl => ?_⟩
    have e := linesOf_some.mp e
    have : some l ∈ xs.map lineOf := by rw [e]; exact List.mem_map.mpr ⟨l, hl, rfl⟩
    obtain ⟨x, hx, e2⟩ := List.mem_map.mp this
    rcases h.row x hx with ⟨_, l', e3, q⟩ | ⟨z, _⟩
    · rw [e2] at e3; cases e3; exact q
    · cases z
theorem InvX.none (h : InvX xs true n) : linesOf xs = none := by
  obtain ⟨x, hx, q⟩ := h.bad_ rfl
  exact linesOf_none.mpr ⟨x, hx, q.2.2⟩
/-! rows of defs and calls -/
theorem row_def {x : Str} {ps : List Str} (hx : okName x) (hp : ∀ p ∈ ps, okName p) (hl : ps.length ≤ 6) : goodRow (Txt.join blank ("def" :: x :: ps)) ∧ isHd (Txt.join blank ("def" :: x :: ps)) := by
  have ok : (Lin.dff x ps).ok := ⟨hx, hl, hp⟩
  exact ⟨good_of ok trivial (short_row (lin_wd ok).1 (by show ps.length + 1 + 1 ≤ 18; omega)), dff_hd ok⟩
theorem row_call {x f : Str} {m : Nat} (hx : okName x) (hf : okName f) (hl : m ≤ 6) : goodRow (Txt.join blank ([("call" : Str), x, f] ++ List.replicate m ("7" : Str))) := by
  have he : wordsE (.num 7) = [("7" : Str)] := by decide +kernel
  have e : [("call" : Str), x, f] ++ List.replicate m ("7" : Str) = (Lin.pln (.call 0 x f (List.replicate m (.num 7)))).words := by
    show _ = ("call" : Str) :: x :: f :: (List.replicate m (Ex.num 7)).flatMap wordsE
    have : (List.replicate m (Ex.num 7)).flatMap wordsE = List.replicate m ("7" : Str) := by
      induction m with
      | zero => rfl
      | succ k ih => rw [List.replicate_succ, List.flatMap_cons, he, ih (by omega)]; rfl
    rw [this]
    rfl
  have ok : (Lin.pln (.call 0 x f (List.replicate m (.num 7)))).ok := ⟨hx, hf, by rw [List.length_replicate]; exact hl, fun e he2 => by rw [(List.mem_replicate.mp he2).2]; simp [okXp, okW, Ex.deep]⟩
  have hlen : (Lin.pln (.call 0 x f (List.replicate m (.num 7)))).words.length ≤ 18 := by rw [← e]; simp; omega
  rw [e]
  refine good_of ok (fun e he2 => ?_) (short_row (lin_wd ok).1 hlen)
  have he2 : e ∈ List.replicate m (Ex.num 7) := he2
  rw [(List.mem_replicate.mp he2).2, he]
  rfl
end Tl
set_option maxHeartbeats 2000000
namespace Tl
open PySem PySem.Spec PyProof.Rows L2
/-! ### k07: what is due -/
def kindsX : RdX → List Bool
  | .many => [true, true, false, false, false, false, false]
  | .line => [true, false, true, false, false, false, false]
  | .nest => [true, false, false, true, false, false, false]
  | .name => [true, false, false, false, true, false, false]
  | .ok _ => []
def kindsDX (r : RdX) : D := .lst ((kindsX r).map .bl)
theorem bls_ok {bs : List Bool} : okD 12 (.lst (bs.map .bl)) := okD_lst (okDs_of fun d hd => by
  obtain ⟨x, _, rfl⟩ := List.mem_map.mp hd
  unfold okD; trivial)
theorem kinds_eqX {r : RdX} {M : MH} {Q : VD} (h : Q (.bl false) M) : bNeD (kindsDX r) (kindsDX r) M Q := by
  unfold kindsDX
  exact neD_same 12 rfl rfl bls_ok h
theorem kinds_emp {r : RdX} {M : MH} {Q : VD} (h1 : (∀ pg, r ≠ .ok pg) → Q (.bl true) M) (h2 : (∃ pg, r = .ok pg) → Q (.bl false) M) : bNeD (kindsDX r) (.lst []) M Q := by
  cases r with
  | ok pg => exact neD_same 12 rfl rfl (bls_ok (bs := [])) (h2 ⟨pg, rfl⟩)
  | many => refine ⟨by decide +kernel, by decide +kernel, ?_⟩; exact h1 (fun _ e => by cases e)
  | line => refine ⟨by decide +kernel, by decide +kernel, ?_⟩; exact h1 (fun _ e => by cases e)
  | nest => refine ⟨by decide +kernel, by decide +kernel, ?_⟩; exact h1 (fun _ e => by cases e)
  | name => refine ⟨by decide +kernel, by decide +kernel, ?_⟩; exact h1 (fun _ e => by cases e)
def nestB (gs : List Lin) : Bool := match nestGo 1 ([], []) gs with
  | some (_, []) => true
  | _ => false
theorem nestB_ok {gs : List Lin} (h : nestB gs = true) : ∃ pg, nestGo 1 ([], []) gs = some (pg, []) := by
  unfold nestB at h
  split at h
  · rename_i pg hg; exact ⟨pg, hg⟩
  · cases h
theorem read_line {xs : List Str} (h : ¬ 200 < xs.length) (e : linesOf xs = none) : readOf xs = .line := by
  unfold readOf
  rw [if_neg h, e]
theorem read_nest {xs : List Str} {gs : List Lin} (h : ¬ 200 < xs.length) (e : linesOf xs = some gs) (hn : nestB gs = false) : readOf xs = .nest := by
  unfold readOf
  rw [if_neg h, e]
  unfold nestB at hn
  dsimp only
  cases hg : nestGo 1 ([], []) gs with
  | none => rfl
  | some r =>
    obtain ⟨pg, q⟩ := r
    cases q with
    | nil => rw [hg] at hn; cases hn
    | cons a t => rfl
theorem read_named {xs : List Str} {gs : List Lin} {pg : Pg} (h : ¬ 200 < xs.length) (e : linesOf xs = some gs) (hn : nestGo 1 ([], []) gs = some (pg, [])) : readOf xs = if namesP pg then .ok pg else .name := by
  unfold readOf
  rw [if_neg h, e]
  dsimp only
  rw [hn]
theorem read_ok {xs : List Str} {pg : Pg} (h : readOf xs = .ok pg) : ∃ gs, linesOf xs = some gs ∧ nestGo 1 ([], []) gs = some (pg, []) ∧ xs.length ≤ 200 := by
  unfold readOf at h
  split at h
  · cases h
  · rename_i h200
    split at h
    · cases h
    · rename_i gs hg
      split at h
      · rename_i pg' hn
        split at h
        · cases h; exact ⟨gs, hg, hn, by omega⟩
        · cases h
      · cases h
/-! rooms of heads, as a program's -/
def asPg (hs : List (Str × List Str)) : Pg := hs.map fun q => ⟨q.1, q.2, [], 0, 0⟩
theorem asPg_names (hs : List (Str × List Str)) : (asPg hs).map (·.name) = hs.map (·.1) := by unfold asPg; rw [List.map_map]; rfl
theorem asPg_room {hs : List (Str × List Str)} {f : Str} : roomOf (asPg hs) f = roomL hs f := by
  rw [room_L]
  unfold asPg
  rw [List.map_map]
  congr 1
  exact List.map_id _
theorem dff_flat : ∀ {gs : List Lin}, (gs.filter isDffL).flatMap dffP = gs.flatMap dffP
  | [] => rfl
  | l :: t => by
    rw [List.filter_cons, List.flatMap_cons]
    cases l with
    | dff x ps => rw [if_pos (show isDffL (.dff x ps) = true from rfl), List.flatMap_cons, dff_flat]
    | _ => exact dff_flat
theorem lens7 : (Str.ofString "abcdefghijklmnopqrstuvwxyz").length = 26 ∧ (Str.ofString "").length = 0 ∧ (Str.ofString "zq").length = 2 ∧ (Str.ofString "tell 0").length = 6 ∧ (Str.ofString "put 0 mine").length = 10 ∧ (Str.ofString "meet").length = 4 ∧ (Str.ofString "stop").length = 4 ∧ (Str.ofString " + lane 1").length = 9 ∧ (Str.ofString " sum lanes").length = 10 ∧ (Str.ofString "set main 7").length = 10 ∧ (Str.ofString "set ").length = 4 ∧ (Str.ofString "join ").length = 5 ∧ (Str.ofString "tell box ").length = 9 ∧ (Str.ofString "put box 1 - 0 ").length = 14 ∧ (Str.ofString " ahead 1").length = 8 ∧ (Str.ofString " most rem 5 3").length = 13 ∧ (Str.ofString " least ").length = 7 ∧ (Str.ofString " ").length = 1 ∧ (Str.ofString "call").length = 4 ∧ (Str.ofString "7").length = 1 ∧ (Str.ofString "end").length = 3 ∧ (Str.ofString "main").length = 4 ∧ (Str.ofString "def").length = 3 ∧ (Str.ofString "else").length = 4 ∧ (Str.ofString "if ").length = 3 ∧ (Str.ofString "while lane").length = 10 ∧ (Str.ofString "break").length = 5 ∧ (Str.ofString "again").length = 5 ∧ (Str.ofString "sett x 0").length = 8 ∧ (Str.ofString "set if 0").length = 8 ∧ (Str.ofString "put 0").length = 5 ∧ (Str.ofString " 0 1").length = 4 ∧ (Str.ofString " 00").length = 3 ∧ (Str.ofString "put 0 0 0").length = 9 ∧ (Str.ofString "tell").length = 4 ∧ (Str.ofString "if").length = 2 ∧ (Str.ofString "if 0 0").length = 6 ∧ (Str.ofString "else 0").length = 6 ∧ (Str.ofString "end end").length = 7 ∧ (Str.ofString "break 1").length = 7 ∧ (Str.ofString "again ").length = 6 ∧ (Str.ofString "return").length = 6 ∧ (Str.ofString "stop 0").length = 6 ∧ (Str.ofString "meet 0").length = 6 ∧ (Str.ofString " tell 0").length = 7 ∧ (Str.ofString "tell 0 ").length = 7 ∧ (Str.ofString "tell  0").length = 7 ∧ (Str.ofString "Tell 0").length = 6 ∧ (Str.ofString "tell -0").length = 7 ∧ (Str.ofString "tell 1234567890").length = 15 ∧ (Str.ofString "tell abcdefghi").length = 14 ∧ (Str.ofString "tell + 1").length = 8 ∧ (Str.ofString "tell box").length = 8 ∧ (Str.ofString "tell box box box box box box box 0").length = 34 ∧ (Str.ofString "set X 0").length = 7 ∧ (Str.ofString "while").length = 5 ∧ (Str.ofString "call ").length = 5 ∧ (Str.ofString " 0 0 0 0 0 0 0").length = 14 ∧ (Str.ofString " a b c d e f g").length = 14 ∧ (Str.ofString " plus 0").length = 7 ∧ (Str.ofString " sum").length = 4 ∧ (Str.ofString " 0").length = 2 ∧ (Str.ofString " 1").length = 2 ∧ (Str.ofString " sum 1 1").length = 8 ∧ (Str.ofString " 3").length = 2 ∧ (Str.ofString " lane").length = 5 ∧ (Str.ofString "def ").length = 4 ∧ (Str.ofString "join sum ").length = 9 ∧ (Str.ofString "while 0").length = 7 ∧ (Str.ofString "if 0").length = 4 ∧ (Str.ofString "return 1").length = 8 ∧ (Str.ofString "set a 0").length = 7 ∧ (Str.ofString "put 0 5").length = 7 ∧ (Str.ofString "join a sum 0").length = 12 ∧ (Str.ofString "join a least 0").length = 14 ∧ (Str.ofString "return 0").length = 8 ∧ (Str.ofString "def main").length = 8 ∧ (Str.ofString "def main ").length = 9 ∧ (Str.ofString "if lane").length = 7 ∧ (Str.ofString " main").length = 5 ∧ (Str.ofString "tell 5").length = 6 ∧ (Str.ofString "line").length = 4 ∧ (Str.ofString "nest").length = 4 ∧ (Str.ofString "name").length = 4 ∧ (Str.ofString "if 1").length = 4 ∧ (Str.ofString "other").length = 5 ∧ (Str.ofString "\n").length = 1 ∧ (Str.ofString "x").length = 1 := ⟨by decide +kernel, by decide +kernel, by decide +kernel, by decide +kernel, by decide +kernel, by decide +kernel, by decide +kernel, by decide +kernel, by decide +kernel, by decide +kernel, by decide +kernel, by decide +kernel, by decide +kernel, by decide +kernel, by decide +kernel, by decide +kernel, by decide +kernel, by decide +kernel, by decide +kernel, by decide +kernel, by decide +kernel, by decide +kernel, by decide +kernel, by decide +kernel, by decide +kernel, by decide +kernel, by decide +kernel, by decide +kernel, by decide +kernel, by decide +kernel, by decide +kernel, by decide +kernel, by decide +kernel, by decide +kernel, by decide +kernel, by decide +kernel, by decide +kernel, by decide +kernel, by decide +kernel, by decide +kernel, by decide +kernel, by decide +kernel, by decide +kernel, by decide +kernel, by decide +kernel, by decide +kernel, by decide +kernel, by decide +kernel, by decide +kernel, by decide +kernel, by decide +kernel, by decide +kernel, by decide +kernel, by decide +kernel, by decide +kernel, by decide +kernel, by decide +kernel, by decide +kernel, by decide +kernel, by decide +kernel, by decide +kernel, by decide +kernel, by decide +kernel, by decide +kernel, by decide +kernel, by decide +kernel, by decide +kernel, by decide +kernel, by decide +kernel, by decide +kernel, by decide +kernel, by decide +kernel, by decide +kernel, by decide +kernel, by decide +kernel, by decide +kernel, by decide +kernel, by decide +kernel, by decide +kernel, by decide +kernel, by decide +kernel, by decide +kernel, by decide +kernel, by decide +kernel, by decide +kernel, by decide +kernel, by decide +kernel, by decide +kernel⟩
end Tl
set_option maxHeartbeats 2000000
namespace Tl
open PySem PySem.Spec PyProof.Rows L2
/-! ### slices of lists -/
theorem cut_to {xs : List D} {j : Nat} : Tl.cutD xs none (some ((j : Nat) : Int)) = xs.take j := by
  unfold Tl.cutD
  rw [HT.sIx_nat, HT.sIx_none, List.drop_zero, Nat.sub_zero]
  by_cases h : j ≤ xs.length
  · rw [Nat.min_eq_left h]
  · rw [Nat.min_eq_right (by omega), List.take_of_length_le (Nat.le_refl _), List.take_of_length_le (by omega)]
theorem cut_fr {xs : List D} {j : Nat} : Tl.cutD xs (some ((j : Nat) : Int)) none = xs.drop j := by
  unfold Tl.cutD
  rw [HT.sIx_nat, HT.sIx_none]
  by_cases h : j ≤ xs.length
  · rw [Nat.min_eq_left h, List.take_of_length_le (by rw [List.length_drop]; exact Nat.le_refl _)]
  · rw [Nat.min_eq_right (by omega), List.drop_of_length_le (Nat.le_refl _), List.drop_of_length_le (by omega)]
    simp
theorem cut_mid {xs : List D} {i j : Nat} : Tl.cutD xs (some ((i : Nat) : Int)) (some ((j : Nat) : Int)) = (xs.take j).drop i := by
  unfold Tl.cutD
  rw [HT.sIx_nat, HT.sIx_nat, List.drop_take]
  by_cases h : i ≤ xs.length
  · rw [Nat.min_eq_left h]
    by_cases h2 : j ≤ xs.length
    · rw [Nat.min_eq_left h2]
    · rw [Nat.min_eq_right (by omega), List.take_of_length_le (by rw [List.length_drop]; omega), List.take_of_length_le (by rw [List.length_drop]; omega)]
  · rw [show min i xs.length = xs.length by omega, List.drop_length, List.take_nil, List.drop_of_length_le (by omega : xs.length ≤ i), List.take_nil]
theorem len_lst {M : MH} {l : List D} : lenOf M (.lst l) = some l.length := rfl
theorem at_some {ds : List D} {i : Int} {Q : D → Prop} {p : D → Prop} (h0 : 0 ≤ i) (h1 : i < ds.length) (hd : ∀ d ∈ ds, p d) (h : ∀ d, p d → Q d) : oSome (atI ds i) Q := by
  obtain ⟨d, e, hm⟩ := atI_ex h0 h1
  rw [e, oSome_i]
  exact h d (hd d hm)
/-- a list times a number, perhaps a negative one -/
def bRepN : R2t := fun x y M Q => match x, y with
  | .lst ds, .int n => (-(2 ^ 62) ≤ n ∧ n ≤ 1000 ∧ ds.length ≤ 1000) ∧ Q (.lst (List.replicate n.toNat ds).flatten) M
  | _, _ => False
theorem oq_repN {X : Cx} : OpQ X (binaryOp .Mult) bRepN := OpRimp L2.op_rep (by
  rintro x y H Q ⟨G, F, M, dx, dy, Qt, R, px, py, h, k⟩
  match dx, dy, px, py, h with
  | .lst ds, .int n, .lst (a := a) (vs := vs) ha r, .int _, h =>
    have hm : vs.length * n.toNat ≤ 1000000 := by
      rw [r.length]
      exact Nat.le_trans (Nat.mul_le_mul h.1.2.2 (show n.toNat ≤ 1000 by have := h.1; omega)) (by decide)
    refine ⟨a, n, vs, rfl, rfl, R.sub _ _ ha, by have := h.1; omega, by have := h.1; omega, by rw [sizeLine_eq]; omega, fun p np => ?_⟩
    obtain ⟨s, r1⟩ := R.newF (o := .lst (List.replicate n.toNat vs).flatten) np
    exact k _ _ _ M _ s r1 (.lst upd_same ((rps_rep r _).mono s)) h.2)
theorem uRepN {ds : List D} {n : Int} {M : MH} {Q : VD} : bRepN (.lst ds) (.int n) M Q = ((-(2 ^ 62) ≤ n ∧ n ≤ 1000 ∧ ds.length ≤ 1000) ∧ Q (.lst (List.replicate n.toNat ds).flatten) M) := propext Iff.rfl
/-- a list of numbers == [] -/
theorem ints_emp {ks : List Nat} {M : MH} {Q : VD} (hQ : Q (.bl ks.isEmpty) M) : bEqD (.lst (ks.map fun k => D.int (k : Nat))) (.lst []) M Q := by
  refine eqD_pl 12 (show asD M (.lst _) = some (.lst _) from rfl) (show asD M (.lst []) = some (.lst []) from rfl) (okD_lst (okDs_of fun d hd => ?_)) (okD_lst okDs_nil) (by
    unfold plD
    exact pls_of fun d hd => by
      obtain ⟨x, hx, rfl⟩ := List.mem_map.mp hd
      unfold plD; trivial) (by unfold plD plDs; trivial) fun b hb => ?_
  · obtain ⟨x, hx, rfl⟩ := List.mem_map.mp hd
    unfold okD; trivial
  have : b = ks.isEmpty := by
    rw [Bool.eq_iff_iff, hb, List.isEmpty_iff]
    cases ks <;> simp
  rw [this]
  exact hQ
end Tl
namespace K07
open PySem PySem.Spec PyProof.Rows L2 Tl
def top (i : Nat) : Stmt := PySem.Challenge.pw_widelanes_k07_refused_in_order.main.body.getD i (.Pass ⟨0, 0, 0, 0⟩)
def fl_Opened : List Str := ["line", "parts", "first", "second"]
abbrev s_blocks_of : Stmt := top 44
abbrev nm_blocks_of : List Str := ["deed"]
theorem sc_blocks_of : FnScope nm_blocks_of ["deed"] (defScope s_blocks_of) := ⟨rfl, rfl, rfl, by decide +kernel, rfl, by decide +kernel, by decide +kernel⟩
def e_blocks_of : He.DefD := ⟨("blocks_of", none), "blocks_of", "blocks_of", defArgs s_blocks_of, defBody s_blocks_of, defScope s_blocks_of, [], []⟩
abbrev s_all_of : Stmt := top 45
abbrev nm_all_of : List Str := ["body", "found", "deed", "block"]
theorem sc_all_of : FnScope nm_all_of ["body"] (defScope s_all_of) := ⟨rfl, rfl, rfl, by decide +kernel, rfl, by decide +kernel, by decide +kernel⟩
def e_all_of : He.DefD := ⟨("all_of", none), "all_of", "all_of", defArgs s_all_of, defBody s_all_of, defScope s_all_of, [], []⟩
abbrev s_all_of_these : Stmt := top 18
abbrev nm_all_of_these : List Str := ["text", "signs", "sign"]
theorem sc_all_of_these : FnScope nm_all_of_these ["text", "signs"] (defScope s_all_of_these) := ⟨rfl, rfl, rfl, by decide +kernel, rfl, by decide +kernel, by decide +kernel⟩
def e_all_of_these : He.DefD := ⟨("all_of_these", none), "all_of_these", "all_of_these", defArgs s_all_of_these, defBody s_all_of_these, defScope s_all_of_these, [], []⟩
abbrev s_is_name : Stmt := top 19
abbrev nm_is_name : List Str := ["text"]
theorem sc_is_name : FnScope nm_is_name ["text"] (defScope s_is_name) := ⟨rfl, rfl, rfl, by decide +kernel, rfl, by decide +kernel, by decide +kernel⟩
def e_is_name : He.DefD := ⟨("is_name", none), "is_name", "is_name", defArgs s_is_name, defBody s_is_name, defScope s_is_name, [], []⟩
abbrev s_is_number : Stmt := top 20
abbrev nm_is_number : List Str := ["text", "figures"]
theorem sc_is_number : FnScope nm_is_number ["text"] (defScope s_is_number) := ⟨rfl, rfl, rfl, by decide +kernel, rfl, by decide +kernel, by decide +kernel⟩
def e_is_number : He.DefD := ⟨("is_number", none), "is_number", "is_number", defArgs s_is_number, defBody s_is_number, defScope s_is_number, [], []⟩
abbrev s_read_number : Stmt := top 21
abbrev nm_read_number : List Str := ["text"]
theorem sc_read_number : FnScope nm_read_number ["text"] (defScope s_read_number) := ⟨rfl, rfl, rfl, by decide +kernel, rfl, by decide +kernel, by decide +kernel⟩
def e_read_number : He.DefD := ⟨("read_number", none), "read_number", "read_number", defArgs s_read_number, defBody s_read_number, defScope s_read_number, [], []⟩
abbrev s_plain_of : Stmt := top 22
abbrev nm_plain_of : List Str := ["word"]
theorem sc_plain_of : FnScope nm_plain_of ["word"] (defScope s_plain_of) := ⟨rfl, rfl, rfl, by decide +kernel, rfl, by decide +kernel, by decide +kernel⟩
def e_plain_of : He.DefD := ⟨("plain_of", none), "plain_of", "plain_of", defArgs s_plain_of, defBody s_plain_of, defScope s_plain_of, [], []⟩
abbrev s_expression_at : Stmt := top 23
abbrev nm_expression_at : List Str := ["words", "at", "room", "word", "one", "behind", "other", "last"]
theorem sc_expression_at : FnScope nm_expression_at ["words", "at", "room"] (defScope s_expression_at) := ⟨rfl, rfl, rfl, by decide +kernel, rfl, by decide +kernel, by decide +kernel⟩
def e_expression_at : He.DefD := ⟨("expression_at", none), "expression_at", "expression_at", defArgs s_expression_at, defBody s_expression_at, defScope s_expression_at, [], []⟩
abbrev s_expressions_at : Stmt := top 24
abbrev nm_expressions_at : List Str := ["words", "at", "found", "told"]
theorem sc_expressions_at : FnScope nm_expressions_at ["words", "at"] (defScope s_expressions_at) := ⟨rfl, rfl, rfl, by decide +kernel, rfl, by decide +kernel, by decide +kernel⟩
def e_expressions_at : He.DefD := ⟨("expressions_at", none), "expressions_at", "expressions_at", defArgs s_expressions_at, defBody s_expressions_at, defScope s_expressions_at, [], []⟩
abbrev s_name_at : Stmt := top 31
abbrev nm_name_at : List Str := ["words", "at"]
theorem sc_name_at : FnScope nm_name_at ["words", "at"] (defScope s_name_at) := ⟨rfl, rfl, rfl, by decide +kernel, rfl, by decide +kernel, by decide +kernel⟩
def e_name_at : He.DefD := ⟨("name_at", none), "name_at", "name_at", defArgs s_name_at, defBody s_name_at, defScope s_name_at, [], []⟩
abbrev s_just_so_many : Stmt := top 32
abbrev nm_just_so_many : List Str := ["words", "at", "many", "found"]
theorem sc_just_so_many : FnScope nm_just_so_many ["words", "at", "many"] (defScope s_just_so_many) := ⟨rfl, rfl, rfl, by decide +kernel, rfl, by decide +kernel, by decide +kernel⟩
def e_just_so_many : He.DefD := ⟨("just_so_many", none), "just_so_many", "just_so_many", defArgs s_just_so_many, defBody s_just_so_many, defScope s_just_so_many, [], []⟩
abbrev s_six_at_most : Stmt := top 33
abbrev nm_six_at_most : List Str := ["found"]
theorem sc_six_at_most : FnScope nm_six_at_most ["found"] (defScope s_six_at_most) := ⟨rfl, rfl, rfl, by decide +kernel, rfl, by decide +kernel, by decide +kernel⟩
def e_six_at_most : He.DefD := ⟨("six_at_most", none), "six_at_most", "six_at_most", defArgs s_six_at_most, defBody s_six_at_most, defScope s_six_at_most, [], []⟩
abbrev s_joining_of : Stmt := top 34
abbrev nm_joining_of : List Str := ["words", "name"]
theorem sc_joining_of : FnScope nm_joining_of ["words"] (defScope s_joining_of) := ⟨rfl, rfl, rfl, by decide +kernel, rfl, by decide +kernel, by decide +kernel⟩
def e_joining_of : He.DefD := ⟨("joining_of", none), "joining_of", "joining_of", defArgs s_joining_of, defBody s_joining_of, defScope s_joining_of, [], []⟩
abbrev s_named_of : Stmt := top 35
abbrev nm_named_of : List Str := ["words", "name", "at"]
theorem sc_named_of : FnScope nm_named_of ["words"] (defScope s_named_of) := ⟨rfl, rfl, rfl, by decide +kernel, rfl, by decide +kernel, by decide +kernel⟩
def e_named_of : He.DefD := ⟨("named_of", none), "named_of", "named_of", defArgs s_named_of, defBody s_named_of, defScope s_named_of, [], []⟩
abbrev s_parts_of : Stmt := top 36
abbrev nm_parts_of : List Str := ["line", "words", "word", "place", "number"]
theorem sc_parts_of : FnScope nm_parts_of ["line"] (defScope s_parts_of) := ⟨rfl, rfl, rfl, by decide +kernel, rfl, by decide +kernel, by decide +kernel⟩
def e_parts_of : He.DefD := ⟨("parts_of", none), "parts_of", "parts_of", defArgs s_parts_of, defBody s_parts_of, defScope s_parts_of, [], []⟩
abbrev s_Opened___init : Stmt := inClass (top 39) 0
abbrev nm_Opened___init : List Str := ["self", "line", "parts"]
theorem sc_Opened___init : FnScope nm_Opened___init ["self", "line", "parts"] (defScope s_Opened___init) := ⟨rfl, rfl, rfl, by decide +kernel, rfl, by decide +kernel, by decide +kernel⟩
def e_Opened___init : He.DefD := ⟨("Opened", some "__init__"), "__init__", "Opened.__init__", defArgs s_Opened___init, defBody s_Opened___init, defScope s_Opened___init, [], []⟩
abbrev s_Opened_newest : Stmt := inClass (top 39) 1
abbrev nm_Opened_newest : List Str := ["self"]
theorem sc_Opened_newest : FnScope nm_Opened_newest ["self"] (defScope s_Opened_newest) := ⟨rfl, rfl, rfl, by decide +kernel, rfl, by decide +kernel, by decide +kernel⟩
def e_Opened_newest : He.DefD := ⟨("Opened", some "newest"), "newest", "Opened.newest", defArgs s_Opened_newest, defBody s_Opened_newest, defScope s_Opened_newest, [], []⟩
abbrev s_Opened_statement : Stmt := inClass (top 39) 2
abbrev nm_Opened_statement : List Str := ["self"]
theorem sc_Opened_statement : FnScope nm_Opened_statement ["self"] (defScope s_Opened_statement) := ⟨rfl, rfl, rfl, by decide +kernel, rfl, by decide +kernel, by decide +kernel⟩
def e_Opened_statement : He.DefD := ⟨("Opened", some "statement"), "statement", "Opened.statement", defArgs s_Opened_statement, defBody s_Opened_statement, defScope s_Opened_statement, [], []⟩
abbrev s_Opened_whole_def : Stmt := inClass (top 39) 3
abbrev nm_Opened_whole_def : List Str := ["self", "last"]
theorem sc_Opened_whole_def : FnScope nm_Opened_whole_def ["self", "last"] (defScope s_Opened_whole_def) := ⟨rfl, rfl, rfl, by decide +kernel, rfl, by decide +kernel, by decide +kernel⟩
def e_Opened_whole_def : He.DefD := ⟨("Opened", some "whole_def"), "whole_def", "Opened.whole_def", defArgs s_Opened_whole_def, defBody s_Opened_whole_def, defScope s_Opened_whole_def, [], []⟩
abbrev s_may_stand : Stmt := top 40
abbrev nm_may_stand : List Str := ["pile", "word", "inner", "one"]
theorem sc_may_stand : FnScope nm_may_stand ["pile", "word"] (defScope s_may_stand) := ⟨rfl, rfl, rfl, by decide +kernel, rfl, by decide +kernel, by decide +kernel⟩
def e_may_stand : He.DefD := ⟨("may_stand", none), "may_stand", "may_stand", defArgs s_may_stand, defBody s_may_stand, defScope s_may_stand, [], []⟩
abbrev s_close_innermost : Stmt := top 41
abbrev nm_close_innermost : List Str := ["pile", "program", "line", "inner"]
theorem sc_close_innermost : FnScope nm_close_innermost ["pile", "program", "line"] (defScope s_close_innermost) := ⟨rfl, rfl, rfl, by decide +kernel, rfl, by decide +kernel, by decide +kernel⟩
def e_close_innermost : He.DefD := ⟨("close_innermost", none), "close_innermost", "close_innermost", defArgs s_close_innermost, defBody s_close_innermost, defScope s_close_innermost, [], []⟩
abbrev s_nested : Stmt := top 42
abbrev nm_nested : List Str := ["rows", "program", "pile", "line", "parts", "word"]
theorem sc_nested : FnScope nm_nested ["rows"] (defScope s_nested) := ⟨rfl, rfl, rfl, by decide +kernel, rfl, by decide +kernel, by decide +kernel⟩
def e_nested : He.DefD := ⟨("nested", none), "nested", "nested", defArgs s_nested, defBody s_nested, defScope s_nested, [], []⟩
abbrev s_check_names : Stmt := top 48
abbrev nm_check_names : List Str := ["program", "rooms", "one", "deed"]
theorem sc_check_names : FnScope nm_check_names ["program"] (defScope s_check_names) := ⟨rfl, rfl, rfl, by decide +kernel, rfl, by decide +kernel, by decide +kernel⟩
def e_check_names : He.DefD := ⟨("check_names", none), "check_names", "check_names", defArgs s_check_names, defBody s_check_names, defScope s_check_names, [], []⟩
abbrev s_read : Stmt := top 49
abbrev nm_read : List Str := ["text", "lines", "program", "line"]
theorem sc_read : FnScope nm_read ["text"] (defScope s_read) := ⟨rfl, rfl, rfl, by decide +kernel, rfl, by decide +kernel, by decide +kernel⟩
def e_read : He.DefD := ⟨("read", none), "read", "read", defArgs s_read, defBody s_read, defScope s_read, [], []⟩
abbrev s_shown_expression : Stmt := top 25
abbrev nm_shown_expression : List Str := ["told", "part"]
theorem sc_shown_expression : FnScope nm_shown_expression ["told"] (defScope s_shown_expression) := ⟨rfl, rfl, rfl, by decide +kernel, rfl, by decide +kernel, by decide +kernel⟩
def e_shown_expression : He.DefD := ⟨("shown_expression", none), "shown_expression", "shown_expression", defArgs s_shown_expression, defBody s_shown_expression, defScope s_shown_expression, [], []⟩
abbrev s_shown_part : Stmt := top 50
abbrev nm_shown_part : List Str := ["part", "told"]
theorem sc_shown_part : FnScope nm_shown_part ["part"] (defScope s_shown_part) := ⟨rfl, rfl, rfl, by decide +kernel, rfl, by decide +kernel, by decide +kernel⟩
def e_shown_part : He.DefD := ⟨("shown_part", none), "shown_part", "shown_part", defArgs s_shown_part, defBody s_shown_part, defScope s_shown_part, [], []⟩
abbrev s_shown_block : Stmt := top 51
abbrev nm_shown_block : List Str := ["body", "lines", "deed", "parts", "part"]
theorem sc_shown_block : FnScope nm_shown_block ["body"] (defScope s_shown_block) := ⟨rfl, rfl, rfl, by decide +kernel, rfl, by decide +kernel, by decide +kernel⟩
def e_shown_block : He.DefD := ⟨("shown_block", none), "shown_block", "shown_block", defArgs s_shown_block, defBody s_shown_block, defScope s_shown_block, [], []⟩
abbrev s_shown : Stmt := top 52
abbrev nm_shown : List Str := ["program", "lines", "one"]
theorem sc_shown : FnScope nm_shown ["program"] (defScope s_shown) := ⟨rfl, rfl, rfl, by decide +kernel, rfl, by decide +kernel, by decide +kernel⟩
def e_shown : He.DefD := ⟨("shown", none), "shown", "shown", defArgs s_shown, defBody s_shown, defScope s_shown, [], []⟩
abbrev s_l_mixed : Stmt := top 54
abbrev nm_l_mixed : List Str := ["_law_cell", "_law_k", "_law_one"]
theorem sc_l_mixed : FnScope nm_l_mixed ["_law_cell", "_law_k"] (defScope s_l_mixed) := ⟨rfl, rfl, rfl, by decide +kernel, rfl, by decide +kernel, by decide +kernel⟩
def e_l_mixed : He.DefD := ⟨("_law_mixed", none), "_law_mixed", "_law_mixed", defArgs s_l_mixed, defBody s_l_mixed, defScope s_l_mixed, [], []⟩
abbrev s_l_cell_at : Stmt := top 55
abbrev nm_l_cell_at : List Str := ["_law_cells", "_law_k"]
theorem sc_l_cell_at : FnScope nm_l_cell_at ["_law_cells", "_law_k"] (defScope s_l_cell_at) := ⟨rfl, rfl, rfl, by decide +kernel, rfl, by decide +kernel, by decide +kernel⟩
def e_l_cell_at : He.DefD := ⟨("_law_cell_at", none), "_law_cell_at", "_law_cell_at", defArgs s_l_cell_at, defBody s_l_cell_at, defScope s_l_cell_at, [], []⟩
abbrev s_l_names : Stmt := top 56
abbrev nm_l_names : List Str := ["_law_cell", "_law_many", "_law_letters", "_law_at", "_law_names_here", "_law_k", "_law_text_here", "_law_j"]
theorem sc_l_names : FnScope nm_l_names ["_law_cell", "_law_many"] (defScope s_l_names) := ⟨rfl, rfl, rfl, by decide +kernel, rfl, by decide +kernel, by decide +kernel⟩
def e_l_names : He.DefD := ⟨("_law_names", none), "_law_names", "_law_names", defArgs s_l_names, defBody s_l_names, defScope s_l_names, [], []⟩
abbrev s_l_plain : Stmt := top 57
abbrev nm_l_plain : List Str := ["_law_cell", "_law_name", "_law_some"]
theorem sc_l_plain : FnScope nm_l_plain ["_law_cell", "_law_name"] (defScope s_l_plain) := ⟨rfl, rfl, rfl, by decide +kernel, rfl, by decide +kernel, by decide +kernel⟩
def e_l_plain : He.DefD := ⟨("_law_plain", none), "_law_plain", "_law_plain", defArgs s_l_plain, defBody s_l_plain, defScope s_l_plain, [], []⟩
abbrev s_l_called : Stmt := top 58
abbrev nm_l_called : List Str := ["_law_one", "_law_name", "_law_many"]
theorem sc_l_called : FnScope nm_l_called ["_law_one", "_law_name", "_law_many"] (defScope s_l_called) := ⟨rfl, rfl, rfl, by decide +kernel, rfl, by decide +kernel, by decide +kernel⟩
def e_l_called : He.DefD := ⟨("_law_called", none), "_law_called", "_law_called", defArgs s_l_called, defBody s_l_called, defScope s_l_called, [], []⟩
abbrev s_l_text : Stmt := top 59
abbrev nm_l_text : List Str := ["_law_script", "_law_names_here", "_law_defs", "_law_lines", "_law_k", "_law_j", "_law_cell", "_law_other"]
theorem sc_l_text : FnScope nm_l_text ["_law_script", "_law_names_here", "_law_defs"] (defScope s_l_text) := ⟨rfl, rfl, rfl, by decide +kernel, rfl, by decide +kernel, by decide +kernel⟩
def e_l_text : He.DefD := ⟨("_law_text", none), "_law_text", "_law_text", defArgs s_l_text, defBody s_l_text, defScope s_l_text, [], []⟩
abbrev s_l_no_line : Stmt := top 60
abbrev nm_l_no_line : List Str := ["_law_cell", "_law_names_here", "_law_a", "_law_f", "_law_some"]
theorem sc_l_no_line : FnScope nm_l_no_line ["_law_cell", "_law_names_here"] (defScope s_l_no_line) := ⟨rfl, rfl, rfl, by decide +kernel, rfl, by decide +kernel, by decide +kernel⟩
def e_l_no_line : He.DefD := ⟨("_law_no_line", none), "_law_no_line", "_law_no_line", defArgs s_l_no_line, defBody s_l_no_line, defScope s_l_no_line, [], []⟩
abbrev s_l_in_front : Stmt := top 61
abbrev nm_l_in_front : List Str := ["_law_lines", "_law_cell", "_law_more", "_law_heads", "_law_at", "_law_k"]
theorem sc_l_in_front : FnScope nm_l_in_front ["_law_lines", "_law_cell", "_law_more"] (defScope s_l_in_front) := ⟨rfl, rfl, rfl, by decide +kernel, rfl, by decide +kernel, by decide +kernel⟩
def e_l_in_front : He.DefD := ⟨("_law_in_front", none), "_law_in_front", "_law_in_front", defArgs s_l_in_front, defBody s_l_in_front, defScope s_l_in_front, [], []⟩
abbrev s_l_nest_fault : Stmt := top 62
abbrev nm_l_nest_fault : List Str := ["_law_lines", "_law_cell", "_law_names_here", "_law_way", "_law_some", "_law_at", "_law_k"]
theorem sc_l_nest_fault : FnScope nm_l_nest_fault ["_law_lines", "_law_cell", "_law_names_here"] (defScope s_l_nest_fault) := ⟨rfl, rfl, rfl, by decide +kernel, rfl, by decide +kernel, by decide +kernel⟩
def e_l_nest_fault : He.DefD := ⟨("_law_nest_fault", none), "_law_nest_fault", "_law_nest_fault", defArgs s_l_nest_fault, defBody s_l_nest_fault, defScope s_l_nest_fault, [], []⟩
abbrev s_l_round : Stmt := top 63
abbrev nm_l_round : List Str := ["_law_row", "_law_cell"]
theorem sc_l_round : FnScope nm_l_round ["_law_row", "_law_cell"] (defScope s_l_round) := ⟨rfl, rfl, rfl, by decide +kernel, rfl, by decide +kernel, by decide +kernel⟩
def e_l_round : He.DefD := ⟨("_law_round", none), "_law_round", "_law_round", defArgs s_l_round, defBody s_l_round, defScope s_l_round, [], []⟩
abbrev s_l_alike_names : Stmt := top 64
abbrev nm_l_alike_names : List Str := ["_law_cell", "_law_names_here", "_law_some", "_law_at"]
theorem sc_l_alike_names : FnScope nm_l_alike_names ["_law_cell", "_law_names_here"] (defScope s_l_alike_names) := ⟨rfl, rfl, rfl, by decide +kernel, rfl, by decide +kernel, by decide +kernel⟩
def e_l_alike_names : He.DefD := ⟨("_law_alike_names", none), "_law_alike_names", "_law_alike_names", defArgs s_l_alike_names, defBody s_l_alike_names, defScope s_l_alike_names, [], []⟩
abbrev s_l_name_fault : Stmt := top 65
abbrev nm_l_name_fault : List Str := ["_law_lines", "_law_cell", "_law_names_here", "_law_defs", "_law_way", "_law_one", "_law_a", "_law_calls", "_law_heads", "_law_at", "_law_k", "_law_row"]
theorem sc_l_name_fault : FnScope nm_l_name_fault ["_law_lines", "_law_cell", "_law_names_here", "_law_defs"] (defScope s_l_name_fault) := ⟨rfl, rfl, rfl, by decide +kernel, rfl, by decide +kernel, by decide +kernel⟩
def e_l_name_fault : He.DefD := ⟨("_law_name_fault", none), "_law_name_fault", "_law_name_fault", defArgs s_l_name_fault, defBody s_l_name_fault, defScope s_l_name_fault, [], []⟩
abbrev s_l_filled : Stmt := top 66
abbrev nm_l_filled : List Str := ["_law_lines", "_law_cell"]
theorem sc_l_filled : FnScope nm_l_filled ["_law_lines", "_law_cell"] (defScope s_l_filled) := ⟨rfl, rfl, rfl, by decide +kernel, rfl, by decide +kernel, by decide +kernel⟩
def e_l_filled : He.DefD := ⟨("_law_filled", none), "_law_filled", "_law_filled", defArgs s_l_filled, defBody s_l_filled, defScope s_l_filled, [], []⟩
abbrev s_l_spoilt : Stmt := top 67
abbrev nm_l_spoilt : List Str := ["_law_lines", "_law_cell", "_law_names_here", "_law_defs", "_law_way", "_law_at", "_law_some"]
theorem sc_l_spoilt : FnScope nm_l_spoilt ["_law_lines", "_law_cell", "_law_names_here", "_law_defs"] (defScope s_l_spoilt) := ⟨rfl, rfl, rfl, by decide +kernel, rfl, by decide +kernel, by decide +kernel⟩
def e_l_spoilt : He.DefD := ⟨("_law_spoilt", none), "_law_spoilt", "_law_spoilt", defArgs s_l_spoilt, defBody s_l_spoilt, defScope s_l_spoilt, [], []⟩
abbrev s_l_kinds_of : Stmt := top 68
abbrev nm_l_kinds_of : List Str := ["_law_text_here", "_law_kinds", "e"]
theorem sc_l_kinds_of : FnScope nm_l_kinds_of ["_law_text_here"] (defScope s_l_kinds_of) := ⟨rfl, rfl, rfl, by decide +kernel, rfl, by decide +kernel, by decide +kernel⟩
def e_l_kinds_of : He.DefD := ⟨("_law_kinds_of", none), "_law_kinds_of", "_law_kinds_of", defArgs s_l_kinds_of, defBody s_l_kinds_of, defScope s_l_kinds_of, [], []⟩
abbrev s_l_laid : Stmt := top 69
abbrev nm_l_laid : List Str := ["_law_pile", "_law_word"]
theorem sc_l_laid : FnScope nm_l_laid ["_law_pile", "_law_word"] (defScope s_l_laid) := ⟨rfl, rfl, rfl, by decide +kernel, rfl, by decide +kernel, by decide +kernel⟩
def e_l_laid : He.DefD := ⟨("_law_laid", none), "_law_laid", "_law_laid", defArgs s_l_laid, defBody s_l_laid, defScope s_l_laid, [], []⟩
abbrev s_l_nests : Stmt := top 70
abbrev nm_l_nests : List Str := ["_law_lines", "_law_pile", "_law_in_main", "_law_words", "_law_word", "_law_good", "_law_row"]
theorem sc_l_nests : FnScope nm_l_nests ["_law_lines"] (defScope s_l_nests) := ⟨rfl, rfl, rfl, by decide +kernel, rfl, by decide +kernel, by decide +kernel⟩
def e_l_nests : He.DefD := ⟨("_law_nests", none), "_law_nests", "_law_nests", defArgs s_l_nests, defBody s_l_nests, defScope s_l_nests, [], []⟩
abbrev s_l_named : Stmt := top 71
abbrev nm_l_named : List Str := ["_law_lines", "_law_rooms", "_law_words", "_law_row"]
theorem sc_l_named : FnScope nm_l_named ["_law_lines"] (defScope s_l_named) := ⟨rfl, rfl, rfl, by decide +kernel, rfl, by decide +kernel, by decide +kernel⟩
def e_l_named : He.DefD := ⟨("_law_named", none), "_law_named", "_law_named", defArgs s_l_named, defBody s_l_named, defScope s_l_named, [], []⟩
abbrev s_l_due : Stmt := top 72
abbrev nm_l_due : List Str := ["_law_lines", "_law_faults"]
theorem sc_l_due : FnScope nm_l_due ["_law_lines", "_law_faults"] (defScope s_l_due) := ⟨rfl, rfl, rfl, by decide +kernel, rfl, by decide +kernel, by decide +kernel⟩
def e_l_due : He.DefD := ⟨("_law_due", none), "_law_due", "_law_due", defArgs s_l_due, defBody s_l_due, defScope s_l_due, [], []⟩
abbrev s_law : Stmt := top 73
abbrev nm_law : List Str := ["_law_script", "_law_names_here", "_law_many", "_law_k", "_law_defs", "_law_lines", "_law_faults", "_law_cell", "_law_fault", "_law_text_here", "_law_due_here", "_law_again", "_law_found"]
theorem sc_law : FnScope nm_law ["_law_script"] (defScope s_law) := ⟨rfl, rfl, rfl, by decide +kernel, rfl, by decide +kernel, by decide +kernel⟩
def e_law : He.DefD := ⟨("law", none), "law", "law", defArgs s_law, defBody s_law, defScope s_law, [], []⟩
def fn : List He.DefD := [e_blocks_of, e_all_of, e_all_of_these, e_is_name, e_is_number, e_read_number, e_plain_of, e_expression_at, e_expressions_at, e_name_at, e_just_so_many, e_six_at_most, e_joining_of, e_named_of, e_parts_of, e_Opened___init, e_Opened_newest, e_Opened_statement, e_Opened_whole_def, e_may_stand, e_close_innermost, e_nested, e_check_names, e_read, e_shown_expression, e_shown_part, e_shown_block, e_shown, e_l_mixed, e_l_cell_at, e_l_names, e_l_plain, e_l_called, e_l_text, e_l_no_line, e_l_in_front, e_l_nest_fault, e_l_round, e_l_alike_names, e_l_name_fault, e_l_filled, e_l_spoilt, e_l_kinds_of, e_l_laid, e_l_nests, e_l_named, e_l_due, e_law]
def fa : List He.Fa := [.glo "blocks_of", .glo "all_of", .glo "all_of_these", .glo "is_name", .glo "is_number", .glo "read_number", .glo "plain_of", .glo "expression_at", .glo "expressions_at", .glo "name_at", .glo "just_so_many", .glo "six_at_most", .glo "joining_of", .glo "named_of", .glo "parts_of", .glo "may_stand", .glo "close_innermost", .glo "nested", .glo "check_names", .glo "read", .glo "shown_expression", .glo "shown_part", .glo "shown_block", .glo "shown", .glo "_law_mixed", .glo "_law_cell_at", .glo "_law_names", .glo "_law_plain", .glo "_law_called", .glo "_law_text", .glo "_law_no_line", .glo "_law_in_front", .glo "_law_nest_fault", .glo "_law_round", .glo "_law_alike_names", .glo "_law_name_fault", .glo "_law_filled", .glo "_law_spoilt", .glo "_law_kinds_of", .glo "_law_laid", .glo "_law_nests", .glo "_law_named", .glo "_law_due", .glo "law", .glo "KEPT", .glo "DEEDS", .int "LONGEST" 8, .str "LETTERS" "abcdefghijklmnopqrstuvwxyz", .str "FIGURES" "0123456789", .int "MANY" 9, .glo "SIGNS", .glo "WORKINGS", .int "DEEPEST" 6, .int "MOST_lines" 6, .glo "JOININGS", .glo "BARE", .glo "ONES", .int "MOST_nests" 5, .int "MOST_texts" 200, .cls "Opened", .noat "Opened" "line", .noat "Opened" "parts", .noat "Opened" "first", .noat "Opened" "second", .mkr "Opened", .glo "Opened", .meth "Opened" "newest", .meth "Opened" "statement", .meth "Opened" "whole_def", .glo "LaneError", .glo "TooMuch", .exc "TooMuch", .glo "NoLine", .exc "NoLine", .glo "NoNest", .exc "NoNest", .glo "NoName", .exc "NoName", .glo "Waits", .glo "NoHead", .exm "TooMuch" "LaneError" true, .exm "NoLine" "LaneError" true, .exm "NoNest" "LaneError" true, .exm "NoName" "LaneError" true, .free "all", .free "len", .free "int", .free "range", .free "any", .free "enumerate", .free "set", .free "str", .free "isinstance", .free "list", .free "min", .free "ValueError", .free "max"]
def kb_TooMuch : List (Str × Bool) := [("TooMuch", true), ("NoLine", false), ("NoNest", false), ("NoName", false), ("Waits", false), ("NoHead", false)]
def kt_TooMuch : List (String × Bool) := [("ValueError", true)]
def kb_NoLine : List (Str × Bool) := [("TooMuch", false), ("NoLine", true), ("NoNest", false), ("NoName", false), ("Waits", false), ("NoHead", false)]
def kt_NoLine : List (String × Bool) := [("ValueError", true)]
def kb_NoNest : List (Str × Bool) := [("TooMuch", false), ("NoLine", false), ("NoNest", true), ("NoName", false), ("Waits", false), ("NoHead", false)]
def kt_NoNest : List (String × Bool) := [("ValueError", true)]
def kb_NoName : List (Str × Bool) := [("TooMuch", false), ("NoLine", false), ("NoNest", false), ("NoName", true), ("Waits", false), ("NoHead", false)]
def kt_NoName : List (String × Bool) := [("ValueError", true)]
def exB (K : PySem.W.Frag) : Bool := (He.tupB K "KEPT" [.str "join", .str "meet", .str "lane", .str "lanes", .str "mine", .str "box", .str "div", .str "rem", .str "sum", .str "most", .str "least", .str "ahead"] && (He.tupB K "DEEDS" [.str "def", .str "set", .str "put", .str "tell", .str "if", .str "else", .str "while", .str "end", .str "break", .str "again", .str "call", .str "return", .str "stop"] && (He.tupB K "SIGNS" [.str "lane", .str "lanes", .str "mine"] && (He.tupB K "WORKINGS" [.str "+", .str "-", .str "*", .str "div", .str "rem", .str "<", .str "="] && (He.tupB K "JOININGS" [.str "sum", .str "most", .str "least", .str "ahead"] && (He.tupB K "BARE" [.str "else", .str "end", .str "break", .str "again", .str "stop", .str "meet"] && (He.tupB K "ONES" [.str "tell", .str "if", .str "while", .str "return"] && (isEB K "TooMuch" && (kitB K "TooMuch" kb_TooMuch && (kitTB K "TooMuch" kt_TooMuch && (isEB K "NoLine" && (kitB K "NoLine" kb_NoLine && (kitTB K "NoLine" kt_NoLine && (isEB K "NoNest" && (kitB K "NoNest" kb_NoNest && (kitTB K "NoNest" kt_NoNest && (isEB K "NoName" && (kitB K "NoName" kb_NoName && (kitTB K "NoName" kt_NoName && true)))))))))))))))))))
structure Tp (K : PySem.W.Frag) (mg : Str → Option Value) : Prop where
  top : Top fa fn K mg
  more : exB K = true
section
variable {K : PySem.W.Frag} {mg : Str → Option Value}
theorem m_blocks_of (T : Tp K mg) : mg "blocks_of" = some (.ref (He.ga K "blocks_of")) := T.top.glo 0
theorem m_all_of (T : Tp K mg) : mg "all_of" = some (.ref (He.ga K "all_of")) := T.top.glo 1
theorem m_all_of_these (T : Tp K mg) : mg "all_of_these" = some (.ref (He.ga K "all_of_these")) := T.top.glo 2
theorem m_is_name (T : Tp K mg) : mg "is_name" = some (.ref (He.ga K "is_name")) := T.top.glo 3
theorem m_is_number (T : Tp K mg) : mg "is_number" = some (.ref (He.ga K "is_number")) := T.top.glo 4
theorem m_read_number (T : Tp K mg) : mg "read_number" = some (.ref (He.ga K "read_number")) := T.top.glo 5
theorem m_plain_of (T : Tp K mg) : mg "plain_of" = some (.ref (He.ga K "plain_of")) := T.top.glo 6
theorem m_expression_at (T : Tp K mg) : mg "expression_at" = some (.ref (He.ga K "expression_at")) := T.top.glo 7
theorem m_expressions_at (T : Tp K mg) : mg "expressions_at" = some (.ref (He.ga K "expressions_at")) := T.top.glo 8
theorem m_name_at (T : Tp K mg) : mg "name_at" = some (.ref (He.ga K "name_at")) := T.top.glo 9
theorem m_just_so_many (T : Tp K mg) : mg "just_so_many" = some (.ref (He.ga K "just_so_many")) := T.top.glo 10
theorem m_six_at_most (T : Tp K mg) : mg "six_at_most" = some (.ref (He.ga K "six_at_most")) := T.top.glo 11
theorem m_joining_of (T : Tp K mg) : mg "joining_of" = some (.ref (He.ga K "joining_of")) := T.top.glo 12
theorem m_named_of (T : Tp K mg) : mg "named_of" = some (.ref (He.ga K "named_of")) := T.top.glo 13
theorem m_parts_of (T : Tp K mg) : mg "parts_of" = some (.ref (He.ga K "parts_of")) := T.top.glo 14
theorem m_may_stand (T : Tp K mg) : mg "may_stand" = some (.ref (He.ga K "may_stand")) := T.top.glo 15
theorem m_close_innermost (T : Tp K mg) : mg "close_innermost" = some (.ref (He.ga K "close_innermost")) := T.top.glo 16
theorem m_nested (T : Tp K mg) : mg "nested" = some (.ref (He.ga K "nested")) := T.top.glo 17
theorem m_check_names (T : Tp K mg) : mg "check_names" = some (.ref (He.ga K "check_names")) := T.top.glo 18
theorem m_read (T : Tp K mg) : mg "read" = some (.ref (He.ga K "read")) := T.top.glo 19
theorem m_shown_expression (T : Tp K mg) : mg "shown_expression" = some (.ref (He.ga K "shown_expression")) := T.top.glo 20
theorem m_shown_part (T : Tp K mg) : mg "shown_part" = some (.ref (He.ga K "shown_part")) := T.top.glo 21
theorem m_shown_block (T : Tp K mg) : mg "shown_block" = some (.ref (He.ga K "shown_block")) := T.top.glo 22
theorem m_shown (T : Tp K mg) : mg "shown" = some (.ref (He.ga K "shown")) := T.top.glo 23
theorem m_l_mixed (T : Tp K mg) : mg "_law_mixed" = some (.ref (He.ga K "_law_mixed")) := T.top.glo 24
theorem m_l_cell_at (T : Tp K mg) : mg "_law_cell_at" = some (.ref (He.ga K "_law_cell_at")) := T.top.glo 25
theorem m_l_names (T : Tp K mg) : mg "_law_names" = some (.ref (He.ga K "_law_names")) := T.top.glo 26
theorem m_l_plain (T : Tp K mg) : mg "_law_plain" = some (.ref (He.ga K "_law_plain")) := T.top.glo 27
theorem m_l_called (T : Tp K mg) : mg "_law_called" = some (.ref (He.ga K "_law_called")) := T.top.glo 28
theorem m_l_text (T : Tp K mg) : mg "_law_text" = some (.ref (He.ga K "_law_text")) := T.top.glo 29
theorem m_l_no_line (T : Tp K mg) : mg "_law_no_line" = some (.ref (He.ga K "_law_no_line")) := T.top.glo 30
theorem m_l_in_front (T : Tp K mg) : mg "_law_in_front" = some (.ref (He.ga K "_law_in_front")) := T.top.glo 31
theorem m_l_nest_fault (T : Tp K mg) : mg "_law_nest_fault" = some (.ref (He.ga K "_law_nest_fault")) := T.top.glo 32
theorem m_l_round (T : Tp K mg) : mg "_law_round" = some (.ref (He.ga K "_law_round")) := T.top.glo 33
theorem m_l_alike_names (T : Tp K mg) : mg "_law_alike_names" = some (.ref (He.ga K "_law_alike_names")) := T.top.glo 34
theorem m_l_name_fault (T : Tp K mg) : mg "_law_name_fault" = some (.ref (He.ga K "_law_name_fault")) := T.top.glo 35
theorem m_l_filled (T : Tp K mg) : mg "_law_filled" = some (.ref (He.ga K "_law_filled")) := T.top.glo 36
theorem m_l_spoilt (T : Tp K mg) : mg "_law_spoilt" = some (.ref (He.ga K "_law_spoilt")) := T.top.glo 37
theorem m_l_kinds_of (T : Tp K mg) : mg "_law_kinds_of" = some (.ref (He.ga K "_law_kinds_of")) := T.top.glo 38
theorem m_l_laid (T : Tp K mg) : mg "_law_laid" = some (.ref (He.ga K "_law_laid")) := T.top.glo 39
theorem m_l_nests (T : Tp K mg) : mg "_law_nests" = some (.ref (He.ga K "_law_nests")) := T.top.glo 40
theorem m_l_named (T : Tp K mg) : mg "_law_named" = some (.ref (He.ga K "_law_named")) := T.top.glo 41
theorem m_l_due (T : Tp K mg) : mg "_law_due" = some (.ref (He.ga K "_law_due")) := T.top.glo 42
theorem m_law (T : Tp K mg) : mg "law" = some (.ref (He.ga K "law")) := T.top.glo 43
theorem m_KEPT (T : Tp K mg) : mg "KEPT" = some (.ref (He.ga K "KEPT")) := T.top.glo 44
theorem m_DEEDS (T : Tp K mg) : mg "DEEDS" = some (.ref (He.ga K "DEEDS")) := T.top.glo 45
theorem m_LONGEST (T : Tp K mg) : ∃ t, mg "LONGEST" = some (.int 8 t) := T.top.int 46
theorem m_LETTERS (T : Tp K mg) : ∃ t, mg "LETTERS" = some (.str "abcdefghijklmnopqrstuvwxyz" t) := T.top.str 47
theorem m_FIGURES (T : Tp K mg) : ∃ t, mg "FIGURES" = some (.str "0123456789" t) := T.top.str 48
theorem m_MANY (T : Tp K mg) : ∃ t, mg "MANY" = some (.int 9 t) := T.top.int 49
theorem m_SIGNS (T : Tp K mg) : mg "SIGNS" = some (.ref (He.ga K "SIGNS")) := T.top.glo 50
theorem m_WORKINGS (T : Tp K mg) : mg "WORKINGS" = some (.ref (He.ga K "WORKINGS")) := T.top.glo 51
theorem m_DEEPEST (T : Tp K mg) : ∃ t, mg "DEEPEST" = some (.int 6 t) := T.top.int 52
theorem m_MOST_lines (T : Tp K mg) : ∃ t, mg "MOST_lines" = some (.int 6 t) := T.top.int 53
theorem m_JOININGS (T : Tp K mg) : mg "JOININGS" = some (.ref (He.ga K "JOININGS")) := T.top.glo 54
theorem m_BARE (T : Tp K mg) : mg "BARE" = some (.ref (He.ga K "BARE")) := T.top.glo 55
theorem m_ONES (T : Tp K mg) : mg "ONES" = some (.ref (He.ga K "ONES")) := T.top.glo 56
theorem m_MOST_nests (T : Tp K mg) : ∃ t, mg "MOST_nests" = some (.int 5 t) := T.top.int 57
theorem m_MOST_texts (T : Tp K mg) : ∃ t, mg "MOST_texts" = some (.int 200 t) := T.top.int 58
theorem c_Opened_line (T : Tp K mg) : ∀ C, (C = He.ga K "Opened") → Cls K C ∧ NoAttr K C "line" := by
  rintro _ (rfl)
  · exact ⟨T.top.cls 59, T.top.noat 60⟩
theorem c_Opened_parts (T : Tp K mg) : ∀ C, (C = He.ga K "Opened") → Cls K C ∧ NoAttr K C "parts" := by
  rintro _ (rfl)
  · exact ⟨T.top.cls 59, T.top.noat 61⟩
theorem c_Opened_first (T : Tp K mg) : ∀ C, (C = He.ga K "Opened") → Cls K C ∧ NoAttr K C "first" := by
  rintro _ (rfl)
  · exact ⟨T.top.cls 59, T.top.noat 62⟩
theorem c_Opened_second (T : Tp K mg) : ∀ C, (C = He.ga K "Opened") → Cls K C ∧ NoAttr K C "second" := by
  rintro _ (rfl)
  · exact ⟨T.top.cls 59, T.top.noat 63⟩
theorem mc_LaneError (T : Tp K mg) : mg "LaneError" = some (.ref (He.ga K "LaneError")) := T.top.glo 69
theorem mc_TooMuch (T : Tp K mg) : mg "TooMuch" = some (.ref (He.ga K "TooMuch")) := T.top.glo 70
theorem ec_TooMuch (T : Tp K mg) : Ec K mg "TooMuch" := T.top.ec 70 71
theorem mc_NoLine (T : Tp K mg) : mg "NoLine" = some (.ref (He.ga K "NoLine")) := T.top.glo 72
theorem ec_NoLine (T : Tp K mg) : Ec K mg "NoLine" := T.top.ec 72 73
theorem mc_NoNest (T : Tp K mg) : mg "NoNest" = some (.ref (He.ga K "NoNest")) := T.top.glo 74
theorem ec_NoNest (T : Tp K mg) : Ec K mg "NoNest" := T.top.ec 74 75
theorem mc_NoName (T : Tp K mg) : mg "NoName" = some (.ref (He.ga K "NoName")) := T.top.glo 76
theorem ec_NoName (T : Tp K mg) : Ec K mg "NoName" := T.top.ec 76 77
theorem mc_Waits (T : Tp K mg) : mg "Waits" = some (.ref (He.ga K "Waits")) := T.top.glo 78
theorem mc_NoHead (T : Tp K mg) : mg "NoHead" = some (.ref (He.ga K "NoHead")) := T.top.glo 79
theorem exm_TooMuch_LaneError (T : Tp K mg) : PySem.W.exmOne K (.ref (He.ga K "TooMuch")) (.ref (He.ga K "LaneError")) = some true := He.exm_ok (T.top.says.fact 80 rfl)
theorem exm_NoLine_LaneError (T : Tp K mg) : PySem.W.exmOne K (.ref (He.ga K "NoLine")) (.ref (He.ga K "LaneError")) = some true := He.exm_ok (T.top.says.fact 81 rfl)
theorem exm_NoNest_LaneError (T : Tp K mg) : PySem.W.exmOne K (.ref (He.ga K "NoNest")) (.ref (He.ga K "LaneError")) = some true := He.exm_ok (T.top.says.fact 82 rfl)
theorem exm_NoName_LaneError (T : Tp K mg) : PySem.W.exmOne K (.ref (He.ga K "NoName")) (.ref (He.ga K "LaneError")) = some true := He.exm_ok (T.top.says.fact 83 rfl)
theorem m_all (T : Tp K mg) : mg "all" = none := T.top.free 84
theorem m_len (T : Tp K mg) : mg "len" = none := T.top.free 85
theorem m_int (T : Tp K mg) : mg "int" = none := T.top.free 86
theorem m_range (T : Tp K mg) : mg "range" = none := T.top.free 87
theorem m_any (T : Tp K mg) : mg "any" = none := T.top.free 88
theorem m_enumerate (T : Tp K mg) : mg "enumerate" = none := T.top.free 89
theorem m_set (T : Tp K mg) : mg "set" = none := T.top.free 90
theorem m_str (T : Tp K mg) : mg "str" = none := T.top.free 91
theorem m_isinstance (T : Tp K mg) : mg "isinstance" = none := T.top.free 92
theorem m_list (T : Tp K mg) : mg "list" = none := T.top.free 93
theorem m_min (T : Tp K mg) : mg "min" = none := T.top.free 94
theorem m_ValueError (T : Tp K mg) : mg "ValueError" = none := T.top.free 95
theorem m_max (T : Tp K mg) : mg "max" = none := T.top.free 96
def lst_KEPT : List Str := ["join", "meet", "lane", "lanes", "mine", "box", "div", "rem", "sum", "most", "least", "ahead"]
theorem tab_KEPT (T : Tp K mg) : ∀ F, Rp K F (.ref (He.ga K "KEPT")) (.tab (lst_KEPT.map D.str)) := fun F => .tab (He.tupB_ok (He.ba T.more).1 F) (rps_strs lst_KEPT)
def lst_DEEDS : List Str := ["def", "set", "put", "tell", "if", "else", "while", "end", "break", "again", "call", "return", "stop"]
theorem tab_DEEDS (T : Tp K mg) : ∀ F, Rp K F (.ref (He.ga K "DEEDS")) (.tab (lst_DEEDS.map D.str)) := fun F => .tab (He.tupB_ok (He.ba (He.ba T.more).2).1 F) (rps_strs lst_DEEDS)
def lst_SIGNS : List Str := ["lane", "lanes", "mine"]
theorem tab_SIGNS (T : Tp K mg) : ∀ F, Rp K F (.ref (He.ga K "SIGNS")) (.tab (lst_SIGNS.map D.str)) := fun F => .tab (He.tupB_ok (He.ba (He.ba (He.ba T.more).2).2).1 F) (rps_strs lst_SIGNS)
def lst_WORKINGS : List Str := ["+", "-", "*", "div", "rem", "<", "="]
theorem tab_WORKINGS (T : Tp K mg) : ∀ F, Rp K F (.ref (He.ga K "WORKINGS")) (.tab (lst_WORKINGS.map D.str)) := fun F => .tab (He.tupB_ok (He.ba (He.ba (He.ba (He.ba T.more).2).2).2).1 F) (rps_strs lst_WORKINGS)
def lst_JOININGS : List Str := ["sum", "most", "least", "ahead"]
theorem tab_JOININGS (T : Tp K mg) : ∀ F, Rp K F (.ref (He.ga K "JOININGS")) (.tab (lst_JOININGS.map D.str)) := fun F => .tab (He.tupB_ok (He.ba (He.ba (He.ba (He.ba (He.ba T.more).2).2).2).2).1 F) (rps_strs lst_JOININGS)
def lst_BARE : List Str := ["else", "end", "break", "again", "stop", "meet"]
theorem tab_BARE (T : Tp K mg) : ∀ F, Rp K F (.ref (He.ga K "BARE")) (.tab (lst_BARE.map D.str)) := fun F => .tab (He.tupB_ok (He.ba (He.ba (He.ba (He.ba (He.ba (He.ba T.more).2).2).2).2).2).1 F) (rps_strs lst_BARE)
def lst_ONES : List Str := ["tell", "if", "while", "return"]
theorem tab_ONES (T : Tp K mg) : ∀ F, Rp K F (.ref (He.ga K "ONES")) (.tab (lst_ONES.map D.str)) := fun F => .tab (He.tupB_ok (He.ba (He.ba (He.ba (He.ba (He.ba (He.ba (He.ba T.more).2).2).2).2).2).2).1 F) (rps_strs lst_ONES)
theorem isE_TooMuch (T : Tp K mg) : ExcC K (He.ga K "TooMuch") := isEB_ok (He.ba (He.ba (He.ba (He.ba (He.ba (He.ba (He.ba (He.ba T.more).2).2).2).2).2).2).2).1
theorem kb_TooMuch_ok (T : Tp K mg) : kitB K "TooMuch" kb_TooMuch = true := (He.ba (He.ba (He.ba (He.ba (He.ba (He.ba (He.ba (He.ba (He.ba T.more).2).2).2).2).2).2).2).2).1
theorem kt_TooMuch_ok (T : Tp K mg) : kitTB K "TooMuch" kt_TooMuch = true := (He.ba (He.ba (He.ba (He.ba (He.ba (He.ba (He.ba (He.ba (He.ba (He.ba T.more).2).2).2).2).2).2).2).2).2).1
theorem isE_NoLine (T : Tp K mg) : ExcC K (He.ga K "NoLine") := isEB_ok (He.ba (He.ba (He.ba (He.ba (He.ba (He.ba (He.ba (He.ba (He.ba (He.ba (He.ba T.more).2).2).2).2).2).2).2).2).2).2).1
theorem kb_NoLine_ok (T : Tp K mg) : kitB K "NoLine" kb_NoLine = true := (He.ba (He.ba (He.ba (He.ba (He.ba (He.ba (He.ba (He.ba (He.ba (He.ba (He.ba (He.ba T.more).2).2).2).2).2).2).2).2).2).2).2).1
theorem kt_NoLine_ok (T : Tp K mg) : kitTB K "NoLine" kt_NoLine = true := (He.ba (He.ba (He.ba (He.ba (He.ba (He.ba (He.ba (He.ba (He.ba (He.ba (He.ba (He.ba (He.ba T.more).2).2).2).2).2).2).2).2).2).2).2).2).1
theorem isE_NoNest (T : Tp K mg) : ExcC K (He.ga K "NoNest") := isEB_ok (He.ba (He.ba (He.ba (He.ba (He.ba (He.ba (He.ba (He.ba (He.ba (He.ba (He.ba (He.ba (He.ba (He.ba T.more).2).2).2).2).2).2).2).2).2).2).2).2).2).1
theorem kb_NoNest_ok (T : Tp K mg) : kitB K "NoNest" kb_NoNest = true := (He.ba (He.ba (He.ba (He.ba (He.ba (He.ba (He.ba (He.ba (He.ba (He.ba (He.ba (He.ba (He.ba (He.ba (He.ba T.more).2).2).2).2).2).2).2).2).2).2).2).2).2).2).1
theorem kt_NoNest_ok (T : Tp K mg) : kitTB K "NoNest" kt_NoNest = true := (He.ba (He.ba (He.ba (He.ba (He.ba (He.ba (He.ba (He.ba (He.ba (He.ba (He.ba (He.ba (He.ba (He.ba (He.ba (He.ba T.more).2).2).2).2).2).2).2).2).2).2).2).2).2).2).2).1
theorem isE_NoName (T : Tp K mg) : ExcC K (He.ga K "NoName") := isEB_ok (He.ba (He.ba (He.ba (He.ba (He.ba (He.ba (He.ba (He.ba (He.ba (He.ba (He.ba (He.ba (He.ba (He.ba (He.ba (He.ba (He.ba T.more).2).2).2).2).2).2).2).2).2).2).2).2).2).2).2).2).1
theorem kb_NoName_ok (T : Tp K mg) : kitB K "NoName" kb_NoName = true := (He.ba (He.ba (He.ba (He.ba (He.ba (He.ba (He.ba (He.ba (He.ba (He.ba (He.ba (He.ba (He.ba (He.ba (He.ba (He.ba (He.ba (He.ba T.more).2).2).2).2).2).2).2).2).2).2).2).2).2).2).2).2).2).1
theorem kt_NoName_ok (T : Tp K mg) : kitTB K "NoName" kt_NoName = true := (He.ba (He.ba (He.ba (He.ba (He.ba (He.ba (He.ba (He.ba (He.ba (He.ba (He.ba (He.ba (He.ba (He.ba (He.ba (He.ba (He.ba (He.ba (He.ba T.more).2).2).2).2).2).2).2).2).2).2).2).2).2).2).2).2).2).2).1
end
abbrev R : PySem.W.OpenRow := PySem.W.OpenLaw.row PySem.Challenge.rw_widelanes_k07_refused_in_order
abbrev hk : PySem.W.Hook := He.hookX 4 fa fn [] [] exB
def ob (s : PySem.W.SharedT) : He.AlX := He.obsX 4 fa fn [] [] exB (HandSHeadRun.getT s)
theorem ob_eq (s : PySem.W.SharedT) : ob s = hk.obs s.abs := He.obsX_eq (HandSHeadRun.getT_eq s)
theorem run (w : World) : HandSHeadRun.RunEq R (PySem.W.view R.prog [73]) hk ob 6000 ("__name__" :: "LaneError" :: "TooMuch" :: "NoLine" :: "NoNest" :: "NoName" :: "Waits" :: "NoHead" :: "LETTERS" :: "FIGURES" :: "SIGNS" :: "WORKINGS" :: "DEEDS" :: "KEPT" :: "LONGEST" :: "MANY" :: "DEEPEST" :: "all_of_these" :: "is_name" :: "is_number" :: "read_number" :: "plain_of" :: "expression_at" :: "expressions_at" :: "shown_expression" :: "BARE" :: "ONES" :: "JOININGS" :: "MOST_lines" :: "name_at" :: "just_so_many" :: "six_at_most" :: "joining_of" :: "named_of" :: "parts_of" :: "MOST_nests" :: "Opened" :: "may_stand" :: "close_innermost" :: "nested" :: "blocks_of" :: "all_of" :: "MOST_texts" :: "check_names" :: "read" :: "shown_part" :: "shown_block" :: "shown" :: "_law_mixed" :: "_law_cell_at" :: "_law_names" :: "_law_plain" :: "_law_called" :: "_law_text" :: "_law_no_line" :: "_law_in_front" :: "_law_nest_fault" :: "_law_round" :: "_law_alike_names" :: "_law_name_fault" :: "_law_filled" :: "_law_spoilt" :: "_law_kinds_of" :: "_law_laid" :: "_law_nests" :: "_law_named" :: "_law_due" :: []) w := by
  intro os
  kernel_rfl
end K07
local macro_rules | `(tactic| walk_at "vc") => `(tactic| simp only [Tl.umFind, Tl.ubInSN, Tl.uTry, Tl.uIsT, Tl.uIsR, Tl.utSdk, Tl.ugLs, Tl.uEnS, Tl.utLnT, Tl.utLnTG, Tl.utSm, Tl.umSplit, Tl.umStarts, Tl.umJoin, Tl.ucStr, Tl.ucIntS, Tl.ubInS, Tl.uZiT, Tl.uDisp1, Tl.uIsB, Tl.uSortDI, Tl.op_lane, Tl.op_lanes, Tl.op_mine, Tl.op_num, Tl.op_name, Tl.op_box, Tl.cut_tail, Tl.val_name, Tl.val_row, Tl.val_def, Tl.val_back, Tl.ofS_inj, String.reduceEq, Tl.uDic, Tl.oDA_ki, Tl.oDA_ks, Tl.oDA_t, Tl.oPA_ki, Tl.oPA_ks, Tl.oPA_t, Tl.consK_s, Tl.kT_nil, Tl.kT_i, Tl.kT_s, Tl.uzDict, Tl.uIn, Tl.uRepS, Tl.uRep, Tl.uRepM, Tl.uCatT, Tl.uSlT, Tl.oLD_k, Tl.oLD_t, Tl.uLenD, Tl.z_tDnK, Tl.z_tDnT, Tl.z_tDg, Tl.z_tDi, Tl.z_tDg2, Tl.z_tRe, Tl.z_sRe, Tl.wip, Tl.uObj, Tl.oAt_i, Tl.cxK, Tl.cxKn, true_or, or_true, or_false, false_or, Nat.zero_le, Nat.le_refl, Tl.mup_same, Tl.mup_mup, Tl.uAlt, Tl.z_tFd, Tl.z_sFd, Tl.z_sFa, Tl.z_tMe, Tl.z_tMk, Tl.nthD, Tl.putD, Tl.uFo, Tl.uLcF, Tl.uLcV', Tl.uAsRef, Tl.z_sNx, Tl.z_sSq, Tl.z_sBk, Tl.z_sCt, Tl.z_sDr, Tl.z_sRt, Tl.z_sRtN, Tl.z_sIf, Tl.z_sAs, Tl.z_gN, Tl.z_gSb, Tl.z_tK, Tl.z_tO, Tl.z_tU, Tl.z_tCa, Tl.z_tN, Tl.z_tCs, Tl.z_tAn, Tl.tOr', Tl.z_tNo, Tl.z_tIfE, Tl.z_tCl, Tl.z_tTu, Tl.z_tLi, Tl.z_tLm, Tl.z_tSc, Tl.z_oNo, Tl.z_tMt, Tl.z_tMt0, Tl.z_tYe, Tl.z_tLt, Tl.kit_ii, Tl.kit_ib, Tl.kit_bi, Tl.kit_bb, Tl.kit_si, Tl.kit_ss, Tl.kit_is, Tl.kit_tt, Tl.kit_ll, Tl.kit_lt, Tl.kit_tl, Tl.kit_ts, Tl.kit_ls, Tl.kit_sl, Tl.kit_st, Tl.kit_it, Tl.kit_il, Tl.kit_dd, Tl.kit_ni, Tl.kit_nb, Tl.begin_, Tl.nth, List.map, List.length, List.replicate, List.append, List.set, List.nil_append, List.cons_append, List.append_nil, Nat.reduceAdd, Nat.reduceSub, Nat.zero_add, reduceIte, Bool.false_eq_true, Bool.true_eq_false, Bool.not_eq_true', Bool.not_eq_false', Bool.not_true, Bool.not_false, not_true_eq_false, not_false_eq_true, decide_eq_true_eq, decide_eq_false_iff_not, decide_not, Option.isSome_some, true_and, and_true, Int.reduceLT, Int.reduceLE, Int.reduceNeg, List.cons.injEq, Option.some.injEq, PySem.sizeLine_eq, Nat.reduceLeDiff, List.length_map, List.length_append, List.length_cons, List.length_nil, Tl.oBl_i, Tl.oInt_i, Tl.oStr_i, Tl.oTup_i, Tl.oSome_i, Tl.oBl_if, Tl.uV, Tl.uBo, Tl.uAnV, Tl.uOrV, Tl.uNoV, Tl.uCh, Tl.uNl0, Tl.uCs1, Tl.uTp, Tl.uAg, Tl.uInt, Tl.uInt0, Tl.uNegI, Tl.uEq, Tl.uNe, Tl.dScal_ii, Tl.dScal_ss, Tl.dScal_bb, Tl.dScal_nn, Tl.dScal_ni, Tl.dScal_in, Tl.dScal_is, Tl.dScal_si, Tl.uIsN, Tl.uNotN, Tl.nonD_n, Tl.nonD_i, Tl.nonD_s, Tl.nonD_t, Tl.nonD_l, Tl.nonD_b, Tl.nonD_r, Tl.uCatS, Tl.uCatL, Tl.uCatM, Tl.lstOf_l, Tl.lstOf_c, Tl.lstOf_m, Tl.trkOf_l, Tl.trkOf_m, Tl.tupOf_t, Tl.tupOf_b, Tl.seqOf_t, Tl.seqOf_b, Tl.seqOf_l, Tl.seqOf_c, Tl.seqOf_r, Tl.uIx_t, Tl.uIx_b, Tl.uIx_l, Tl.uIx_c, Tl.uIx_s, Tl.uIx_r, Tl.uYes, Tl.uSlL, Tl.uSlM, Tl.uSlS, Tl.uIsi, Tl.dTy_n, Tl.dTy_b, Tl.dTy_i, Tl.dTy_s, Tl.dTy_t, Tl.dTy_l, Tl.uLen, Tl.lenOf_t, Tl.lenOf_b, Tl.lenOf_l, Tl.lenOf_c, Tl.lenOf_m, Tl.uIntI, Tl.uIntB, Tl.uLs, Tl.uTu, Tl.oL1_i, Tl.oL2_i, Tl.oL3_i, Tl.uR1, Tl.uR2, Tl.uR3, Tl.uEn, Tl.uZi, Tl.uSt, Tl.uRv, Tl.uDivmod, Tl.uList, Tl.uListM, Tl.uSum, Tl.uMax, Tl.uMin, Tl.intLst_l, Tl.intLst_c, Tl.blLst_l, Tl.uMax2, Tl.uMin2, Tl.uAbs, Tl.uAny, Tl.uAll, Tl.mLst_m, Tl.uAppend, Tl.uExtend, Tl.uPop, Tl.uSet, Tl.lMt_l, Tl.isS_m, Tl.atI_0, Tl.atI_1, Tl.atI_2, Tl.atI_3, Tl.atI_4, Tl.atI_5])
local macro_rules | `(tactic| walk_at "vh") => `(tactic| simp only [Tl.umFind, Tl.ubInSN, Tl.uTry, Tl.uIsT, Tl.uIsR, Tl.utSdk, Tl.ugLs, Tl.uEnS, Tl.utLnT, Tl.utLnTG, Tl.utSm, Tl.umSplit, Tl.umStarts, Tl.umJoin, Tl.ucStr, Tl.ucIntS, Tl.ubInS, Tl.uZiT, Tl.uDisp1, Tl.uIsB, Tl.uSortDI, Tl.op_lane, Tl.op_lanes, Tl.op_mine, Tl.op_num, Tl.op_name, Tl.op_box, Tl.cut_tail, Tl.val_name, Tl.val_row, Tl.val_def, Tl.val_back, Tl.ofS_inj, String.reduceEq, Tl.uDic, Tl.oDA_ki, Tl.oDA_ks, Tl.oDA_t, Tl.oPA_ki, Tl.oPA_ks, Tl.oPA_t, Tl.consK_s, Tl.kT_nil, Tl.kT_i, Tl.kT_s, Tl.uzDict, Tl.uIn, Tl.uRepS, Tl.uRep, Tl.uRepM, Tl.uCatT, Tl.uSlT, Tl.oLD_k, Tl.oLD_t, Tl.uLenD, Tl.z_tDnK, Tl.z_tDnT, Tl.z_tDg, Tl.z_tDi, Tl.z_tDg2, Tl.z_tRe, Tl.z_sRe, Tl.wip, Tl.uObj, Tl.oAt_i, Tl.cxK, Tl.cxKn, true_or, or_true, or_false, false_or, Nat.zero_le, Nat.le_refl, Tl.mup_same, Tl.mup_mup, Tl.uAlt, Tl.z_tFd, Tl.z_sFd, Tl.z_sFa, Tl.z_tMe, Tl.z_tMk, Tl.nthD, Tl.putD, Tl.uFo, Tl.uLcF, Tl.uLcV', Tl.uAsRef, Tl.z_sNx, Tl.z_sSq, Tl.z_sBk, Tl.z_sCt, Tl.z_sDr, Tl.z_sRt, Tl.z_sRtN, Tl.z_sIf, Tl.z_sAs, Tl.z_gN, Tl.z_gSb, Tl.z_tK, Tl.z_tO, Tl.z_tU, Tl.z_tCa, Tl.z_tN, Tl.z_tCs, Tl.z_tAn, Tl.tOr', Tl.z_tNo, Tl.z_tIfE, Tl.z_tCl, Tl.z_tTu, Tl.z_tLi, Tl.z_tLm, Tl.z_tSc, Tl.z_oNo, Tl.z_tMt, Tl.z_tMt0, Tl.z_tYe, Tl.z_tLt, Tl.kit_ii, Tl.kit_ib, Tl.kit_bi, Tl.kit_bb, Tl.kit_si, Tl.kit_ss, Tl.kit_is, Tl.kit_tt, Tl.kit_ll, Tl.kit_lt, Tl.kit_tl, Tl.kit_ts, Tl.kit_ls, Tl.kit_sl, Tl.kit_st, Tl.kit_it, Tl.kit_il, Tl.kit_dd, Tl.kit_ni, Tl.kit_nb, Tl.begin_, Tl.nth, List.map, List.length, List.replicate, List.append, List.set, List.nil_append, List.cons_append, List.append_nil, Nat.reduceAdd, Nat.reduceSub, Nat.zero_add, reduceIte, Bool.false_eq_true, Bool.true_eq_false, Bool.not_eq_true', Bool.not_eq_false', Bool.not_true, Bool.not_false, not_true_eq_false, not_false_eq_true, decide_eq_true_eq, decide_eq_false_iff_not, decide_not, Option.isSome_some, true_and, and_true, Int.reduceLT, Int.reduceLE, Int.reduceNeg, List.cons.injEq, Option.some.injEq, PySem.sizeLine_eq, Nat.reduceLeDiff, List.length_map, List.length_append, List.length_cons, List.length_nil, Tl.oBl_i, Tl.oInt_i, Tl.oStr_i, Tl.oTup_i, Tl.oSome_i, Tl.oBl_if, Tl.uV, Tl.uBo, Tl.uAnV, Tl.uOrV, Tl.uNoV, Tl.uCh, Tl.uNl0, Tl.uCs1, Tl.uTp, Tl.uAg, Tl.uInt, Tl.uInt0, Tl.uNegI, Tl.uEq, Tl.uNe, Tl.dScal_ii, Tl.dScal_ss, Tl.dScal_bb, Tl.dScal_nn, Tl.dScal_ni, Tl.dScal_in, Tl.dScal_is, Tl.dScal_si, Tl.uIsN, Tl.uNotN, Tl.nonD_n, Tl.nonD_i, Tl.nonD_s, Tl.nonD_t, Tl.nonD_l, Tl.nonD_b, Tl.nonD_r, Tl.uCatS, Tl.uCatL, Tl.uCatM, Tl.lstOf_l, Tl.lstOf_c, Tl.lstOf_m, Tl.trkOf_l, Tl.trkOf_m, Tl.tupOf_t, Tl.tupOf_b, Tl.seqOf_t, Tl.seqOf_b, Tl.seqOf_l, Tl.seqOf_c, Tl.seqOf_r, Tl.uIx_t, Tl.uIx_b, Tl.uIx_l, Tl.uIx_c, Tl.uIx_s, Tl.uIx_r, Tl.uYes, Tl.uSlL, Tl.uSlM, Tl.uSlS, Tl.uIsi, Tl.dTy_n, Tl.dTy_b, Tl.dTy_i, Tl.dTy_s, Tl.dTy_t, Tl.dTy_l, Tl.uLen, Tl.lenOf_t, Tl.lenOf_b, Tl.lenOf_l, Tl.lenOf_c, Tl.lenOf_m, Tl.uIntI, Tl.uIntB, Tl.uLs, Tl.uTu, Tl.oL1_i, Tl.oL2_i, Tl.oL3_i, Tl.uR1, Tl.uR2, Tl.uR3, Tl.uEn, Tl.uZi, Tl.uSt, Tl.uRv, Tl.uDivmod, Tl.uList, Tl.uListM, Tl.uSum, Tl.uMax, Tl.uMin, Tl.intLst_l, Tl.intLst_c, Tl.blLst_l, Tl.uMax2, Tl.uMin2, Tl.uAbs, Tl.uAny, Tl.uAll, Tl.mLst_m, Tl.uAppend, Tl.uExtend, Tl.uPop, Tl.uSet, Tl.lMt_l, Tl.isS_m, Tl.atI_0, Tl.atI_1, Tl.atI_2, Tl.atI_3, Tl.atI_4, Tl.atI_5, *])
namespace K07
open PySem PySem.Spec PyProof.Rows L2 Tl
section
variable {P : Program} {w : World} {K : PySem.W.Frag} {mg : Str → Option Value} {base : Heap}
def spAllOf : SpT := fun ds M Q _ => ∃ x z : Str, ds = [.str x, .str z] ∧ x.length ≤ 100000 ∧ Q (.bl (allIn x z)) M
theorem ok_all_of_these (T : Tp K mg) : Fn P w K mg base CX0 1 "all_of_these" spAllOf := by
  refine fn_top T.top 2 e_all_of_these (m_all_of_these T) sc_all_of_these (by rintro _ M Q Et ⟨n, _, rfl, _⟩; rfl) (fun cdv A outer s H E hr => ⟨_, (qss_cons (qs_if (qt_cmp oq_eq (qv 0) q_str)
  (qss_one (qs_ret q_bl))
  qss_nil)
 (qss_one (qs_ret (q_callB (cq_all rfl) (m_all T) (by decide +kernel) (qa_cons (q_lc rfl sc_all_of_these.nd (qi_str (qv 0)) (blkOk_by (N := nm_all_of_these) (sc := defScope s_all_of_these) (own := [(("sign" : Str), 2)]) (by decide +kernel)) go_name (fun _ _ _ _ _ => (pg_name (i := 2) sc_all_of_these.nd rfl (Or.inl rfl))) (fun _ _ _ _ _ => qts_nil) (fun _ _ _ _ _ => (q_cmp oq_inS (qv 2) (qv 1)))) qa_nil))))), ?_⟩) (fun _ _ _ _ _ _ us hl => match us, hl with | [_, _], _ => rfl)
  rintro _ M Q Et ⟨x, z, rfl, hl, h⟩
  walk_at "vc"
  unfold allIn at h
  split
  · rename_i hx
    rw [empty_iff.mp hx] at h
    exact h
  · rename_i hx
    have hne : (cds x).isEmpty = false := by
      cases hc : cds x with
      | nil => exact absurd (empty_iff.mpr hc) hx
      | cons => rfl
    rw [hne, Bool.not_false, Bool.true_and] at h
    refine lc_map (cds x) (fun c => .str ⟨#[c]⟩) (fun c => .bl (decide (c ∈ cds z))) rfl (by rw [sizeLine_eq, cds_len]; omega) trivial (fun c R1 R0 hc h1 => ?_) ?_
    · walk_at "vc"
      exact ⟨c, rfl, h1⟩
    · have e1 : blLst M (.lst ((cds x).map fun c => D.bl (decide (c ∈ cds z)))) = some ((cds x).map fun c => decide (c ∈ cds z)) := by
        rw [← blLst_l (is := (cds x).map fun c => decide (c ∈ cds z)), List.map_map]; rfl
      rw [e1]
      simp only [oSome_i]
      rw [List.all_map]
      exact h
def spIsName : SpT := fun ds M Q _ => ∃ x : Str, ds = [.str x] ∧ x.length ≤ 100000 ∧ Q (.bl (decide (okName x))) M
theorem ok_is_name (T : Tp K mg) : Fn P w K mg base CX0 2 "is_name" spIsName := by
  refine fn_top T.top 3 e_is_name (m_is_name T) sc_is_name (by rintro _ M Q Et ⟨n, rfl, _⟩; rfl) (fun cdv A outer s H E hr => ⟨_, (qss_cons (qs_if (qt_w (qw_or (qt_cmp oq_gt (q_callB cq_len (m_len T) (by decide +kernel) (qa_cons (qv 0) qa_nil)) (q_gint (m_LONGEST T))) (qw_or (qt_cmp oq_inQ (qv 0) (q_gref (m_DEEDS T) (tab_DEEDS T))) (qw_or1 (qt_cmp oq_inQ (qv 0) (q_gref (m_KEPT T) (tab_KEPT T)))))))
  (qss_one (qs_ret q_bl))
  qss_nil)
 (qss_one (qs_ret (q_call (ok_all_of_these T) (hr.mono (by decide)) (qa_cons (qv 0) (qa_cons (q_gstr (m_LETTERS T)) qa_nil)))))), ?_⟩) (fun _ _ _ _ _ _ us hl => match us, hl with | [_], _ => rfl)
  rintro _ M Q Et ⟨x, rfl, hl, h⟩
  have hk : keptL = lst_DEEDS ++ lst_KEPT := rfl
  walk_at "vc"
  rw [len_s hl, oSome_i]
  split
  · rename_i h8
    rw [decide_eq_false (fun z => by have := (name_iff.mp z).1; omega)] at h
    exact h
  · rename_i h8
    refine ⟨rfl, all_ws, ?_⟩
    rw [any_ws]
    split
    · rename_i hd
      rw [decide_eq_false (fun z => (name_iff.mp z).2.1 (by rw [hk]; exact List.mem_append_left _ (of_decide_eq_true hd)))] at h
      exact h
    · rename_i hd
      refine ⟨rfl, all_ws, ?_⟩
      rw [any_ws]
      split
      · rename_i hd2
        rw [decide_eq_false (fun z => (name_iff.mp z).2.1 (by rw [hk]; exact List.mem_append_right _ (of_decide_eq_true hd2)))] at h
        exact h
      · rename_i hd2
        refine ⟨x, letters, rfl, hl, ?_⟩
        have e : decide (okName x) = allIn x letters := by
          rw [Bool.eq_iff_iff, decide_eq_true_eq, name_iff]
          refine ⟨fun z => z.2.2, fun z => ⟨by omega, fun hm => ?_, z⟩⟩
          rw [hk] at hm
          rcases List.mem_append.mp hm with hm | hm
          · exact hd (decide_eq_true hm)
          · exact hd2 (decide_eq_true hm)
        rw [e] at h
        exact h
def spIsNumber : SpT := fun ds M Q _ => ∃ x : Str, ds = [.str x] ∧ x.length ≤ 100000 ∧ Q (.bl (isNumF x)) M
theorem ok_is_number (T : Tp K mg) : Fn P w K mg base CX0 2 "is_number" spIsNumber := by
  refine fn_top T.top 4 e_is_number (m_is_number T) sc_is_number (by rintro _ M Q Et ⟨n, rfl, _⟩; rfl) (fun cdv A outer s H E hr => ⟨_, (qss_cons (qs_set (i := 1) sc_is_number.nd (qv 0))
 (qss_cons (qs_if (qt_val (q_startswith (qv 0) q_str))
  (qss_cons (qs_set (i := 1) sc_is_number.nd (q_sliceS (qv 0) (qo_some q_int) qo_none))
 (qss_one (qs_if (qt_cmp oq_eq (qv 1) q_str)
  (qss_one (qs_ret q_bl))
  qss_nil)))
  qss_nil)
 (qss_cons (qs_if (qt_w (qw_or (qt_cmp oq_gt (q_callB cq_len (m_len T) (by decide +kernel) (qa_cons (qv 1) qa_nil)) (q_gint (m_MANY T))) (qw_or1 (qt_not (qt_val (q_call (ok_all_of_these T) (hr.mono (by decide)) (qa_cons (qv 1) (qa_cons (q_gstr (m_FIGURES T)) qa_nil))))))))
  (qss_one (qs_ret q_bl))
  qss_nil)
 (qss_one (qs_ret (q_or (q_cmp oq_eq (qv 1) q_str) (q_one (q_not (q_startswith (qv 1) q_str))))))))), ?_⟩) (fun _ _ _ _ _ _ us hl => match us, hl with | [_], _ => rfl)
  rintro _ M Q Et ⟨x, rfl, hl, h⟩
  have e45 : Str.ofString "-" = ⟨#[45]⟩ := by decide +kernel
  have e48 : Str.ofString "0" = ⟨#[48]⟩ := by decide +kernel
  have hcut := cds_cut1 x
  have tail : ∀ y : Str, y.length ≤ 100000 → cds y = figsF x → ((cds x).head? == some 45 && figsF x == [48]) = false → (if 9 < (y.length : Int) then Q (D.bl false) M
        else
          spAllOf [D.str y, D.str (Str.ofString "0123456789")] M
            (fun x_1 M1 =>
              oBl x_1 fun c =>
                if c = false then Q (D.bl false) M1
                else
                  if y = Str.ofString "0" then Q (D.bl true) M1
                  else Q (D.bl !Txt.startswith y (Str.ofString "0")) M1)
            Et0) := fun y hyl hy h0 => by
    unfold isNumF at h
    rw [h0, Bool.not_false, Bool.true_and] at h
    have hlen : (figsF x).length = y.length := by rw [← hy, cds_len]
    rw [hlen] at h
    split
    · rename_i h9
      rw [decide_eq_false (by omega)] at h
      exact h
    · rename_i h9
      rw [decide_eq_true (by omega), Bool.true_and] at h
      refine ⟨y, figures, rfl, hyl, ?_⟩
      dsimp only
      rw [allIn_figures, hy]
      cases hc : (!(figsF x).isEmpty && (figsF x).all fun c => decide (48 ≤ c) && decide (c ≤ 57)) with
      | false =>
        rw [hc] at h
        walk_at "vc"
        exact h
      | true =>
        rw [hc, Bool.true_and] at h
        walk_at "vc"
        split
        · rename_i hz
          rw [show figsF x = [48] from by rw [← hy]; exact zero_iff.mp hz] at h
          exact h
        · rename_i hz
          have : (figsF x == [48]) = false := by
            cases hb : figsF x == [48] with
            | false => rfl
            | true => exact absurd (zero_iff.mpr (by rw [hy]; exact eq_of_beq hb)) hz
          rw [this, Bool.false_or] at h
          rw [e48, starts_one, hy]
          exact h
  walk_at "vc"
  rw [e45, starts_one]
  cases hs : ((cds x).head? == some 45) with
  | true =>
    have hf : figsF x = (cds x).drop 1 := by unfold figsF; rw [if_pos (eq_of_beq hs), List.drop_one]
    have hyl : (cutS x (some 1) none).length ≤ 100000 := by rw [← cds_len, hcut, List.length_drop, cds_len]; omega
    rw [if_pos rfl]
    refine ⟨by omega, ?_⟩
    by_cases hz : cutS x (some 1) none = Str.ofString "0"
    · rw [if_pos hz]
      have h0 : figsF x = [48] := by rw [hf, ← hcut]; exact zero_iff.mp hz
      unfold isNumF at h
      rw [hs, h0] at h
      exact h
    · rw [if_neg hz, len_s hyl, oSome_i]
      refine tail _ hyl (by rw [hcut, hf]) ?_
      rw [hs, Bool.true_and]
      cases hb : figsF x == [48] with
      | false => rfl
      | true => exact absurd (zero_iff.mpr (by rw [hcut, ← hf]; exact eq_of_beq hb)) hz
  | false =>
    have hf : figsF x = cds x := by unfold figsF; rw [if_neg (fun z => by rw [z] at hs; simp at hs)]
    rw [if_neg (fun z => by cases z), len_s hl, oSome_i]
    exact tail _ hl hf.symm (by rw [hs]; rfl)
end
end K07
namespace K07
open PySem PySem.Spec PyProof.Rows L2 Tl
section
variable {P : Program} {w : World} {K : PySem.W.Frag} {mg : Str → Option Value} {base : Heap}
def spReadNumX (C : Addr) : SpT := fun ds M Q Et => ∃ x : Str, ds = [.str x] ∧ x.length ≤ 100000 ∧ (∀ i, numOf x = some i → Q (.int i) M) ∧ (numOf x = none → Et (.ref C) M)
theorem ok_read_number (T : Tp K mg) : Fn P w K mg base (L2.CX P w) 3 "read_number" (spReadNumX (He.ga K "NoLine")) := by
  refine fn_topX T.top 5 e_read_number (m_read_number T) sc_read_number (by rintro _ M Q Et ⟨n, rfl, _⟩; rfl) (fun cdv A outer s H E Et hr => ⟨_, (qss_cons (qs_if (qt_not (qt_val (q_call (ok_is_number T) (hr.mono (by decide)) (qa_cons (qv 0) qa_nil))))
  (qss_one (qs_raise rfl (takes_of rfl rfl rfl rfl) (ec_NoLine T)))
  qss_nil)
 (qss_one (qs_ret (q_callTy cq_intS (m_int T) (by decide +kernel) (qa_cons (qv 0) qa_nil))))), ?_⟩) (fun _ _ _ _ _ _ us hl => match us, hl with | [_], _ => rfl)
  rintro _ M Q ⟨x, rfl, hl, h1, h2⟩
  walk_at "vc"
  refine ⟨_, rfl, hl, ?_⟩
  rw [numOf_is]
  cases e : numOf x with
  | none =>
    walk_at "vc"
    exact h2 e
  | some i =>
    walk_at "vc"
    obtain ⟨h3, h4⟩ := numOf_int e
    exact ⟨i, h3, by omega, h1 i e⟩
def spPlainX (C : Addr) : SpT := fun ds M Q Et => ∃ x : Str, ds = [.str x] ∧ x.length ≤ 100000 ∧ (∀ e, plainOf x = some e → Q e.d M) ∧ (plainOf x = none → Et (.ref C) M)
theorem ok_plain_of (T : Tp K mg) : Fn P w K mg base (L2.CX P w) 4 "plain_of" (spPlainX (He.ga K "NoLine")) := by
  refine fn_topX T.top 6 e_plain_of (m_plain_of T) sc_plain_of (by rintro _ M Q Et ⟨n, rfl, _⟩; rfl) (fun cdv A outer s H E Et hr => ⟨_, (qss_cons (qs_if (qt_cmp oq_inQ (qv 0) (q_gref (m_SIGNS T) (tab_SIGNS T)))
  (qss_one (qs_ret (q_tup (qa_cons (qv 0) qa_nil))))
  qss_nil)
 (qss_cons (qs_if (qt_val (q_call (ok_is_name T) (hr.mono (by decide)) (qa_cons (qv 0) qa_nil)))
  (qss_one (qs_ret (q_tup (qa_cons q_str (qa_cons (qv 0) qa_nil)))))
  qss_nil)
 (qss_one (qs_ret (q_tup (qa_cons q_str (qa_cons (q_callX (ok_read_number T) (takes_of rfl rfl rfl rfl) (hr.mono (by decide)) (qa_cons (qv 0) qa_nil)) qa_nil))))))), ?_⟩) (fun _ _ _ _ _ _ us hl => match us, hl with | [_], _ => rfl)
  rintro _ M Q ⟨x, rfl, hl, h1, h2⟩
  have hsg : ∀ y, (y ∈ lst_SIGNS) ↔ y = "lane" ∨ y = "lanes" ∨ y = "mine" := fun y => by simp only [lst_SIGNS, List.mem_cons, List.not_mem_nil, or_false]; try rfl
  have hso : x ∉ lst_SIGNS → signOf x = none := fun hx => by
    rw [hsg] at hx
    unfold signOf
    rw [if_neg (fun z => hx (.inl z)), if_neg (fun z => hx (.inr (.inl z))), if_neg (fun z => hx (.inr (.inr z)))]
  unfold plainOf at h1 h2
  walk_at "vc"
  refine ⟨rfl, all_ws, ?_⟩
  rw [any_ws]
  split
  · rename_i hx
    have hx := (hsg x).mp (of_decide_eq_true hx)
    rcases hx with rfl | rfl | rfl
    · exact h1 .lane rfl
    · exact h1 .lanes rfl
    · exact h1 .mine rfl
  · rename_i hx
    rw [hso (fun z => hx (decide_eq_true z))] at h1 h2
    dsimp only at h1 h2
    refine ⟨x, rfl, hl, ?_⟩
    walk_at "vc"
    split
    · rename_i hn
      rw [if_pos hn] at h1
      exact h1 _ rfl
    · rename_i hn
      rw [if_neg hn] at h1 h2
      refine ⟨x, rfl, hl, fun i hi => ?_, fun hi => h2 (by rw [hi]; rfl)⟩
      exact h1 (.num i) (by rw [hi]; rfl)
def spExprAtX (C : Addr) (n : Nat) : SpT := fun ds M Q Et => ∃ (ws : List Str) (at_ room : Nat), ds = [.lst (ws.map .str), .int at_, .int room] ∧ room < n ∧ ws.length ≤ 100000 ∧ (∀ w ∈ ws, w.length ≤ 100000) ∧
  (∀ e rest, exprAt room (ws.drop at_) = some (e, rest) → Q (.tup [e.d, .int ((ws.length - rest.length : Nat) : Int)]) M) ∧ (exprAt room (ws.drop at_) = none → Et (.ref C) M)
theorem drop_back {α : Type} {ws pre rest : List α} {a : Nat} (h : ws.drop a = pre ++ rest) : ws.drop (ws.length - rest.length) = rest := by
  have hl := congrArg List.length h
  rw [List.length_drop, List.length_append] at hl
  have h2 := congrArg (List.drop pre.length) h
  rw [List.drop_drop, List.drop_left] at h2
  by_cases hr : rest = []
  · rw [hr, List.length_nil, Nat.sub_zero, List.drop_length]
  · have : 0 < rest.length := List.length_pos_iff.mpr hr
    rw [show ws.length - rest.length = a + pre.length by omega]
    exact h2
theorem ok_expression_at (T : Tp K mg) : ∀ n, Fn P w K mg base (L2.CX P w) (n + 5) "expression_at" (spExprAtX (He.ga K "NoLine") n)
  | 0 => by
    refine fn_topX T.top 7 e_expression_at (m_expression_at T) sc_expression_at (by rintro _ M Q Et ⟨_, _, _, rfl, _⟩; rfl) (fun cdv A outer s H E Et hr => ⟨_, qss_never, ?_⟩) (fun _ _ _ _ _ _ us hl => match us, hl with | [_, _, _], _ => rfl)
    rintro _ M Q ⟨ws, at_, room, rfl, hr, _⟩
    omega
  | n + 1 => by
    have ih := ok_expression_at T n
    refine fn_topX T.top 7 e_expression_at (m_expression_at T) sc_expression_at (by rintro _ M Q Et ⟨_, _, _, rfl, _⟩; rfl) (fun cdv A outer s H E Et hr => ⟨_, (qss_cons (qs_if (qt_cmp oq_ge (qv 1) (q_callB cq_len (m_len T) (by decide +kernel) (qa_cons (qv 0) qa_nil)))
  (qss_one (qs_raise rfl (takes_of rfl rfl rfl rfl) (ec_NoLine T)))
  qss_nil)
 (qss_cons (qs_set (i := 3) sc_expression_at.nd (q_ix (qv 0) (qv 1)))
 (qss_cons (qs_if (qt_w (qw_and (qt_cmp oq_ne (qv 3) q_str) (qw_and1 (qt_cmp oq_inQN (qv 3) (q_gref (m_WORKINGS T) (tab_WORKINGS T))))))
  (qss_one (qs_ret (q_tup (qa_cons (q_callX (ok_plain_of T) (takes_of rfl rfl rfl rfl) (hr.mono (by omega)) (qa_cons (qv 3) qa_nil)) (qa_cons (q_op oq_addI (qv 1) q_int) qa_nil)))))
  qss_nil)
 (qss_cons (qs_if (qt_cmp oq_eq (qv 2) q_int)
  (qss_one (qs_raise rfl (takes_of rfl rfl rfl rfl) (ec_NoLine T)))
  qss_nil)
 (qss_cons (qs_asg (q_callX ih (takes_of rfl rfl rfl rfl) (hr.mono (by omega)) (qa_cons (qv 0) (qa_cons (q_op oq_addI (qv 1) q_int) (qa_cons (q_op oq_sub (qv 2) q_int) qa_nil)))) (qg_tup (n := 2) rfl (qgs_cons (qg_name (i := 4) sc_expression_at.nd) (qgs_cons (qg_name (i := 5) sc_expression_at.nd) qgs_nil))))
 (qss_cons (qs_if (qt_cmp oq_eq (qv 3) q_str)
  (qss_one (qs_ret (q_tup (qa_cons (q_tup (qa_cons (qv 3) (qa_cons (qv 4) qa_nil))) (qa_cons (qv 5) qa_nil)))))
  qss_nil)
 (qss_cons (qs_asg (q_callX ih (takes_of rfl rfl rfl rfl) (hr.mono (by omega)) (qa_cons (qv 0) (qa_cons (qv 5) (qa_cons (q_op oq_sub (qv 2) q_int) qa_nil)))) (qg_tup (n := 2) rfl (qgs_cons (qg_name (i := 6) sc_expression_at.nd) (qgs_cons (qg_name (i := 7) sc_expression_at.nd) qgs_nil))))
 (qss_one (qs_ret (q_tup (qa_cons (q_tup (qa_cons (qv 3) (qa_cons (qv 4) (qa_cons (qv 6) qa_nil)))) (qa_cons (qv 7) qa_nil)))))))))))), ?_⟩) (fun _ _ _ _ _ _ us hl => match us, hl with | [_, _, _], _ => rfl)
    rintro _ M Q ⟨ws, at_, room, rfl, hrn, hl, hws, h1, h2⟩
    have hwk : lst_WORKINGS = opsL := rfl
    walk_at "vc"
    split
    · rename_i hge
      rw [List.drop_eq_nil_of_le (by omega)] at h2
      exact h2 (by cases room <;> rfl)
    · rename_i hlt
      have hlt : at_ < ws.length := by omega
      have hd : ws.drop at_ = ws[at_] :: ws.drop (at_ + 1) := List.drop_eq_getElem_cons hlt
      have hx := hws ws[at_] (List.getElem_mem hlt)
      rw [hd] at h1 h2
      rw [atI_nat (v := .str ws[at_]) (by rw [List.getElem?_map, List.getElem?_eq_getElem hlt]; rfl), oSome_i]
      generalize ws[at_] = x at h1 h2 hx ⊢
      rw [show dScal (D.str x) (D.str (Str.ofString "box")) = some (x == "box") from rfl, oSome_i]
      by_cases hb : x = "box"
      · rw [show (x == ("box" : Str)) = true from by simp [hb], if_neg (fun z => by cases z)]
        cases room with
        | zero =>
          rw [if_pos (by omega)]
          refine h2 ?_
          unfold exprAt
          rw [if_pos hb]
        | succ r =>
          rw [if_neg (by omega)]
          unfold exprAt at h1 h2
          rw [if_pos hb] at h1 h2
          refine ⟨ws, at_ + 1, r, by rw [show ((r + 1 : Nat) : Int) - 1 = ((r : Nat) : Int) by omega]; rfl, by omega, hl, hws, fun e rest he => ?_, fun he => h2 (by rw [he]; rfl)⟩
          walk_at "vc"
          rw [if_pos hb, hb]
          exact h1 (.box e) rest (by rw [he]; rfl)
      · rw [show (x == ("box" : Str)) = false from by simpa using hb, if_pos rfl]
        refine ⟨rfl, all_ws, ?_⟩
        rw [any_ws, hwk]
        by_cases hop : x ∈ opsL
        · rw [decide_eq_true hop, if_neg (fun z => by cases z)]
          obtain ⟨o, ho⟩ : ∃ o, opOf x = some o := by
            cases hc : opOf x with
            | none => exact absurd hop (opOf_none.mp hc)
            | some o => exact ⟨o, rfl⟩
          cases room with
          | zero =>
            rw [if_pos (by omega)]
            refine h2 ?_
            unfold exprAt
            rw [if_neg hb, ho]
          | succ r =>
            rw [if_neg (by omega)]
            unfold exprAt at h1 h2
            rw [if_neg hb, ho] at h1 h2
            dsimp only at h1 h2
            refine ⟨ws, at_ + 1, r, by rw [show ((r + 1 : Nat) : Int) - 1 = ((r : Nat) : Int) by omega]; rfl, by omega, hl, hws, fun e rest he => ?_, fun he => h2 (by rw [he]; rfl)⟩
            rw [he, Option.bind_some] at h1 h2
            dsimp only at h1 h2
            obtain ⟨k1, _, _⟩ := exprAt_some _ _ _ _ he
            have hdb := drop_back k1
            walk_at "vc"
            rw [if_neg hb]
            refine ⟨ws, ws.length - rest.length, r, by rw [show ((r + 1 : Nat) : Int) - 1 = ((r : Nat) : Int) by omega], by omega, hl, hws, fun e2 rest2 he2 => ?_, fun he2 => h2 (by rw [← hdb, he2]; rfl)⟩
            rw [hdb] at he2
            walk_at "vc"
            rw [opOf_some ho]
            exact h1 (.op o e e2) rest2 (by rw [he2]; rfl)
        · rw [decide_eq_false hop, if_pos rfl]
          have ho := opOf_none.mpr hop
          have hp : exprAt room (x :: ws.drop (at_ + 1)) = (plainOf x).map fun e => (e, ws.drop (at_ + 1)) := by
            cases room with
            | zero => unfold exprAt; rw [if_neg hb, ho]
            | succ r => unfold exprAt; rw [if_neg hb, ho]
          rw [hp] at h1 h2
          refine ⟨x, rfl, hx, fun e he => ?_, fun he => h2 (by rw [he]; rfl)⟩
          have := h1 e _ (by rw [he]; rfl)
          rw [List.length_drop, show ws.length - (ws.length - (at_ + 1)) = at_ + 1 by omega] at this
          walk_at "vc"
          exact this
def spExprsAtX (C : Addr) : SpT := fun ds M Q Et => ∃ (ws : List Str) (at_ : Nat), ds = [.lst (ws.map .str), .int at_] ∧ ws.length ≤ 100000 ∧ (∀ w ∈ ws, w.length ≤ 100000) ∧
  (∀ es, exprsOf (ws.drop at_) = some es → Q (.lst (es.map Ex.d)) M) ∧ (exprsOf (ws.drop at_) = none → ∀ M', Ext M M' → Et (.ref C) M')
theorem ok_expressions_at (T : Tp K mg) : Fn P w K mg base (L2.CX P w) 13 "expressions_at" (spExprsAtX (He.ga K "NoLine")) := by
  refine fn_topX T.top 8 e_expressions_at (m_expressions_at T) sc_expressions_at (by rintro _ M Q Et ⟨_, n, rfl, _⟩; rfl) (fun cdv A outer s H E Et hr => ⟨_, (qss_cons (qs_set (i := 2) sc_expressions_at.nd (q_lstM qa_nil))
 (qss_cons (qs_while (passes_of rfl) (qt_cmp oq_lt (qv 1) (q_callB cq_len (m_len T) (by decide +kernel) (qa_cons (qv 0) qa_nil)))
  (qss_cons (qs_asg (q_callX (ok_expression_at T 7) (takes_of rfl rfl rfl rfl) (hr.mono (by decide)) (qa_cons (qv 0) (qa_cons (qv 1) (qa_cons (q_gint (m_DEEPEST T)) qa_nil)))) (qg_tup (n := 2) rfl (qgs_cons (qg_name (i := 3) sc_expressions_at.nd) (qgs_cons (qg_name (i := 1) sc_expressions_at.nd) qgs_nil))))
 (qss_one (qs_expr (q_append (qv 2) (qa_cons (qv 3) qa_nil))))))
 (qss_one (qs_ret (q_re (qv 2)))))), ?_⟩) (fun _ _ _ _ _ _ us hl => match us, hl with | [_, _], _ => rfl)
  rintro _ M Q ⟨ws, at0, rfl, hl, hws, h1, h2⟩
  walk_at "vc"
  intro p hp
  refine wh_any (fun m τ M1 => ∃ (as : List Ex) (a : Nat) (v3 : Option D), m = ws.length - a ∧ as.length + (ws.length - a) ≤ ws.length ∧ exprsOf (ws.drop at0) = (exprsOf (ws.drop a)).map (as ++ ·) ∧ M1 = mup M p (.lst (as.map Ex.d)) ∧ τ = [some (.lst (ws.map .str)), some (.int (a : Nat)), some (.ref p), v3]) (ws.length - at0) ⟨[], at0, none, rfl, by simp, by cases exprsOf (ws.drop at0) <;> rfl, rfl, rfl⟩ ?_
  rintro m τ M1 ⟨as, a, v3, rfl, hcnt, hex, rfl, rfl⟩
  walk_at "vc"
  split
  · rename_i hlt
    have hlt : a < ws.length := by omega
    have hd : ws.drop a = ws[a] :: ws.drop (a + 1) := List.drop_eq_getElem_cons hlt
    have hcons := exprsOf_cons (w := ws[a]) (ws := ws.drop (a + 1))
    rw [← hd] at hcons
    refine ⟨ws, a, 6, rfl, by omega, hl, hws, fun e rest he => ?_, fun he => h2 (by rw [hex, hcons, he]; rfl) _ (.mup hp)⟩
    rw [he, Option.bind_some] at hcons
    dsimp only at hcons
    obtain ⟨k1, _, _⟩ := exprAt_some _ _ _ _ he
    have kl := exprAt_len he
    have hdb := drop_back k1
    rw [List.length_drop] at kl
    walk_at "vc"
    refine ⟨by omega, ws.length - (ws.length - rest.length), by omega, as ++ [e], ws.length - rest.length, _, rfl, by simp; omega, ?_, by rw [List.map_append]; rfl, rfl, rfl⟩
    rw [hex, hcons, hdb]
    cases exprsOf rest with
    | none => rfl
    | some t => simp
  · rename_i hge
    rw [List.drop_eq_nil_of_le (show ws.length ≤ a by omega), exprsOf_nil] at hex
    exact ⟨_, _, ReR.made hp, h1 as (by rw [hex]; simp)⟩
end
end K07
namespace K07
open PySem PySem.Spec PyProof.Rows L2 Tl
section
variable {P : Program} {w : World} {K : PySem.W.Frag} {mg : Str → Option Value} {base : Heap}
def spNameAtA (C : Addr) : SpT := fun ds M Q Et => ∃ (ws : List Str) (k : Nat), ds = [.lst (ws.map .str), .int (k : Nat)] ∧ ws.length ≤ 100000 ∧ (∀ w ∈ ws, w.length ≤ 100000) ∧ (∀ x, Tl.nameAt ws k = some x → Q (.str x) M) ∧ (nameAt ws k = none → Et (.ref C) M)
theorem ok_name_at (T : Tp K mg) : Fn P w K mg base (L2.CX P w) 3 "name_at" (spNameAtA (He.ga K "NoLine")) := by
  refine fn_topX T.top 9 e_name_at (m_name_at T) sc_name_at (by rintro _ M Q Et ⟨_, n, rfl, _⟩; rfl) (fun cdv A outer s H E Et hr => ⟨_, (qss_cons (qs_if (qt_w (qw_or (qt_cmp oq_ge (qv 1) (q_callB cq_len (m_len T) (by decide +kernel) (qa_cons (qv 0) qa_nil))) (qw_or1 (qt_not (qt_val (q_call (ok_is_name T) (hr.mono (by decide)) (qa_cons (q_ix (qv 0) (qv 1)) qa_nil)))))))
  (qss_one (qs_raise rfl (takes_of rfl rfl rfl rfl) (ec_NoLine T)))
  qss_nil)
 (qss_one (qs_ret (q_ix (qv 0) (qv 1))))), ?_⟩) (fun _ _ _ _ _ _ us hl => match us, hl with | [_, _], _ => rfl)
  rintro _ M Q ⟨ws, k, rfl, hl, hws, h1, h2⟩
  first | walk_at "vc" | skip
  by_cases hlt : k < ws.length
  · have hat : atI (ws.map D.str) (k : Int) = some (.str ws[k]) := atI_nat (by rw [List.getElem?_map, List.getElem?_eq_getElem hlt]; rfl)
    rw [if_neg (by omega), hat]
    simp only [oSome_i]
    refine ⟨ws[k], rfl, hws _ (List.getElem_mem hlt), ?_⟩
    have e : ws[k]? = some ws[k] := List.getElem?_eq_getElem hlt
    unfold Tl.nameAt at h1 h2
    rw [e] at h1 h2
    dsimp only at h1 h2
    by_cases hn : okName ws[k]
    · rw [decide_eq_true hn]
      first | walk_at "vc" | skip
      rw [if_pos hn] at h1
      exact h1 _ rfl
    · rw [decide_eq_false hn]
      first | walk_at "vc" | skip
      rw [if_neg hn] at h2
      exact h2 rfl
  · rw [if_pos (by omega)]
    refine h2 ?_
    unfold Tl.nameAt
    rw [List.getElem?_eq_none (by omega)]
def spJustA (C : Addr) : SpT := fun ds M Q Et => ∃ (ws : List Str) (k m : Nat), ds = [.lst (ws.map .str), .int (k : Nat), .int (m : Nat)] ∧ ws.length ≤ 100000 ∧ (∀ w ∈ ws, w.length ≤ 100000) ∧
  (∀ es, justOf ws k m = some es → Q (.lst (es.map Ex.d)) M) ∧ (justOf ws k m = none → ∀ M', Ext M M' → Et (.ref C) M')
theorem ok_just_so_many (T : Tp K mg) : Fn P w K mg base (L2.CX P w) 14 "just_so_many" (spJustA (He.ga K "NoLine")) := by
  refine fn_topX T.top 10 e_just_so_many (m_just_so_many T) sc_just_so_many (by rintro _ M Q Et ⟨_, _, n, rfl, _⟩; rfl) (fun cdv A outer s H E Et hr => ⟨_, (qss_cons (qs_set (i := 3) sc_just_so_many.nd (q_callX (ok_expressions_at T) (takes_of rfl rfl rfl rfl) (hr.mono (by decide)) (qa_cons (qv 0) (qa_cons (qv 1) qa_nil))))
 (qss_cons (qs_if (qt_cmp oq_ne (q_callB cq_len (m_len T) (by decide +kernel) (qa_cons (qv 3) qa_nil)) (qv 2))
  (qss_one (qs_raise rfl (takes_of rfl rfl rfl rfl) (ec_NoLine T)))
  qss_nil)
 (qss_one (qs_ret (qv 3))))), ?_⟩) (fun _ _ _ _ _ _ us hl => match us, hl with | [_, _, _], _ => rfl)
  rintro _ M Q ⟨ws, k, m, rfl, hl, hws, h1, h2⟩
  unfold justOf at h1 h2
  first | walk_at "vc" | skip
  refine ⟨ws, k, rfl, hl, hws, fun es he => ?_, fun he => h2 (by rw [he])⟩
  rw [he] at h1 h2
  dsimp only at h1 h2
  first | walk_at "vc" | skip
  by_cases hm : es.length = m
  · rw [if_neg (by omega)]
    rw [if_pos hm] at h1
    exact h1 _ rfl
  · rw [if_pos (by omega)]
    rw [if_neg hm] at h2
    exact h2 rfl _ .refl
def spSixA (C : Addr) : SpT := fun ds M Q Et => ∃ l : List D, ds = [.lst l] ∧ (l.length ≤ 6 → Q (.lst l) M) ∧ (¬ l.length ≤ 6 → Et (.ref C) M)
theorem ok_six_at_most (T : Tp K mg) : Fn P w K mg base (L2.CX P w) 1 "six_at_most" (spSixA (He.ga K "NoLine")) := by
  refine fn_topX T.top 11 e_six_at_most (m_six_at_most T) sc_six_at_most (by rintro _ M Q Et ⟨n, rfl, _⟩; rfl) (fun cdv A outer s H E Et hr => ⟨_, (qss_cons (qs_if (qt_cmp oq_gt (q_callB cq_len (m_len T) (by decide +kernel) (qa_cons (qv 0) qa_nil)) (q_gint (m_MOST_lines T)))
  (qss_one (qs_raise rfl (takes_of rfl rfl rfl rfl) (ec_NoLine T)))
  qss_nil)
 (qss_one (qs_ret (qv 0)))), ?_⟩) (fun _ _ _ _ _ _ us hl => match us, hl with | [_], _ => rfl)
  rintro _ M Q ⟨l, rfl, h1, h2⟩
  first | walk_at "vc" | skip
  by_cases hl : l.length ≤ 6
  · rw [if_neg (by omega)]
    exact h1 hl
  · rw [if_pos (by omega)]
    exact h2 hl
def spJoiningA (C : Addr) : SpT := fun ds M Q Et => ∃ ws : List Str, ds = [.lst (ws.map .str)] ∧ ws.length ≤ 100000 ∧ (∀ w ∈ ws, w.length ≤ 100000) ∧ (∀ l, joinOf ws = some l → Q l.d M) ∧ (joinOf ws = none → ∀ M', Ext M M' → Et (.ref C) M')
theorem ok_joining_of (T : Tp K mg) : Fn P w K mg base (L2.CX P w) 15 "joining_of" (spJoiningA (He.ga K "NoLine")) := by
  refine fn_topX T.top 12 e_joining_of (m_joining_of T) sc_joining_of (by rintro _ M Q Et ⟨n, rfl, _⟩; rfl) (fun cdv A outer s H E Et hr => ⟨_, (qss_cons (qs_set (i := 1) sc_joining_of.nd (q_callX (ok_name_at T) (takes_of rfl rfl rfl rfl) (hr.mono (by decide)) (qa_cons (qv 0) (qa_cons q_int qa_nil))))
 (qss_cons (qs_if (qt_w (qw_or (qt_cmp oq_lt (q_callB cq_len (m_len T) (by decide +kernel) (qa_cons (qv 0) qa_nil)) q_int) (qw_or1 (qt_cmp oq_inQN (q_ix (qv 0) q_int) (q_gref (m_JOININGS T) (tab_JOININGS T))))))
  (qss_one (qs_raise rfl (takes_of rfl rfl rfl rfl) (ec_NoLine T)))
  qss_nil)
 (qss_one (qs_ret (q_tup (qa_cons q_str (qa_cons (qv 1) (qa_cons (q_ix (qv 0) q_int) (qa_cons (q_ix (q_callX (ok_just_so_many T) (takes_of rfl rfl rfl rfl) (hr.mono (by decide)) (qa_cons (qv 0) (qa_cons q_int (qa_cons q_int qa_nil)))) q_int) qa_nil))))))))), ?_⟩) (fun _ _ _ _ _ _ us hl => match us, hl with | [_], _ => rfl)
  rintro _ M Q ⟨ws, rfl, hl, hws, h1, h2⟩
  have hj : lst_JOININGS = joinL := rfl
  unfold joinOf at h1 h2
  first | walk_at "vc" | skip
  refine ⟨ws, 1, rfl, hl, hws, fun x hx => ?_, fun hx => h2 (by rw [hx]) _ .refl⟩
  rw [hx] at h1 h2
  by_cases h3 : 2 < ws.length
  · have e : ws[2]? = some ws[2] := List.getElem?_eq_getElem h3
    have hat : atI (ws.map D.str) 2 = some (.str ws[2]) := atI_nat (j := 2) (by rw [List.getElem?_map, e]; rfl)
    rw [e] at h1 h2
    rw [if_neg (by omega), hat]
    simp only [oSome_i]
    refine ⟨rfl, all_ws, ?_⟩
    rw [any_ws, hj]
    by_cases hv : ws[2] ∈ joinL
    · rw [decide_eq_true hv, if_neg (by decide)]
      refine ⟨ws, 3, 1, rfl, hl, hws, fun es he => ?_, fun he => h2 (by rw [he])⟩
      rw [he] at h1
      obtain ⟨e1, rfl, _, _⟩ := just_one1 he
      first | walk_at "vc" | skip
      exact h1 _ (if_pos hv)
    · rw [decide_eq_false hv, if_pos rfl]
      refine h2 ?_ _ .refl
      cases justOf ws 3 1 with
      | none => rfl
      | some es => exact if_neg hv
  · rw [if_pos (by omega)]
    refine h2 ?_ _ .refl
    rw [List.getElem?_eq_none (by omega)]
def spNamedA (C : Addr) : SpT := fun ds M Q Et => ∃ ws : List Str, ds = [.lst (ws.map .str)] ∧ ws ≠ [] ∧ (ws.headD "" = "set" ∨ ws.headD "" = "def" ∨ ws.headD "" = "call" ∨ ws.headD "" = "join") ∧ ws.length ≤ 100000 ∧ (∀ w ∈ ws, w.length ≤ 100000) ∧ (∀ l, namedOf ws = some l → Q l.d M) ∧ (namedOf ws = none → ∀ M', Ext M M' → Et (.ref C) M')
theorem ok_named_of (T : Tp K mg) : Fn P w K mg base (L2.CX P w) 16 "named_of" (spNamedA (He.ga K "NoLine")) := by
  refine fn_topX T.top 13 e_named_of (m_named_of T) sc_named_of (by rintro _ M Q Et ⟨n, rfl, _⟩; rfl) (fun cdv A outer s H E Et hr => ⟨_, (qss_cons (qs_if (qt_cmp oq_eq (q_ix (qv 0) q_int) q_str)
  (qss_one (qs_ret (q_callX (ok_joining_of T) (takes_of rfl rfl rfl rfl) (hr.mono (by decide)) (qa_cons (qv 0) qa_nil))))
  qss_nil)
 (qss_cons (qs_set (i := 1) sc_named_of.nd (q_callX (ok_name_at T) (takes_of rfl rfl rfl rfl) (hr.mono (by decide)) (qa_cons (qv 0) (qa_cons q_int qa_nil))))
 (qss_cons (qs_if (qt_cmp oq_eq (q_ix (qv 0) q_int) q_str)
  (qss_one (qs_ret (q_tup (qa_cons q_str (qa_cons (qv 1) (qa_cons (q_ix (q_callX (ok_just_so_many T) (takes_of rfl rfl rfl rfl) (hr.mono (by decide)) (qa_cons (qv 0) (qa_cons q_int (qa_cons q_int qa_nil)))) q_int) qa_nil))))))
  qss_nil)
 (qss_cons (qs_if (qt_cmp oq_eq (q_ix (qv 0) q_int) q_str)
  (qss_one (qs_ret (q_tup (qa_cons q_str (qa_cons (qv 1) (qa_cons (q_callX (ok_six_at_most T) (takes_of rfl rfl rfl rfl) (hr.mono (by decide)) (qa_cons (q_lcX (takes_of rfl rfl rfl rfl) rfl sc_named_of.nd (qi_range2 (m_range T) (qa_cons q_int (qa_cons (q_callB cq_len (m_len T) (by decide +kernel) (qa_cons (qv 0) qa_nil)) qa_nil))) (blkOk_by (N := nm_named_of) (sc := defScope s_named_of) (own := [(("at" : Str), 2)]) (by decide +kernel)) go_name (fun _ _ _ _ _ => (pg_name (i := 2) sc_named_of.nd rfl (Or.inl rfl))) (fun _ _ _ _ _ _ ps => (q_callO (ok_name_at T) ps (hr.mono (by decide)) (qa_cons (qv 0) (qa_cons (qv 2) qa_nil))))) qa_nil)) qa_nil))))))
  qss_nil)
 (qss_one (qs_ret (q_tup (qa_cons q_str (qa_cons (qv 1) (qa_cons (q_callX (ok_name_at T) (takes_of rfl rfl rfl rfl) (hr.mono (by decide)) (qa_cons (qv 0) (qa_cons q_int qa_nil))) (qa_cons (q_callX (ok_six_at_most T) (takes_of rfl rfl rfl rfl) (hr.mono (by decide)) (qa_cons (q_callX (ok_expressions_at T) (takes_of rfl rfl rfl rfl) (hr.mono (by decide)) (qa_cons (qv 0) (qa_cons q_int qa_nil))) qa_nil)) qa_nil))))))))))), ?_⟩) (fun _ _ _ _ _ _ us hl => match us, hl with | [_], _ => rfl)
  rintro _ M Q ⟨ws, rfl, hne, hw, hl, hws, h1, h2⟩
  have hat : atI (ws.map D.str) 0 = some (.str (ws.headD "")) := by
    cases ws with
    | nil => exact absurd rfl hne
    | cons a t => exact atI_nat (j := 0) rfl
  unfold namedOf at h1 h2
  dsimp only at h1 h2
  first | walk_at "vc" | skip
  rw [hat]
  first | walk_at "vc" | skip
  by_cases c1 : ws.headD "" = "join"
  · rw [if_pos c1] at h1 h2
    rw [if_pos c1]
    exact ⟨ws, rfl, hl, hws, h1, h2⟩
  rw [if_neg c1] at h1 h2
  rw [if_neg c1]
  refine ⟨ws, 1, rfl, hl, hws, fun x hx => ?_, fun hx => h2 ?_ _ .refl⟩
  rotate_left
  · unfold setOf_ defOf callOf
    rw [hx]
    split
    · rfl
    · split <;> rfl
  dsimp only
  by_cases c2 : ws.headD "" = "set"
  · rw [if_pos c2] at h1 h2
    rw [if_pos c2]
    unfold setOf_ at h1 h2
    rw [hx] at h1 h2
    refine ⟨ws, 2, 1, rfl, hl, hws, fun es he => ?_, fun he => h2 (by rw [he])⟩
    rw [he] at h1
    obtain ⟨e1, rfl, _, _⟩ := just_one1 he
    first | walk_at "vc" | skip
    exact h1 _ rfl
  rw [if_neg c2] at h1 h2
  rw [if_neg c2]
  by_cases c3 : ws.headD "" = "def"
  · rw [if_pos c3] at h1 h2
    rw [if_pos c3]
    unfold defOf at h1 h2
    rw [hx] at h1 h2
    dsimp only at h1 h2
    first | walk_at "vc" | skip
    refine ⟨by omega, ?_⟩
    rw [show (((ws.length : Nat) : Int) - 2).toNat = (ws.drop 2).length by rw [List.length_drop]; omega]
    refine lc_any (fun i acc M' => M' = M ∧ (∀ y ∈ (ws.drop 2).take i, okName y) ∧ acc = ((ws.drop 2).take i).map D.str) (by rw [List.length_map, List.length_range, List.length_drop, sizeLine_eq]; omega) ⟨rfl, (fun y hy => by simp at hy), rfl⟩ ?_ ?_ ?_
    · rintro i acc _ ⟨rfl, _, rfl⟩
      refine ⟨trivial, ?_⟩
      rw [List.length_map, List.length_take]
      omega
    · rintro i y acc _ hy ⟨rfl, hall, rfl⟩
      have hy : (List.map (fun k => D.int (2 + (k : Nat))) (List.range (ws.drop 2).length))[i]? = some y := hy
      rw [List.getElem?_map] at hy
      obtain ⟨k, hk, rfl⟩ := Option.map_eq_some_iff.mp hy
      have hik := (List.getElem?_eq_some_iff.mp hk)
      obtain ⟨hlt, hk⟩ := hik
      rw [List.getElem_range] at hk
      subst hk
      rw [List.length_range] at hlt
      walk_at "vc"
      have e2 : (ws.drop 2)[i]? = ws[2 + i]? := by rw [List.getElem?_drop]
      refine ⟨ws, 2 + i, by rw [show ((2 + i : Nat) : Int) = 2 + (i : Int) by omega], hl, hws, fun y hy => ⟨rfl, ?_, ?_⟩, fun hn => h2 (if_neg fun z => ?_) _ .refl⟩
      · obtain ⟨n1, n2⟩ := name_at_some hy
        rw [← e2] at n1
        rw [take_at n1]
        intro z hz
        rcases List.mem_append.mp hz with hz | hz
        · exact hall z hz
        · rw [List.mem_singleton.mp hz]; exact n2
      · obtain ⟨n1, n2⟩ := name_at_some hy
        rw [← e2] at n1
        rw [take_at n1, List.map_append]
        rfl
      · have e3 : (ws.drop 2)[i]? = some (ws.drop 2)[i] := List.getElem?_eq_getElem hlt
        have ok := z.1 _ (List.getElem_mem hlt)
        unfold Tl.nameAt at hn
        rw [← e2, e3] at hn
        dsimp only at hn
        rw [if_pos ok] at hn
        cases hn
    · rintro acc _ ⟨rfl, hall, rfl⟩
      have ht : (ws.drop 2).take (List.map (fun k => D.int (2 + (k : Nat))) (List.range (ws.drop 2).length)).length = ws.drop 2 := List.take_of_length_le (by rw [List.length_map, List.length_range]; exact Nat.le_refl _)
      have hall : ∀ y ∈ (ws.drop 2).take (List.map (fun k => D.int (2 + (k : Nat))) (List.range (ws.drop 2).length)).length, okName y := hall
      rw [ht] at hall
      refine ⟨(ws.drop 2).map D.str, congrArg (fun z : List Str => [D.lst (z.map D.str)]) ht, fun h6 => ?_, fun h6 => h2 (if_neg fun z => h6 (by rw [List.length_map]; exact z.2)) _ .refl⟩
      rw [List.length_map] at h6
      exact h1 _ (if_pos ⟨hall, h6⟩)
  rw [if_neg c3] at h1 h2
  rw [if_neg c3]
  unfold callOf at h1 h2
  rw [hx] at h1 h2
  refine ⟨ws, 2, rfl, hl, hws, fun f hf => ?_, fun hf => h2 (by rw [hf]) _ .refl⟩
  rw [hf] at h1 h2
  refine ⟨ws, 3, rfl, hl, hws, fun es he => ?_, fun he => h2 (by rw [he])⟩
  rw [he] at h1 h2
  dsimp only at h1 h2
  first | walk_at "vc" | skip
  refine ⟨es.map Ex.d, rfl, fun hl6 => ?_, fun hl6 => h2 (if_neg (by rw [List.length_map] at hl6; exact hl6)) _ .refl⟩
  rw [List.length_map] at hl6
  first | walk_at "vc" | skip
  exact h1 _ (if_pos hl6)
/-- any line -/
def spPartsA (C : Addr) : SpT := fun ds M Q Et => ∃ x : Str, ds = [.str x] ∧ x.length ≤ 90000 ∧ (∀ l, lineOf x = some l → Q l.d M) ∧ (lineOf x = none → ∀ M', Ext M M' → Et (.ref C) M')
theorem ok_parts_of (T : Tp K mg) : Fn P w K mg base (L2.CX P w) 17 "parts_of" (spPartsA (He.ga K "NoLine")) := by
  refine fn_topX T.top 14 e_parts_of (m_parts_of T) sc_parts_of (by rintro _ M Q Et ⟨n, rfl, _⟩; rfl) (fun cdv A outer s H E Et hr => ⟨_, (qss_cons (qs_set (i := 1) sc_parts_of.nd (q_split (qv 0) q_str))
 (qss_cons (qs_set (i := 2) sc_parts_of.nd (q_ix (qv 1) q_int))
 (qss_cons (qs_if (qt_w (qw_and (qt_cmp oq_inQ (qv 2) (q_gref (m_BARE T) (tab_BARE T))) (qw_and1 (qt_cmp oq_eq (q_callB cq_len (m_len T) (by decide +kernel) (qa_cons (qv 1) qa_nil)) q_int))))
  (qss_one (qs_ret (q_tup (qa_cons (qv 2) qa_nil))))
  qss_nil)
 (qss_cons (qs_if (qt_cmp oq_inQ (qv 2) (q_gref (m_ONES T) (tab_ONES T)))
  (qss_one (qs_ret (q_tup (qa_cons (qv 2) (qa_cons (q_ix (q_callX (ok_just_so_many T) (takes_of rfl rfl rfl rfl) (hr.mono (by decide)) (qa_cons (qv 1) (qa_cons q_int (qa_cons q_int qa_nil)))) q_int) qa_nil)))))
  qss_nil)
 (qss_cons (qs_if (qt_cmp oq_eq (qv 2) q_str)
  (qss_cons (qs_asg (q_callX (ok_just_so_many T) (takes_of rfl rfl rfl rfl) (hr.mono (by decide)) (qa_cons (qv 1) (qa_cons q_int (qa_cons q_int qa_nil)))) (qg_lst (n := 2) rfl (qgs_cons (qg_name (i := 3) sc_parts_of.nd) (qgs_cons (qg_name (i := 4) sc_parts_of.nd) qgs_nil))))
 (qss_one (qs_ret (q_tup (qa_cons (qv 2) (qa_cons (qv 3) (qa_cons (qv 4) qa_nil)))))))
  qss_nil)
 (qss_cons (qs_if (qt_w (qw_or (qt_cmp oq_eq (qv 2) q_str) (qw_or (qt_cmp oq_eq (qv 2) q_str) (qw_or (qt_cmp oq_eq (qv 2) q_str) (qw_or1 (qt_cmp oq_eq (qv 2) q_str))))))
  (qss_one (qs_ret (q_callX (ok_named_of T) (takes_of rfl rfl rfl rfl) (hr.mono (by decide)) (qa_cons (qv 1) qa_nil))))
  qss_nil)
 (qss_one (qs_raise rfl (takes_of rfl rfl rfl rfl) (ec_NoLine T))))))))), ?_⟩) (fun _ _ _ _ _ _ us hl => match us, hl with | [_], _ => rfl)
  rintro _ M Q ⟨x, rfl, hxl, h1, h2⟩
  have hb : Str.ofString " " = blank := rfl
  obtain ⟨hs1, hs2⟩ := Tl.split_len x
  have hne : Txt.split x blank ≠ [] := by
    have e : sgn 32 = blank := by decide +kernel
    have := (split_ex 32 (by decide) x).2.1
    rw [e] at this
    exact this
  unfold lineOf at h1 h2
  first | walk_at "vc" | skip
  refine ⟨by decide +kernel, by omega, ?_⟩
  rw [hb]
  generalize Txt.split x blank = ws at hs1 hs2 hne h1 h2
  have hl : ws.length ≤ 100000 := by omega
  have hws : ∀ w ∈ ws, w.length ≤ 100000 := fun w hw => by have := hs2 w hw; omega
  have hat : atI (ws.map D.str) 0 = some (.str (ws.headD "")) := by
    cases ws with
    | nil => exact absurd rfl hne
    | cons a t => exact atI_nat (j := 0) rfl
  unfold partsW at h1 h2
  dsimp only at h1 h2
  have hB : lst_BARE = bareL := rfl
  have hO : lst_ONES = onesL := rfl
  first | walk_at "vc" | skip
  rw [hat]
  first | walk_at "vc" | skip
  refine ⟨rfl, all_ws, ?_⟩
  rw [any_ws, hB]
  by_cases cb : ws.headD "" ∈ bareL ∧ ws.length = 1
  · rw [decide_eq_true cb.1, if_pos rfl, if_pos (by omega)]
    rw [if_pos cb] at h1
    have := h1 _ rfl
    rw [(bare_d cb.1).1] at this
    exact this
  rw [if_neg cb] at h1 h2
  have go : ∀ {R S : Prop}, S → (if decide (ws.headD "" ∈ bareL) = true then (if (ws.length : Int) = 1 then R else S) else S) := fun {R S} q => by
    by_cases z : ws.headD "" ∈ bareL
    · rw [if_pos (decide_eq_true z), if_neg (fun y => cb ⟨z, by omega⟩)]; exact q
    · rw [if_neg (by simpa using z)]; exact q
  refine go ?_
  refine ⟨rfl, all_ws, ?_⟩
  rw [any_ws, hO]
  by_cases co : ws.headD "" ∈ onesL
  · rw [decide_eq_true co, if_pos rfl]
    rw [if_pos co] at h1 h2
    refine ⟨ws, 1, 1, rfl, hl, hws, fun es he => ?_, fun he => h2 (by rw [he]; rfl)⟩
    rw [he] at h1
    obtain ⟨e1, rfl, _, ok⟩ := just_one1 he
    walk_at "vc"
    have this : Q (oneOf (ws.headD "") e1).d M := h1 _ rfl
    rw [(one_d co ok).1] at this
    exact this
  rw [if_neg co] at h1 h2
  rw [decide_eq_false co, if_neg (by decide)]
  by_cases cp : ws.headD "" = "put"
  · rw [if_pos cp] at h1 h2
    rw [if_pos cp]
    refine ⟨ws, 1, 2, rfl, hl, hws, fun es he => ?_, fun he => h2 (by rw [he]; rfl)⟩
    rw [he] at h1
    obtain ⟨_, _, hl2⟩ := just_some he
    match es, hl2 with
    | [a, b], _ =>
      walk_at "vc"
      rw [cp]
      exact h1 _ rfl
  rw [if_neg cp] at h1 h2
  rw [if_neg cp]
  by_cases cn : ws.headD "" = "set" ∨ ws.headD "" = "def" ∨ ws.headD "" = "call" ∨ ws.headD "" = "join"
  · rw [if_pos cn] at h1 h2
    have key : spNamedA (He.ga K "NoLine") [.lst (ws.map .str)] M Q Et := ⟨ws, rfl, hne, cn, hl, hws, h1, h2⟩
    split
    · exact key
    · split
      · exact key
      · split
        · exact key
        · split
          · exact key
          · exact h2 (by exfalso; rename_i a b c d; rcases cn with z | z | z | z; exact a z; exact b z; exact c z; exact d z) _ .refl
  · rw [if_neg (fun z => cn (.inl z)), if_neg (fun z => cn (.inr (.inl z))), if_neg (fun z => cn (.inr (.inr (.inl z)))), if_neg (fun z => cn (.inr (.inr (.inr z))))]
    exact h2 (if_neg cn) _ .refl
end
end K07
namespace K07
open PySem PySem.Spec PyProof.Rows L2 Tl
section
variable {P : Program} {w : World} {K : PySem.W.Frag} {mg : Str → Option Value} {base : Heap}
abbrev CO (K : PySem.W.Frag) : Addr := He.ga K "Opened"
def spInitO (K : PySem.W.Frag) : SpT := fun ds M Q _ => ∃ (a dx : Addr) (k : Int) (l : Lin) (M0 : MH), ds = [.ref a, .int k, l.d] ∧ Cel M0 M [(a, .obj (CO K) dx fl_Opened [])] ∧
  ∀ f M', Cel M0 M' (OA.cells (CO K) fl_Opened ⟨a, f, f, dx, ⟨k, l, [], none⟩⟩) → Q .non M'
theorem ok_Opened___init (T : Tp K mg) : Fi P w K mg base CX0 1 "Opened" (spInitO K) := by
  refine fi_top T.top e_Opened___init 15 sc_Opened___init (T.top.mkr 64) (T.top.glo 65) (by rintro _ M Q Et ⟨n, _, z, _, _, rfl, _⟩; rfl) (fun cdv A outer s H E hr => ⟨_, (qss_cons (qs_fld 0 fl_Opened (c_Opened_line T) (qv 0) (qv 1))
 (qss_cons (qs_fld 1 fl_Opened (c_Opened_parts T) (qv 0) (qv 2))
 (qss_cons (qs_fld 2 fl_Opened (c_Opened_first T) (qv 0) (q_lstM qa_nil))
 (qss_one (qs_fld 3 fl_Opened (c_Opened_second T) (qv 0) q_non))))), ?_⟩) (fun _ _ _ _ _ _ us hl => match us, hl with | [_, _, _], _ => rfl)
  rintro _ M Q Et ⟨a, dx, k, l, M0, rfl, hc, h⟩
  have hM : M a = _ := hc.at_ (a, _) (List.mem_singleton.mpr rfl)
  walk_at "vh"
  intro p hp
  have hpa : a ≠ p := fun e => by rw [← e, mup_same] at hp; cases hp
  rw [mup_ne hpa]
  walk_at "vh"
  exact h p _ (OA.init_ hc hp)
def spNewest (K : PySem.W.Frag) : SpT := fun ds M Q _ => ∃ a : OA, ds = [.ref a.s] ∧ M a.s = some (a.obj (CO K) fl_Opened) ∧ Q (.ref (if a.o.c.isSome = true then a.g else a.f)) M
theorem ok_Opened_newest (T : Tp K mg) : Fm P w K mg base CX0 1 "Opened" "newest" (spNewest K) := by
  refine fm_top T.top e_Opened_newest 16 sc_Opened_newest (T.top.meth 66) (T.top.cls 59) (by rintro _ M Q Et ⟨n, rfl, _⟩; rfl) (fun cdv A outer s H E hr => ⟨_, (qss_cons (qs_if (qt_cmp oq_isN (q_fld 3 fl_Opened (c_Opened_second T) (qv 0)) q_non)
  (qss_one (qs_ret (q_fld 2 fl_Opened (c_Opened_first T) (qv 0))))
  qss_nil)
 (qss_one (qs_ret (q_fld 3 fl_Opened (c_Opened_second T) (qv 0))))), ?_⟩) (fun _ _ _ _ _ _ us hl => match us, hl with | [_], _ => rfl)
  rintro _ M Q Et ⟨a, rfl, hM, h⟩
  walk_at "vc"
  simp only [hM, OA.obj]
  walk_at "vc"
  cases hc : a.o.c with
  | none => rw [hc] at h; exact h
  | some c => rw [hc] at h; exact h
def spStatement (K : PySem.W.Frag) : SpT := fun ds M Q _ => ∃ (a : OA) (M0 : MH), ds = [.ref a.s] ∧ Cel M0 M (a.cells (CO K) fl_Opened) ∧ a.o.ok ∧ a.o.l.isDef = false ∧ Q a.o.st.d M0
theorem ok_Opened_statement (T : Tp K mg) : Fm P w K mg base CX0 1 "Opened" "statement" (spStatement K) := by
  refine fm_top T.top e_Opened_statement 17 sc_Opened_statement (T.top.meth 67) (T.top.cls 59) (by rintro _ M Q Et ⟨n, _, rfl, _⟩; rfl) (fun cdv A outer s H E hr => ⟨_, (qss_cons (qs_if (qt_cmp oq_eq (q_ix (q_fld 1 fl_Opened (c_Opened_parts T) (qv 0)) q_int) q_str)
  (qss_one (qs_ret (q_re (q_tup (qa_cons q_str (qa_cons (q_fld 0 fl_Opened (c_Opened_line T) (qv 0)) (qa_cons (q_ix (q_fld 1 fl_Opened (c_Opened_parts T) (qv 0)) q_int) (qa_cons (q_fld 2 fl_Opened (c_Opened_first T) (qv 0)) (qa_cons (q_fld 3 fl_Opened (c_Opened_second T) (qv 0)) qa_nil)))))))))
  qss_nil)
 (qss_one (qs_ret (q_re (q_tup (qa_cons q_str (qa_cons (q_fld 0 fl_Opened (c_Opened_line T) (qv 0)) (qa_cons (q_ix (q_fld 1 fl_Opened (c_Opened_parts T) (qv 0)) q_int) (qa_cons (q_fld 2 fl_Opened (c_Opened_first T) (qv 0)) qa_nil))))))))), ?_⟩) (fun _ _ _ _ _ _ us hl => match us, hl with | [_], _ => rfl)
  rintro _ M Q Et ⟨a, M0, rfl, hc, ok, hd, h⟩
  have hM : M a.s = some (a.obj (CO K) fl_Opened) := hc.at_ (a.s, _) (List.mem_cons_self ..)
  obtain ⟨s0, f, g, dx, ⟨k, l, b, c⟩⟩ := a
  walk_at "vc"
  simp only [hM, OA.obj]
  walk_at "vc"
  unfold OA.cells OA.obj OA.more at hc
  unfold OA.obj at hM
  dsimp only at hc hM ok hd h ⊢
  cases l with
  | iff e =>
    cases c with
    | none =>
      rw [iff_d] at hM ⊢
      walk_at "vc"
      simp only [hM]
      walk_at "vc"
      simp only [hM]
      walk_at "vc"
      exact ⟨_, M0, (ReR.tup_freeze [.str "if", .int k, e.d] [.non] (hc.at_ (f, .lst (stD b)) (by simp))).trans (Cel.del (pre := [_]) hc).re, h⟩
    | some c =>
      rw [iff_d] at hM ⊢
      walk_at "vc"
      simp only [hM]
      walk_at "vc"
      simp only [hM]
      walk_at "vc"
      have h1 := Cel.del (pre := [_]) hc
      exact ⟨_, M0, ((ReR.tup_freeze [.str "if", .int k, e.d] [.ref g] (hc.at_ (f, .lst (stD b)) (by simp))).trans (ReR.tup_freeze [.str "if", .int k, e.d, .lst (stD b)] [] (h1.at_ (g, .lst (stD c)) (by simp)))).trans (Cel.del (pre := [_]) h1).re, h⟩
  | whl e =>
    cases c with
    | none =>
      rw [whl_d] at hM ⊢
      walk_at "vc"
      simp only [hM]
      walk_at "vc"
      simp only [hM]
      walk_at "vc"
      exact ⟨_, M0, (ReR.tup_freeze [.str "while", .int k, e.d] [] (hc.at_ (f, .lst (stD b)) (by simp))).trans (Cel.del (pre := [_]) hc).re, h⟩
    | some c => exact absurd (ok.2 rfl) Bool.false_ne_true
  | dff x ps => cases hd
  | els => rcases ok.1 with q | q | q <;> cases q
  | fin => rcases ok.1 with q | q | q <;> cases q
  | pln s => rcases ok.1 with q | q | q <;> cases q
def spWholeDef (K : PySem.W.Frag) : SpT := fun ds M Q _ => ∃ (a : OA) (last : Int) (M0 : MH), ds = [.ref a.s, .int last] ∧ Cel M0 M (a.cells (CO K) fl_Opened) ∧ a.o.ok ∧ a.o.l.isDef = true ∧ Q (a.o.df last).d M0
theorem ok_Opened_whole_def (T : Tp K mg) : Fm P w K mg base CX0 1 "Opened" "whole_def" (spWholeDef K) := by
  refine fm_top T.top e_Opened_whole_def 18 sc_Opened_whole_def (T.top.meth 68) (T.top.cls 59) (by rintro _ M Q Et ⟨n, _, _, rfl, _⟩; rfl) (fun cdv A outer s H E hr => ⟨_, (qss_one (qs_ret (q_re (q_tup (qa_cons (q_ix (q_fld 1 fl_Opened (c_Opened_parts T) (qv 0)) q_int) (qa_cons (q_ix (q_fld 1 fl_Opened (c_Opened_parts T) (qv 0)) q_int) (qa_cons (q_fld 2 fl_Opened (c_Opened_first T) (qv 0)) (qa_cons (q_fld 0 fl_Opened (c_Opened_line T) (qv 0)) (qa_cons (qv 1) qa_nil))))))))), ?_⟩) (fun _ _ _ _ _ _ us hl => match us, hl with | [_, _], _ => rfl)
  rintro _ M Q Et ⟨a, last, M0, rfl, hc, ok, hd, h⟩
  have hM : M a.s = some (a.obj (CO K) fl_Opened) := hc.at_ (a.s, _) (List.mem_cons_self ..)
  obtain ⟨s0, f, g, dx, ⟨k, l, b, c⟩⟩ := a
  walk_at "vc"
  simp only [hM, OA.obj]
  walk_at "vc"
  unfold OA.cells OA.obj OA.more at hc
  unfold OA.obj at hM
  dsimp only at hc hM ok hd h ⊢
  cases l with
  | dff x ps =>
    cases c with
    | none =>
      rw [dff_d] at hM ⊢
      walk_at "vc"
      simp only [hM]
      walk_at "vc"
      simp only [hM]
      walk_at "vc"
      exact ⟨_, M0, (ReR.tup_freeze [.str x, .lst (ps.map .str)] [.int k, .int last] (hc.at_ (f, .lst (stD b)) (by simp))).trans (Cel.del (pre := [_]) hc).re, h⟩
    | some c => exact absurd (ok.2 rfl) Bool.false_ne_true
  | iff e => cases hd
  | whl e => cases hd
  | els => cases hd
  | fin => cases hd
  | pln s => cases hd
def spMayStand (K : PySem.W.Frag) : SpT := fun ds M Q _ => ∃ (p : List OA) (q : Addr) (l : Lin), ds = [.ref q, .str l.word] ∧ M q = some (.lst (pileD p)) ∧ (∀ a ∈ p, M a.s = some (a.obj (CO K) fl_Opened)) ∧ pileOk (p.map (·.o)) ∧ p.length ≤ 1000 ∧ l.plain ∧ Q (.bl (mayLn (p.map (·.o)) l)) M
theorem ok_may_stand (T : Tp K mg) : Fn P w K mg base CX0 1 "may_stand" (spMayStand K) := by
  refine fn_top T.top 19 e_may_stand (m_may_stand T) sc_may_stand (by rintro _ M Q Et ⟨n, _, _, rfl, _⟩; rfl) (fun cdv A outer s H E hr => ⟨_, (qss_cons (qs_if (qt_cmp oq_eq (qv 1) q_str)
  (qss_one (qs_ret (q_cmp oq_eq (q_callB cq_len (m_len T) (by decide +kernel) (qa_cons (qv 0) qa_nil)) q_int)))
  qss_nil)
 (qss_cons (qs_if (qt_cmp oq_eq (q_callB cq_len (m_len T) (by decide +kernel) (qa_cons (qv 0) qa_nil)) q_int)
  (qss_one (qs_ret q_bl))
  qss_nil)
 (qss_cons (qs_set (i := 2) sc_may_stand.nd (q_ix (qv 0) (q_un uq_neg q_int)))
 (qss_cons (qs_if (qt_cmp oq_eq (qv 1) q_str)
  (qss_one (qs_ret (q_and (q_cmp oq_eq (q_ix (q_fld 1 fl_Opened (c_Opened_parts T) (qv 2)) q_int) q_str) (q_one (q_cmp oq_isN (q_fld 3 fl_Opened (c_Opened_second T) (qv 2)) q_non)))))
  qss_nil)
 (qss_cons (qs_if (qt_w (qw_or (qt_cmp oq_eq (qv 1) q_str) (qw_or1 (qt_cmp oq_eq (qv 1) q_str))))
  (qss_one (qs_ret (q_callB (cq_any rfl) (m_any T) (by decide +kernel) (qa_cons (q_lc rfl sc_may_stand.nd (qi_list (qv 0)) (blkOk_by (N := nm_may_stand) (sc := defScope s_may_stand) (own := [(("one" : Str), 3)]) (by decide +kernel)) go_name (fun _ _ _ _ _ => (pg_name (i := 3) sc_may_stand.nd rfl (Or.inl rfl))) (fun _ _ _ _ _ => qts_nil) (fun _ _ _ _ _ => (q_cmp oq_eq (q_ix (q_fld 1 fl_Opened (c_Opened_parts T) (qv 3)) q_int) q_str))) qa_nil))))
  qss_nil)
 (qss_cons (qs_if (qt_cmp oq_eq (qv 1) q_str)
  (qss_one (qs_ret (q_cmp oq_ne (q_ix (q_fld 1 fl_Opened (c_Opened_parts T) (q_ix (qv 0) q_int)) q_int) q_str)))
  qss_nil)
 (qss_cons (qs_if (qt_w (qw_or (qt_cmp oq_eq (qv 1) q_str) (qw_or1 (qt_cmp oq_eq (qv 1) q_str))))
  (qss_one (qs_ret (q_cmp oq_le (q_callB cq_len (m_len T) (by decide +kernel) (qa_cons (qv 0) qa_nil)) (q_gint (m_MOST_nests T)))))
  qss_nil)
 (qss_one (qs_ret q_bl))))))))), ?_⟩) (fun _ _ _ _ _ _ us hl => match us, hl with | [_, _], _ => rfl)
  rintro _ M Q Et ⟨p, q, l, rfl, hq, hp, ok, hl, hpl, h⟩
  walk_at "vc"
  rw [lstOf_at hq, lenOf_at hq]
  walk_at "vc"
  rw [pileD_len]
  have hany : ∀ (v d : D), Q (.bl (p.any fun a => a.o.l.isWhl)) M → LcGo (gN 3) tYe (tO bEq (tO bIx (tFd (fun C => C = He.ga K (Str.ofString "Opened")) fl_Opened 1 (tV 3)) (tK (.int 0))) (tK (.str (Str.ofString "while")))) [3] [some (.ref q), some v, some d, none]
      (fun x M1 => oSome (blLst M1 x) fun is => Q (.bl (is.any id)) M1) { items := pileD p, src := fun M => lstOf M (.ref q) = some (pileD p) } M := fun v d hQ => by
    refine lc_map p.reverse (fun a => D.ref a.s) (fun a => .bl a.o.l.isWhl) (by show pileD p = _; unfold pileD; rw [List.map_reverse]) (by rw [List.length_reverse, sizeLine_eq]; omega) (lstOf_at hq) (fun a R1 R0 ha h1 => ?_) ?_
    · have hs := hp a (List.mem_reverse.mp ha)
      obtain ⟨v1, r1, e1, e2, e3⟩ := head_word (pile_all ok a.o (List.mem_map.mpr ⟨a, List.mem_reverse.mp ha, rfl⟩))
      unfold OA.obj at hs
      rw [e1] at hs
      walk_at "vc"
      simp only [hs]
      walk_at "vc"
      rw [e2]
      exact h1
    · have e1 : blLst M (.lst (p.reverse.map fun a => D.bl a.o.l.isWhl)) = some (p.reverse.map fun a => a.o.l.isWhl) := blLst_l (is := p.reverse.map fun a => a.o.l.isWhl) |> fun e => by rw [List.map_map] at e; exact e
      rw [e1]
      simp only [oSome_i]
      rw [List.any_map, List.any_reverse]
      exact hQ
  cases p with
  | nil =>
    cases l with
    | dff x ps => rw [show (Lin.dff x ps).word = "def" from rfl]; walk_at "vc"; exact h
    | iff e => rw [show (Lin.iff e).word = "if" from rfl]; walk_at "vc"; exact h
    | whl e => rw [show (Lin.whl e).word = "while" from rfl]; walk_at "vc"; exact h
    | els => rw [show Lin.els.word = "else" from rfl]; walk_at "vc"; exact h
    | fin => rw [show Lin.fin.word = "end" from rfl]; walk_at "vc"; exact h
    | pln s =>
      rw [show (Lin.pln s).word = s.word from rfl, if_neg plain_wd.1, if_pos (by simp)]
      exact h
  | cons a t =>
    have h5 : decide (((a :: t).length : Int) ≤ 5) = decide (((a :: t).map (·.o)).length ≤ 5) := by rw [List.length_map]; exact decide_eq_decide.mpr (by omega)
    have hn : ¬ (((a :: t).length : Nat) : Int) = 0 := by rw [List.length_cons]; omega
    cases l with
    | dff x ps =>
      rw [show (Lin.dff x ps).word = "def" from rfl, if_pos rfl, decide_eq_false hn]
      exact h
    | iff e =>
      rw [show (Lin.iff e).word = "if" from rfl, if_neg (by decide +kernel), if_neg hn, pileD_in]
      walk_at "vc"
      have h : Q (.bl (decide (((a :: t).map (·.o)).length ≤ 5))) M := h
      rw [← h5] at h
      exact h
    | whl e =>
      rw [show (Lin.whl e).word = "while" from rfl, if_neg (by decide +kernel), if_neg hn, pileD_in]
      walk_at "vc"
      have h : Q (.bl (decide (((a :: t).map (·.o)).length ≤ 5))) M := h
      rw [← h5] at h
      exact h
    | els =>
      rw [show Lin.els.word = "else" from rfl, if_neg (by decide +kernel), if_neg hn, pileD_in]
      have hs := hp a (List.mem_cons_self ..)
      obtain ⟨v1, r1, e1, e2, e3⟩ := head_word (pile_all ok a.o (List.mem_cons_self ..))
      unfold OA.obj at hs
      rw [e1] at hs
      have h : Q (.bl (a.o.l.isIf && a.o.c.isNone)) M := h
      rw [← e3] at h
      walk_at "vc"
      simp only [hs]
      walk_at "vc"
      by_cases hv : v1 = Str.ofString "if"
      · rw [if_pos hv]
        rw [decide_eq_true hv] at h
        simp only [hs]
        walk_at "vc"
        cases hc : a.o.c with
        | none => rw [hc] at h; exact h
        | some c => rw [hc] at h; exact h
      · rw [if_neg hv]
        rw [decide_eq_false hv] at h
        exact h
    | fin => rw [show Lin.fin.word = "end" from rfl, if_neg (by decide +kernel), if_neg hn, pileD_in]; walk_at "vc"; exact h
    | pln s =>
      cases s with
      | brk l =>
        rw [show (Lin.pln (.brk l)).word = "break" from rfl, if_neg (by decide +kernel), if_neg hn, pileD_in]
        walk_at "vc"
        have h : Q (.bl (((a :: t).map (·.o)).any fun o => o.l.isWhl)) M := h
        rw [List.any_map] at h
        exact hany _ _ h
      | agn l =>
        rw [show (Lin.pln (.agn l)).word = "again" from rfl, if_neg (by decide +kernel), if_neg hn, pileD_in]
        walk_at "vc"
        have h : Q (.bl (((a :: t).map (·.o)).any fun o => o.l.isWhl)) M := h
        rw [List.any_map] at h
        exact hany _ _ h
      | ret l e =>
        rw [show (Lin.pln (.ret l e)).word = "return" from rfl, if_neg (by decide +kernel), if_neg hn, pileD_in]
        walk_at "vc"
        rw [pileD_out]
        have hz : (a :: t).getLast (List.cons_ne_nil _ _) ∈ a :: t := List.getLast_mem _
        have hs := hp _ hz
        have eo := getLast_o (List.cons_ne_nil a t)
        have hdf := (pile_lowest (p := (a :: t).map fun x => x.o) (by simp) ok).2
        rw [← eo] at hdf
        obtain ⟨ps, e1⟩ := def_name hdf
        have h : Q (.bl (decide ((((a :: t).map fun x : OA => x.o).getLast (by simp)).l.name ≠ "main"))) M := h
        rw [← eo] at h
        unfold OA.obj at hs
        rw [e1] at hs
        generalize (a :: t).getLast (List.cons_ne_nil _ _) = z at hs h ⊢
        walk_at "vc"
        simp only [hs]
        walk_at "vc"
        rw [decide_not] at h
        exact h
      | set l x e => rw [show (Lin.pln (.set l x e)).word = "set" from rfl, if_neg (by decide +kernel), if_neg hn, pileD_in]; walk_at "vc"; exact h
      | put l x e => rw [show (Lin.pln (.put l x e)).word = "put" from rfl, if_neg (by decide +kernel), if_neg hn, pileD_in]; walk_at "vc"; exact h
      | tell l e => rw [show (Lin.pln (.tell l e)).word = "tell" from rfl, if_neg (by decide +kernel), if_neg hn, pileD_in]; walk_at "vc"; exact h
      | stop l => rw [show (Lin.pln (.stop l)).word = "stop" from rfl, if_neg (by decide +kernel), if_neg hn, pileD_in]; walk_at "vc"; exact h
      | meet l => rw [show (Lin.pln (.meet l)).word = "meet" from rfl, if_neg (by decide +kernel), if_neg hn, pileD_in]; walk_at "vc"; exact h
      | join l x v e => rw [show (Lin.pln (.join l x v e)).word = "join" from rfl, if_neg (by decide +kernel), if_neg hn, pileD_in]; walk_at "vc"; exact h
      | call l x f es => rw [show (Lin.pln (.call l x f es)).word = "call" from rfl, if_neg (by decide +kernel), if_neg hn, pileD_in]; walk_at "vc"; exact h
      | if1 l e b => exact hpl.elim
      | if2 l e b c => exact hpl.elim
      | whl l e b => exact hpl.elim
def spClose (K : PySem.W.Frag) : SpT := fun ds M Q _ => ∃ (a : OA) (p : List OA) (q pr : Addr) (done : Pg) (M0 : MH) (k : Int) (n : Nat), ds = [.ref q, .ref pr, .int k] ∧ Cel M0 M (nestC (CO K) fl_Opened pr q done (a :: p)) ∧ pileOk ((a :: p).map (·.o)) ∧ smallP n done ((a :: p).map (·.o)) ∧ n ≤ 1000 ∧
  ∀ (p' : List OA) (M' : MH), p'.map (·.o) = (nestStep k (done, (a :: p).map (·.o)) .fin).2 → Cel M0 M' (nestC (CO K) fl_Opened pr q (nestStep k (done, (a :: p).map (·.o)) .fin).1 p') → Q .non M'
theorem ok_close_innermost (T : Tp K mg) : Fn P w K mg base CX0 2 "close_innermost" (spClose K) := by
  refine fn_top T.top 20 e_close_innermost (m_close_innermost T) sc_close_innermost (by rintro _ M Q Et ⟨_, _, _, _, _, _, _, _, rfl, _⟩; rfl) (fun cdv A outer s H E hr => ⟨_, (qss_cons (qs_set (i := 3) sc_close_innermost.nd (q_pop (qv 0)))
 (qss_one (qs_if (qt_cmp oq_eq (q_callB cq_len (m_len T) (by decide +kernel) (qa_cons (qv 0) qa_nil)) q_int)
  (qss_one (qs_expr (q_append (qv 1) (qa_cons (q_meth fl_Opened (ok_Opened_whole_def T) (hr.mono (by decide)) (qv 3) (qa_cons (qv 2) qa_nil)) qa_nil))))
  (qss_one (qs_expr (q_append (q_meth0 fl_Opened (ok_Opened_newest T) (hr.mono (by decide)) (q_ix (qv 0) (q_un uq_neg q_int))) (qa_cons (q_meth0 fl_Opened (ok_Opened_statement T) (hr.mono (by decide)) (qv 3)) qa_nil))))))), ?_⟩) (fun _ _ _ _ _ _ us hl => match us, hl with | [_, _, _], _ => rfl)
  rintro _ M Q Et ⟨a, p, q, pr, done, M0, k, n, rfl, hc, ok, sm, hn, h⟩
  have hq : M q = some (.lst (pileD (a :: p))) := hc.at_ (q, _) (by unfold nestC; simp)
  walk_at "vc"
  refine ⟨is_m hq, ?_⟩
  rw [mLst_at hq]
  simp only [oSome_i]
  rw [pileD_cons, List.getLast?_concat, List.dropLast_concat]
  simp only [oSome_i]
  have c1 : Cel M0 (mup M q (.lst (pileD p))) ([(pr, .lst (pgD done)), (q, .lst (pileD p))] ++ (a.cells (CO K) fl_Opened ++ p.flatMap (OA.cells (CO K) fl_Opened))) := Cel.put (pre := [(pr, .lst (pgD done))]) hc
  generalize mup M q (.lst (pileD p)) = M1 at c1 ⊢
  have ha := OA.s_ c1
  have c2 := c1.perm (List.perm_append_comm_assoc _ _ _)
  obtain ⟨e1, e2⟩ := c2.part
  generalize without M1 _ = Mo at e1 e2
  cases p with
  | nil =>
    have hpr : M1 pr = some (.lst (pgD done)) := c1.at_ (pr, _) (by simp)
    rw [if_pos (by rfl)]
    refine ⟨is_m hpr, ?_⟩
    unfold OA.obj at ha
    walk_at "vc"
    simp only [ha]
    walk_at "vc"
    refine ⟨a, k, Mo, rfl, e2, pile_at ok, ok.2, ?_⟩
    have hpr2 : Mo pr = some (.lst (pgD done)) := e1.at_ (pr, _) (by simp)
    have hl := sm.pg_
    dsimp only
    rw [mLst_at hpr2]
    simp only [oSome_i]
    refine ⟨by unfold pgD; rw [List.length_map]; omega, ?_⟩
    have e3 := Cel.put (o' := .lst (pgD done ++ [(a.o.df k).d])) (pre := []) e1
    refine h [] _ rfl ?_
    unfold nestC
    show Cel M0 _ ((pr, .lst (pgD (done ++ [a.o.df k]))) :: _)
    rw [show pgD (done ++ [a.o.df k]) = pgD done ++ [(a.o.df k).d] by unfold pgD; rw [List.map_append]; rfl]
    exact e3
  | cons b t =>
    rw [if_neg (by rw [pileD_len, List.length_cons]; omega), pileD_in]
    simp only [oSome_i]
    have hb : M1 b.s = some (b.obj (CO K) fl_Opened) := OA.s_ (pre := [(pr, .lst (pgD done)), (q, .lst (pileD (b :: t)))] ++ a.cells (CO K) fl_Opened) (post := t.flatMap (OA.cells (CO K) fl_Opened)) (by rw [List.append_assoc]; exact c1)
    have ht : M1 b.top = some (.lst (stD b.o.cur)) := OA.top_ (pre := [(pr, .lst (pgD done)), (q, .lst (pileD (b :: t)))] ++ a.cells (CO K) fl_Opened) (post := t.flatMap (OA.cells (CO K) fl_Opened)) (by rw [List.append_assoc]; exact c1)
    have hb1 := hb
    unfold OA.obj at hb1 ha
    walk_at "vc"
    simp only [hb1]
    walk_at "vc"
    refine ⟨b, rfl, hb, ?_⟩
    rw [show (if b.o.c.isSome = true then b.g else b.f) = b.top from rfl]
    refine ⟨is_m ht, ?_⟩
    walk_at "vc"
    simp only [ha]
    walk_at "vc"
    refine ⟨a, Mo, rfl, e2, pile_at ok, ok.2.1, ?_⟩
    walk_at "vc"
    rw [mLst_at (OA.top_ e1)]
    simp only [oSome_i]
    have h1 := sm.b_ b.o (by simp)
    have h2 := sm.c_ b.o (by simp)
    have h3 : b.o.cur.length ≤ n := by
      unfold Opn.cur
      cases hcc : b.o.c with
      | none => exact h1
      | some c => exact h2 c hcc
    exact ⟨by rw [stD_len]; omega, h ({ b with o := b.o.add a.o.st } :: t) _ rfl (OA.put_ (pre := [(pr, .lst (pgD done)), (q, .lst (pileD (b :: t)))]) e1)⟩
def spNestedX (C : Addr) : SpT := fun ds M Q Et => ∃ (ls : List Lin), ds = [.lst (ls.map Lin.d)] ∧ (∀ l ∈ ls, l.plain) ∧ ls.length ≤ 900 ∧ (∀ pg, nestGo 1 ([], []) ls = some (pg, []) → Q (.lst (pgD pg)) M) ∧ ((∀ pg, nestGo 1 ([], []) ls ≠ some (pg, [])) → ∀ M', Ext M M' → Et (.ref C) M')
/-- behind i lines -/
def NestW (K : PySem.W.Frag) (ls : List Lin) (pr q : Addr) (M : MH) (i : Nat) (τ : Sg) (M' : MH) : Prop := i ≤ ls.length ∧ ∃ (p : List OA) (done : Pg) (x3 x4 x5 : Option D), τ = [some (.lst (ls.map Lin.d)), some (.ref pr), some (.ref q), x3, x4, x5] ∧ nestGo 1 ([], []) (ls.take i) = some (done, p.map (·.o)) ∧ Cel M M' (nestC (CO K) fl_Opened pr q done p) ∧ pileOk (p.map (·.o)) ∧ smallP i done (p.map (·.o))
theorem nest_next {ls : List Lin} {pr q : Addr} {M M' : MH} {i : Nat} {l : Lin} {p p' : List OA} {done done' : Pg} {x3 x4 x5 : Option D} (m1 : mayLn (p.map (·.o)) l = true) (hl : ls[i]? = some l) (hn : nestGo 1 ([], []) (ls.take i) = some (done, p.map (·.o))) (ok : pileOk (p.map (·.o))) (sm : smallP i done (p.map (·.o)))
    (e : (done', p'.map (·.o)) = nestStep (1 + (i : Nat)) (done, p.map (·.o)) l) (hc : Cel M M' (nestC (CO K) fl_Opened pr q done' p')) : NestW K ls pr q M (i + 1) [some (.lst (ls.map Lin.d)), some (.ref pr), some (.ref q), x3, x4, x5] M' := by
  have m2 := nest_snoc hl hn m1
  have ok2 := step_ok (k := 1 + (i : Nat)) (st := (done, p.map (·.o))) ok m1
  have sm2 := step_small (k := 1 + (i : Nat)) (l := l) (st := (done, p.map (·.o))) sm
  rw [← e] at m2 ok2 sm2
  exact ⟨(List.getElem?_eq_some_iff.mp hl).1, p', done', _, _, _, rfl, m2, hc, ok2, sm2⟩
theorem ok_nested (T : Tp K mg) : Fn P w K mg base (L2.CX P w) 3 "nested" (spNestedX (He.ga K "NoNest")) := by
  refine fn_topX T.top 21 e_nested (m_nested T) sc_nested (by rintro _ M Q Et ⟨_, rfl, _⟩; rfl) (fun cdv A outer s H E Et hr => ⟨_, (qss_cons (qs_set (i := 1) sc_nested.nd (q_lstM qa_nil))
 (qss_cons (qs_set (i := 2) sc_nested.nd (q_lstM qa_nil))
 (qss_cons (qs_for (passes_of rfl) rfl (qi_enumS (m_enumerate T) (qa_cons (qv 0) qa_nil) (by decide)) (qg_tup (n := 2) rfl (qgs_cons (qg_name (i := 3) sc_nested.nd) (qgs_cons (qg_name (i := 4) sc_nested.nd) qgs_nil)))
  (qss_cons (qs_set (i := 5) sc_nested.nd (q_ix (qv 4) q_int))
 (qss_cons (qs_if (qt_not (qt_val (q_call (ok_may_stand T) (hr.mono (by decide)) (qa_cons (qv 2) (qa_cons (qv 5) qa_nil)))))
  (qss_one (qs_raise rfl (takes_of rfl rfl rfl rfl) (ec_NoNest T)))
  qss_nil)
 (qss_one (qs_if (qt_w (qw_or (qt_cmp oq_eq (qv 5) q_str) (qw_or (qt_cmp oq_eq (qv 5) q_str) (qw_or1 (qt_cmp oq_eq (qv 5) q_str)))))
  (qss_one (qs_expr (q_append (qv 2) (qa_cons (q_make fl_Opened (ok_Opened___init T) (hr.mono (by decide)) (qa_cons (qv 3) (qa_cons (qv 4) qa_nil))) qa_nil))))
  (qss_one (qs_if (qt_cmp oq_eq (qv 5) q_str)
  (qss_one (qs_fld 3 fl_Opened (c_Opened_second T) (q_ix (qv 2) (q_un uq_neg q_int)) (q_lstM qa_nil)))
  (qss_one (qs_if (qt_cmp oq_eq (qv 5) q_str)
  (qss_one (qs_expr (q_call (ok_close_innermost T) (hr.mono (by decide)) (qa_cons (qv 2) (qa_cons (qv 1) (qa_cons (qv 3) qa_nil))))))
  (qss_one (qs_expr (q_append (q_meth0 fl_Opened (ok_Opened_newest T) (hr.mono (by decide)) (q_ix (qv 2) (q_un uq_neg q_int))) (qa_cons (q_op oq_catT (q_tup (qa_cons (qv 5) (qa_cons (qv 3) qa_nil))) (q_sliceT (qv 4) (qo_some q_int) qo_none)) qa_nil)))))))))))))
 (qss_cons (qs_if (qt_cmp oq_gt (q_callB cq_len (m_len T) (by decide +kernel) (qa_cons (qv 2) qa_nil)) q_int)
  (qss_one (qs_raise rfl (takes_of rfl rfl rfl rfl) (ec_NoNest T)))
  qss_nil)
 (qss_one (qs_ret (q_re (qv 1)))))))), ?_⟩) (fun _ _ _ _ _ _ us hl => match us, hl with | [_], _ => rfl)
  rintro _ M Q ⟨ls, rfl, hpl, hl, hgood, hbad⟩
  walk_at "vc"
  intro pr hpr q hq
  have c0 := ((Cel.nil (M := M)).fresh (o := .lst []) hpr).fresh (o := .lst []) hq
  refine for_any (NestW K ls pr q M) ⟨Nat.zero_le _, [], [], _, _, _, rfl, rfl, c0.perm (List.Perm.swap _ _ _), trivial, ⟨Nat.le_refl _, Nat.le_refl _, (fun o ho => by cases ho), (fun o ho => by cases ho)⟩⟩ (fun i τ M' w => trivial) ?_ ?_
  · rintro i x τ M' hx ⟨hi, p, done, x3, x4, x5, rfl, hn, hc, ok, sm⟩
    obtain ⟨y, hy, rfl⟩ := enumS_get hx
    rw [List.getElem?_map] at hy
    obtain ⟨l, hl2, rfl⟩ := Option.map_eq_some_iff.mp hy
    have hq' : M' q = some (.lst (pileD p)) := hc.at_ (q, .lst (pileD p)) (by unfold nestC; simp)
    have hp : ∀ a ∈ p, M' a.s = some (a.obj (CO K) fl_Opened) := fun a ha => hc.at_ (a.s, a.obj (CO K) fl_Opened) (by
      unfold nestC
      exact List.mem_cons_of_mem _ (List.mem_cons_of_mem _ (List.mem_flatMap.mpr ⟨a, ha, List.mem_cons_self ..⟩)))
    have hpc : p.length ≤ 900 := by have := sm.p_; rw [List.length_map] at this; omega
    rw [show l.d = .tup (.str l.word :: l.rest) from rfl]
    walk_at "vc"
    refine ⟨p, q, l, rfl, hq', hp, ok, by omega, hpl l (List.mem_of_getElem? hl2), ?_⟩
    have hext : Ext M M' := hc.old
    by_cases hm0 : mayLn (p.map (·.o)) l = true
    rotate_left
    · rw [Bool.not_eq_true] at hm0
      rw [hm0]
      walk_at "vc"
      exact hbad (fun pg e => by rw [nest_stop hl2 hn hm0] at e; cases e) M' hext
    have hm := hm0
    rw [hm]
    walk_at "vc"
    have opened : l.isDef = true ∨ l.isIf = true ∨ l.isWhl = true → ∀ (x dx : Addr), M' x = none → spInitO K [.ref x, .int (1 + (i : Nat)), .tup (.str l.word :: l.rest)] (mup M' x (.obj (CO K) dx fl_Opened [])) (fun v M2 => v = .non ∧ oSome (mLst M2 q) fun ds => ds.length < 16777216 ∧ NestW K ls pr q M (i + 1) [some (.lst (ls.map Lin.d)), some (.ref pr), some (.ref q), some (.int (1 + (i : Nat))), some (.tup (.str l.word :: l.rest)), some (.str l.word)] (mup M2 q (.lst (ds ++ [.ref x])))) Et0 := fun hh x dx hx => by
      refine ⟨x, dx, 1 + (i : Nat), l, M', rfl, Cel.nil.fresh hx, fun f M2 c1 => ⟨rfl, ?_⟩⟩
      have c2 := hc.glue c1
      have hq2 : M2 q = some (.lst (pileD p)) := c2.at_ (q, .lst (pileD p)) (by unfold nestC; simp)
      rw [mLst_at hq2]
      simp only [oSome_i]
      refine ⟨by rw [pileD_len]; omega, ?_⟩
      generalize ha : (⟨x, f, f, dx, ⟨1 + (i : Nat), l, [], none⟩⟩ : OA) = a at c2
      rw [show pileD p ++ [D.ref x] = pileD (a :: p) by rw [pileD_cons, ← ha]]
      have c3 : Cel M M2 ((a.cells (CO K) fl_Opened ++ [(pr, .lst (pgD done))]) ++ (q, .lst (pileD p)) :: p.flatMap (OA.cells (CO K) fl_Opened)) := by rw [List.append_assoc]; exact c2
      have c4 := Cel.put (o' := .lst (pileD (a :: p))) c3
      rw [List.append_assoc] at c4
      refine nest_next (p' := a :: p) hm hl2 hn ok sm ?_ (c4.perm (List.perm_append_comm_assoc (a.cells (CO K) fl_Opened) [(pr, .lst (pgD done)), (q, .lst (pileD (a :: p)))] (p.flatMap (OA.cells (CO K) fl_Opened))))
      rw [← ha]
      cases l with
      | dff x ps => rfl
      | iff e => rfl
      | whl e => rfl
      | els => rcases hh with z | z | z <;> cases z
      | fin => rcases hh with z | z | z <;> cases z
      | pln s => rcases hh with z | z | z <;> cases z
    cases l with
    | dff x ps =>
      rw [if_pos (show (Lin.dff x ps).word = Str.ofString "def" from rfl)]
      exact ⟨is_m hq', opened (.inl rfl)⟩
    | iff e =>
      rw [if_neg (show ¬ (Lin.iff e).word = Str.ofString "def" from (by decide +kernel : ¬ Str.ofString "if" = Str.ofString "def")), if_pos (show (Lin.iff e).word = Str.ofString "if" from rfl)]
      exact ⟨is_m hq', opened (.inr (.inl rfl))⟩
    | whl e =>
      rw [if_neg (show ¬ (Lin.whl e).word = Str.ofString "def" from (by decide +kernel : ¬ Str.ofString "while" = Str.ofString "def")), if_neg (show ¬ (Lin.whl e).word = Str.ofString "if" from (by decide +kernel : ¬ Str.ofString "while" = Str.ofString "if")), if_pos (show (Lin.whl e).word = Str.ofString "while" from rfl)]
      exact ⟨is_m hq', opened (.inr (.inr rfl))⟩
    | els =>
      rw [show Lin.els.word = Str.ofString "else" from rfl]
      walk_at "vc"
      intro g hg2
      cases p with
      | nil => exact absurd hm Bool.false_ne_true
      | cons a t =>
        have hm : (a.o.l.isIf && a.o.c.isNone) = true := hm
        rw [Bool.and_eq_true] at hm
        have c1 := hc.fresh (o := .lst []) hg2
        have hq2 : mup M' g (.lst []) q = some (.lst (pileD (a :: t))) := c1.at_ (q, .lst (pileD (a :: t))) (by unfold nestC; simp)
        have ha : mup M' g (.lst []) a.s = some (a.obj (CO K) fl_Opened) := c1.at_ (a.s, a.obj (CO K) fl_Opened) (by unfold nestC OA.cells; simp)
        rw [lstOf_at hq2]
        simp only [oSome_i]
        rw [pileD_in]
        simp only [oSome_i]
        obtain ⟨s0, f, g0, dx, ⟨k, l, b, c⟩⟩ := a
        cases c with
        | some c => exact absurd hm.2 Bool.false_ne_true
        | none =>
          unfold OA.obj at ha
          walk_at "vc"
          simp only [ha]
          walk_at "vc"
          have c2 := Cel.put (o' := .obj (CO K) dx fl_Opened [.int k, l.d, .ref f, .ref g]) (pre := [(g, .lst []), (pr, .lst (pgD done)), (q, .lst (pileD (⟨s0, f, g0, dx, ⟨k, l, b, none⟩⟩ :: t)))]) c1
          have c3 : Cel M (mup (mup M' g (.lst [])) s0 (.obj (CO K) dx fl_Opened [.int k, l.d, .ref f, .ref g])) ((g, MO.lst []) :: ([(pr, MO.lst (pgD done)), (q, MO.lst (pileD (⟨s0, f, g0, dx, ⟨k, l, b, none⟩⟩ :: t))), (s0, MO.obj (CO K) dx fl_Opened [.int k, l.d, .ref f, .ref g]), (f, MO.lst (stD b))] ++ t.flatMap (OA.cells (CO K) fl_Opened))) := c2
          exact nest_next (p' := ⟨s0, f, g, dx, ⟨k, l, b, some []⟩⟩ :: t) hm0 hl2 hn ok sm rfl (c3.perm List.perm_middle.symm)
    | fin =>
      rw [show Lin.fin.word = Str.ofString "end" from rfl]
      walk_at "vc"
      cases p with
      | nil => exact absurd hm Bool.false_ne_true
      | cons a t => exact ⟨a, t, q, pr, done, M, 1 + (i : Nat), i, rfl, hc, ok, sm, by omega, fun p' M2 e c => nest_next hm hl2 hn ok sm (Prod.ext rfl e) c⟩
    | pln s =>
      obtain ⟨w1, w2, w3⟩ := plain_wd (s := s)
      obtain ⟨w4, w5⟩ := plain_wd2 (hpl _ (List.mem_of_getElem? hl2))
      rw [show (Lin.pln s).word = s.word from rfl, if_neg w1, if_neg w4, if_neg w5, if_neg w2, if_neg w3]
      cases p with
      | nil => exact absurd hm (by cases s <;> exact Bool.false_ne_true)
      | cons a t =>
        rw [lstOf_at hq']
        simp only [oSome_i]
        rw [pileD_in]
        simp only [oSome_i]
        have ha := hp a (List.mem_cons_self ..)
        have ha1 := ha
        unfold OA.obj at ha1
        walk_at "vc"
        simp only [ha1]
        walk_at "vc"
        refine ⟨a, rfl, ha, ?_⟩
        rw [show (if a.o.c.isSome = true then a.g else a.f) = a.top from rfl]
        have hc2 : Cel M M' ([(pr, .lst (pgD done)), (q, .lst (pileD (a :: t)))] ++ (a.cells (CO K) fl_Opened ++ t.flatMap (OA.cells (CO K) fl_Opened))) := hc
        have ht := OA.top_ hc2
        have hr := rest_few s
        refine ⟨is_m ht, by show 2 + s.rest.length ≤ _; omega, ?_⟩
        walk_at "vc"
        rw [mLst_at ht]
        simp only [oSome_i]
        have h1 := sm.b_ a.o (by simp)
        have h2 := sm.c_ a.o (by simp)
        have h3 : a.o.cur.length ≤ i := by
          unfold Opn.cur
          cases hcc : a.o.c with
          | none => exact h1
          | some c => exact h2 c hcc
        rw [show D.tup (.str s.word :: .int (1 + (i : Nat)) :: (Lin.pln s).rest) = (s.at_ (1 + (i : Nat))).d from (at_d _ s).symm]
        exact ⟨by rw [stD_len]; omega, nest_next (p' := { a with o := a.o.add (s.at_ (1 + (i : Nat))) } :: t) hm0 hl2 hn ok sm rfl (OA.put_ hc2)⟩
  · rintro τ M' ⟨hi, p, done, x3, x4, x5, rfl, hn, hc, ok, sm⟩
    have hle : (enumS 1 (ls.map Lin.d)).length = ls.length := by unfold enumS; rw [List.length_mapIdx, List.length_map]
    have hn : nestGo 1 ([], []) (ls.take (enumS 1 (ls.map Lin.d)).length) = some (done, p.map (·.o)) := hn
    rw [hle, List.take_of_length_le (Nat.le_refl _)] at hn
    walk_at "vc"
    have hq' : M' q = some (.lst (pileD p)) := hc.at_ (q, .lst (pileD p)) (by unfold nestC; simp)
    rw [lenOf_at hq']
    simp only [oSome_i]
    cases p with
    | cons a t =>
      rw [if_pos (by rw [pileD_len, List.length_cons]; omega)]
      exact hbad (fun pg e => by rw [hn] at e; cases e) M' hc.old
    | nil =>
      rw [if_neg (by decide)]
      have hpr' : M' pr = some (.lst (pgD done)) := hc.at_ (pr, .lst (pgD done)) (by unfold nestC; simp)
      exact ⟨_, M, (ReR.freeze hpr').trans (Cel.del (pre := []) hc).re, hgood done hn⟩
end
end K07
namespace K07
open PySem PySem.Spec PyProof.Rows L2 Tl
section
variable {P : Program} {w : World} {K : PySem.W.Frag} {mg : Str → Option Value} {base : Heap}
def spBlocks : SpT := fun ds M Q _ => ∃ s : Sm, ds = [s.d] ∧ Q (.lst (s.blocks.map fun b => .lst (stD b))) M
theorem ok_blocks_of (T : Tp K mg) : Fn P w K mg base CX0 1 "blocks_of" spBlocks := by
  refine fn_top T.top 0 e_blocks_of (m_blocks_of T) sc_blocks_of (by rintro _ M Q Et ⟨n, rfl, _⟩; rfl) (fun cdv A outer s H E hr => ⟨_, (qss_cons (qs_if (qt_cmp oq_eq (q_ix (qv 0) q_int) q_str)
  (qss_one (qs_ret (q_lst (qa_cons (q_ix (qv 0) q_int) qa_nil))))
  qss_nil)
 (qss_cons (qs_if (qt_cmp oq_eq (q_ix (qv 0) q_int) q_str)
  (qss_cons (qs_if (qt_cmp oq_isN (q_ix (qv 0) q_int) q_non)
  (qss_one (qs_ret (q_lst (qa_cons (q_ix (qv 0) q_int) qa_nil))))
  qss_nil)
 (qss_one (qs_ret (q_lst (qa_cons (q_ix (qv 0) q_int) (qa_cons (q_ix (qv 0) q_int) qa_nil))))))
  qss_nil)
 (qss_one (qs_ret (q_lst qa_nil))))), ?_⟩) (fun _ _ _ _ _ _ us hl => match us, hl with | [_], _ => rfl)
  rintro _ M Q Et ⟨s, rfl, h⟩
  cases s <;> (unfold Sm.d; walk_at "vc"; exact h)
def spAllBd (n : Nat) : SpT := fun ds M Q _ => ∃ b : List Sm, ds = [.lst (stD b)] ∧ deeps b < n ∧ (allBd b).length ≤ 100000 ∧ Q (.lst ((allBd b).map Sm.d)) M
theorem ok_all_of (T : Tp K mg) : ∀ n, Fn P w K mg base CX0 (n + 2) "all_of" (spAllBd n)
  | 0 => by
    refine fn_top T.top 1 e_all_of (m_all_of T) sc_all_of (by rintro _ M Q Et ⟨n, rfl, _⟩; rfl) (fun cdv A outer s H E hr => ⟨_, qss_never, ?_⟩) (fun _ _ _ _ _ _ us hl => match us, hl with | [_], _ => rfl)
    rintro _ M Q Et ⟨b, rfl, hd, hl, h⟩
    omega
  | n + 1 => by
    have ih := ok_all_of T n
    refine fn_top T.top 1 e_all_of (m_all_of T) sc_all_of (by rintro _ M Q Et ⟨n, rfl, _⟩; rfl) (fun cdv A outer s H E hr => ⟨_, (qss_cons (qs_set (i := 1) sc_all_of.nd (q_lstM qa_nil))
 (qss_cons (qs_for PassesOwn.never rfl (qi_list (qv 0)) (qg_name (i := 2) sc_all_of.nd)
  (qss_cons (qs_expr (q_append (qv 1) (qa_cons (qv 2) qa_nil)))
 (qss_one (qs_for PassesOwn.never rfl (qi_list (q_call (ok_blocks_of T) (hr.mono (by omega)) (qa_cons (qv 2) qa_nil))) (qg_name (i := 3) sc_all_of.nd)
  (qss_one (qs_expr (q_extend (qv 1) (qa_cons (q_call ih (hr.mono (by omega)) (qa_cons (qv 3) qa_nil)) qa_nil))))))))
 (qss_one (qs_ret (q_re (qv 1)))))), ?_⟩) (fun _ _ _ _ _ _ us hl => match us, hl with | [_], _ => rfl)
    rintro _ M Q Et ⟨b, rfl, hd, hl, h⟩
    walk_at "vc"
    intro p hp
    rw [stD_map]
    refine for_map b Sm.d rfl (fun ys τ M1 => M1 = mup M p (.lst ((allBd ys).map Sm.d)) ∧ ∃ v2 v3, τ = [some (.lst (b.map Sm.d)), some (.ref p), v2, v3]) ⟨by rw [show allBd [] = [] from by unfold allBd; rfl]; rfl, none, none, rfl⟩ (fun _ _ _ _ => trivial) ?_ ?_
    · rintro ys s zs τ M1 Nx hx ⟨rfl, v2, v3, rfl⟩ hN
      have hs : s.deep ≤ n := by
        have := deeps_mem (b := b) (s := s) (by rw [hx]; simp)
        omega
      have hlen : (allBd ys).length + (allSt s).length ≤ 100000 := by
        rw [hx, allBd_app, allBd, List.length_append, List.length_append] at hl
        omega
      rw [allSt_eq, List.length_cons] at hlen
      have hstep : allBd (ys ++ [s]) = allBd ys ++ s :: (s.blocks.map allBd).flatten := by rw [allBd_app, allBd_one, allSt_eq]
      walk_at "vc"
      refine ⟨by omega, s, rfl, ?_⟩
      walk_at "vc"
      refine for_map s.blocks (fun b => .lst (stD b)) rfl (fun bs τ M1 => M1 = mup M p (.lst ((allBd ys ++ s :: (bs.map allBd).flatten).map Sm.d)) ∧ ∃ v3, τ = [some (.lst (b.map Sm.d)), some (.ref p), some s.d, v3]) ⟨by simp, v3, rfl⟩ (fun _ _ _ _ => trivial) ?_ ?_
      · rintro bs b' zs' τ M1 Nx' hx' ⟨rfl, v3, rfl⟩ hN'
        have hb' : b' ∈ s.blocks := by rw [hx']; simp
        have hle : ((bs.map allBd).flatten).length + (allBd b').length ≤ ((s.blocks.map allBd).flatten).length := by
          rw [hx', List.map_append, List.map_cons, List.flatten_append, List.flatten_cons, List.length_append, List.length_append]
          omega
        walk_at "vc"
        refine ⟨b', rfl, block_deep hs hb', by omega, ?_⟩
        walk_at "vc"
        refine ⟨by (try simp only [List.length_map, List.length_append, List.length_cons]); omega, hN' _ _ ⟨?_, _, rfl⟩⟩
        simp only [List.map_append, List.map_cons, List.map_nil, List.flatten_append, List.flatten_cons, List.flatten_nil, List.append_nil, List.append_assoc, List.cons_append]
      · rintro τ M1 ⟨rfl, v3, rfl⟩
        exact hN _ _ ⟨by rw [hstep], _, _, rfl⟩
    · rintro τ M1 ⟨rfl, v2, v3, rfl⟩
      walk_at "vc"
      exact ⟨_, _, ReR.made hp, h⟩
def spCheckA (C : Addr) : SpT := fun ds M Q Et => ∃ pg : Pg, ds = [.lst (pgD pg)] ∧ (∀ o ∈ pg, o.ps.length ≤ 100) ∧ pg.length ≤ 1000 ∧ (∀ o ∈ pg, deeps o.body < 10 ∧ (allBd o.body).length ≤ 100000) ∧
  ∀ M', Ext M M' → (namesP pg → Q .non M') ∧ (¬ namesP pg → Et (.ref C) M')
theorem ok_check_names (T : Tp K mg) : Fn P w K mg base (L2.CX P w) 13 "check_names" (spCheckA (He.ga K "NoName")) := by
  refine fn_topX T.top 22 e_check_names (m_check_names T) sc_check_names (by rintro _ M Q Et ⟨n, rfl, _⟩; rfl) (fun cdv A outer s H E Et hr => ⟨_, (qss_cons (qs_set (i := 1) sc_check_names.nd q_dnewK)
 (qss_cons (qs_for (passes_of rfl) rfl (qi_list (qv 0)) (qg_name (i := 2) sc_check_names.nd)
  (qss_cons (qs_if (qt_w (qw_or (qt_din (hu_of hr) (q_ix (qv 2) q_int) (qv 1)) (qw_or1 (qt_cmp oq_lt (q_lenSetG rfl (m_len T) (m_set T) (q_ix (qv 2) q_int)) (q_callB cq_len (m_len T) (by decide +kernel) (qa_cons (q_ix (qv 2) q_int) qa_nil))))))
  (qss_one (qs_raise rfl (takes_of rfl rfl rfl rfl) (ec_NoName T)))
  qss_nil)
 (qss_one (qs_asg (q_callB cq_len (m_len T) (by decide +kernel) (qa_cons (q_ix (qv 2) q_int) qa_nil)) (qg_sub (qv 1) (q_ix (qv 2) q_int) (sq_dict (hu_of hr)))))))
 (qss_cons (qs_if (qt_cmp oq_gt (q_dget2 (hu_of hr) (qv 1) q_str q_int) q_int)
  (qss_one (qs_raise rfl (takes_of rfl rfl rfl rfl) (ec_NoName T)))
  qss_nil)
 (qss_one (qs_for (passes_of rfl) rfl (qi_list (qv 0)) (qg_name (i := 2) sc_check_names.nd)
  (qss_one (qs_for (passes_of rfl) rfl (qi_list (q_call (ok_all_of T 10) (hr.mono (by decide)) (qa_cons (q_ix (qv 2) q_int) qa_nil))) (qg_name (i := 3) sc_check_names.nd)
  (qss_one (qs_if (qt_w (qw_and (qt_cmp oq_eq (q_ix (qv 3) q_int) q_str) (qw_and1 (qt_w (qw_or (qt_cmp oq_eq (q_ix (qv 3) q_int) q_str) (qw_or1 (qt_cmp oq_ne (q_dget2 (hu_of hr) (qv 1) (q_ix (qv 3) q_int) (q_un uq_neg q_int)) (q_callB cq_len (m_len T) (by decide +kernel) (qa_cons (q_ix (qv 3) q_int) qa_nil)))))))))
  (qss_one (qs_raise rfl (takes_of rfl rfl rfl rfl) (ec_NoName T)))
  qss_nil))))))))), ?_⟩) (fun _ _ _ _ _ _ us hl => match us, hl with | [_], _ => rfl)
  rintro _ M Q ⟨pg, rfl, hps, hl, hb, h⟩
  walk_at "vc"
  intro r hr
  refine for_map pg Df.d rfl (fun ys τ M' => (ys.map (·.name)).Nodup ∧ (∀ o ∈ ys, o.ps.Nodup) ∧ M' = mup M r (.dK (roomsD ys)) ∧ ∃ x2 x3, τ = [some (.lst (pgD pg)), some (.ref r), x2, x3]) ⟨List.nodup_nil, (fun o ho => by cases ho), rfl, _, _, rfl⟩ (fun _ _ _ _ => trivial) (fun ys o zs τ M1 Nx exs hw hN => ?_) (fun τ M1 hw => ?_)
  · obtain ⟨hnd, hpn, rfl, x2, x3, rfl⟩ := hw
    rw [show o.d = .tup [.str o.name, .lst (o.ps.map .str), .lst (stD o.body), .int o.first, .int o.last] from rfl]
    walk_at "vc"
    have hlen : ys.length ≤ 1000 := by rw [exs, List.length_append] at hl; omega
    have p2 := hps o (by rw [exs]; simp)
    have hE : Ext M (mup M r (.dK (roomsD ys))) := .mup hr
    rw [rooms_val]
    by_cases hin : o.name ∈ ys.map (·.name)
    · have hbad : ¬ namesP pg := fun q => by
        have := q.1.1
        rw [exs, List.map_append, List.map_cons] at this
        exact (List.nodup_append.mp this).2.2 _ hin _ (List.mem_cons_self ..) rfl
      obtain ⟨n, hn⟩ := room_some hin
      rw [hn]
      exact (h _ hE).2 hbad
    · rw [room_none hin, if_neg (by simp)]
      refine ⟨o.ps, rfl, by omega, ?_⟩
      have hd := dcn_le o.ps o.ps.length
      by_cases hpd : o.ps.Nodup
      · rw [if_neg (by have := dcn_all.mpr hpd; omega)]
        refine ⟨by unfold roomsD; rw [List.length_map]; omega, hN _ _ ⟨?_, fun x hx => ?_, by rw [rooms_put hin], _, _, rfl⟩⟩
        · rw [List.map_append]
          exact List.nodup_append.mpr ⟨hnd, by simp, fun a ha b hb e => hin (by rw [List.map_cons, List.map_nil, List.mem_singleton] at hb; rw [← hb, ← e]; exact ha)⟩
        · rcases List.mem_append.mp hx with hx | hx
          · exact hpn x hx
          · rw [List.mem_singleton.mp hx]; exact hpd
      · rw [if_pos (by have : dcn o.ps o.ps.length ≠ o.ps.length := fun z => hpd (dcn_all.mp z); omega)]
        exact (h _ hE).2 fun q => hpd (q.2 o (by rw [exs]; simp))
  · obtain ⟨hnd, hpn, rfl, x2, x3, rfl⟩ := hw
    have hE : Ext M (mup M r (.dK (roomsD pg))) := .mup hr
    walk_at "vc"
    refine ⟨⟨r, _, rfl, mup_same, trivial⟩, ?_⟩
    rw [rooms_val]
    by_cases hm : roomOf pg "main" = some 0
    rotate_left
    · have hbad : ¬ namesP pg := fun q => hm q.1.2.1
      cases e : roomOf pg "main" with
      | none =>
        show oInt (.int 1) _
        simp only [oInt_i]
        rw [if_pos (by omega)]
        exact (h _ hE).2 hbad
      | some n =>
        have hn : n ≠ 0 := fun z => hm (by rw [e, z])
        show oInt (.int ((n : Nat) : Int)) _
        simp only [oInt_i]
        rw [if_pos (by omega)]
        exact (h _ hE).2 hbad
    rw [hm]
    show oInt (.int ((0 : Nat) : Int)) _
    simp only [oInt_i]
    rw [if_neg (by omega)]
    refine for_map pg Df.d rfl (fun ys τ M' => (∀ o ∈ ys, ∀ s ∈ allBd o.body, callOk pg s) ∧ M' = mup M r (.dK (roomsD pg)) ∧ ∃ x2 x3, τ = [some (.lst (pgD pg)), some (.ref r), x2, x3]) ⟨(fun o ho => by cases ho), rfl, _, _, rfl⟩ (fun _ _ _ _ => trivial) (fun ys o zs τ M1 Nx exs hw hN => ?_) (fun τ M1 hw => ?_)
    · obtain ⟨hys, rfl, x2, x3, rfl⟩ := hw
      rw [show o.d = .tup [.str o.name, .lst (o.ps.map .str), .lst (stD o.body), .int o.first, .int o.last] from rfl]
      have ho : o ∈ pg := by rw [exs]; simp
      walk_at "vc"
      refine ⟨o.body, rfl, (hb o ho).1, (hb o ho).2, ?_⟩
      walk_at "vc"
      refine for_map (allBd o.body) Sm.d rfl (fun as τ M' => (∀ s ∈ as, callOk pg s) ∧ M' = mup M r (.dK (roomsD pg)) ∧ ∃ x3, τ = [some (.lst (pgD pg)), some (.ref r), some (.tup [.str o.name, .lst (o.ps.map .str), .lst (stD o.body), .int o.first, .int o.last]), x3]) ⟨(fun s hs => by cases hs), rfl, _, rfl⟩ (fun _ _ _ _ => trivial) (fun as s bs τ M1 Nx2 exs2 hw hN2 => ?_) (fun τ M1 hw => ?_)
      · obtain ⟨has, rfl, x3, rfl⟩ := hw
        have hs : s ∈ allBd o.body := by rw [exs2]; simp
        have snoc : callOk pg s → ∀ s' ∈ as ++ [s], callOk pg s' := fun q s' h' => by
          rcases List.mem_append.mp h' with h' | h'
          · exact has s' h'
          · rw [List.mem_singleton.mp h']; exact q
        have hbad : ¬ callOk pg s → ¬ namesP pg := fun q z => q (z.1.2.2 o ho s hs)
        rw [sm_d]
        walk_at "vc"
        have hcall : ∀ w : Str, w ∈ (["set", "put", "tell", "return", "stop", "break", "again", "meet", "join", "if", "while"] : List Str) → ¬ w = Str.ofString "call" := by decide +kernel
        by_cases hw : s.word = Str.ofString "call"
        · rw [if_pos hw]
          cases s with
          | call l x f es =>
            have e1 : (D.str (Sm.call l x f es).word :: D.int (Sm.call l x f es).line :: (Sm.call l x f es).rest) = [.str "call", .int l, .str x, .str f, .lst (es.map Ex.d)] := rfl
            rw [e1]
            walk_at "vc"
            by_cases c1 : f = "main"
            · rw [if_pos c1]
              exact (h _ hE).2 (hbad fun q => q.1 c1)
            · rw [if_neg c1]
              refine ⟨⟨r, _, rfl, mup_same, trivial⟩, ?_⟩
              rw [rooms_val]
              by_cases c2 : roomOf pg f = some es.length
              · rw [c2]
                show oSome (dScal (D.int ((es.length : Nat) : Int)) (D.int ((es.length : Nat) : Int))) _
                walk_at "vc"
                exact hN2 _ _ ⟨snoc ⟨c1, c2⟩, rfl, _, rfl⟩
              · cases e : roomOf pg f with
                | none =>
                  show oSome (dScal (D.int (-1)) (D.int ((es.length : Nat) : Int))) _
                  walk_at "vc"
                  rw [if_pos (by omega)]
                  exact (h _ hE).2 (hbad fun q => c2 q.2)
                | some n =>
                  have hn : n ≠ es.length := fun z => c2 (by rw [e, z])
                  show oSome (dScal (D.int ((n : Nat) : Int)) (D.int ((es.length : Nat) : Int))) _
                  walk_at "vc"
                  rw [if_pos (by omega)]
                  exact (h _ hE).2 (hbad fun q => c2 q.2)
          | _ => exact absurd hw (hcall _ (by simp [Sm.word]))
        · rw [if_neg hw]
          refine hN2 _ _ ⟨snoc ?_, rfl, _, rfl⟩
          cases s <;> first | trivial | exact absurd rfl hw
      · obtain ⟨has, rfl, x3, rfl⟩ := hw
        refine hN _ _ ⟨fun o' ho' s hs => ?_, rfl, _, _, rfl⟩
        rcases List.mem_append.mp ho' with ho' | ho'
        · exact hys o' ho' s hs
        · rw [List.mem_singleton.mp ho'] at hs; exact has s hs
    · obtain ⟨hall, rfl, x2, x3, rfl⟩ := hw
      exact (h _ hE).1 ⟨⟨hnd, hm, hall⟩, hpn⟩
end
end K07
namespace K07
open PySem PySem.Spec PyProof.Rows L2 Tl
section
variable {P : Program} {w : World} {K : PySem.W.Frag} {mg : Str → Option Value} {base : Heap}
/-- any text -/
def spReadA (K : PySem.W.Frag) : SpT := fun ds M Q Et => ∃ xs : List Str, ds = [.str (Txt.join lineEnd xs)] ∧ xs ≠ [] ∧ xs.length ≤ 1500 ∧ (∀ x ∈ xs, 10 ∉ cds x ∧ x.length ≤ 10000) ∧
  ∀ M', Ext M M' → match readOf xs with
    | .many => Et (.ref (He.ga K "TooMuch")) M'
    | .line => Et (.ref (He.ga K "NoLine")) M'
    | .nest => Et (.ref (He.ga K "NoNest")) M'
    | .name => Et (.ref (He.ga K "NoName")) M'
    | .ok pg => Q (.lst (pgD pg)) M'
theorem ok_read (T : Tp K mg) : Fn P w K mg base (L2.CX P w) 18 "read" (spReadA K) := by
  refine fn_topX T.top 23 e_read (m_read T) sc_read (by rintro _ M Q Et ⟨n, rfl, _⟩; rfl) (fun cdv A outer s H E Et hr => ⟨_, (qss_cons (qs_set (i := 1) sc_read.nd (q_split (qv 0) q_str))
 (qss_cons (qs_if (qt_cmp oq_gt (q_callB cq_len (m_len T) (by decide +kernel) (qa_cons (qv 1) qa_nil)) (q_gint (m_MOST_texts T)))
  (qss_one (qs_raise rfl (takes_of rfl rfl rfl rfl) (ec_TooMuch T)))
  qss_nil)
 (qss_cons (qs_set (i := 2) sc_read.nd (q_callX (ok_nested T) (takes_of rfl rfl rfl rfl) (hr.mono (by decide)) (qa_cons (q_lcX (takes_of rfl rfl rfl rfl) rfl sc_read.nd (qi_list (qv 1)) (blkOk_by (N := nm_read) (sc := defScope s_read) (own := [(("line" : Str), 3)]) (by decide +kernel)) go_name (fun _ _ _ _ _ => (pg_name (i := 3) sc_read.nd rfl (Or.inl rfl))) (fun _ _ _ _ _ _ ps => (q_callO (ok_parts_of T) ps (hr.mono (by decide)) (qa_cons (qv 3) qa_nil)))) qa_nil)))
 (qss_cons (qs_expr (q_callX (ok_check_names T) (takes_of rfl rfl rfl rfl) (hr.mono (by decide)) (qa_cons (qv 2) qa_nil)))
 (qss_one (qs_ret (qv 2))))))), ?_⟩) (fun _ _ _ _ _ _ us hl => match us, hl with | [_], _ => rfl)
  rintro _ M Q ⟨xs, rfl, hne, hl, hok, h⟩
  walk_at "vc"
  have htl := text_lenA fun x hx => (hok x hx).2
  have hb : Str.ofString "\n" = lineEnd := rfl
  refine ⟨by decide +kernel, by omega, ?_⟩
  rw [hb, split_textA hne fun x hx => (hok x hx).1]
  by_cases h200 : 200 < xs.length
  · rw [if_pos (by omega)]
    have := h _ .refl
    unfold readOf at this
    rw [if_pos h200] at this
    exact this
  rw [if_neg (by omega)]
  unfold readOf at h
  rw [if_neg h200] at h
  refine lc_any (fun i acc M' => Ext M M' ∧ M' = M ∧ ∃ gs : List Lin, linesOf (xs.take i) = some gs ∧ acc = gs.map Lin.d) (by show (List.map D.str _).length < _; rw [List.length_map, sizeLine_eq]; omega) ⟨.refl, rfl, [], rfl, rfl⟩ ?_ ?_ ?_
  · rintro i acc _ ⟨_, rfl, gs, e, rfl⟩
    refine ⟨trivial, ?_⟩
    have := (lines_ok e).1
    rw [List.length_take] at this
    rw [List.length_map]
    omega
  · rintro i x acc _ hx ⟨_, rfl, gs, e, rfl⟩
    have hx : (xs.map D.str)[i]? = some x := hx
    rw [List.getElem?_map] at hx
    obtain ⟨y, hy, rfl⟩ := Option.map_eq_some_iff.mp hx
    have hmem := List.mem_of_getElem? hy
    refine ⟨y, rfl, by have := (hok y hmem).2; omega, fun l hl2 => ?_, fun hn M' hE => ?_⟩
    · refine ⟨.refl, rfl, gs ++ [l], ?_, by rw [List.map_append]; rfl⟩
      rw [linesOf_some] at e ⊢
      rw [take_at hy, List.map_append, e, List.map_append]
      simp [hl2]
    · have := h M' hE
      rw [linesOf_none.mpr ⟨y, hmem, hn⟩] at this
      exact this
  · rintro acc _ ⟨_, rfl, gs, e, rfl⟩
    have e : linesOf xs = some gs := by
      rw [List.take_of_length_le (by show xs.length ≤ (List.map D.str xs).length; rw [List.length_map]; exact Nat.le_refl _)] at e
      exact e
    rw [e] at h
    obtain ⟨e1, e2, e3, _⟩ := lines_ok e
    refine ⟨gs, rfl, fun l hlm => plain_ok (e2 l hlm), by omega, fun pg hpg => ?_, fun hno M' hE => ?_⟩
    · obtain ⟨f1, f2, f3⟩ := read_fit e2 (by omega) hpg
      dsimp only at h
      rw [hpg] at h
      refine ⟨pg, rfl, fun o ho => by have := (f2 o ho).2.2.2.1; omega, f1, fun o ho => ⟨(f2 o ho).1, by have := (f2 o ho).2.1; omega⟩, fun M' hE => ⟨fun hn => ?_, fun hn => ?_⟩⟩
      · have := h M' hE
        dsimp only at this
        rw [if_pos hn] at this
        exact this
      · have := h M' hE
        dsimp only at this
        rw [if_neg hn] at this
        exact this
    · have := h M' hE
      dsimp only at this
      cases hg : nestGo 1 ([], []) gs with
      | none => rw [hg] at this; exact this
      | some r =>
        obtain ⟨pg, q⟩ := r
        cases q with
        | nil => exact absurd hg (hno pg)
        | cons a t => rw [hg] at this; exact this
end
end K07
namespace K07
open PySem PySem.Spec PyProof.Rows L2 Tl
section
variable {P : Program} {w : World} {K : PySem.W.Frag} {mg : Str → Option Value} {base : Heap}
def spShownExpr (n : Nat) : SpT := fun ds M Q _ => ∃ (e : Ex), ds = [e.d] ∧ e.deep ≤ n ∧ n ≤ 8 ∧ okW e ∧ Q (.str (txtE e)) M
theorem ok_shown_expression (T : Tp K mg) : ∀ n, Fn P w K mg base CX0 (n + 1) "shown_expression" (spShownExpr n)
  | 0 => by
    refine fn_top T.top 24 e_shown_expression (m_shown_expression T) sc_shown_expression (by rintro _ M Q Et ⟨n, rfl, _⟩; rfl) (fun cdv A outer s H E hr => ⟨_, qss_never, ?_⟩) (fun _ _ _ _ _ _ us hl => match us, hl with | [_], _ => rfl)
    rintro _ M Q Et ⟨e, rfl, hd, _⟩
    cases e <;> unfold Ex.deep at hd <;> omega
  | n + 1 => by
    have ih := ok_shown_expression T n
    refine fn_top T.top 24 e_shown_expression (m_shown_expression T) sc_shown_expression (by rintro _ M Q Et ⟨n, rfl, _⟩; rfl) (fun cdv A outer s H E hr => ⟨_, (qss_cons (qs_if (qt_cmp oq_eq (q_ix (qv 0) q_int) q_str)
  (qss_one (qs_ret (q_callTy cq_str (m_str T) (by decide +kernel) (qa_cons (q_ix (qv 0) q_int) qa_nil))))
  qss_nil)
 (qss_cons (qs_if (qt_cmp oq_eq (q_ix (qv 0) q_int) q_str)
  (qss_one (qs_ret (q_ix (qv 0) q_int)))
  qss_nil)
 (qss_one (qs_ret (q_join q_str (q_op oq_catL (q_lst (qa_cons (q_ix (qv 0) q_int) qa_nil)) (q_lc rfl sc_shown_expression.nd (qi_tup (q_sliceT (qv 0) (qo_some q_int) qo_none)) (blkOk_by (N := nm_shown_expression) (sc := defScope s_shown_expression) (own := [(("part" : Str), 1)]) (by decide +kernel)) go_name (fun _ _ _ _ _ => (pg_name (i := 1) sc_shown_expression.nd rfl (Or.inl rfl))) (fun _ _ _ _ _ => qts_nil) (fun _ _ _ _ _ => (q_call ih (hr.mono (by omega)) (qa_cons (qv 1) qa_nil)))))))))), ?_⟩) (fun _ _ _ _ _ _ us hl => match us, hl with | [_], _ => rfl)
    rintro _ M Q Et ⟨e, rfl, hd, hn, hw, h⟩
    have hb : Str.ofString " " = blank := rfl
    have hb1 : blank.length = 1 := by decide +kernel
    have h28 : ∀ e : Ex, e.deep ≤ 8 → 2 ^ e.deep ≤ 2 ^ 8 := fun e h => Nat.pow_le_pow_right (by decide) h
    cases e with
    | op o a b =>
      unfold Ex.deep at hd
      have ha := txt_len hw.1
      have hbb := txt_len hw.2
      have ha2 := h28 a (by omega)
      have hb2 := h28 b (by omega)
      have ho : o.s.length ≤ 3 := by cases o <;> decide +kernel
      unfold Ex.d
      walk_at "vc"
      refine lc_map [a, b] Ex.d (fun e => .str (txtE e)) rfl (by rw [sizeLine_eq]; simp) trivial (fun x R1 R0 hx h1 => ?_) ?_
      · have hm : x.deep ≤ n ∧ okW x := by
          simp only [List.mem_cons, List.not_mem_nil, or_false] at hx
          rcases hx with rfl | rfl
          · exact ⟨by omega, hw.1⟩
          · exact ⟨by omega, hw.2⟩
        walk_at "vc"
        exact ⟨x, rfl, hm.1, by omega, hm.2, h1⟩
      · rw [lstOf_l, oSome_i]
        refine ⟨by simp, [o.s, txtE a, txtE b], rfl, ?_, ?_⟩
        · rw [hb, hb1]
          simp only [List.map_cons, List.map_nil, List.sum_cons, List.sum_nil, List.length_cons, List.length_nil]
          omega
        · rw [hb, join_cons (by simp), join_cons (by simp), tjoin_one, ← str_assoc, ← str_assoc]
          rw [txt_op] at h
          exact h
    | box a =>
      unfold Ex.deep at hd
      have ha := txt_len (e := a) hw
      have ha2 := h28 a (by omega)
      unfold Ex.d
      walk_at "vc"
      refine lc_map [a] Ex.d (fun e => .str (txtE e)) rfl (by rw [sizeLine_eq]; simp) trivial (fun x R1 R0 hx h1 => ?_) ?_
      · rw [List.mem_singleton.mp hx] at h1 ⊢
        walk_at "vc"
        exact ⟨a, rfl, by omega, by omega, hw, h1⟩
      · rw [lstOf_l, oSome_i]
        refine ⟨by simp, ["box", txtE a], rfl, ?_, ?_⟩
        · rw [hb, hb1]
          simp only [List.map_cons, List.map_nil, List.sum_cons, List.sum_nil, List.length_cons, List.length_nil]
          have : ("box" : Str).length = 3 := by decide +kernel
          omega
        · rw [hb, join_cons (by simp), tjoin_one]
          rw [txt_box] at h
          exact h
    | num i =>
      unfold Ex.d
      walk_at "vc"
      have h1 : txtE (.num i) = numT i := tjoin_one _
      rw [h1] at h
      have hi : -999999999 ≤ i ∧ i ≤ 999999999 := hw
      refine ⟨?_, h⟩
      have : i.natAbs.log2 ≤ i.natAbs := Nat.log2_le_self _
      have h3 : i.natAbs.log2 < 60 := by
        by_cases hz : i.natAbs = 0
        · rw [hz]; decide
        · exact (Nat.log2_lt hz).mpr (by omega)
      omega
    | nam x =>
      unfold Ex.d
      walk_at "vc"
      have h1 : txtE (.nam x) = x := tjoin_one _
      rw [h1] at h
      exact h
    | lane =>
      unfold Ex.d
      walk_at "vc"
      refine lc_map ([] : List Ex) Ex.d (fun e => .str (txtE e)) rfl (by decide) trivial (fun e R1 R0 he h1 => by cases he) ?_
      rw [lstOf_l, oSome_i]
      refine ⟨by decide, ["lane"], rfl, by decide +kernel, ?_⟩
      exact h
    | lanes =>
      unfold Ex.d
      walk_at "vc"
      refine lc_map ([] : List Ex) Ex.d (fun e => .str (txtE e)) rfl (by decide) trivial (fun e R1 R0 he h1 => by cases he) ?_
      rw [lstOf_l, oSome_i]
      refine ⟨by decide, ["lanes"], rfl, by decide +kernel, ?_⟩
      exact h
    | mine =>
      unfold Ex.d
      walk_at "vc"
      refine lc_map ([] : List Ex) Ex.d (fun e => .str (txtE e)) rfl (by decide) trivial (fun e R1 R0 he h1 => by cases he) ?_
      rw [lstOf_l, oSome_i]
      refine ⟨by decide, ["mine"], rfl, by decide +kernel, ?_⟩
      exact h
def spShownPart : SpT := fun ds M Q _ => ∃ (p : D) (ws : List Str), ds = [p] ∧ isPart p ws ∧ ws ≠ [] ∧ Q (.str (Txt.join blank ws)) M
theorem ok_shown_part (T : Tp K mg) : Fn P w K mg base CX0 10 "shown_part" spShownPart := by
  refine fn_top T.top 25 e_shown_part (m_shown_part T) sc_shown_part (by rintro _ M Q Et ⟨n, _, rfl, _⟩; rfl) (fun cdv A outer s H E hr => ⟨_, (qss_cons (qs_if (qt_val (q_callB cq_isi (m_isinstance T) (by decide +kernel) (qa_cons (qv 0) (qa_cons (q_ty "str" (m_str T) (by decide +kernel)) qa_nil))))
  (qss_one (qs_ret (qv 0)))
  qss_nil)
 (qss_cons (qs_if (qt_val (q_callB cq_isi (m_isinstance T) (by decide +kernel) (qa_cons (qv 0) (qa_cons (q_ty "list" (m_list T) (by decide +kernel)) qa_nil))))
  (qss_one (qs_ret (q_join q_str (q_lc rfl sc_shown_part.nd (qi_list (qv 0)) (blkOk_by (N := nm_shown_part) (sc := defScope s_shown_part) (own := [(("told" : Str), 1)]) (by decide +kernel)) go_name (fun _ _ _ _ _ => (pg_name (i := 1) sc_shown_part.nd rfl (Or.inl rfl))) (fun _ _ _ _ _ => qts_nil) (fun _ _ _ _ _ => (q_call (ok_shown_expression T 8) (hr.mono (by decide)) (qa_cons (qv 1) qa_nil)))))))
  qss_nil)
 (qss_one (qs_ret (q_call (ok_shown_expression T 8) (hr.mono (by decide)) (qa_cons (qv 0) qa_nil)))))), ?_⟩) (fun _ _ _ _ _ _ us hl => match us, hl with | [_], _ => rfl)
  rintro _ M Q Et ⟨p, ws, rfl, hp, hne, h⟩
  have hb : Str.ofString " " = blank := rfl
  have hb1 : blank.length = 1 := by decide +kernel
  rcases hp with ⟨x, rfl, rfl, _, _⟩ | ⟨e, rfl, ok, rfl⟩ | ⟨es, hl, rfl, ok, rfl⟩
  · rw [tjoin_one] at h
    walk_at "vc"
    exact h
  · obtain ⟨l, hd⟩ : ∃ l, e.d = .tup l := by cases e <;> exact ⟨_, rfl⟩
    rw [hd]
    walk_at "vc"
    rw [← hd]
    exact ⟨e, rfl, by have := ok.2; omega, by omega, ok.1, h⟩
  · walk_at "vc"
    refine lc_map es Ex.d (fun e => .str (txtE e)) rfl (by rw [sizeLine_eq]; omega) trivial (fun x R1 R0 hx h1 => ?_) ?_
    · exact ⟨x, rfl, by have := (ok x hx).2; omega, by omega, (ok x hx).1, h1⟩
    · have len : ∀ e ∈ es, (txtE e).length ≤ 1408 := fun e he => by
        have h1 := txt_len (ok e he).1
        have h2 : 2 ^ e.deep ≤ 2 ^ 7 := Nat.pow_le_pow_right (by decide) (ok e he).2
        omega
      refine ⟨es.map txtE, by rw [lstOf_l, List.map_map]; rfl, ?_, ?_⟩
      · have := sum_le_mul (k := 1408) (ws := es.map txtE) fun w hw => by
          obtain ⟨e, he, rfl⟩ := List.mem_map.mp hw
          exact len e he
        rw [List.length_map] at this
        rw [hb, hb1, List.map_map, List.length_map]
        rw [List.map_map] at this
        omega
      · rw [hb]
        have := join_flat (ps := (es.map fun e => ((.non : D), wordsE e)).tail) (w := Txt.join blank ((es.map wordsE).headD [])) fun q hq => by
          obtain ⟨e, _, rfl⟩ := List.mem_map.mp (List.mem_of_mem_tail hq)
          exact words_ne e
        cases es with
        | nil => exact absurd rfl hne
        | cons a t =>
          simp only [List.map_cons, List.tail_cons, List.headD_cons, List.map_map, List.flatMap_map] at this
          have e1 : Txt.join blank ((a :: t).map txtE) = Txt.join blank ((a :: t).flatMap wordsE) := by
            rw [List.map_cons, List.flatMap_cons]
            refine Eq.trans this ?_
            cases t with
            | nil => simp [tjoin_one]
            | cons c r => rw [join_cons (by simp [words_ne]), join_app (by simp [words_ne]) (words_ne a)]
          rw [e1]
          exact h
def spShownBlock (n : Nat) : SpT := fun ds M Q _ => ∃ b : List Sm, ds = [.lst (stD b)] ∧ deeps b < n ∧ okShB b ∧ (shB b).length ≤ 10000 ∧ Q (.lst ((shB b).map .str)) M
theorem ok_shown_block (T : Tp K mg) : ∀ n, Fn P w K mg base CX0 (n + 12) "shown_block" (spShownBlock n)
  | 0 => by
    refine fn_top T.top 26 e_shown_block (m_shown_block T) sc_shown_block (by rintro _ M Q Et ⟨n, rfl, _⟩; rfl) (fun cdv A outer s H E hr => ⟨_, qss_never, ?_⟩) (fun _ _ _ _ _ _ us hl => match us, hl with | [_], _ => rfl)
    rintro _ M Q Et ⟨b, rfl, hd, _⟩
    omega
  | n + 1 => by
    have ih := ok_shown_block T n
    refine fn_top T.top 26 e_shown_block (m_shown_block T) sc_shown_block (by rintro _ M Q Et ⟨n, rfl, _⟩; rfl) (fun cdv A outer s H E hr => ⟨_, (qss_cons (qs_set (i := 1) sc_shown_block.nd (q_lstM qa_nil))
 (qss_cons (qs_for PassesOwn.never rfl (qi_list (qv 0)) (qg_name (i := 2) sc_shown_block.nd)
  (qss_one (qs_if (qt_w (qw_or (qt_cmp oq_eq (q_ix (qv 2) q_int) q_str) (qw_or1 (qt_cmp oq_eq (q_ix (qv 2) q_int) q_str))))
  (qss_cons (qs_expr (q_append (qv 1) (qa_cons (q_op oq_addS (q_op oq_addS (q_ix (qv 2) q_int) q_str) (q_call (ok_shown_expression T 8) (hr.mono (by omega)) (qa_cons (q_ix (qv 2) q_int) qa_nil))) qa_nil)))
 (qss_cons (qs_expr (q_extend (qv 1) (qa_cons (q_call ih (hr.mono (by omega)) (qa_cons (q_ix (qv 2) q_int) qa_nil)) qa_nil)))
 (qss_cons (qs_if (qt_w (qw_and (qt_cmp oq_eq (q_ix (qv 2) q_int) q_str) (qw_and1 (qt_cmp oq_notN (q_ix (qv 2) q_int) q_non))))
  (qss_cons (qs_expr (q_append (qv 1) (qa_cons q_str qa_nil)))
 (qss_one (qs_expr (q_extend (qv 1) (qa_cons (q_call ih (hr.mono (by omega)) (qa_cons (q_ix (qv 2) q_int) qa_nil)) qa_nil)))))
  qss_nil)
 (qss_one (qs_expr (q_append (qv 1) (qa_cons q_str qa_nil)))))))
  (qss_cons (qs_setLc (i := 3) (own := [(("part" : Str), 4)]) (lv_lcF go_name) rfl sc_shown_block.nd (qi_tup (q_sliceT (qv 2) (qo_some q_int) qo_none)) (blkOk_by (N := nm_shown_block) (sc := defScope s_shown_block) (own := [(("part" : Str), 4)]) (by decide +kernel)) (fun _ _ _ _ _ => (pg_name (i := 4) sc_shown_block.nd rfl (Or.inl rfl))) (fun _ _ _ _ _ => (qts_one (qt_cmp (oq_neD (un64 hr)) (qv 4) (q_lst qa_nil)))) (fun _ _ _ _ _ => (qv 4)) (sw_true rfl rfl rfl (by decide +kernel)))
 (qss_one (qs_expr (q_append (qv 1) (qa_cons (q_join q_str (q_op oq_catL (q_lst (qa_cons (q_ix (qv 2) q_int) qa_nil)) (q_lc rfl sc_shown_block.nd (qi_list (qv 3)) (blkOk_by (N := nm_shown_block) (sc := defScope s_shown_block) (own := [(("part" : Str), 4)]) (by decide +kernel)) go_name (fun _ _ _ _ _ => (pg_name (i := 4) sc_shown_block.nd rfl (Or.inl rfl))) (fun _ _ _ _ _ => qts_nil) (fun _ _ _ _ _ => (q_call (ok_shown_part T) (hr.mono (by omega)) (qa_cons (qv 4) qa_nil)))))) qa_nil))))))))
 (qss_one (qs_ret (q_re (qv 1)))))), ?_⟩) (fun _ _ _ _ _ _ us hl => match us, hl with | [_], _ => rfl)
    rintro _ M Q Et ⟨b, rfl, hd, ok, hl, h⟩
    walk_at "vc"
    intro p hp
    rw [stD_map]
    refine for_map b Sm.d rfl (fun ys τ M1 => M1 = mup M p (.lst ((shB ys).map .str)) ∧ ∃ v2 v3 v4, τ = [some (.lst (b.map Sm.d)), some (.ref p), v2, v3, v4]) ⟨rfl, _, _, _, rfl⟩ (fun _ _ _ _ => trivial) ?_ ?_
    · rintro ys s zs τ M1 Nx hx ⟨rfl, v2, v3, v4, rfl⟩ hN
      have hs : s ∈ b := by rw [hx]; simp
      have hdb : s.deep ≤ n := by
        have := deeps_mem hs
        omega
      have hst : shB (ys ++ [s]) = shB ys ++ shS s := by rw [shB_app, shB_one]
      have hlen : (shB ys).length + (shS s).length ≤ 10000 := by
        rw [hx, shB_app, shB_cons, List.length_append, List.length_append] at hl
        omega
      have hall : ∀ x ∈ allSt s, okHd x := fun x hxx => ok x (by rw [hx, allBd_app, allBd]; simp [hxx])
      have hb : Str.ofString " " = blank := rfl
      have hb1 : blank.length = 1 := by decide +kernel
      have one : ∀ {w : Str} {e : Ex}, w ++ blank ++ txtE e = Txt.join blank (w :: wordsE e) := fun {w e} => (join_cons (words_ne e)).symm
      have len : ∀ {e : Ex}, okXp e → (txtE e).length ≤ 1408 := fun {e} he => by
        have h1 := txt_len he.1
        have h2 : 2 ^ e.deep ≤ 2 ^ 7 := Nat.pow_le_pow_right (by decide) he.2
        omega
      have l2 : (Str.ofString "if").length = 2 ∧ (Str.ofString "if" ++ Str.ofString " ").length = 3 ∧ (Str.ofString "while").length = 5 ∧ (Str.ofString "while" ++ Str.ofString " ").length = 6 ∧ (Str.ofString " ").length = 1 := by decide +kernel
      obtain ⟨g1, g2, g3, g4, g5⟩ := l2
      by_cases hpl : (Lin.pln s).plain
      · have hk : okStm s := by
          have := hall s (by rw [allSt_eq]; exact List.mem_cons_self ..)
          cases s <;> first | exact this | exact hpl.elim
        obtain ⟨w1, w2⟩ := plain_wd2 hpl
        have hsh : shS s = [(Lin.pln s).txt] := by
          have := shS_pln hpl s.line
          cases s <;> first | exact this | exact hpl.elim
        rw [sm_d, prt_rest hpl]
        walk_at "vc"
        rw [if_neg w1, if_neg w2]
        have hps := prt_ok hk
        have hplen : (prtS s).length ≤ 3 := by have := rest_few s; rw [prt_rest hpl, List.length_map] at this; exact this
        have hcut : Tl.cutD (D.str s.word :: D.int s.line :: (prtS s).map fun x => x.1) (some 2) none = (prtS s).map fun x => x.1 := cut_two
        refine lc_filter (prtS s) (fun x => x.1) (fun x => !x.2.isEmpty) (fun x => x.1) hcut (by rw [sizeLine_eq]; omega) trivial (fun x R1 R0 hx h1 h0 => ?_) ?_
        · walk_at "vc"
          refine part_ne (hps x hx) ?_
          walk_at "vc"
          cases he : x.2.isEmpty with
          | true => rw [he] at h0; exact h0 rfl
          | false => rw [he] at h1; exact h1 rfl
        refine ⟨by rw [lstOf_m]; rfl, ?_⟩
        rw [lstOf_l, oSome_i]
        have hf : ∀ x ∈ (prtS s).filter (fun x => !x.2.isEmpty), isPart x.1 x.2 ∧ x.2 ≠ [] := fun x hx => by
          obtain ⟨h1, h2⟩ := List.mem_filter.mp hx
          exact ⟨hps x h1, fun e => by rw [e] at h2; cases h2⟩
        have hfl : ((prtS s).filter fun x => !x.2.isEmpty).length ≤ 3 := Nat.le_trans (List.length_filter_le _ _) hplen
        have htx := pln_txt hpl
        generalize (prtS s).filter (fun x => !x.2.isEmpty) = fs at hf hfl htx
        refine lc_map fs (fun x => x.1) (fun x => .str (Txt.join blank x.2)) rfl (by rw [sizeLine_eq]; omega) rfl (fun x R1 R0 hx h1 => ?_) ?_
        · exact ⟨x.1, x.2, rfl, (hf x hx).1, (hf x hx).2, h1⟩
        rw [lstOf_l, oSome_i, List.length_map]
        have hln : ((Lin.pln s).txt).length ≤ 10000 := lin_len (l := .pln s) hk
        refine ⟨by omega, s.word :: fs.map fun x => Txt.join blank x.2, by simp, ?_, ?_⟩
        · have hsum : ∀ ws : List Str, (ws.map (·.length)).sum ≤ (Txt.join blank ws).length := fun ws => join_ge ws
          have := hsum (s.word :: fs.map fun x => Txt.join blank x.2)
          rw [← htx] at this
          rw [g5, List.length_cons, List.length_map]
          simp only [List.map_cons, List.sum_cons] at this ⊢
          omega
        rw [mLst_m, oSome_i, hb, ← htx]
        refine ⟨by rw [List.length_map]; omega, hN _ _ ⟨?_, _, _, _, rfl⟩⟩
        rw [mup_mup, hst, hsh]
        simp
      cases s with
      | if1 l e c =>
        have he : okXp e := hall (.if1 l e c) (by rw [allSt]; exact List.mem_cons_self ..)
        have hsh : shS (.if1 l e c) = (Lin.iff e).txt :: (shB c ++ [("end" : Str)]) := by rw [shS]
        have hl2 : (shS (.if1 l e c)).length = (shB c).length + 2 := by rw [hsh]; simp
        have hld := he.2
        have hle := len he
        rw [sm_d]
        unfold Sm.word Sm.rest
        walk_at "vc"
        refine ⟨by omega, e, rfl, by omega, by omega, he.1, ?_⟩
        dsimp only
        rw [oStr_i]
        refine ⟨by omega, ?_⟩
        rw [mLst_m, oSome_i]
        refine ⟨by rw [List.length_map]; omega, c, rfl, by unfold Sm.deep at hdb; omega, fun x hxx => hall x (by rw [allSt]; exact List.mem_cons_of_mem _ hxx), by omega, ?_⟩
        dsimp only
        rw [mup_mup, mLst_m, oSome_i]
        show oSome (some ((shB c).map D.str)) _
        rw [oSome_i]
        simp only [List.length_append, List.length_map, List.length_cons, List.length_nil]
        refine ⟨by omega, by omega, hN _ _ ⟨?_, _, _, _, rfl⟩⟩
        rw [mup_mup, hst, hsh, hb, one]
        simp
        rfl
      | if2 l e c d =>
        have he : okXp e := hall (.if2 l e c d) (by rw [allSt]; exact List.mem_cons_self ..)
        have hsh : shS (.if2 l e c d) = (Lin.iff e).txt :: (shB c ++ ("else" : Str) :: (shB d ++ [("end" : Str)])) := by rw [shS]
        have hl2 : (shS (.if2 l e c d)).length = (shB c).length + (shB d).length + 3 := by rw [hsh]; simp; omega
        have hld := he.2
        have hle := len he
        rw [sm_d]
        unfold Sm.word Sm.rest
        walk_at "vc"
        refine ⟨by omega, e, rfl, by omega, by omega, he.1, ?_⟩
        dsimp only
        rw [oStr_i]
        refine ⟨by omega, ?_⟩
        rw [mLst_m, oSome_i]
        refine ⟨by rw [List.length_map]; omega, c, rfl, by unfold Sm.deep at hdb; omega, fun x hxx => hall x (by rw [allSt]; simp [hxx]), by omega, ?_⟩
        dsimp only
        rw [mup_mup, mLst_m, oSome_i]
        show oSome (some ((shB c).map D.str)) _
        rw [oSome_i]
        simp only [List.length_append, List.length_map, List.length_cons, List.length_nil]
        refine ⟨by omega, by omega, d, rfl, by unfold Sm.deep at hdb; omega, fun x hxx => hall x (by rw [allSt]; simp [hxx]), by omega, ?_⟩
        dsimp only
        rw [mup_mup, mLst_m, oSome_i]
        show oSome (some ((shB d).map D.str)) _
        rw [oSome_i]
        simp only [List.length_append, List.length_map, List.length_cons, List.length_nil]
        refine ⟨by omega, by omega, hN _ _ ⟨?_, _, _, _, rfl⟩⟩
        rw [mup_mup, hst, hsh, hb, one]
        simp
        rfl
      | whl l e c =>
        have he : okXp e := hall (.whl l e c) (by rw [allSt]; exact List.mem_cons_self ..)
        have hsh : shS (.whl l e c) = (Lin.whl e).txt :: (shB c ++ [("end" : Str)]) := by rw [shS]
        have hl2 : (shS (.whl l e c)).length = (shB c).length + 2 := by rw [hsh]; simp
        have hld := he.2
        have hle := len he
        rw [sm_d]
        unfold Sm.word Sm.rest
        walk_at "vc"
        refine ⟨by omega, e, rfl, by omega, by omega, he.1, ?_⟩
        dsimp only
        rw [oStr_i]
        refine ⟨by omega, ?_⟩
        rw [mLst_m, oSome_i]
        refine ⟨by rw [List.length_map]; omega, c, rfl, by unfold Sm.deep at hdb; omega, fun x hxx => hall x (by rw [allSt]; exact List.mem_cons_of_mem _ hxx), by omega, ?_⟩
        dsimp only
        rw [mup_mup, mLst_m, oSome_i]
        show oSome (some ((shB c).map D.str)) _
        rw [oSome_i]
        simp only [List.length_append, List.length_map, List.length_cons, List.length_nil]
        refine ⟨by omega, by omega, hN _ _ ⟨?_, _, _, _, rfl⟩⟩
        rw [mup_mup, hst, hsh, hb, one]
        simp
        rfl
      | _ => exact absurd trivial hpl
    · rintro τ M1 ⟨rfl, v2, v3, v4, rfl⟩
      walk_at "vc"
      exact ⟨_, M, ReR.made hp, h⟩
def spShown : SpT := fun ds M Q _ => ∃ (pg : Pg) (ls : List Lin), ds = [.lst (pgD pg)] ∧ shP pg = ls.map Lin.txt ∧ (∀ l ∈ ls, l.ok) ∧ ls.length ≤ 200 ∧ (∀ o ∈ pg, deeps o.body < 10 ∧ okShB o.body ∧ o.ps.length ≤ 6) ∧ Q (.str (Txt.join lineEnd (ls.map Lin.txt))) M
theorem ok_shown (T : Tp K mg) : Fn P w K mg base CX0 23 "shown" spShown := by
  refine fn_top T.top 27 e_shown (m_shown T) sc_shown (by rintro _ M Q Et ⟨n, _, rfl, _⟩; rfl) (fun cdv A outer s H E hr => ⟨_, (qss_cons (qs_set (i := 1) sc_shown.nd (q_lstM qa_nil))
 (qss_cons (qs_for PassesOwn.never rfl (qi_list (qv 0)) (qg_name (i := 2) sc_shown.nd)
  (qss_cons (qs_expr (q_append (qv 1) (qa_cons (q_join q_str (q_op oq_catL (q_lst (qa_cons q_str (qa_cons (q_ix (qv 2) q_int) qa_nil))) (q_ix (qv 2) q_int))) qa_nil)))
 (qss_cons (qs_expr (q_extend (qv 1) (qa_cons (q_call (ok_shown_block T 10) (hr.mono (by decide)) (qa_cons (q_ix (qv 2) q_int) qa_nil)) qa_nil)))
 (qss_one (qs_expr (q_append (qv 1) (qa_cons q_str qa_nil)))))))
 (qss_one (qs_ret (q_re (q_join q_str (qv 1))))))), ?_⟩) (fun _ _ _ _ _ _ us hl => match us, hl with | [_], _ => rfl)
  rintro _ M Q Et ⟨pg, ls, rfl, hsh, hok, hl, hb, h⟩
  have htl := text_len hok
  have hcnt : (shP pg).length ≤ 200 := by rw [hsh, List.length_map]; exact hl
  have hlb : ∀ x ∈ shP pg, x.length ≤ 10000 := fun x hx => by
    rw [hsh] at hx
    obtain ⟨l, hl2, rfl⟩ := List.mem_map.mp hx
    exact lin_len (hok l hl2)
  walk_at "vc"
  intro p hp
  refine for_map pg Df.d rfl (fun ys τ M1 => M1 = mup M p (.lst ((shP ys).map .str)) ∧ ∃ v2, τ = [some (.lst (pgD pg)), some (.ref p), v2]) ⟨rfl, _, rfl⟩ (fun _ _ _ _ => trivial) ?_ ?_
  · rintro ys o zs τ M1 Nx hx ⟨rfl, v2, rfl⟩ hN
    have ho : o ∈ pg := by rw [hx]; simp
    have hone : shP [o] = (Lin.dff o.name o.ps).txt :: (shB o.body ++ [("end" : Str)]) := by unfold shP; simp
    have hst : shP (ys ++ [o]) = shP ys ++ shP [o] := shP_app
    have hsub : (shP ys).length + ((shB o.body).length + 2) ≤ 200 := by
      have : shP pg = shP ys ++ (shP [o] ++ shP zs) := by rw [hx, shP_app, show o :: zs = [o] ++ zs from rfl, shP_app]
      rw [this, hone] at hcnt
      simp only [List.length_append, List.length_cons, List.length_nil] at hcnt
      omega
    have hhd : (Lin.dff o.name o.ps).txt.length ≤ 10000 := hlb _ (by rw [hx, shP_app, show o :: zs = [o] ++ zs from rfl, shP_app, hone]; simp)
    rw [show o.d = .tup [.str o.name, .lst (o.ps.map .str), .lst (stD o.body), .int o.first, .int o.last] from rfl]
    obtain ⟨b1, b2, b3⟩ := hb o ho
    have hbl : Str.ofString " " = blank := rfl
    walk_at "vc"
    refine ⟨by omega, "def" :: o.name :: o.ps, rfl, ?_, ?_⟩
    · have hg := join_ge ("def" :: o.name :: o.ps)
      rw [show Txt.join blank ("def" :: o.name :: o.ps) = (Lin.dff o.name o.ps).txt from rfl] at hg
      have g5 : (Str.ofString " ").length = 1 := by decide +kernel
      rw [g5]
      simp only [List.length_cons, List.map_cons, List.sum_cons] at hg ⊢
      omega
    rw [hbl, show Txt.join blank ("def" :: o.name :: o.ps) = (Lin.dff o.name o.ps).txt from rfl]
    refine ⟨by omega, o.body, rfl, b1, b2, by omega, ?_⟩
    dsimp only
    rw [mLst_m, oSome_i]
    show oSome (some ((shB o.body).map D.str)) _
    rw [oSome_i]
    simp only [List.length_append, List.length_map, List.length_cons, List.length_nil]
    refine ⟨by omega, by omega, hN _ _ ⟨?_, _, rfl⟩⟩
    rw [mup_mup, hst, hone]
    simp
  · rintro τ M1 ⟨rfl, v2, rfl⟩
    walk_at "vc"
    refine ⟨shP pg, rfl, ?_, _, M, ReR.new hp, ?_⟩
    · have := sum_le_mul (k := 10000) (ws := shP pg) hlb
      have g5 : (Str.ofString "\n").length = 1 := by decide +kernel
      rw [g5]
      omega
    · rw [hsh]
      exact h
end
end K07
namespace K07
open PySem PySem.Spec PyProof.Rows L2 Tl
section
variable {P : Program} {w : World} {K : PySem.W.Frag} {mg : Str → Option Value} {base : Heap}
def spCellAt : SpT := fun ds M Q _ => ∃ (ns : List Int) (k : Nat), ds = [.scr (ns.map .int), .int (k : Nat)] ∧ ns.length ≤ 63 ∧ Q (.int (ns.getD k 0)) M
theorem ok_l_cell_at (T : Tp K mg) : Fn P w K mg base CX0 1 "_law_cell_at" spCellAt := by
  refine fn_top T.top 29 e_l_cell_at (m_l_cell_at T) sc_l_cell_at (by rintro _ M Q Et ⟨n, _, rfl, _⟩; rfl) (fun cdv A outer s H E hr => ⟨_, (qss_cons (qs_if (qt_cmp oq_lt (qv 1) (q_callB cq_len (m_len T) (by decide +kernel) (qa_cons (qv 0) qa_nil)))
  (qss_one (qs_ret (q_ix (qv 0) (qv 1))))
  qss_nil)
 (qss_one (qs_ret q_int))), ?_⟩) (fun _ _ _ _ _ _ us hl => match us, hl with | [_, _], _ => rfl)
  rintro _ M Q Et ⟨ns, k, rfl, hl, h⟩
  walk_at "vc"
  split
  · rename_i hk
    have hk2 : k < ns.length := by omega
    rw [atI_nat (v := .int ns[k]) (by rw [List.getElem?_map, List.getElem?_eq_getElem hk2]; rfl)]
    rw [List.getD_eq_getElem?_getD, List.getElem?_eq_getElem hk2] at h
    exact h
  · rename_i hk
    rw [List.getD_eq_getElem?_getD, List.getElem?_eq_none (by omega)] at h
    exact h
def spMixed : SpT := fun ds M Q _ => ∃ (c : Int) (k : Nat), ds = [.int c, .int (k : Nat)] ∧ k ≤ 1000 ∧ Q (.int (mixH c k)) M
theorem ok_l_mixed (T : Tp K mg) : Fn P w K mg base CX0 1 "_law_mixed" spMixed := by
  refine fn_top T.top 28 e_l_mixed (m_l_mixed T) sc_l_mixed (by rintro _ M Q Et ⟨_, _, rfl, _⟩; rfl) (fun cdv A outer s H E hr => ⟨_, (qss_cons (qs_set (i := 2) sc_l_mixed.nd (q_op oq_mod (q_op oq_mulS (q_op oq_addI (q_op oq_mod (qv 0) q_int) q_int) (q_op oq_addI q_int (q_op oq_mulS (q_op oq_mulS q_int (qv 1)) (qv 1)))) q_int))
 (qss_one (qs_ret (q_op oq_mod (q_op oq_mulS (qv 2) (q_op oq_addI (q_op oq_mod (qv 2) q_int) (qv 1))) q_int)))), ?_⟩) (fun _ _ _ _ _ _ us hl => match us, hl with | [_, _], _ => rfl)
  rintro _ M Q Et ⟨c, k, rfl, hk, h⟩
  walk_at "vc"
  have b1 := modB (a := c) (b := 1000003) (by decide)
  have b2 := modB (a := (c % 1000003 + 1) * (48271 + 2 * (k : Int) * k)) (b := 2147483647) (by decide)
  have b3 := modB (a := (c % 1000003 + 1) * (48271 + 2 * (k : Int) * k) % 2147483647) (b := 65537) (by decide)
  have b4 : k * k ≤ 1000 * 1000 := Nat.mul_le_mul hk hk
  have b5 : 2 * (k : Int) * k = 2 * ((k * k : Nat) : Int) := by rw [Int.mul_assoc]; simp
  exact ⟨ms_l (by omega), ms_r (by omega), ms_l (by omega), ms_l (by omega), h⟩
def spLaid : SpT := fun ds M Q _ => ∃ (p : List Str) (w : Str), ds = [.lst (p.map .str), .str w] ∧ p.length ≤ 1000 ∧ Q (.lst ((lawLaid p w).map .str)) M
theorem ok_l_laid (T : Tp K mg) : Fn P w K mg base CX0 1 "_law_laid" spLaid := by
  refine fn_top T.top 43 e_l_laid (m_l_laid T) sc_l_laid (by rintro _ M Q Et ⟨_, _, rfl, _⟩; rfl) (fun cdv A outer s H E hr => ⟨_, (qss_cons (qs_if (qt_w (qw_or (qt_cmp oq_eq (qv 1) q_str) (qw_or (qt_cmp oq_eq (qv 1) q_str) (qw_or1 (qt_cmp oq_eq (qv 1) q_str)))))
  (qss_one (qs_ret (q_op oq_catL (qv 0) (q_lst (qa_cons (qv 1) qa_nil)))))
  qss_nil)
 (qss_cons (qs_if (qt_cmp oq_eq (qv 1) q_str)
  (qss_one (qs_ret (q_op oq_catL (q_sliceL (qv 0) qo_none (qo_some (q_un uq_neg q_int))) (q_lst (qa_cons q_str qa_nil)))))
  qss_nil)
 (qss_cons (qs_if (qt_cmp oq_eq (qv 1) q_str)
  (qss_one (qs_ret (q_sliceL (qv 0) qo_none (qo_some (q_un uq_neg q_int)))))
  qss_nil)
 (qss_one (qs_ret (qv 0)))))), ?_⟩) (fun _ _ _ _ _ _ us hl => match us, hl with | [_, _], _ => rfl)
  rintro _ M Q Et ⟨p, w, rfl, hl, h⟩
  walk_at "vc"
  unfold lawLaid at h
  rw [cut_all_but]
  by_cases h1 : w = "def"
  · rw [if_pos (Or.inl h1), List.map_append] at h
    rw [if_pos h1]
    exact ⟨by omega, h⟩
  rw [if_neg h1]
  by_cases h2 : w = "if"
  · rw [if_pos (Or.inr (Or.inl h2)), List.map_append] at h
    rw [if_pos h2]
    exact ⟨by omega, h⟩
  rw [if_neg h2]
  by_cases h3 : w = "while"
  · rw [if_pos (Or.inr (Or.inr h3)), List.map_append] at h
    rw [if_pos h3]
    exact ⟨by omega, h⟩
  rw [if_neg (fun q => by rcases q with q | q | q; exact h1 q; exact h2 q; exact h3 q)] at h
  rw [if_neg h3]
  have e : (p.map D.str).dropLast = p.dropLast.map D.str := by rw [List.map_dropLast]
  rw [e]
  by_cases h4 : w = "else"
  · rw [if_pos h4, List.map_append] at h
    rw [if_pos h4]
    exact ⟨by rw [List.length_map, List.length_dropLast]; omega, h⟩
  rw [if_neg h4] at h ⊢
  by_cases h5 : w = "end"
  · rw [if_pos h5] at h ⊢
    exact h
  rw [if_neg h5] at h ⊢
  exact h
/-- a drawn name -/
def spNames : SpT := fun ds M Q _ => ∃ (c : Int) (n : Nat), ds = [.int c, .int (n : Nat)] ∧ n ≤ 8 ∧ ∀ nm : List Str, nm.length = n → (∀ x ∈ nm, nameX x ∧ x.length ≤ 6) → Q (.lst (nm.map .str)) M
theorem ok_l_names (T : Tp K mg) : Fn P w K mg base CX0 2 "_law_names" spNames := by
  refine fn_top T.top 30 e_l_names (m_l_names T) sc_l_names (by rintro _ M Q Et ⟨_, n, rfl, _⟩; rfl) (fun cdv A outer s H E hr => ⟨_, (qss_cons (qs_set (i := 2) sc_l_names.nd q_str)
 (qss_cons (qs_set (i := 3) sc_l_names.nd (q_op oq_mod (qv 0) q_int))
 (qss_cons (qs_set (i := 4) sc_l_names.nd (q_lstM qa_nil))
 (qss_cons (qs_for PassesOwn.never rfl (qi_range1 (m_range T) (qa_cons (qv 1) qa_nil)) (qg_name (i := 5) sc_l_names.nd)
  (qss_cons (qs_set (i := 6) sc_l_names.nd q_str)
 (qss_cons (qs_for PassesOwn.never rfl (qi_range1 (m_range T) (qa_cons q_int qa_nil)) (qg_name (i := 7) sc_l_names.nd)
  (qss_one (qs_set (i := 6) sc_l_names.nd (q_op oq_addS (qv 6) (q_ix (qv 2) (q_op oq_mod (q_op oq_addI (q_call (ok_l_mixed T) (hr.mono (by decide)) (qa_cons (q_op oq_fdiv (qv 0) q_int) (qa_cons (qv 7) qa_nil))) (q_op oq_mulS (qv 5) (q_callTy cq_int (m_int T) (by decide +kernel) (qa_cons (q_cmp oq_eq (qv 7) (qv 3)) qa_nil)))) q_int))))))
 (qss_one (qs_expr (q_append (qv 4) (qa_cons (q_op oq_addS (qv 6) (q_sliceS q_str qo_none (qo_some (q_op oq_addI q_int (q_op oq_mod (q_op oq_fdiv (qv 0) q_int) q_int))))) qa_nil)))))))
 (qss_one (qs_ret (q_re (qv 4)))))))), ?_⟩) (fun _ _ _ _ _ _ us hl => match us, hl with | [_, _], _ => rfl)
  rintro _ M Q Et ⟨c, n, rfl, hn, h⟩
  walk_at "vc"
  intro p hp
  refine ⟨by omega, ?_⟩
  rw [Int.toNat_natCast]
  refine for_map (List.range n) (fun k => D.int (k : Nat)) rfl (fun ys τ M1 => ∃ nm : List Str, nm.length = ys.length ∧ (∀ x ∈ nm, nameX x ∧ x.length ≤ 6) ∧ M1 = mup M p (.lst (nm.map .str)) ∧ ∃ x5 x6 x7, τ = [some (.int c), some (.int n), some (.str letters26), some (.int (c % 4)), some (.ref p), x5, x6, x7]) ⟨[], rfl, (fun x hx => by cases hx), rfl, _, _, _, rfl⟩ (fun _ _ _ _ => trivial) ?_ ?_
  · rintro ys k zs τ M1 Nx hx ⟨nm, hl, hnm, rfl, x5, x6, x7, rfl⟩ hN
    have hk : k < n := List.mem_range.mp (by rw [hx]; simp)
    walk_at "vc"
    refine for_map (List.range 4) (fun k => D.int (k : Nat)) rfl (fun js τ M2 => ∃ t : Str, t.length = js.length ∧ (∀ c ∈ cds t, 97 ≤ c ∧ c ≤ 122) ∧ M2 = mup M p (.lst (nm.map .str)) ∧ ∃ x7, τ = [some (.int c), some (.int n), some (.str letters26), some (.int (c % 4)), some (.ref p), some (.int k), some (.str t), x7]) ⟨"", by decide +kernel, (fun c hc => by rw [show cds ("" : Str) = [] by decide +kernel] at hc; cases hc), rfl, _, rfl⟩ (fun _ _ _ _ => trivial) ?_ ?_
    · rintro js j ls τ M2 Nx hx2 ⟨t, ht, htc, rfl, x7, rfl⟩ hN2
      have hj : j < 4 := List.mem_range.mp (by rw [hx2]; simp)
      walk_at "vc"
      refine ⟨wd60 (by decide) (by decide), c / 4, j, rfl, by omega, ms_l (by omega), ?_⟩
      rw [oInt_i]
      have hl26 : letters26.length ≤ 16777216 := by decide +kernel
      refine ⟨hl26, ?_⟩
      have m := modB (a := mixH (c / 4) j + (k : Int) * (if (j : Int) = c % 4 then 1 else 0)) (b := 26) (by decide)
      generalize (mixH (c / 4) j + (k : Int) * (if (j : Int) = c % 4 then 1 else 0)) % 26 = q at m
      rw [let_at m.1 m.2, oSome_i]
      have hjs : js.length < 4 := by have := congrArg List.length hx2; rw [List.length_range, List.length_append, List.length_cons] at this; omega
      have one : ∀ z : Nat, (⟨#[z]⟩ : Str).length = 1 := fun _ => rfl
      refine ⟨by rw [one]; omega, hN2 _ _ ⟨t ++ ⟨#[97 + q.toNat]⟩, by rw [len_app, one, ht, List.length_append]; rfl, fun z hz => ?_, rfl, _, rfl⟩⟩
      rw [cds_app] at hz
      rcases List.mem_append.mp hz with hz | hz
      · exact htc z hz
      · have hz : z ∈ [97 + q.toNat] := hz
        rw [List.mem_singleton] at hz
        omega
    · rintro τ M2 ⟨t, ht, htc, rfl, x7, rfl⟩
      walk_at "vc"
      have L := lens7
      have m := modB (a := c / 4) (b := 2) (by decide)
      have hcut : cutS (Str.ofString "zq") none (some (1 + c / 4 % 2)) = "z" ∨ cutS (Str.ofString "zq") none (some (1 + c / 4 % 2)) = "zq" := by
        generalize c / 4 % 2 = q at m
        have : q = 0 ∨ q = 1 := by omega
        rcases this with rfl | rfl
        · exact .inl (by decide +kernel)
        · exact .inr (by decide +kernel)
      have l1 : ("z" : Str).length = 1 ∧ cds ("z" : Str) = [122] ∧ cds ("zq" : Str) = [122, 113] := by decide +kernel
      have hys : ys.length < n := by have := congrArg List.length hx; rw [List.length_range, List.length_append, List.length_cons] at this; omega
      rw [List.length_range] at ht
      have hcl : (cutS (Str.ofString "zq") none (some (1 + c / 4 % 2))).length = 1 ∨ (cutS (Str.ofString "zq") none (some (1 + c / 4 % 2))).length = 2 := by
        rcases hcut with e | e <;> rw [e]
        · exact .inl l1.1
        · right; omega
      have hcc : ∀ z ∈ cds (cutS (Str.ofString "zq") none (some (1 + c / 4 % 2))), z = 122 ∨ z = 113 := fun z hz => by
        rcases hcut with e | e
        · rw [e, l1.2.1] at hz; exact .inl (List.mem_singleton.mp hz)
        · rw [e, l1.2.2] at hz; simpa using hz
      have hc1 : 122 ∈ cds (cutS (Str.ofString "zq") none (some (1 + c / 4 % 2))) := by
        rcases hcut with e | e
        · rw [e, l1.2.1]; simp
        · rw [e, l1.2.2]; simp
      generalize cutS (Str.ofString "zq") none (some (1 + c / 4 % 2)) = y at hcl hcc hc1
      refine ⟨wd60 (by decide) (by decide), by omega, by omega, by omega, hN _ _ ⟨nm ++ [t ++ y], by rw [List.length_append, List.length_append, hl]; rfl, fun x hx => ?_, by rw [List.map_append]; rfl, _, _, _, rfl⟩⟩
      rcases List.mem_append.mp hx with hx | hx
      · exact hnm x hx
      · rw [List.mem_singleton.mp hx]
        refine ⟨⟨by rw [len_app]; omega, by rw [len_app]; omega, fun z hz => ?_, by rw [cds_app]; exact List.mem_append_right _ hc1⟩, by rw [len_app]; omega⟩
        rw [cds_app] at hz
        rcases List.mem_append.mp hz with hz | hz
        · exact htc z hz
        · have := hcc z hz; omega
  · rintro τ M1 ⟨nm, hl, hnm, rfl, x5, x6, x7, rfl⟩
    walk_at "vc"
    exact ⟨_, _, ReR.made hp, h nm (by rw [hl, List.length_range]) hnm⟩
theorem at_good {ds : List D} {i : Int} {Q : VD} {M : MH} {p : Str → Prop} (h0 : 0 ≤ i) (h1 : i < ds.length) (hd : ∀ d ∈ ds, ∃ x, d = .str x ∧ p x) (h : ∀ x, p x → Q (.str x) M) : oSome (atI ds i) fun d => Q d M := by
  obtain ⟨d, e, hm⟩ := atI_ex h0 h1
  obtain ⟨x, rfl, hp⟩ := hd d hm
  rw [e, oSome_i]
  exact h x hp
def spPlain7 : SpT := fun ds M Q _ => ∃ (c : Int) (a : Str), ds = [.int c, .str a] ∧ okName a ∧ ∀ x, goodRow x → Q (.str x) M
theorem ok_l_plain (T : Tp K mg) : Fn P w K mg base CX0 1 "_law_plain" spPlain7 := by
  refine fn_top T.top 31 e_l_plain (m_l_plain T) sc_l_plain (by rintro _ M Q Et ⟨_, n, rfl, _⟩; rfl) (fun cdv A outer s H E hr => ⟨_, (qss_cons (qs_set (i := 2) sc_l_plain.nd (q_lst (qa_cons q_str (qa_cons (q_op oq_addS (q_op oq_addS q_str (qv 1)) q_str) (qa_cons q_str (qa_cons (q_op oq_addS (q_op oq_addS q_str (qv 1)) q_str) (qa_cons q_str (qa_cons q_str qa_nil))))))))
 (qss_cons (qs_set (i := 2) sc_l_plain.nd (q_op oq_catL (qv 2) (q_lst (qa_cons (q_op oq_addS q_str (qv 1)) (qa_cons (q_op oq_addS q_str (qv 1)) (qa_cons (q_op oq_addS (q_op oq_addS q_str (qv 1)) q_str) (qa_cons q_str qa_nil)))))))
 (qss_cons (qs_set (i := 2) sc_l_plain.nd (q_op oq_catL (qv 2) (q_lst (qa_cons (q_op oq_addS (q_op oq_addS q_str (qv 1)) q_str) (qa_cons (q_op oq_addS (q_op oq_addS (q_op oq_addS q_str (qv 1)) q_str) (qv 1)) qa_nil)))))
 (qss_one (qs_ret (q_ix (qv 2) (q_op oq_mod (qv 0) q_int))))))), ?_⟩) (fun _ _ _ _ _ _ us hl => match us, hl with | [_, _], _ => rfl)
  rintro _ M Q Et ⟨c, a, rfl, ha, h⟩
  walk_at "vc"
  have L := lens7
  have hal := ha.1.2.1
  simp only [len_app]
  have m := modB (a := c) (b := 12) (by decide)
  refine ⟨by omega, by omega, by omega, by omega, by omega, by omega, by omega, by omega, by omega, by omega, by omega, by omega, by omega, ?_⟩
  have rp := r_plain ha
  refine at_good (p := goodRow) m.1 (by show _ < (12 : Int); exact m.2) ?_ h
  simp only [List.forall_mem_cons, List.not_mem_nil, false_imp_iff, implies_true, and_true, D.str.injEq, exists_eq_left']
  simp only [List.forall_mem_cons, List.not_mem_nil, false_imp_iff, implies_true, and_true] at rp
  obtain ⟨r1, r2, r3, r4, r5, r6, r7, r8, r9⟩ := rp
  exact ⟨good_lits _ (by simp), r1, good_lits _ (by simp), r2, good_lits _ (by simp), good_lits _ (by simp), r3, r4, r5, good_lits _ (by simp), r6, r7⟩
def spCalled : SpT := fun ds M Q _ => ∃ (a f : Str) (z : Int) (m : Nat), ds = [.tup [.str f, .int z], .str a, .int (m : Nat)] ∧ okName a ∧ okName f ∧ m ≤ 6 ∧ ∀ x, goodRow x → Q (.str x) M
theorem ok_l_called (T : Tp K mg) : Fn P w K mg base CX0 1 "_law_called" spCalled := by
  refine fn_top T.top 32 e_l_called (m_l_called T) sc_l_called (by rintro _ M Q Et ⟨_, _, _, n, rfl, _⟩; rfl) (fun cdv A outer s H E hr => ⟨_, (qss_one (qs_ret (q_join q_str (q_op oq_catL (q_lst (qa_cons q_str (qa_cons (qv 1) (qa_cons (q_ix (qv 0) q_int) qa_nil)))) (q_op oq_rep (q_lst (qa_cons q_str qa_nil)) (qv 2)))))), ?_⟩) (fun _ _ _ _ _ _ us hl => match us, hl with | [_, _, _], _ => rfl)
  rintro _ M Q Et ⟨a, f, z, m, rfl, ha, hf, hm, h⟩
  walk_at "vc"
  have L := lens7
  have e : (List.replicate ((m : Nat) : Int).toNat [D.str (Str.ofString "7")]).flatten = (List.replicate m ("7" : Str)).map D.str := by
    rw [Int.toNat_natCast]
    simp
  rw [e]
  refine ⟨by omega, by simp; omega, [("call" : Str), a, f] ++ List.replicate m ("7" : Str), by simp, ?_, ?_⟩
  · have h1 := ha.1.2.1
    have h2 := hf.1.2.1
    simp only [List.map_append, List.sum_append, List.map_cons, List.sum_cons, List.length_append, List.length_cons, List.map_replicate, List.sum_replicate_nat, List.length_replicate, List.map_nil, List.sum_nil, List.length_nil]
    have : m * (Str.ofString "7").length ≤ 6 := by rw [show (Str.ofString "7").length = 1 by omega]; omega
    rw [show (Str.ofString " ").length = 1 by omega]
    omega
  · exact h _ (row_call ha hf hm)
end
end K07
namespace K07
open PySem PySem.Spec PyProof.Rows L2 Tl
section
variable {P : Program} {w : World} {K : PySem.W.Frag} {mg : Str → Option Value} {base : Heap}
def spNoLine : SpT := fun ds M Q _ => ∃ (c : Int) (nm : List Str), ds = [.int c, .lst (nm.map .str)] ∧ nm.length = 8 ∧ (∀ x ∈ nm, nameX x) ∧ ∀ x, badRow x → Q (.str x) M
theorem ok_l_no_line (T : Tp K mg) : Fn P w K mg base CX0 1 "_law_no_line" spNoLine := by
  refine fn_top T.top 34 e_l_no_line (m_l_no_line T) sc_l_no_line (by rintro _ M Q Et ⟨_, n, rfl, _⟩; rfl) (fun cdv A outer s H E hr => ⟨_, (qss_cons (qs_set (i := 2) sc_l_no_line.nd (q_ix (qv 1) q_int))
 (qss_cons (qs_set (i := 3) sc_l_no_line.nd (q_ix (qv 1) q_int))
 (qss_cons (qs_set (i := 4) sc_l_no_line.nd (q_lst (qa_cons q_str (qa_cons q_str (qa_cons q_str (qa_cons (q_op oq_addS q_str (qv 2)) (qa_cons (q_op oq_addS (q_op oq_addS q_str (qv 2)) q_str) (qa_cons q_str (qa_cons (q_op oq_addS (q_op oq_addS q_str (qv 2)) q_str) (qa_cons q_str qa_nil))))))))))
 (qss_cons (qs_set (i := 4) sc_l_no_line.nd (q_op oq_catL (qv 4) (q_lst (qa_cons q_str (qa_cons q_str (qa_cons q_str (qa_cons q_str (qa_cons q_str (qa_cons q_str (qa_cons q_str (qa_cons q_str (qa_cons (q_op oq_addS q_str (qv 2)) qa_nil))))))))))))
 (qss_cons (qs_set (i := 4) sc_l_no_line.nd (q_op oq_catL (qv 4) (q_lst (qa_cons (q_op oq_addS (q_op oq_addS (q_op oq_addS (q_op oq_addS q_str (qv 2)) q_str) (qv 3)) q_str) (qa_cons q_str (qa_cons (q_op oq_addS (q_op oq_addS q_str (qv 3)) q_str) (qa_cons q_str qa_nil)))))))
 (qss_cons (qs_set (i := 4) sc_l_no_line.nd (q_op oq_catL (qv 4) (q_lst (qa_cons q_str (qa_cons (q_op oq_addS (q_op oq_addS q_str (qv 2)) q_str) (qa_cons (q_op oq_addS (q_op oq_addS q_str (qv 2)) q_str) (qa_cons (q_op oq_addS (q_op oq_addS q_str (qv 2)) q_str) (qa_cons q_str qa_nil))))))))
 (qss_cons (qs_set (i := 4) sc_l_no_line.nd (q_op oq_catL (qv 4) (q_lst (qa_lits (ds := [.str " tell 0", .str "tell 0 ", .str "tell  0", .str "Tell 0", .str "tell -0", .str "tell 1234567890", .str "tell abcdefghi"]) rfl))))
 (qss_cons (qs_set (i := 4) sc_l_no_line.nd (q_op oq_catL (qv 4) (q_lst (qa_cons q_str (qa_cons q_str (qa_cons q_str (qa_cons q_str (qa_cons (q_op oq_addS (q_op oq_addS q_str (qv 3)) q_str) (qa_cons q_str qa_nil)))))))))
 (qss_cons (qs_set (i := 4) sc_l_no_line.nd (q_op oq_catL (qv 4) (q_lst (qa_cons (q_op oq_addS (q_op oq_addS q_str (qv 2)) q_str) (qa_cons (q_op oq_addS (q_op oq_addS q_str (qv 2)) q_str) (qa_cons (q_op oq_addS (q_op oq_addS q_str (qv 3)) q_str) qa_nil))))))
 (qss_one (qs_ret (q_ix (qv 4) (q_op oq_mod (qv 0) q_int))))))))))))), ?_⟩) (fun _ _ _ _ _ _ us hl => match us, hl with | [_, _], _ => rfl)
  rintro _ M Q Et ⟨c, nm, rfl, hl, hnm, h⟩
  obtain ⟨a, f, r, rfl⟩ : ∃ a f r, nm = a :: f :: r := match nm, hl with | a :: f :: r, _ => ⟨a, f, r, rfl⟩
  have ha := nameX_ok (hnm a (by simp))
  have hf := nameX_ok (hnm f (by simp))
  walk_at "vc"
  have L := lens7
  have h1 := ha.1.2.1
  have h2 := hf.1.2.1
  simp only [len_app]
  have m := modB (a := c) (b := 42) (by decide)
  refine ⟨by omega, by omega, by omega, by omega, by omega, by omega, by omega, by omega, by omega, by omega, by omega, by omega, by omega, by omega, by omega, by omega, by omega, by omega, by omega, by omega, by omega, by omega, by omega, by omega, by omega, by omega, ?_⟩
  have rb := r_bad ha hf
  refine at_good (p := badRow) m.1 (by show _ < (42 : Int); exact m.2) ?_ h
  simp only [List.forall_mem_cons, List.not_mem_nil, false_imp_iff, implies_true, and_true, D.str.injEq, exists_eq_left']
  simp only [List.forall_mem_cons, List.not_mem_nil, false_imp_iff, implies_true, and_true] at rb
  obtain ⟨r1, r2, r3, r4, r5, r6, r7, r8, r9, r10, r11, r12, r13⟩ := rb
  have bl := bad_lits
  simp only [List.forall_mem_cons, List.not_mem_nil, false_imp_iff, implies_true, and_true] at bl
  obtain ⟨b0, b1, b2, b3, b4, b5, b6, b7, b8, b9, b10, b11, b12, b13, b14, b15, b16, b17, b18, b19, b20, b21, b22, b23, b24, b25, b26, b27, b28⟩ := bl
  exact ⟨b0, b1, b2, r1, r2, b3, r3, b4, b5, b6, b7, b8, b9, b10, b11, b12, r4, r5, b13, r6, b14, b15, r7, r8, r9, b16, b17, b18, b19, b20, b21, b22, b23, b24, b25, b26, b27, r10, b28, r11, r12, r13⟩
def spInFront : SpT := fun ds M Q _ => ∃ (xs more : List Str) (c : Int) (b : Bool) (n : Nat), ds = [.lst (xs.map .str), .int c, .lst (more.map .str)] ∧ InvX xs b n ∧ n ≤ 4000 ∧ more.length ≤ 4000 ∧ (∀ x ∈ more, goodRow x) ∧ ∀ ys, InvX ys b (n + more.length) → Q (.lst (ys.map .str)) M
theorem ok_l_in_front (T : Tp K mg) : Fn P w K mg base CX0 1 "_law_in_front" spInFront := by
  refine fn_top T.top 35 e_l_in_front (m_l_in_front T) sc_l_in_front (by rintro _ M Q Et ⟨_, _, _, _, n, rfl, _⟩; rfl) (fun cdv A outer s H E hr => ⟨_, (qss_cons (qs_setLc (i := 3) (own := [(("_law_k" : Str), 5)]) (lv_lcF go_name) rfl sc_l_in_front.nd (qi_range1 (m_range T) (qa_cons (q_callB cq_len (m_len T) (by decide +kernel) (qa_cons (qv 0) qa_nil)) qa_nil)) (blkOk_by (N := nm_l_in_front) (sc := defScope s_l_in_front) (own := [(("_law_k" : Str), 5)]) (by decide +kernel)) (fun _ _ _ _ _ => (pg_name (i := 5) sc_l_in_front.nd rfl (Or.inl rfl))) (fun _ _ _ _ _ => (qts_one (qt_cmp oq_eq (q_sliceS (q_ix (qv 0) (qv 5)) qo_none (qo_some q_int)) q_str))) (fun _ _ _ _ _ => (qv 5)) (sw_true rfl rfl rfl (by decide +kernel)))
 (qss_cons (qs_set (i := 4) sc_l_in_front.nd (q_op oq_addI (q_ix (qv 3) (q_op oq_mod (qv 1) (q_callB cq_len (m_len T) (by decide +kernel) (qa_cons (qv 3) qa_nil)))) q_int))
 (qss_one (qs_ret (q_op oq_catL (q_op oq_catL (q_sliceL (qv 0) qo_none (qo_some (qv 4))) (qv 2)) (q_sliceL (qv 0) (qo_some (qv 4)) qo_none)))))), ?_⟩) (fun _ _ _ _ _ _ us hl => match us, hl with | [_, _, _], _ => rfl)
  rintro _ M Q Et ⟨xs, more, c, b, n, rfl, iv, hn, hm, hmg, h⟩
  have few := iv.few
  walk_at "vc"
  refine ⟨by omega, ?_⟩
  rw [Int.toNat_natCast]
  have hsh := iv.short
  refine lc_filter (List.range xs.length) (fun k => D.int (k : Nat)) (fun k => decide (isHd (xs.getD k ""))) (fun k => D.int (k : Nat)) rfl (by rw [List.length_range, sizeLine_eq]; omega) trivial (fun k R1 R0 hk h1 h0 => ?_) ?_
  · rw [List.mem_range] at hk
    walk_at "vc"
    rw [atI_nat (v := .str xs[k]) (by rw [List.getElem?_map, List.getElem?_eq_getElem hk]; rfl), oSome_i, oStr_i]
    have hk2 := hsh xs[k] (List.getElem_mem hk)
    have hg : xs.getD k (Str.ofString "") = xs[k] := by rw [List.getD_eq_getElem?_getD, List.getElem?_eq_getElem hk]; rfl
    rw [hg] at h1 h0
    refine ⟨by omega, ?_⟩
    split
    · rename_i hh
      exact h1 (decide_eq_true hh)
    · rename_i hh
      exact h0 (decide_eq_false hh)
  · rw [len_lst, oSome_i]
    have hpos : 0 < (List.filter (fun k => decide (isHd (xs.getD k (Str.ofString "")))) (List.range xs.length)).length := by
      obtain ⟨x, hx, hh⟩ := iv.head
      obtain ⟨k, hk, e⟩ := List.mem_iff_getElem.mp hx
      refine List.length_pos_of_mem (a := k) (List.mem_filter.mpr ⟨List.mem_range.mpr hk, ?_⟩)
      rw [List.getD_eq_getElem?_getD, List.getElem?_eq_getElem hk]
      exact decide_eq_true (by rw [← e] at hh; exact hh)
    rw [List.length_map]
    refine ⟨by omega, ?_⟩
    have m := modB (a := c) (b := ((List.filter (fun k => decide (isHd (xs.getD k (Str.ofString "")))) (List.range xs.length)).length : Int)) (by omega)
    walk_at "vc"
    refine at_some (p := fun d => ∃ k : Nat, d = .int k ∧ k < xs.length) m.1 (by rw [List.length_map (f := fun k : Nat => D.int (k : Nat))]; exact m.2) (fun d hd => ?_) ?_
    · obtain ⟨k, hk, rfl⟩ := List.mem_map.mp hd
      exact ⟨k, rfl, List.mem_range.mp (List.mem_filter.mp hk).1⟩
    · rintro _ ⟨k, rfl, hk⟩
      show oInt (.int k) _
      rw [oInt_i, show (k : Int) + 1 = ((k + 1 : Nat) : Int) by omega, cut_to, cut_fr, List.length_take, List.length_drop, List.length_map]
      refine ⟨by omega, by omega, ?_⟩
      have := h _ (iv.put (k + 1) hmg (Nat.le_refl _))
      rw [List.map_append, List.map_append, List.map_take, List.map_drop] at this
      exact this
def spRound : SpT := fun ds M Q _ => ∃ (x : Str) (c : Int), ds = [.str x, .int c] ∧ goodRow x ∧ ∀ ys : List Str, ys.length ≤ 6 → (∀ y ∈ ys, goodRow y) → Q (.lst (ys.map .str)) M
theorem ok_l_round (T : Tp K mg) : Fn P w K mg base CX0 1 "_law_round" spRound := by
  refine fn_top T.top 37 e_l_round (m_l_round T) sc_l_round (by rintro _ M Q Et ⟨_, n, rfl, _⟩; rfl) (fun cdv A outer s H E hr => ⟨_, (qss_one (qs_ret (q_ix (q_lst (qa_cons (q_lst (qa_cons (qv 0) qa_nil)) (qa_cons (q_lst (qa_cons q_str (qa_cons (qv 0) (qa_cons q_str qa_nil)))) (qa_cons (q_lst (qa_cons q_str (qa_cons q_str (qa_cons (qv 0) (qa_cons q_str qa_nil))))) (qa_cons (q_lst (qa_cons q_str (qa_cons (qv 0) (qa_cons q_str qa_nil)))) (qa_cons (q_lst (qa_cons q_str (qa_cons q_str (qa_cons q_str (qa_cons (qv 0) (qa_cons q_str (qa_cons q_str qa_nil))))))) qa_nil)))))) (q_op oq_mod (qv 1) q_int)))), ?_⟩) (fun _ _ _ _ _ _ us hl => match us, hl with | [_, _], _ => rfl)
  rintro _ M Q Et ⟨x, c, rfl, hx, h⟩
  walk_at "vc"
  have m := modB (a := c) (b := 5) (by decide)
  refine at_some (p := fun d => ∃ ys : List Str, d = .lst (ys.map .str) ∧ ys.length ≤ 6 ∧ ∀ y ∈ ys, goodRow y) m.1 (by show _ < (5 : Int); exact m.2) ?_ (by rintro _ ⟨ys, rfl, h6, hg⟩; exact h ys h6 hg)
  have gl := good_lits
  simp only [List.forall_mem_cons, List.not_mem_nil, false_imp_iff, implies_true, and_true]
  refine ⟨⟨[x], rfl, by simp, by simpa using hx⟩, ⟨["if 0", x, "end"], rfl, by simp, ?_⟩, ⟨["if lane", "else", x, "end"], rfl, by simp, ?_⟩, ⟨["while 0", x, "end"], rfl, by simp, ?_⟩, ⟨["while lane", "if 0", "else", x, "end", "end"], rfl, by simp, ?_⟩⟩
  · simp only [List.forall_mem_cons, List.not_mem_nil, false_imp_iff, implies_true, and_true]; exact ⟨gl _ (by simp), hx, gl _ (by simp)⟩
  · simp only [List.forall_mem_cons, List.not_mem_nil, false_imp_iff, implies_true, and_true]; exact ⟨gl _ (by simp), gl _ (by simp), hx, gl _ (by simp)⟩
  · simp only [List.forall_mem_cons, List.not_mem_nil, false_imp_iff, implies_true, and_true]; exact ⟨gl _ (by simp), hx, gl _ (by simp)⟩
  · simp only [List.forall_mem_cons, List.not_mem_nil, false_imp_iff, implies_true, and_true]; exact ⟨gl _ (by simp), gl _ (by simp), gl _ (by simp), hx, gl _ (by simp), gl _ (by simp)⟩
def spAlike : SpT := fun ds M Q _ => ∃ (c : Int) (nm : List Str), ds = [.int c, .lst (nm.map .str)] ∧ nm.length = 8 ∧ (∀ x ∈ nm, nameX x) ∧ ∀ ys : List Str, ys.length ≤ 6 → (∀ y ∈ ys, okName y) → Q (.lst (ys.map .str)) M
theorem ok_l_alike_names (T : Tp K mg) : Fn P w K mg base CX0 1 "_law_alike_names" spAlike := by
  refine fn_top T.top 38 e_l_alike_names (m_l_alike_names T) sc_l_alike_names (by rintro _ M Q Et ⟨_, n, rfl, _⟩; rfl) (fun cdv A outer s H E hr => ⟨_, (qss_cons (qs_set (i := 2) sc_l_alike_names.nd (q_sliceL (q_op oq_catL (q_sliceL (qv 1) qo_none (qo_some q_int)) (q_sliceL (qv 1) (qo_some q_int) (qo_some q_int))) qo_none (qo_some (q_op oq_addI q_int (q_op oq_mod (qv 0) q_int)))))
 (qss_cons (qs_set (i := 3) sc_l_alike_names.nd (q_op oq_mod (q_op oq_fdiv (qv 0) q_int) (q_op oq_addI (q_callB cq_len (m_len T) (by decide +kernel) (qa_cons (qv 2) qa_nil)) q_int)))
 (qss_one (qs_ret (q_op oq_catL (q_op oq_catL (q_sliceL (qv 2) qo_none (qo_some (qv 3))) (q_lst (qa_cons (q_ix (qv 2) (q_op oq_mod (q_op oq_fdiv (qv 0) q_int) (q_callB cq_len (m_len T) (by decide +kernel) (qa_cons (qv 2) qa_nil)))) qa_nil))) (q_sliceL (qv 2) (qo_some (qv 3)) qo_none)))))), ?_⟩) (fun _ _ _ _ _ _ us hl => match us, hl with | [_, _], _ => rfl)
  rintro _ M Q Et ⟨c, nm, rfl, hl, hnm, h⟩
  walk_at "vc"
  have m1 := modB (a := c) (b := 5) (by decide)
  obtain ⟨q, hq, hq5⟩ : ∃ q : Nat, c % 5 = (q : Int) ∧ q < 5 := ⟨(c % 5).toNat, by omega, by omega⟩
  rw [hq]
  have e4 : Tl.cutD (nm.map D.str) none (some 4) = (nm.take 4).map D.str := by rw [show (4 : Int) = ((4 : Nat) : Int) from rfl, cut_to, List.map_take]
  have e5 : Tl.cutD (nm.map D.str) (some 5) (some 7) = ((nm.take 7).drop 5).map D.str := by rw [show (5 : Int) = ((5 : Nat) : Int) from rfl, show (7 : Int) = ((7 : Nat) : Int) from rfl, cut_mid, List.map_drop, List.map_take]
  rw [e4, e5, ← List.map_append]
  have e6 : Tl.cutD ((nm.take 4 ++ (nm.take 7).drop 5).map D.str) none (some (1 + (q : Int))) = ((nm.take 4 ++ (nm.take 7).drop 5).take (1 + q)).map D.str := by rw [show 1 + (q : Int) = ((1 + q : Nat) : Int) by omega, cut_to, List.map_take]
  rw [e6]
  have hz : ∀ x ∈ (nm.take 4 ++ (nm.take 7).drop 5).take (1 + q), okName x := fun x hx => by
    have hx := List.mem_of_mem_take hx
    rcases List.mem_append.mp hx with hx | hx
    · exact nameX_ok (hnm x (List.mem_of_mem_take hx))
    · exact nameX_ok (hnm x (List.mem_of_mem_take (List.mem_of_mem_drop hx)))
  have hzl : ((nm.take 4 ++ (nm.take 7).drop 5).take (1 + q)).length = 1 + q := by
    rw [List.length_take, List.length_append, List.length_take, List.length_drop, List.length_take]; omega
  generalize (nm.take 4 ++ (nm.take 7).drop 5).take (1 + q) = zs at hz hzl
  simp only [List.length_map, hzl]
  have m2 := modB (a := c / 30) (b := ((1 + q : Nat) : Int)) (by omega)
  have m3 := modB (a := c / 5) (b := ((1 + q : Nat) : Int) + 1) (by omega)
  obtain ⟨j, hj⟩ : ∃ j : Nat, c / 5 % (((1 + q : Nat) : Int) + 1) = (j : Int) := ⟨(c / 5 % (((1 + q : Nat) : Int) + 1)).toNat, by omega⟩
  rw [hj, cut_to, cut_fr]
  refine ⟨by rw [List.length_take, List.length_drop, List.length_take]; omega, wd60 (by decide) (by decide), by omega, wd60 (by decide) (by decide), by omega, ?_⟩
  refine at_some (p := fun d => ∃ x : Str, d = .str x ∧ okName x) m2.1 (by rw [List.length_map, hzl]; exact m2.2) (fun d hd => ?_) ?_
  · obtain ⟨x, hx, rfl⟩ := List.mem_map.mp hd
    exact ⟨x, rfl, hz x hx⟩
  · rintro _ ⟨x, rfl, hx⟩
    refine ⟨by rw [List.length_take, List.length_map, hzl]; omega, by rw [List.length_take, List.length_drop, List.length_map, hzl]; omega, ?_⟩
    have := h (zs.take j ++ [x] ++ zs.drop j) (by rw [List.length_append, List.length_append, List.length_take, List.length_drop, hzl]; simp; omega) (fun y hy => by
      rcases List.mem_append.mp hy with hy | hy
      · rcases List.mem_append.mp hy with hy | hy
        · exact hz y (List.mem_of_mem_take hy)
        · rw [List.mem_singleton.mp hy]; exact hx
      · exact hz y (List.mem_of_mem_drop hy))
    rw [List.map_append, List.map_append, List.map_take, List.map_drop] at this
    exact this
end
end K07
namespace K07
open PySem PySem.Spec PyProof.Rows L2 Tl
section
variable {P : Program} {w : World} {K : PySem.W.Frag} {mg : Str → Option Value} {base : Heap}
theorem inF {xs more : List Str} {c : Int} {b : Bool} {n N : Nat} {M : MH} {Q : VD} {Et : XT} (iv : InvX xs b n) (hn : n ≤ 3000) (hm : more.length ≤ 300) (hg : ∀ x ∈ more, goodRow x) (hN : n + more.length ≤ N) (h : ∀ ys, InvX ys b N → Q (.lst (ys.map .str)) M) :
    spInFront [.lst (xs.map .str), .int c, .lst (more.map .str)] M Q Et := ⟨xs, more, c, b, n, rfl, iv, by omega, by omega, hg, fun ys iy => h ys (iy.mono hN)⟩
theorem ends_eq {k : Nat} {x : Str} : (List.replicate k [D.str x]).flatten = (List.replicate k x).map D.str := by simp
def spNestF : SpT := fun ds M Q _ => ∃ (xs nm : List Str) (c : Int) (b : Bool) (n : Nat), ds = [.lst (xs.map .str), .int c, .lst (nm.map .str)] ∧ InvX xs b n ∧ n ≤ 3000 ∧ nm.length = 8 ∧ (∀ x ∈ nm, nameX x) ∧ ∀ ys, InvX ys b (n + 20) → Q (.lst (ys.map .str)) M
theorem ok_l_nest_fault (T : Tp K mg) : Fn P w K mg base CX0 2 "_law_nest_fault" spNestF := by
  refine fn_top T.top 36 e_l_nest_fault (m_l_nest_fault T) sc_l_nest_fault (by rintro _ M Q Et ⟨_, _, _, _, n, rfl, _⟩; rfl) (fun cdv A outer s H E hr => ⟨_, (qss_cons (qs_set (i := 3) sc_l_nest_fault.nd (q_op oq_mod (qv 1) q_int))
 (qss_cons (qs_if (qt_cmp oq_eq (qv 3) q_int)
  (qss_cons (qs_set (i := 4) sc_l_nest_fault.nd (q_lst (qa_lits (ds := [.str "tell 0", .str "while 0", .str "else", .str "if 0", .str "break", .str "return 1", .str "meet", .str "set a 0", .str "put 0 5", .str "join a sum 0"]) rfl)))
 (qss_one (qs_ret (q_op oq_catL (q_op oq_catL (qv 0) (q_op oq_rep (q_lst (qa_cons q_str qa_nil)) (q_op oq_mod (q_op oq_fdiv (qv 1) q_int) q_int))) (q_lst (qa_cons (q_ix (qv 4) (q_op oq_mod (q_op oq_fdiv (qv 1) q_int) q_int)) qa_nil))))))
  qss_nil)
 (qss_cons (qs_if (qt_cmp oq_eq (qv 3) q_int)
  (qss_cons (qs_set (i := 4) sc_l_nest_fault.nd (q_lst (qa_lits (ds := [.str "tell 0", .str "end", .str "else", .str "while 0", .str "again", .str "stop", .str "set a 0", .str "put 0 5", .str "join a least 0"]) rfl)))
 (qss_one (qs_ret (q_op oq_catL (q_lst (qa_cons (q_ix (qv 4) (q_op oq_mod (q_op oq_fdiv (qv 1) q_int) q_int)) qa_nil)) (qv 0)))))
  qss_nil)
 (qss_cons (qs_if (qt_cmp oq_eq (qv 3) q_int)
  (qss_cons (qs_setLc (i := 5) (own := [(("_law_k" : Str), 6)]) (lv_lcF go_name) rfl sc_l_nest_fault.nd (qi_range1 (m_range T) (qa_cons (q_callB cq_len (m_len T) (by decide +kernel) (qa_cons (qv 0) qa_nil)) qa_nil)) (blkOk_by (N := nm_l_nest_fault) (sc := defScope s_l_nest_fault) (own := [(("_law_k" : Str), 6)]) (by decide +kernel)) (fun _ _ _ _ _ => (pg_name (i := 6) sc_l_nest_fault.nd rfl (Or.inl rfl))) (fun _ _ _ _ _ => (qts_one (qt_w (qw_or (qt_cmp oq_eq (q_ix (qv 0) (qv 6)) q_str) (qw_or1 (qt_cmp oq_eq (q_sliceS (q_ix (qv 0) (qv 6)) qo_none (qo_some q_int)) q_str)))))) (fun _ _ _ _ _ => (qv 6)) (sw_true rfl rfl rfl (by decide +kernel)))
 (qss_cons (qs_if (qt_cmp (oq_eqD (un64 hr)) (qv 5) (q_lst qa_nil))
  (qss_one (qs_ret (q_op oq_catL (qv 0) (q_lst (qa_cons q_str qa_nil)))))
  qss_nil)
 (qss_one (qs_ret (q_op oq_catL (q_op oq_catL (q_sliceL (qv 0) qo_none (qo_some (q_op oq_addI (q_ix (qv 5) q_int) q_int))) (q_lst (qa_cons q_str qa_nil))) (q_sliceL (qv 0) (qo_some (q_op oq_addI (q_ix (qv 5) q_int) q_int)) qo_none))))))
  qss_nil)
 (qss_cons (qs_if (qt_cmp oq_eq (qv 3) q_int)
  (qss_one (qs_ret (q_call (ok_l_in_front T) (hr.mono (by decide)) (qa_cons (qv 0) (qa_cons (q_op oq_fdiv (qv 1) q_int) (qa_cons (q_op oq_catL (q_op oq_catL (q_op oq_catL (q_lst (qa_cons q_str qa_nil)) (q_op oq_rep (q_lst (qa_cons q_str (qa_cons q_str qa_nil))) q_int)) (q_lst (qa_cons q_str qa_nil))) (q_op oq_rep (q_lst (qa_cons q_str qa_nil)) q_int)) qa_nil))))))
  qss_nil)
 (qss_cons (qs_if (qt_cmp oq_eq (qv 3) q_int)
  (qss_one (qs_ret (q_call (ok_l_in_front T) (hr.mono (by decide)) (qa_cons (qv 0) (qa_cons (q_op oq_fdiv (qv 1) q_int) (qa_cons (q_lst (qa_cons (q_ix (q_lst (qa_cons q_str (qa_cons q_str qa_nil))) (q_op oq_mod (q_op oq_fdiv (qv 1) q_int) q_int)) qa_nil)) qa_nil))))))
  qss_nil)
 (qss_cons (qs_set (i := 4) sc_l_nest_fault.nd (q_lst (qa_cons (q_lst (qa_cons (q_op oq_addS q_str (q_ix (qv 2) q_int)) qa_nil)) (qa_cons (q_lst (qa_cons q_str qa_nil)) (qa_cons (q_lst (qa_cons q_str qa_nil)) (qa_cons (q_lst (qa_cons q_str qa_nil)) (qa_cons (q_lst (qa_lits (ds := [.str "if 0", .str "else", .str "else", .str "end"]) rfl)) qa_nil)))))))
 (qss_cons (qs_set (i := 4) sc_l_nest_fault.nd (q_op oq_catL (qv 4) (q_lst (qa_cons (q_lst (qa_cons q_str (qa_cons q_str (qa_cons q_str qa_nil)))) (qa_cons (q_lst (qa_lits (ds := [.str "if 0", .str "while 0", .str "else", .str "end", .str "end"]) rfl)) qa_nil)))))
 (qss_one (qs_ret (q_call (ok_l_in_front T) (hr.mono (by decide)) (qa_cons (qv 0) (qa_cons (q_op oq_fdiv (qv 1) q_int) (qa_cons (q_ix (qv 4) (q_op oq_sub (qv 3) q_int)) qa_nil)))))))))))))), ?_⟩) (fun _ _ _ _ _ _ us hl => match us, hl with | [_, _, _], _ => rfl)
  rintro _ M Q Et ⟨xs, nm, c, b, n, rfl, iv, hn, hl, hnm, h⟩
  have few := iv.few
  have hsh := iv.short
  have gl := good_lits
  have L := lens7
  have dv : ∀ {j : Int}, 0 < j → j < 2 ^ 60 → CDivW c j := fun a b => wd60 a b
  walk_at "vc"
  split
  · have m := modB (a := c / 120) (b := 2) (by decide)
    have m2 := modB (a := c / 12) (b := 10) (by decide)
    obtain ⟨k, hk⟩ : ∃ k : Nat, c / 120 % 2 = (k : Int) := ⟨(c / 120 % 2).toNat, by omega⟩
    rw [hk, Int.toNat_natCast, ends_eq, List.length_map, List.length_replicate]
    refine ⟨wd60 (by decide) (by decide), by omega, by omega, wd60 (by decide) (by decide), ?_⟩
    refine at_some (p := fun d => ∃ x : Str, d = .str x ∧ goodRow x) m2.1 (by show _ < (10 : Int); exact m2.2) ?_ ?_
    · simp only [List.forall_mem_cons, List.not_mem_nil, false_imp_iff, implies_true, and_true, D.str.injEq, exists_eq_left']
      exact ⟨gl _ (by simp), gl _ (by simp), gl _ (by simp), gl _ (by simp), gl _ (by simp), gl _ (by simp), gl _ (by simp), gl _ (by simp), gl _ (by simp), gl _ (by simp)⟩
    · rintro _ ⟨x, rfl, hx⟩
      refine ⟨by omega, ?_⟩
      have := h _ (((iv.app (m := 1) (more := List.replicate k ("end" : Str)) (fun y hy => by rw [(List.mem_replicate.mp hy).2]; exact gl _ (by simp)) (by rw [List.length_replicate]; omega)).app (m := 1) (more := [x]) (fun y hy => by rw [List.mem_singleton.mp hy]; exact hx) (Nat.le_refl _)).mono (by omega))
      rw [List.map_append, List.map_append] at this
      exact this
  split
  · have m2 := modB (a := c / 12) (b := 9) (by decide)
    refine ⟨wd60 (by decide) (by decide), ?_⟩
    refine at_some (p := fun d => ∃ x : Str, d = .str x ∧ goodRow x) m2.1 (by show _ < (9 : Int); exact m2.2) ?_ ?_
    · simp only [List.forall_mem_cons, List.not_mem_nil, false_imp_iff, implies_true, and_true, D.str.injEq, exists_eq_left']
      exact ⟨gl _ (by simp), gl _ (by simp), gl _ (by simp), gl _ (by simp), gl _ (by simp), gl _ (by simp), gl _ (by simp), gl _ (by simp), gl _ (by simp)⟩
    · rintro _ ⟨x, rfl, hx⟩
      exact ⟨by omega, h (x :: xs) ((iv.cons hx).mono (by omega))⟩
  split
  · refine ⟨by omega, ?_⟩
    rw [Int.toNat_natCast]
    refine lc_filter (List.range xs.length) (fun k => D.int (k : Nat)) (fun k => decide (xs.getD k "" = "def main" ∨ cutS (xs.getD k "") none (some 9) = "def main ")) (fun k => D.int (k : Nat)) rfl (by rw [List.length_range, sizeLine_eq]; omega) trivial (fun k R1 R0 hk h1 h0 => ?_) ?_
    · rw [List.mem_range] at hk
      walk_at "vc"
      have hk2 := hsh xs[k] (List.getElem_mem hk)
      have hg : xs.getD k (Str.ofString "") = xs[k] := by rw [List.getD_eq_getElem?_getD, List.getElem?_eq_getElem hk]; rfl
      rw [hg] at h1 h0
      rw [atI_nat (v := .str xs[k]) (by rw [List.getElem?_map, List.getElem?_eq_getElem hk]; rfl)]
      walk_at "vc"
      by_cases e1 : xs[k] = Str.ofString "def main"
      · rw [if_pos e1]
        exact h1 (decide_eq_true (.inl e1))
      · rw [if_neg e1]
        refine ⟨by omega, ?_⟩
        by_cases e2 : cutS xs[k] none (some 9) = Str.ofString "def main "
        · rw [if_pos e2]
          exact h1 (decide_eq_true (.inr e2))
        · rw [if_neg e2]
          exact h0 (decide_eq_false (fun z => z.elim e1 e2))
    · have hL : ∀ k ∈ (List.range xs.length).filter (fun k => decide (xs.getD k (Str.ofString "") = Str.ofString "def main" ∨ cutS (xs.getD k (Str.ofString "")) none (some 9) = Str.ofString "def main ")), k < xs.length := fun k hk => List.mem_range.mp (List.mem_filter.mp hk).1
      generalize (List.range xs.length).filter (fun k => decide (xs.getD k (Str.ofString "") = Str.ofString "def main" ∨ cutS (xs.getD k (Str.ofString "")) none (some 9) = Str.ofString "def main ")) = ks at hL
      refine ints_emp ?_
      rw [oBl_i]
      cases ks with
      | nil =>
        rw [if_pos (show ([] : List Nat).isEmpty = true from rfl)]
        refine ⟨by omega, ?_⟩
        have := h _ ((iv.app (m := 1) (more := ["tell 0"]) (fun y hy => by rw [List.mem_singleton.mp hy]; exact gl _ (by simp)) (Nat.le_refl _)).mono (by omega))
        rw [List.map_append] at this
        exact this
      | cons k t =>
        have hk := hL k (List.mem_cons_self ..)
        rw [if_neg (show ¬ (k :: t).isEmpty = true from (by simp))]
        walk_at "vc"
        rw [show (k : Int) + 1 = ((k + 1 : Nat) : Int) by omega, cut_to, cut_fr, List.length_take, List.length_drop, List.length_map]
        refine ⟨by omega, by omega, ?_⟩
        have := h _ ((iv.put (m := 1) (more := ["return 0"]) (k + 1) (fun y hy => by rw [List.mem_singleton.mp hy]; exact gl _ (by simp)) (Nat.le_refl _)).mono (by omega))
        rw [List.map_append, List.map_append, List.map_take, List.map_drop] at this
        exact this
  split
  · refine ⟨wd60 (by decide) (by decide), by decide, by decide, by decide, ?_⟩
    refine inF (more := ["if 0", "while 0", "if lane", "while 0", "if lane", "if 0", "end", "end", "end", "end", "end", "end"]) iv hn (by simp) ?_ (by simp) h
    simp only [List.forall_mem_cons, List.not_mem_nil, false_imp_iff, implies_true, and_true]
    exact ⟨gl _ (by simp), gl _ (by simp), gl _ (by simp), gl _ (by simp), gl _ (by simp), gl _ (by simp), gl _ (by simp), gl _ (by simp), gl _ (by simp), gl _ (by simp), gl _ (by simp), gl _ (by simp)⟩
  split
  · have m2 := modB (a := c / 48) (b := 2) (by decide)
    refine ⟨wd60 (by decide) (by decide), wd60 (by decide) (by decide), ?_⟩
    refine at_some (p := fun d => ∃ x : Str, d = .str x ∧ goodRow x) m2.1 (by show _ < (2 : Int); exact m2.2) ?_ ?_
    · simp only [List.forall_mem_cons, List.not_mem_nil, false_imp_iff, implies_true, and_true, D.str.injEq, exists_eq_left']
      exact ⟨gl _ (by simp), gl _ (by simp)⟩
    · rintro _ ⟨x, rfl, hx⟩
      exact inF (more := [x]) iv hn (by simp) (fun y hy => by rw [List.mem_singleton.mp hy]; exact hx) (by simp) h
  · rename_i n0 n1 n2 n3 n4
    have m2 := modB (a := c) (b := 12) (by decide)
    have h3 : 3 < nm.length := by omega
    have hx := hnm nm[3] (List.getElem_mem h3)
    rw [show (3 : Int) = ((3 : Nat) : Int) from rfl, atI_nat (v := .str nm[3]) (by rw [List.getElem?_map, List.getElem?_eq_getElem h3]; rfl), oSome_i, oStr_i]
    have hxl := (nameX_ok hx).1.2.1
    refine ⟨by omega, wd60 (by decide) (by decide), ?_⟩
    have hd : goodRow (Str.ofString "def " ++ nm[3]) := row_of (l := .dff nm[3] []) (by simp only [cds_app]; kernel_rfl) ⟨nameX_ok hx, by simp, (fun p hp => by cases hp)⟩ trivial (Nat.le_of_ble_eq_true rfl)
    refine at_some (p := fun d => ∃ ys : List Str, d = .lst (ys.map .str) ∧ ys.length ≤ 6 ∧ ∀ y ∈ ys, goodRow y) (by omega) (by show _ < (7 : Int); omega) ?_ (by rintro _ ⟨ys, rfl, h6, hg⟩; exact inF iv hn (by omega) hg (by omega) h)
    generalize Str.ofString "def " ++ nm[3] = dx at hd
    simp only [List.forall_mem_cons, List.not_mem_nil, false_imp_iff, implies_true, and_true]
    refine ⟨⟨[dx], rfl, by simp, by simpa using hd⟩, ⟨["else"], rfl, by simp, ?_⟩, ⟨["break"], rfl, by simp, ?_⟩, ⟨["again"], rfl, by simp, ?_⟩, ⟨["if 0", "else", "else", "end"], rfl, by simp, ?_⟩, ⟨["while 0", "else", "end"], rfl, by simp, ?_⟩, ⟨["if 0", "while 0", "else", "end", "end"], rfl, by simp, ?_⟩⟩
    · simp only [List.forall_mem_cons, List.not_mem_nil, false_imp_iff, implies_true, and_true]; exact gl _ (by simp)
    · simp only [List.forall_mem_cons, List.not_mem_nil, false_imp_iff, implies_true, and_true]; exact gl _ (by simp)
    · simp only [List.forall_mem_cons, List.not_mem_nil, false_imp_iff, implies_true, and_true]; exact gl _ (by simp)
    · simp only [List.forall_mem_cons, List.not_mem_nil, false_imp_iff, implies_true, and_true]; exact ⟨gl _ (by simp), gl _ (by simp), gl _ (by simp), gl _ (by simp)⟩
    · simp only [List.forall_mem_cons, List.not_mem_nil, false_imp_iff, implies_true, and_true]; exact ⟨gl _ (by simp), gl _ (by simp), gl _ (by simp)⟩
    · simp only [List.forall_mem_cons, List.not_mem_nil, false_imp_iff, implies_true, and_true]; exact ⟨gl _ (by simp), gl _ (by simp), gl _ (by simp), gl _ (by simp), gl _ (by simp)⟩
def dfD (q : Str × Nat) : D := .tup [.str q.1, .int (q.2 : Nat)]
structure DefsOk (dv : List (Str × Nat)) : Prop where
  few : 1 ≤ dv.length ∧ dv.length ≤ 4
  ok : ∀ q ∈ dv, okName q.1 ∧ q.2 ≤ 3
def spNameF : SpT := fun ds M Q _ => ∃ (xs nm : List Str) (c : Int) (dv : List (Str × Nat)) (b : Bool) (n : Nat), ds = [.lst (xs.map .str), .int c, .lst (nm.map .str), .lst (dv.map dfD)] ∧ InvX xs b n ∧ n ≤ 3000 ∧ nm.length = 8 ∧ (∀ x ∈ nm, nameX x) ∧ DefsOk dv ∧ ∀ ys, InvX ys b (n + 20) → Q (.lst (ys.map .str)) M
theorem ok_l_name_fault (T : Tp K mg) : Fn P w K mg base CX0 2 "_law_name_fault" spNameF := by
  refine fn_top T.top 39 e_l_name_fault (m_l_name_fault T) sc_l_name_fault (by rintro _ M Q Et ⟨_, _, _, _, _, n, rfl, _⟩; rfl) (fun cdv A outer s H E hr => ⟨_, (qss_cons (qs_set (i := 4) sc_l_name_fault.nd (q_op oq_mod (qv 1) q_int))
 (qss_cons (qs_set (i := 5) sc_l_name_fault.nd (q_ix (qv 3) (q_op oq_mod (q_op oq_fdiv (qv 1) q_int) (q_callB cq_len (m_len T) (by decide +kernel) (qa_cons (qv 3) qa_nil)))))
 (qss_cons (qs_set (i := 6) sc_l_name_fault.nd (q_ix (qv 2) q_int))
 (qss_cons (qs_set (i := 7) sc_l_name_fault.nd (q_lst (qa_cons (q_op oq_addS (q_op oq_addS (q_op oq_addS q_str (qv 6)) q_str) (q_ix (qv 2) q_int)) (qa_cons (q_op oq_addS (q_op oq_addS q_str (qv 6)) q_str) (qa_cons (q_call (ok_l_called T) (hr.mono (by decide)) (qa_cons (qv 5) (qa_cons (qv 6) (qa_cons (q_op oq_addI (q_ix (qv 5) q_int) q_int) qa_nil)))) (qa_cons (q_call (ok_l_called T) (hr.mono (by decide)) (qa_cons (qv 5) (qa_cons (qv 6) (qa_cons (q_op oq_addI (q_op oq_sub (q_ix (qv 5) q_int) q_int) (q_op oq_mulS q_int (q_callTy cq_int (m_int T) (by decide +kernel) (qa_cons (q_cmp oq_eq (q_ix (qv 5) q_int) q_int) qa_nil)))) qa_nil)))) qa_nil))))))
 (qss_cons (qs_if (qt_cmp oq_lt (qv 4) q_int)
  (qss_one (qs_ret (q_call (ok_l_in_front T) (hr.mono (by decide)) (qa_cons (qv 0) (qa_cons (q_op oq_fdiv (qv 1) q_int) (qa_cons (q_call (ok_l_round T) (hr.mono (by decide)) (qa_cons (q_ix (qv 7) (qv 4)) (qa_cons (q_op oq_fdiv (qv 1) q_int) qa_nil))) qa_nil))))))
  qss_nil)
 (qss_cons (qs_set (i := 8) sc_l_name_fault.nd (q_op oq_catL (q_lc rfl sc_l_name_fault.nd (qi_range1 (m_range T) (qa_cons (q_callB cq_len (m_len T) (by decide +kernel) (qa_cons (qv 0) qa_nil)) qa_nil)) (blkOk_by (N := nm_l_name_fault) (sc := defScope s_l_name_fault) (own := [(("_law_k" : Str), 10)]) (by decide +kernel)) go_name (fun _ _ _ _ _ => (pg_name (i := 10) sc_l_name_fault.nd rfl (Or.inl rfl))) (fun _ _ _ _ _ => (qts_one (qt_cmp oq_eq (q_sliceS (q_ix (qv 0) (qv 10)) qo_none (qo_some q_int)) q_str))) (fun _ _ _ _ _ => (qv 10))) (q_lst (qa_cons (q_callB cq_len (m_len T) (by decide +kernel) (qa_cons (qv 0) qa_nil)) qa_nil))))
 (qss_cons (qs_set (i := 9) sc_l_name_fault.nd (q_ix (qv 8) (q_op oq_mod (q_op oq_fdiv (qv 1) q_int) (q_callB cq_len (m_len T) (by decide +kernel) (qa_cons (qv 8) qa_nil)))))
 (qss_cons (qs_if (qt_cmp oq_eq (qv 4) q_int)
  (qss_one (qs_ret (q_op oq_catL (q_op oq_catL (q_sliceL (qv 0) qo_none (qo_some (qv 9))) (q_lst (qa_cons (q_op oq_addS q_str (q_ix (qv 5) q_int)) (qa_cons q_str qa_nil)))) (q_sliceL (qv 0) (qo_some (qv 9)) qo_none))))
  qss_nil)
 (qss_cons (qs_if (qt_cmp oq_eq (qv 4) q_int)
  (qss_one (qs_ret (q_op oq_catL (q_op oq_catL (q_sliceL (qv 0) qo_none (qo_some (qv 9))) (q_lst (qa_cons (q_join q_str (q_op oq_catL (q_lst (qa_cons q_str (qa_cons (q_ix (qv 2) q_int) qa_nil))) (q_call (ok_l_alike_names T) (hr.mono (by decide)) (qa_cons (q_op oq_fdiv (qv 1) q_int) (qa_cons (qv 2) qa_nil))))) (qa_cons q_str qa_nil)))) (q_sliceL (qv 0) (qo_some (qv 9)) qo_none))))
  qss_nil)
 (qss_cons (qs_if (qt_cmp oq_eq (qv 4) q_int)
  (qss_one (qs_ret (q_lc rfl sc_l_name_fault.nd (qi_list (qv 0)) (blkOk_by (N := nm_l_name_fault) (sc := defScope s_l_name_fault) (own := [(("_law_row" : Str), 11)]) (by decide +kernel)) go_name (fun _ _ _ _ _ => (pg_name (i := 11) sc_l_name_fault.nd rfl (Or.inl rfl))) (fun _ _ _ _ _ => qts_nil) (fun _ _ _ _ _ => (q_ifE (qt_cmp oq_eq (qv 11) q_str) (q_op oq_addS (q_op oq_addS (qv 11) q_str) (qv 6)) (qv 11))))))
  qss_nil)
 (qss_one (qs_ret (q_lc rfl sc_l_name_fault.nd (qi_list (qv 0)) (blkOk_by (N := nm_l_name_fault) (sc := defScope s_l_name_fault) (own := [(("_law_row" : Str), 11)]) (by decide +kernel)) go_name (fun _ _ _ _ _ => (pg_name (i := 11) sc_l_name_fault.nd rfl (Or.inl rfl))) (fun _ _ _ _ _ => qts_nil) (fun _ _ _ _ _ => (q_ifE (qt_cmp oq_eq (qv 11) q_str) (q_op oq_addS q_str (q_ix (qv 2) q_int)) (qv 11)))))))))))))))), ?_⟩) (fun _ _ _ _ _ _ us hl => match us, hl with | [_, _, _, _], _ => rfl)
  rintro _ M Q Et ⟨xs, nm, c, dv, b, n, rfl, iv, hn, hl, hnm, hdv, h⟩
  have few := iv.few
  have hsh := iv.short
  have h0 : 0 < nm.length := by omega
  have h2 : 2 < nm.length := by omega
  have h4 : 4 < nm.length := by omega
  have a0 : atI (nm.map D.str) 0 = some (.str nm[0]) := atI_nat (j := 0) (by rw [List.getElem?_map, List.getElem?_eq_getElem h0]; rfl)
  have a2 : atI (nm.map D.str) 2 = some (.str nm[2]) := atI_nat (j := 2) (by rw [List.getElem?_map, List.getElem?_eq_getElem h2]; rfl)
  have a4 : atI (nm.map D.str) 4 = some (.str nm[4]) := atI_nat (j := 4) (by rw [List.getElem?_map, List.getElem?_eq_getElem h4]; rfl)
  have k0 := nameX_ok (hnm nm[0] (List.getElem_mem h0))
  have k2 := nameX_ok (hnm nm[2] (List.getElem_mem h2))
  have k4 := nameX_ok (hnm nm[4] (List.getElem_mem h4))
  have l0 := k0.1.2.1
  have l2 := k2.1.2.1
  have l4 := k4.1.2.1
  have m1 := modB (a := c / 8) (b := (dv.length : Int)) (by have := hdv.few.1; omega)
  have good1 : ∀ {x : Str} {m : Nat}, goodRow x → ∀ y ∈ [x], goodRow y := fun {x m} hx y hy => by rw [List.mem_singleton.mp hy]; exact hx
  have endg : goodRow "end" := good_lits _ (by simp)
  walk_at "vc"
  refine ⟨wd60 (by decide) (by decide), by have := hdv.few.1; omega, ?_⟩
  refine at_some (p := fun d => ∃ q : Str × Nat, d = dfD q ∧ okName q.1 ∧ q.2 ≤ 3) m1.1 (by rw [List.length_map]; exact m1.2) (fun d hd => ?_) ?_
  · obtain ⟨q, hq, rfl⟩ := List.mem_map.mp hd
    exact ⟨q, rfl, hdv.ok q hq⟩
  rintro _ ⟨q, rfl, hq1, hq2⟩
  rw [a0, a2]
  unfold dfD
  walk_at "vc"
  have L := lens7
  simp only [len_app]
  refine ⟨by omega, by omega, by omega, by omega, by omega, nm[0], q.1, q.2, q.2 + 1, rfl, k0, hq1, by omega, fun x1 hx1 => ?_⟩
  have l9 := hq1.1.2.1
  have hm2 : (q.2 : Int) - 1 + 4 * (if (q.2 : Int) = 0 then 1 else 0) = (((if q.2 = 0 then 3 else q.2 - 1 : Nat)) : Int) := by
    by_cases z : q.2 = 0
    · rw [if_pos z, if_pos (by omega), z]; decide
    · rw [if_neg z, if_neg (by omega)]; omega
  walk_at "vc"
  refine ⟨ms_l (by omega), ?_⟩
  rw [hm2]
  refine ⟨nm[0], q.1, q.2, if q.2 = 0 then 3 else q.2 - 1, rfl, k0, hq1, by split <;> omega, fun x2 hx2 => ?_⟩
  walk_at "vc"
  have hc1 : goodRow (Str.ofString "call " ++ nm[0] ++ Str.ofString " " ++ nm[2]) := row_of (l := .pln (.call 0 nm[0] nm[2] [])) (by simp only [cds_app, List.append_assoc]; kernel_rfl) ⟨k0, k2, by decide, (fun e he => by cases he)⟩ (fun e he => by cases he) (Nat.le_of_ble_eq_true rfl)
  have hc2 : goodRow (Str.ofString "call " ++ nm[0] ++ Str.ofString " main") := by
    have rp := r_plain k0
    simp only [List.forall_mem_cons, List.not_mem_nil, false_imp_iff, implies_true, and_true] at rp
    exact rp.2.2.2.2.2.2.2.2
  generalize Str.ofString "call " ++ nm[0] ++ Str.ofString " " ++ nm[2] = y1 at hc1
  generalize Str.ofString "call " ++ nm[0] ++ Str.ofString " main" = y2 at hc2
  have m8 := modB (a := c) (b := 8) (by decide)
  split
  · rename_i h4
    refine ⟨wd60 (by decide) (by decide), ?_⟩
    refine at_some (p := fun d => ∃ x : Str, d = .str x ∧ goodRow x) m8.1 (by show _ < (4 : Int); exact h4) ?_ ?_
    · simp only [List.forall_mem_cons, List.not_mem_nil, false_imp_iff, implies_true, and_true, D.str.injEq, exists_eq_left']
      exact ⟨hc1, hc2, hx1, hx2⟩
    · rintro _ ⟨x, rfl, hx⟩
      refine ⟨wd60 (by decide) (by decide), x, _, rfl, hx, fun ys hyl hyg => ?_⟩
      exact inF iv hn (by omega) hyg (by omega) h
  refine ⟨by omega, ?_⟩
  rw [Int.toNat_natCast]
  refine lc_filter (List.range xs.length) (fun k => D.int (k : Nat)) (fun k => decide (isHd (xs.getD k ""))) (fun k => D.int (k : Nat)) rfl (by rw [List.length_range, sizeLine_eq]; omega) trivial (fun k R1 R0 hk h1 h0 => ?_) ?_
  · rw [List.mem_range] at hk
    walk_at "vc"
    rw [atI_nat (v := .str xs[k]) (by rw [List.getElem?_map, List.getElem?_eq_getElem hk]; rfl), oSome_i, oStr_i]
    have hk2 := hsh xs[k] (List.getElem_mem hk)
    have hg : xs.getD k (Str.ofString "") = xs[k] := by rw [List.getD_eq_getElem?_getD, List.getElem?_eq_getElem hk]; rfl
    rw [hg] at h1 h0
    refine ⟨by omega, ?_⟩
    split
    · rename_i hh
      exact h1 (decide_eq_true hh)
    · rename_i hh
      exact h0 (decide_eq_false hh)
  have hL : ∀ k ∈ (List.range xs.length).filter (fun k => decide (isHd (xs.getD k (Str.ofString "")))), k ≤ xs.length := fun k hk => Nat.le_of_lt (List.mem_range.mp (List.mem_filter.mp hk).1)
  have hLl : ((List.range xs.length).filter (fun k => decide (isHd (xs.getD k (Str.ofString ""))))).length ≤ xs.length := Nat.le_trans (List.length_filter_le _ _) (by rw [List.length_range]; exact Nat.le_refl _)
  generalize (List.range xs.length).filter (fun k => decide (isHd (xs.getD k (Str.ofString "")))) = ks at hL hLl
  rw [lstOf_l, oSome_i, List.length_map]
  have m9 := modB (a := c / 32) (b := ((ks.length + 1 : Nat) : Int)) (by omega)
  refine ⟨by omega, wd60 (by decide) (by decide), by omega, ?_⟩
  refine at_some (p := fun d => ∃ k : Nat, d = .int k ∧ k ≤ xs.length) m9.1 (by rw [List.length_append, List.length_map]; exact m9.2) (fun d hd => ?_) ?_
  · rcases List.mem_append.mp hd with hd | hd
    · obtain ⟨k, hk, rfl⟩ := List.mem_map.mp hd
      exact ⟨k, rfl, hL k hk⟩
    · exact ⟨xs.length, List.mem_singleton.mp hd, Nat.le_refl _⟩
  rintro _ ⟨k, rfl, hk⟩
  have rd := row_def (x := q.1) (ps := []) hq1 (fun p hp => by cases hp) (by simp)
  have dtx : ∀ x : Str, Str.ofString "def " ++ x = Txt.join blank ["def", x] := fun x => by
    rw [join_cons (by simp), tjoin_one]
    rw [show (Str.ofString "def " : Str) = "def" ++ blank from by decide +kernel]
  split
  · walk_at "vc"
    rw [cut_to, cut_fr, List.length_take, List.length_drop, List.length_map]
    refine ⟨by omega, by omega, by omega, ?_⟩
    rw [dtx]
    have := h _ ((iv.put (m := 2) (more := [Txt.join blank ["def", q.1], "end"]) k (by simp only [List.forall_mem_cons, List.not_mem_nil, false_imp_iff, implies_true, and_true]; exact ⟨rd.1, endg⟩) (Nat.le_refl _)).mono (by omega))
    rw [List.map_append, List.map_append, List.map_take, List.map_drop] at this
    exact this
  split
  · walk_at "vc"
    rw [cut_to, cut_fr, List.length_take, List.length_drop, List.length_map]
    rw [a4, oSome_i]
    refine ⟨wd60 (by decide) (by decide), _, nm, rfl, hl, hnm, fun ys hyl hyo => ?_⟩
    dsimp only
    rw [lstOf_l, oSome_i, List.length_map]
    have rd2 := row_def (x := nm[4]) (ps := ys) k4 hyo hyl
    have hsum := sum_le_mul (k := 8) (ws := ys) fun z hz => (hyo z hz).1.2.1
    refine ⟨by omega, "def" :: nm[4] :: ys, rfl, ?_, by omega, by omega, ?_⟩
    · simp only [List.map_cons, List.sum_cons, List.length_cons]
      rw [show (Str.ofString " ").length = 1 by omega]
      omega
    · have := h _ ((iv.put (m := 2) (more := [Txt.join blank ("def" :: nm[4] :: ys), "end"]) k (by simp only [List.forall_mem_cons, List.not_mem_nil, false_imp_iff, implies_true, and_true]; exact ⟨rd2.1, endg⟩) (Nat.le_refl _)).mono (by omega))
      rw [List.map_append, List.map_append, List.map_take, List.map_drop] at this
      exact this
  have ren : ∀ {z : Str}, goodRow z → isHd z → Q (.lst (xs.map fun (x : Str) => D.str (if x = ("def main" : Str) then z else x))) M := fun {z} g1 g2 => by
    have := h _ ((iv.ren g1 g2).mono (by omega))
    rw [List.map_map] at this
    exact this
  have lr : Str.ofString "def main" ++ Str.ofString " " = ("def main " : Str) := by decide +kernel
  split
  · have rm := row_def (x := "main") (ps := [nm[0]]) (by decide +kernel) (fun p hp => by rw [List.mem_singleton.mp hp]; exact k0) (by simp)
    refine lc_map xs D.str (fun (x : Str) => D.str (if x = ("def main" : Str) then Txt.join blank ["def", "main", nm[0]] else x)) rfl (by rw [sizeLine_eq]; omega) trivial (fun x R1 R0 hx h1 => ?_) (ren rm.1 rm.2)
    walk_at "vc"
    have hxl := hsh x hx
    by_cases e : x = Str.ofString "def main"
    · rw [if_pos e]
      rw [if_pos e] at h1
      rw [e, len_app]
      rw [show Str.ofString "def main" ++ Str.ofString " " ++ nm[0] = Txt.join blank ["def", "main", nm[0]] from by
        rw [join_cons (by simp), join_cons (by simp), tjoin_one, ← str_assoc, ← str_assoc]
        rw [show (("def" : Str) ++ blank ++ "main" ++ blank) = Str.ofString "def main" ++ Str.ofString " " from by decide +kernel]]
      have lm : (Str.ofString "def main").length = 8 := by decide +kernel
      exact ⟨by omega, by omega, h1⟩
    · rw [if_neg e]
      rw [if_neg e] at h1
      exact h1
  · have rm := row_def (x := nm[4]) (ps := []) k4 (fun p hp => by cases hp) (by simp)
    refine lc_map xs D.str (fun (x : Str) => D.str (if x = ("def main" : Str) then Txt.join blank ["def", nm[4]] else x)) rfl (by rw [sizeLine_eq]; omega) trivial (fun x R1 R0 hx h1 => ?_) (ren rm.1 rm.2)
    walk_at "vc"
    by_cases e : x = Str.ofString "def main"
    · rw [if_pos e]
      rw [if_pos e] at h1
      rw [a4]
      walk_at "vc"
      rw [dtx]
      exact ⟨by omega, h1⟩
    · rw [if_neg e]
      rw [if_neg e] at h1
      exact h1
def spFilled : SpT := fun ds M Q _ => ∃ (xs : List Str) (c : Int) (b : Bool) (n : Nat), ds = [.lst (xs.map .str), .int c] ∧ InvX xs b n ∧ n ≤ 2000 ∧ ∀ ys, InvX ys b (n + 210) → Q (.lst (ys.map .str)) M
theorem ok_l_filled (T : Tp K mg) : Fn P w K mg base CX0 2 "_law_filled" spFilled := by
  refine fn_top T.top 40 e_l_filled (m_l_filled T) sc_l_filled (by rintro _ M Q Et ⟨_, _, _, n, rfl, _⟩; rfl) (fun cdv A outer s H E hr => ⟨_, (qss_cons (qs_if (qt_cmp oq_eq (q_op oq_mod (qv 1) q_int) q_int)
  (qss_one (qs_ret (qv 0)))
  qss_nil)
 (qss_one (qs_ret (q_call (ok_l_in_front T) (hr.mono (by decide)) (qa_cons (qv 0) (qa_cons (q_op oq_fdiv (qv 1) q_int) (qa_cons (q_op oq_repN (q_lst (qa_cons q_str qa_nil)) (q_op oq_sub (q_op oq_addI q_int (q_op oq_mod (q_op oq_fdiv (qv 1) q_int) q_int)) (q_callB cq_len (m_len T) (by decide +kernel) (qa_cons (qv 0) qa_nil)))) qa_nil))))))), ?_⟩) (fun _ _ _ _ _ _ us hl => match us, hl with | [_, _], _ => rfl)
  rintro _ M Q Et ⟨xs, c, b, n, rfl, iv, hn, h⟩
  have few := iv.few
  walk_at "vc"
  split
  · exact h xs (iv.mono (by omega))
  have m := modB (a := c / 8) (b := 4) (by decide)
  refine ⟨wd60 (by decide) (by decide), wd60 (by decide) (by decide), ?_⟩
  rw [uRepN]
  refine ⟨⟨by omega, by omega, by decide⟩, ?_⟩
  rw [ends_eq]
  exact inF iv (by omega) (by rw [List.length_replicate]; omega) (fun y hy => by rw [(List.mem_replicate.mp hy).2]; exact good_lits _ (by simp)) (by rw [List.length_replicate]; omega) h
end
end K07
namespace K07
open PySem PySem.Spec PyProof.Rows L2 Tl
section
variable {P : Program} {w : World} {K : PySem.W.Frag} {mg : Str → Option Value} {base : Heap}
def spSpoilt : SpT := fun ds M Q _ => ∃ (xs nm : List Str) (c : Int) (dv : List (Str × Nat)) (b : Bool) (n : Nat), ds = [.lst (xs.map .str), .int c, .lst (nm.map .str), .lst (dv.map dfD)] ∧ InvX xs b n ∧ n ≤ 3000 ∧ nm.length = 8 ∧ (∀ x ∈ nm, nameX x) ∧ DefsOk dv ∧
  ∀ (k : Str) ys, k ∈ (["line", "nest", "name", ""] : List Str) → InvX ys (b || decide (k = "line")) (n + 20) → Q (.tup [.str k, .lst (ys.map .str)]) M
theorem ok_l_spoilt (T : Tp K mg) : Fn P w K mg base CX0 3 "_law_spoilt" spSpoilt := by
  refine fn_top T.top 41 e_l_spoilt (m_l_spoilt T) sc_l_spoilt (by rintro _ M Q Et ⟨_, _, _, _, _, n, rfl, _⟩; rfl) (fun cdv A outer s H E hr => ⟨_, (qss_cons (qs_set (i := 4) sc_l_spoilt.nd (q_op oq_mod (qv 1) q_int))
 (qss_cons (qs_if (qt_cmp oq_eq (qv 4) q_int)
  (qss_cons (qs_set (i := 5) sc_l_spoilt.nd (q_op oq_mod (q_op oq_fdiv (qv 1) q_int) (q_op oq_addI (q_callB cq_len (m_len T) (by decide +kernel) (qa_cons (qv 0) qa_nil)) q_int)))
 (qss_one (qs_ret (q_tup (qa_cons q_str (qa_cons (q_op oq_catL (q_op oq_catL (q_sliceL (qv 0) qo_none (qo_some (qv 5))) (q_lst (qa_cons (q_call (ok_l_no_line T) (hr.mono (by decide)) (qa_cons (q_op oq_fdiv (qv 1) q_int) (qa_cons (qv 2) qa_nil))) qa_nil))) (q_sliceL (qv 0) (qo_some (qv 5)) qo_none)) qa_nil))))))
  qss_nil)
 (qss_cons (qs_if (qt_cmp oq_eq (qv 4) q_int)
  (qss_one (qs_ret (q_tup (qa_cons q_str (qa_cons (q_call (ok_l_nest_fault T) (hr.mono (by decide)) (qa_cons (qv 0) (qa_cons (q_op oq_fdiv (qv 1) q_int) (qa_cons (qv 2) qa_nil)))) qa_nil)))))
  qss_nil)
 (qss_cons (qs_if (qt_cmp oq_eq (qv 4) q_int)
  (qss_one (qs_ret (q_tup (qa_cons q_str (qa_cons (q_call (ok_l_name_fault T) (hr.mono (by decide)) (qa_cons (qv 0) (qa_cons (q_op oq_fdiv (qv 1) q_int) (qa_cons (qv 2) (qa_cons (qv 3) qa_nil))))) qa_nil)))))
  qss_nil)
 (qss_cons (qs_set (i := 6) sc_l_spoilt.nd (q_op oq_catL (q_lst (qa_cons q_str (qa_cons q_str (qa_cons (q_op oq_addS q_str (q_ix (qv 2) q_int)) (qa_cons q_str (qa_cons q_str (qa_cons q_str (qa_cons q_str qa_nil)))))))) (q_op oq_rep (q_lst (qa_cons q_str qa_nil)) q_int)))
 (qss_one (qs_ret (q_tup (qa_cons q_str (qa_cons (q_call (ok_l_in_front T) (hr.mono (by decide)) (qa_cons (qv 0) (qa_cons (q_op oq_fdiv (qv 1) q_int) (qa_cons (qv 6) qa_nil)))) qa_nil)))))))))), ?_⟩) (fun _ _ _ _ _ _ us hl => match us, hl with | [_, _, _, _], _ => rfl)
  rintro _ M Q Et ⟨xs, nm, c, dv, b, n, rfl, iv, hn, hl, hnm, hdv, h⟩
  have few := iv.few
  have L := lens7
  have h0 : 0 < nm.length := by omega
  have a0 : atI (nm.map D.str) 0 = some (.str nm[0]) := atI_nat (j := 0) (by rw [List.getElem?_map, List.getElem?_eq_getElem h0]; rfl)
  have k0 := nameX_ok (hnm nm[0] (List.getElem_mem h0))
  have l0 := k0.1.2.1
  have kl : ∀ k ∈ (["nest", "name", ""] : List Str), (b || decide (k = ("line" : Str))) = b := fun k hk => by
    have : ∀ k ∈ (["nest", "name", ""] : List Str), decide (k = ("line" : Str)) = false := by decide +kernel
    rw [this k hk, Bool.or_false]
  walk_at "vc"
  split
  · have m := modB (a := c / 168) (b := (xs.length : Int) + 1) (by omega)
    obtain ⟨j, hj⟩ : ∃ j : Nat, c / 168 % ((xs.length : Int) + 1) = (j : Int) := ⟨(c / 168 % ((xs.length : Int) + 1)).toNat, by omega⟩
    rw [hj, cut_to, cut_fr, List.length_take, List.length_drop, List.length_map]
    refine ⟨wd60 (by decide) (by decide), by omega, wd60 (by decide) (by decide), _, nm, rfl, hl, hnm, fun x hx => ⟨by omega, by omega, ?_⟩⟩
    have := h "line" _ (by simp) ((show InvX _ (b || decide (("line" : Str) = "line")) (n + 1) from by rw [decide_eq_true rfl, Bool.or_true]; exact iv.spoil j hx).mono (by omega))
    rw [List.map_append, List.map_append, List.map_take, List.map_drop] at this
    exact this
  split
  · refine ⟨wd60 (by decide) (by decide), xs, nm, _, b, n, rfl, iv, hn, hl, hnm, fun ys iy => ?_⟩
    exact h "nest" ys (by simp) (by rw [kl _ (by simp)]; exact iy)
  split
  · refine ⟨wd60 (by decide) (by decide), xs, nm, _, dv, b, n, rfl, iv, hn, hl, hnm, hdv, fun ys iy => ?_⟩
    exact h "name" ys (by simp) (by rw [kl _ (by simp)]; exact iy)
  · rw [a0, oSome_i, oStr_i]
    refine ⟨by omega, by decide, wd60 (by decide) (by decide), ?_⟩
    have gl := good_lits
    have ri : goodRow (Str.ofString "if " ++ nm[0]) := by
      have rp := r_plain k0
      simp only [List.forall_mem_cons, List.not_mem_nil, false_imp_iff, implies_true, and_true] at rp
      exact rp.2.2.2.2.2.2.2.1
    refine inF (more := ["if 0", "while lane", Str.ofString "if " ++ nm[0], "if 1", "else", "while 0", "break", "end", "end", "end", "end", "end"]) iv hn (by simp) ?_ (N := n + 20) (by simp) (fun ys iy => h "" ys (by simp) (by rw [kl _ (by simp)]; exact iy))
    generalize Str.ofString "if " ++ nm[0] = y at ri
    simp only [List.forall_mem_cons, List.not_mem_nil, false_imp_iff, implies_true, and_true]
    exact ⟨gl _ (by simp), gl _ (by simp), ri, gl _ (by simp), gl _ (by simp), gl _ (by simp), gl _ (by simp), gl _ (by simp), gl _ (by simp), gl _ (by simp), gl _ (by simp), gl _ (by simp)⟩
structure WT (M : MH) (ys : List Str) (p : Addr) (M1 : MH) : Prop where
  new : M p = none
  ext : Ext M M1
  at_ : M1 p = some (.lst (ys.map .str))
theorem WT.put {M M1 : MH} {ys zs : List Str} {p : Addr} (h : WT M ys p M1) : WT M zs p (mup M1 p (.lst (zs.map .str))) := by
  refine ⟨h.new, fun a o e => ?_, mup_same⟩
  rw [mup_ne (fun z => by rw [z, h.new] at e; cases e)]
  exact h.ext a o e
theorem WT.mk_ {M M1 : MH} {ys zs : List Str} {p q : Addr} (h : WT M ys p M1) (hq : M1 q = none) : WT M zs q (mup M1 q (.lst (zs.map .str))) := by
  refine ⟨?_, fun a o e => ?_, mup_same⟩
  · cases e : M q with
    | none => rfl
    | some o => have := h.ext q o e; rw [hq] at this; cases this
  · have := h.ext a o e
    rw [mup_ne (fun z => by rw [z, hq] at this; cases this)]
    exact this
def spText : SpT := fun ds M Q _ => ∃ (ns : List Int) (nm : List Str) (dv : List (Str × Nat)), ds = [.scr (ns.map .int), .lst (nm.map .str), .lst (dv.map dfD)] ∧ ns.length ≤ 63 ∧ nm.length = 8 ∧ (∀ x ∈ nm, nameX x) ∧ DefsOk dv ∧ ∀ ys M', Ext M M' → InvX ys false 1000 → Q (.lst (ys.map .str)) M'
theorem ok_l_text (T : Tp K mg) : Fn P w K mg base CX0 2 "_law_text" spText := by
  refine fn_top T.top 33 e_l_text (m_l_text T) sc_l_text (by rintro _ M Q Et ⟨_, _, n, rfl, _⟩; rfl) (fun cdv A outer s H E hr => ⟨_, (qss_cons (qs_set (i := 3) sc_l_text.nd (q_lstM qa_nil))
 (qss_cons (qs_for PassesOwn.never rfl (qi_range1 (m_range T) (qa_cons (q_callB cq_len (m_len T) (by decide +kernel) (qa_cons (qv 2) qa_nil)) qa_nil)) (qg_name (i := 4) sc_l_text.nd)
  (qss_cons (qs_expr (q_append (qv 3) (qa_cons (q_join q_str (q_op oq_catL (q_op oq_catL (q_lst (qa_cons q_str qa_nil)) (q_lst (qa_cons (q_ix (q_ix (qv 2) (qv 4)) q_int) qa_nil))) (q_sliceL (qv 1) (qo_some q_int) (qo_some (q_op oq_addI q_int (q_ix (q_ix (qv 2) (qv 4)) q_int)))))) qa_nil)))
 (qss_cons (qs_for PassesOwn.never rfl (qi_range3 (m_range T) (qa_cons (q_op oq_addI q_int (qv 4)) (qa_cons (q_callB (cq_min2 rfl) (m_min T) (by decide +kernel) (qa_cons q_int (qa_cons (q_callB cq_len (m_len T) (by decide +kernel) (qa_cons (qv 0) qa_nil)) qa_nil))) (qa_cons (q_callB cq_len (m_len T) (by decide +kernel) (qa_cons (qv 2) qa_nil)) qa_nil)))) (qg_name (i := 5) sc_l_text.nd)
  (qss_cons (qs_set (i := 6) sc_l_text.nd (q_call (ok_l_mixed T) (hr.mono (by decide)) (qa_cons (q_ix (qv 0) (qv 5)) (qa_cons (qv 5) qa_nil))))
 (qss_cons (qs_set (i := 7) sc_l_text.nd (q_ix (qv 2) (q_op oq_mod (q_op oq_fdiv (qv 6) q_int) (q_callB cq_len (m_len T) (by decide +kernel) (qa_cons (qv 2) qa_nil)))))
 (qss_one (qs_if (qt_w (qw_and (qt_cmp oq_eq (q_op oq_mod (qv 6) q_int) q_int) (qw_and1 (qt_cmp oq_ne (q_ix (qv 7) q_int) q_str))))
  (qss_one (qs_expr (q_append (qv 3) (qa_cons (q_call (ok_l_called T) (hr.mono (by decide)) (qa_cons (qv 7) (qa_cons (q_ix (qv 1) q_int) (qa_cons (q_ix (qv 7) q_int) qa_nil)))) qa_nil))))
  (qss_one (qs_if (qt_cmp oq_eq (q_op oq_mod (qv 6) q_int) q_int)
  (qss_one (qs_set (i := 3) sc_l_text.nd (q_op oq_catM (qv 3) (q_lst (qa_cons (q_op oq_addS q_str (q_ix (qv 1) q_int)) (qa_cons (q_call (ok_l_plain T) (hr.mono (by decide)) (qa_cons (q_op oq_fdiv (qv 6) q_int) (qa_cons (q_ix (qv 1) q_int) qa_nil))) (qa_cons q_str (qa_cons q_str qa_nil))))))))
  (qss_one (qs_if (qt_cmp oq_eq (q_op oq_mod (qv 6) q_int) q_int)
  (qss_one (qs_set (i := 3) sc_l_text.nd (q_op oq_catM (qv 3) (q_lst (qa_cons q_str (qa_cons (q_ix (q_lst (qa_cons q_str (qa_cons q_str (qa_cons q_str qa_nil)))) (q_op oq_mod (q_op oq_fdiv (qv 6) q_int) q_int)) (qa_cons q_str qa_nil)))))))
  (qss_one (qs_expr (q_append (qv 3) (qa_cons (q_call (ok_l_plain T) (hr.mono (by decide)) (qa_cons (q_op oq_fdiv (qv 6) q_int) (qa_cons (q_ix (qv 1) q_int) qa_nil))) qa_nil)))))))))))))
 (qss_one (qs_expr (q_append (qv 3) (qa_cons q_str qa_nil)))))))
 (qss_one (qs_ret (q_re (qv 3)))))), ?_⟩) (fun _ _ _ _ _ _ us hl => match us, hl with | [_, _, _], _ => rfl)
  rintro _ M Q Et ⟨ns, nm, dv, rfl, hns, hl, hnm, hdv, h⟩
  have h0 : 0 < nm.length := by omega
  have a0 : atI (nm.map D.str) 0 = some (.str nm[0]) := atI_nat (j := 0) (by rw [List.getElem?_map, List.getElem?_eq_getElem h0]; rfl)
  have k0 := nameX_ok (hnm nm[0] (List.getElem_mem h0))
  have l0 := k0.1.2.1
  have few := hdv.few
  walk_at "vc"
  intro p hp
  refine ⟨by omega, ?_⟩
  rw [Int.toNat_natCast]
  refine for_map (List.range dv.length) (fun k => D.int (k : Nat)) rfl (fun zs τ M1 => ∃ (ys : List Str) (q : Addr), WT M ys q M1 ∧ (∀ y ∈ ys, goodRow y) ∧ (zs ≠ [] → ∃ y ∈ ys, isHd y) ∧ ys.length ≤ 242 * zs.length ∧ ∃ x4 x5 x6 x7, τ = [some (.scr (ns.map .int)), some (.lst (nm.map .str)), some (.lst (dv.map dfD)), some (.ref q), x4, x5, x6, x7]) ⟨[], p, ⟨hp, fun a o e => by rw [mup_ne (fun z => by rw [z, hp] at e; cases e)]; exact e, mup_same⟩, (fun y hy => by cases hy), (fun z => absurd rfl z), Nat.zero_le _, _, _, _, _, rfl⟩ (fun _ _ _ _ => trivial) ?_ ?_
  · rintro zs k rs τ M1 Nx hx ⟨ys, q, wt, hg, hhd, hyl, x4, x5, x6, x7, rfl⟩ hN
    have hk : k < dv.length := List.mem_range.mp (by rw [hx]; simp)
    have hok := hdv.ok dv[k] (List.getElem_mem hk)
    have ak : atI (dv.map dfD) (k : Int) = some (dfD dv[k]) := atI_nat (by rw [List.getElem?_map, List.getElem?_eq_getElem hk]; rfl)
    have hzl : zs.length < dv.length := by have := congrArg List.length hx; rw [List.length_range, List.length_append, List.length_cons] at this; omega
    walk_at "vc"
    rw [ak]
    unfold dfD
    walk_at "vc"
    have e5 : Tl.cutD (nm.map D.str) (some 1) (some (1 + ((dv[k].2 : Nat) : Int))) = ((nm.take (1 + dv[k].2)).drop 1).map D.str := by
      rw [show (1 : Int) + ((dv[k].2 : Nat) : Int) = ((1 + dv[k].2 : Nat) : Int) by omega, show (some (1 : Int)) = some ((1 : Nat) : Int) from rfl, cut_mid, List.map_drop, List.map_take]
    rw [e5, List.length_map]
    have hpl : ((nm.take (1 + dv[k].2)).drop 1).length ≤ 3 := by rw [List.length_drop, List.length_take]; omega
    have hpo : ∀ x ∈ (nm.take (1 + dv[k].2)).drop 1, okName x := fun x hx => nameX_ok (hnm x (List.mem_of_mem_take (List.mem_of_mem_drop hx)))
    generalize (nm.take (1 + dv[k].2)).drop 1 = ps at hpl hpo
    have L := lens7
    have hsum := sum_le_mul (k := 8) (ws := ps) fun z hz => (hpo z hz).1.2.1
    have l1 := hok.1.1.2.1
    have rd := row_def (x := dv[k].1) (ps := ps) hok.1 hpo (by omega)
    refine ⟨is_m wt.at_, by omega, "def" :: dv[k].1 :: ps, rfl, ?_, ?_⟩
    · simp only [List.map_cons, List.sum_cons, List.length_cons]
      rw [show (Str.ofString " ").length = 1 by omega]
      omega
    rw [mLst_at wt.at_, oSome_i, List.length_map]
    refine ⟨by omega, ?_⟩
    have hj : (0 : Int) ≤ (if (ns.length : Int) < 60 then (ns.length : Int) else 60) ∧ (if (ns.length : Int) < 60 then (ns.length : Int) else 60) ≤ 60 ∧ (if (ns.length : Int) < 60 then (ns.length : Int) else 60) ≤ ns.length := by split <;> omega
    generalize (if (ns.length : Int) < 60 then (ns.length : Int) else 60) = j at hj
    obtain ⟨n, rg, hup⟩ := rgc_up (i := 4 + (k : Int)) (j := j) (c := (dv.length : Int)) (by omega) (by omega) (by omega)
    have hn : n ≤ 56 := by
      cases n with
      | zero => omega
      | succ m =>
        have := hup m (by omega)
        have h2 : (m : Int) * 1 ≤ (m : Int) * (dv.length : Int) := Int.mul_le_mul_of_nonneg_left (by omega) (by omega)
        omega
    refine ⟨n, rg, ?_⟩
    have dve : dv.map dfD = dv.map (fun q => D.tup [D.str q.1, D.int (q.2 : Nat)]) := rfl
    have hcat : ys.map D.str ++ [D.str (Txt.join (Str.ofString " ") (Str.ofString "def" :: dv[k].1 :: ps))] = (ys ++ [Txt.join blank ("def" :: dv[k].1 :: ps)]).map D.str := by rw [List.map_append]; rfl
    rw [hcat]
    have wt1 := wt.put (zs := ys ++ [Txt.join blank ("def" :: dv[k].1 :: ps)])
    refine for_map (List.range n) (fun i => D.int (4 + (k : Nat) + (i : Nat) * (dv.length : Nat))) rfl (fun js τ M2 => ∃ (us : List Str) (r : Addr), WT M us r M2 ∧ (∀ y ∈ us, goodRow y) ∧ (∃ y ∈ us, isHd y) ∧ us.length ≤ 242 * zs.length + 1 + 4 * js.length ∧ ∃ x5 x6 x7, τ = [some (.scr (ns.map .int)), some (.lst (nm.map .str)), some (.lst (dv.map dfD)), some (.ref r), some (.int k), x5, x6, x7]) ⟨_, q, wt1, fun y hy => ?_, ⟨_, by simp, rd.2⟩, by rw [List.length_append]; simp; omega, _, _, _, rfl⟩ (fun _ _ _ _ => trivial) ?_ ?_
    · rcases List.mem_append.mp hy with hy | hy
      · exact hg y hy
      · rw [List.mem_singleton.mp hy]; exact rd.1
    · rintro js i ls τ M2 Nx2 hx2 ⟨us, r, wu, hgu, hhu, hul, x5, x6, x7, rfl⟩ hN2
      have hi : i < n := List.mem_range.mp (by rw [hx2]; simp)
      have hjl : js.length < n := by have := congrArg List.length hx2; rw [List.length_range, List.length_append, List.length_cons] at this; omega
      have hat := hup i hi
      obtain ⟨z, hz⟩ : ∃ z : Nat, 4 + (k : Int) + (i : Int) * (dv.length : Int) = (z : Int) := ⟨4 + k + i * dv.length, by simp⟩
      rw [hz] at hat
      have hzl : z < ns.length := by omega
      walk_at "vc"
      rw [hz, atI_nat (v := .int ns[z]) (by rw [List.getElem?_map, List.getElem?_eq_getElem hzl]; rfl)]
      walk_at "vc"
      refine ⟨ns[z], z, rfl, by omega, ?_⟩
      walk_at "vc"
      have fin : ∀ (more : List Str) (r' : Addr) (M3 : MH) (v6 v7 : Option D), WT M (us ++ more) r' M3 → (∀ y ∈ more, goodRow y) → more.length ≤ 4 → Nx2 [some (.scr (ns.map .int)), some (.lst (nm.map .str)), some (.lst (dv.map dfD)), some (.ref r'), some (.int k), some (.int z), v6, v7] M3 := fun more r' M3 v6 v7 w3 g3 l3 => by
        refine hN2 _ _ ⟨us ++ more, r', w3, fun y hy => ?_, ?_, by rw [List.length_append, List.length_append]; simp; omega, _, _, _, rfl⟩
        · rcases List.mem_append.mp hy with hy | hy
          · exact hgu y hy
          · exact g3 y hy
        · obtain ⟨y, hy, e⟩ := hhu
          exact ⟨y, List.mem_append_left _ hy, e⟩
      have one : ∀ {x : Str}, goodRow x → ∀ y ∈ [x], goodRow y := fun {x} hx y hy => by rw [List.mem_singleton.mp hy]; exact hx
      generalize mixH ns[z] z = c
      have m1 := modB (a := c / 7) (b := (dv.length : Int)) (by omega)
      have m2 := modB (a := c / 7) (b := 3) (by decide)
      have gl := good_lits
      refine ⟨wd60 (by decide) (by decide), by omega, ?_⟩
      refine at_some (p := fun d => ∃ q : Str × Nat, d = dfD q ∧ okName q.1 ∧ q.2 ≤ 3) m1.1 (by rw [List.length_map]; exact m1.2) (fun d hd => ?_) ?_
      · obtain ⟨q, hq, rfl⟩ := List.mem_map.mp hd
        exact ⟨q, rfl, hdv.ok q hq⟩
      rintro _ ⟨o, rfl, ho1, ho2⟩
      rw [a0]
      unfold dfD
      walk_at "vc"
      rw [lstOf_at wu.at_]
      walk_at "vc"
      have hul2 : us.length ≤ 3000 := by omega
      have plain : ∀ {Q3 : VD} {v6 v7 : Option D}, (∀ x, goodRow x → oSome (mLst M2 r) fun ds => ds.length < 16777216 ∧ Nx2 [some (.scr (ns.map .int)), some (.lst (nm.map .str)), some (.lst (dv.map dfD)), some (.ref r), some (.int k), some (.int z), v6, v7] (mup M2 r (.lst (ds ++ [.str x])))) := fun {Q3 v6 v7} x hx => by
        rw [mLst_at wu.at_, oSome_i, List.length_map]
        refine ⟨by omega, fin [x] r _ _ _ ?_ (one hx) (by simp)⟩
        have := wu.put (zs := us ++ [x])
        rw [List.map_append] at this
        exact this
      have pl7 : ∀ {v6 v7 : Option D}, CDivW c 7 ∧ spPlain7 [.int (c / 7), .str nm[0]] M2 (fun x M1 => oSome (mLst M1 r) fun ds => ds.length < 16777216 ∧ Nx2 [some (.scr (ns.map .int)), some (.lst (nm.map .str)), some (.lst (dv.map fun q => D.tup [D.str q.1, D.int (q.2 : Nat)])), some (.ref r), some (.int k), some (.int z), v6, v7] (mup M1 r (.lst (ds ++ [x])))) Et0 := fun {v6 v7} =>
        ⟨wd60 (by decide) (by decide), c / 7, nm[0], rfl, k0, fun x hx => plain (Q3 := Q) x hx⟩
      split
      · rename_i e3
        split
        · refine ⟨nm[0], o.1, o.2, o.2, rfl, k0, ho1, by omega, fun x hx => plain (Q3 := Q) x hx⟩
        · rw [if_neg (by omega), if_neg (by omega)]
          exact pl7
      split
      · refine ⟨by have L := lens7; omega, wd60 (by decide) (by decide), c / 7, nm[0], rfl, k0, fun x hx => ?_⟩
        dsimp only
        rw [lstOf_at wu.at_, oSome_i, List.length_map]
        refine ⟨by omega, fun p' hp' => fin [Str.ofString "if " ++ nm[0], x, "else", "end"] p' _ _ _ ?_ ?_ (by simp)⟩
        · have := wu.mk_ (zs := us ++ [Str.ofString "if " ++ nm[0], x, "else", "end"]) hp'
          rw [List.map_append] at this
          exact this
        · have ri : goodRow (Str.ofString "if " ++ nm[0]) := by
            have rp := r_plain k0
            simp only [List.forall_mem_cons, List.not_mem_nil, false_imp_iff, implies_true, and_true] at rp
            exact rp.2.2.2.2.2.2.2.1
          generalize Str.ofString "if " ++ nm[0] = y at ri
          simp only [List.forall_mem_cons, List.not_mem_nil, false_imp_iff, implies_true, and_true]
          exact ⟨ri, hx, gl _ (by simp), gl _ (by simp)⟩
      split
      · refine ⟨wd60 (by decide) (by decide), ?_⟩
        refine at_some (p := fun d => ∃ x : Str, d = .str x ∧ goodRow x) m2.1 (by show _ < (3 : Int); exact m2.2) ?_ ?_
        · simp only [List.forall_mem_cons, List.not_mem_nil, false_imp_iff, implies_true, and_true, D.str.injEq, exists_eq_left']
          exact ⟨gl _ (by simp), gl _ (by simp), gl _ (by simp)⟩
        · rintro _ ⟨x, rfl, hx⟩
          refine ⟨by omega, fun p' hp' => fin ["while lane", x, "end"] p' _ _ _ ?_ ?_ (by simp)⟩
          · have := wu.mk_ (zs := us ++ [("while lane" : Str), x, "end"]) hp'
            rw [List.map_append] at this
            exact this
          · simp only [List.forall_mem_cons, List.not_mem_nil, false_imp_iff, implies_true, and_true]
            exact ⟨gl _ (by simp), hx, gl _ (by simp)⟩
      · exact pl7
    · rintro τ M2 ⟨us, r, wu, hgu, hhu, hul, x5, x6, x7, rfl⟩
      rw [List.length_range] at hul
      walk_at "vc"
      refine ⟨is_m wu.at_, ?_⟩
      rw [mLst_at wu.at_, oSome_i, List.length_map]
      refine ⟨by omega, hN _ _ ⟨us ++ [("end" : Str)], r, ?_, fun y hy => ?_, fun _ => ?_, by rw [List.length_append, List.length_append]; simp; omega, _, _, _, _, rfl⟩⟩
      · have := wu.put (zs := us ++ [("end" : Str)])
        rw [List.map_append] at this
        exact this
      · rcases List.mem_append.mp hy with hy | hy
        · exact hgu y hy
        · rw [List.mem_singleton.mp hy]; exact good_lits _ (by simp)
      · obtain ⟨y, hy, e⟩ := hhu
        exact ⟨y, List.mem_append_left _ hy, e⟩
  · rintro τ M1 ⟨ys, q, wt, hg, hhd, hyl, x4, x5, x6, x7, rfl⟩
    walk_at "vc"
    refine ⟨_, _, ReR.freeze wt.at_, h ys _ (fun a o e => by
      show (if a = q then none else M1 a) = some o
      rw [if_neg (fun z => by rw [z, wt.new] at e; cases e)]
      exact wt.ext a o e) ⟨fun x hx => .inl (hg x hx), (fun z => by cases z), hhd (fun z => ?_), ?_⟩⟩
    · have := congrArg List.length z
      rw [List.length_range] at this
      have this : dv.length = 0 := this
      omega
    · have hyl : ys.length ≤ 242 * (List.range dv.length).length := hyl
      rw [List.length_range] at hyl
      omega
end
end K07
namespace K07
open PySem PySem.Spec PyProof.Rows L2 Tl
section
variable {P : Program} {w : World} {K : PySem.W.Frag} {mg : Str → Option Value} {base : Heap}
def spKindsA : SpT := fun ds M Q _ => ∃ xs : List Str, ds = [.str (Txt.join lineEnd xs)] ∧ xs ≠ [] ∧ xs.length ≤ 1500 ∧ (∀ x ∈ xs, 10 ∉ cds x ∧ x.length ≤ 10000) ∧ ∀ M', Ext M M' → Q (kindsDX (readOf xs)) M'
theorem ok_l_kinds_of (T : Tp K mg) : Fn P w K mg base CX0 19 "_law_kinds_of" spKindsA := by
  refine fn_top T.top 42 e_l_kinds_of (m_l_kinds_of T) sc_l_kinds_of (by rintro _ M Q Et ⟨n, rfl, _⟩; rfl) (fun cdv A outer s H E hr => ⟨_, (qss_cons (qs_set (i := 1) sc_l_kinds_of.nd (q_lst qa_nil))
 (qss_cons (qs_try (i := 2) (ok_read T) (hr.mono (by decide)) (mc_LaneError T) sc_l_kinds_of.nd (fun pn xe => (qa_cons (qv 0) qa_nil))
 (fun a oe De pn hz hf => (qss_one (qs_set (i := 1) sc_l_kinds_of.nd (q_lst (qa_cons (q_callB (cq_isE hz hf) (m_isinstance T) (by decide +kernel) (qa_cons (qv 2) (qa_cons (q_ty "ValueError" (m_ValueError T) (by decide +kernel)) qa_nil))) (qa_cons (q_callB (cq_isE hz hf) (m_isinstance T) (by decide +kernel) (qa_cons (qv 2) (qa_cons (q_gref (d := .ref (He.ga _ "TooMuch")) (mc_TooMuch T) (fun _ => .ref _)) qa_nil))) (qa_cons (q_callB (cq_isE hz hf) (m_isinstance T) (by decide +kernel) (qa_cons (qv 2) (qa_cons (q_gref (d := .ref (He.ga _ "NoLine")) (mc_NoLine T) (fun _ => .ref _)) qa_nil))) (qa_cons (q_callB (cq_isE hz hf) (m_isinstance T) (by decide +kernel) (qa_cons (qv 2) (qa_cons (q_gref (d := .ref (He.ga _ "NoNest")) (mc_NoNest T) (fun _ => .ref _)) qa_nil))) (qa_cons (q_callB (cq_isE hz hf) (m_isinstance T) (by decide +kernel) (qa_cons (qv 2) (qa_cons (q_gref (d := .ref (He.ga _ "NoName")) (mc_NoName T) (fun _ => .ref _)) qa_nil))) (qa_cons (q_callB (cq_isE hz hf) (m_isinstance T) (by decide +kernel) (qa_cons (qv 2) (qa_cons (q_gref (d := .ref (He.ga _ "Waits")) (mc_Waits T) (fun _ => .ref _)) qa_nil))) (qa_cons (q_callB (cq_isE hz hf) (m_isinstance T) (by decide +kernel) (qa_cons (qv 2) (qa_cons (q_gref (d := .ref (He.ga _ "NoHead")) (mc_NoHead T) (fun _ => .ref _)) qa_nil))) qa_nil))))))))))))
 (qss_one (qs_ret (qv 1))))), ?_⟩) (fun _ _ _ _ _ _ us hl => match us, hl with | [_], _ => rfl)
  rintro _ M Q Et ⟨xs, rfl, hne, hl, hx, h⟩
  walk_at "vc"
  refine ⟨xs, rfl, hne, hl, hx, fun M' hM => ?_⟩
  have h := h M' hM
  cases e : readOf xs with
  | many =>
    rw [e] at h
    refine ⟨_, rfl, exm_TooMuch_LaneError T, fun a ha => ?_⟩
    walk_at "vc"
    have k := fun y b hm => kitB_ok (kb_TooMuch_ok T) (y := y) (b := b) hm
    have hE := isE_TooMuch T
    exact ⟨hE, true, kitTB_ok (kt_TooMuch_ok T) (by decide +kernel), hE, true, k _ _ (by decide +kernel), hE, false, k _ _ (by decide +kernel), hE, false, k _ _ (by decide +kernel), hE, false, k _ _ (by decide +kernel), hE, false, k _ _ (by decide +kernel), hE, false, k _ _ (by decide +kernel), h⟩
  | line =>
    rw [e] at h
    refine ⟨_, rfl, exm_NoLine_LaneError T, fun a ha => ?_⟩
    walk_at "vc"
    have k := fun y b hm => kitB_ok (kb_NoLine_ok T) (y := y) (b := b) hm
    have hE := isE_NoLine T
    exact ⟨hE, true, kitTB_ok (kt_NoLine_ok T) (by decide +kernel), hE, false, k _ _ (by decide +kernel), hE, true, k _ _ (by decide +kernel), hE, false, k _ _ (by decide +kernel), hE, false, k _ _ (by decide +kernel), hE, false, k _ _ (by decide +kernel), hE, false, k _ _ (by decide +kernel), h⟩
  | nest =>
    rw [e] at h
    refine ⟨_, rfl, exm_NoNest_LaneError T, fun a ha => ?_⟩
    walk_at "vc"
    have k := fun y b hm => kitB_ok (kb_NoNest_ok T) (y := y) (b := b) hm
    have hE := isE_NoNest T
    exact ⟨hE, true, kitTB_ok (kt_NoNest_ok T) (by decide +kernel), hE, false, k _ _ (by decide +kernel), hE, false, k _ _ (by decide +kernel), hE, true, k _ _ (by decide +kernel), hE, false, k _ _ (by decide +kernel), hE, false, k _ _ (by decide +kernel), hE, false, k _ _ (by decide +kernel), h⟩
  | name =>
    rw [e] at h
    refine ⟨_, rfl, exm_NoName_LaneError T, fun a ha => ?_⟩
    walk_at "vc"
    have k := fun y b hm => kitB_ok (kb_NoName_ok T) (y := y) (b := b) hm
    have hE := isE_NoName T
    exact ⟨hE, true, kitTB_ok (kt_NoName_ok T) (by decide +kernel), hE, false, k _ _ (by decide +kernel), hE, false, k _ _ (by decide +kernel), hE, false, k _ _ (by decide +kernel), hE, true, k _ _ (by decide +kernel), hE, false, k _ _ (by decide +kernel), hE, false, k _ _ (by decide +kernel), h⟩
  | ok pg =>
    rw [e] at h
    exact h
def spNests : SpT := fun ds M Q _ => ∃ (xs : List Str) (gs : List Lin), ds = [.lst (xs.map .str)] ∧ linesOf xs = some gs ∧ xs.length ≤ 200 ∧ Q (.bl (nestB gs)) M
theorem ok_l_nests (T : Tp K mg) : Fn P w K mg base CX0 2 "_law_nests" spNests := by
  refine fn_top T.top 44 e_l_nests (m_l_nests T) sc_l_nests (by rintro _ M Q Et ⟨_, n, rfl, _⟩; rfl) (fun cdv A outer s H E hr => ⟨_, (qss_cons (qs_set (i := 1) sc_l_nests.nd (q_lst qa_nil))
 (qss_cons (qs_set (i := 2) sc_l_nests.nd q_bl)
 (qss_cons (qs_for PassesOwn.never rfl (qi_list (q_lc rfl sc_l_nests.nd (qi_list (qv 0)) (blkOk_by (N := nm_l_nests) (sc := defScope s_l_nests) (own := [(("_law_row" : Str), 6)]) (by decide +kernel)) go_name (fun _ _ _ _ _ => (pg_name (i := 6) sc_l_nests.nd rfl (Or.inl rfl))) (fun _ _ _ _ _ => qts_nil) (fun _ _ _ _ _ => (q_split (qv 6) q_str)))) (qg_name (i := 3) sc_l_nests.nd)
  (qss_cons (qs_set (i := 4) sc_l_nests.nd (q_ix (qv 3) q_int))
 (qss_cons (qs_set (i := 5) sc_l_nests.nd (q_cmp (oq_neD (un64 hr)) (qv 1) (q_lst qa_nil)))
 (qss_cons (qs_if (qt_cmp oq_eq (qv 4) q_str)
  (qss_cons (qs_set (i := 5) sc_l_nests.nd (q_cmp (oq_eqD (un64 hr)) (qv 1) (q_lst qa_nil)))
 (qss_one (qs_set (i := 2) sc_l_nests.nd (q_cmp oq_eq (q_ix (qv 3) q_int) q_str))))
  (qss_one (qs_if (qt_cmp oq_eq (qv 4) q_str)
  (qss_one (qs_set (i := 5) sc_l_nests.nd (q_and (qv 5) (q_one (q_cmp oq_eq (q_ix (qv 1) (q_un uq_neg q_int)) q_str)))))
  (qss_one (qs_if (qt_w (qw_or (qt_cmp oq_eq (qv 4) q_str) (qw_or1 (qt_cmp oq_eq (qv 4) q_str))))
  (qss_one (qs_set (i := 5) sc_l_nests.nd (q_cmp oq_inQ q_str (qv 1))))
  (qss_one (qs_if (qt_cmp oq_eq (qv 4) q_str)
  (qss_one (qs_set (i := 5) sc_l_nests.nd (q_and (qv 5) (q_one (q_not (qv 2))))))
  (qss_one (qs_if (qt_w (qw_or (qt_cmp oq_eq (qv 4) q_str) (qw_or1 (qt_cmp oq_eq (qv 4) q_str))))
  (qss_one (qs_set (i := 5) sc_l_nests.nd (q_and (qv 5) (q_one (q_cmp oq_lt (q_callB cq_len (m_len T) (by decide +kernel) (qa_cons (qv 1) qa_nil)) q_int)))))
  qss_nil)))))))))
 (qss_cons (qs_if (qt_not (qt_val (qv 5)))
  (qss_one (qs_ret q_bl))
  qss_nil)
 (qss_one (qs_set (i := 1) sc_l_nests.nd (q_call (ok_l_laid T) (hr.mono (by decide)) (qa_cons (qv 1) (qa_cons (qv 4) qa_nil))))))))))
 (qss_one (qs_ret (q_cmp (oq_eqD (un64 hr)) (qv 1) (q_lst qa_nil))))))), ?_⟩) (fun _ _ _ _ _ _ us hl => match us, hl with | [_], _ => rfl)
  rintro _ M Q Et ⟨xs, gs, rfl, hgs, hl, h⟩
  obtain ⟨g1, g2, g3, g4⟩ := lines_ok hgs
  have hpl : ∀ l ∈ gs, l.plain := fun l hl => plain_ok (g2 l hl)
  have hD : xs.map D.str = gs.map fun l => D.str l.txt := by rw [g3, List.map_map]; rfl
  walk_at "vc"
  rw [hD]
  refine lc_map gs (fun l => D.str l.txt) (fun l => D.lst (l.words.map D.str)) rfl (by rw [sizeLine_eq]; omega) trivial (fun l R1 R0 hl2 h1 => ?_) ?_
  · walk_at "vc"
    have hb : Str.ofString " " = blank := rfl
    have := lin_len (g2 l hl2)
    refine ⟨by decide +kernel, by omega, ?_⟩
    rw [hb, lin_split (g2 l hl2)]
    exact h1
  rw [lstOf_l, oSome_i]
  refine for_map gs (fun l => D.lst (l.words.map D.str)) rfl (fun ys τ M1 => M1 = M ∧ ∃ d p im x3 x4 x5 x6, nestGo 1 ([], []) ys = some (d, p) ∧ pileOk p ∧ imOk p im ∧ p.length ≤ ys.length ∧ τ = [some (.lst (gs.map fun l => D.str l.txt)), some (.lst ((pileW p).map .str)), some (.bl im), x3, x4, x5, x6]) ⟨rfl, [], [], false, _, _, _, _, rfl, trivial, (fun z => absurd rfl z), Nat.zero_le _, rfl⟩ (fun _ _ _ _ => lstOf_l) ?_ ?_
  · rintro ys l zs τ M Nx hx ⟨rfl, d, p, im, x3, x4, x5, x6, hn, ok, hi, hpl2, rfl⟩ hN
    have hlm : l ∈ gs := by rw [hx]; simp
    have hlen : ys.length < gs.length := by rw [hx, List.length_append, List.length_cons]; omega
    have hgi : gs[ys.length]? = some l := by rw [hx, List.getElem?_append_right (Nat.le_refl _), Nat.sub_self]; rfl
    have hgt : nestGo 1 ([], []) (gs.take ys.length) = some (d, p) := by rw [hx, List.take_left]; exact hn
    have hp1 := hpl l hlm
    obtain ⟨t, ht⟩ : ∃ t, l.words = l.word :: t := by cases l <;> exact ⟨_, rfl⟩
    have hpw := pile_words ok
    have hpwl : (pileW p).length ≤ 200 := by rw [pileW_len]; omega
    rw [ht]
    walk_at "vc"
    refine neD_pl 12 (show asD _ (.lst _) = some (.lst _) from rfl) (show asD _ (.lst []) = some (.lst []) from rfl) (words_ok hpw) (okD_lst okDs_nil) words_pl (by unfold plD plDs; trivial) fun b0 hb0 => ?_
    walk_at "vc"
    have hbe : b0 = (pileW p).isEmpty := by
      rw [Bool.eq_iff_iff, hb0, List.isEmpty_iff]
      cases pileW p <;> simp
    have may := may_eq hp1 hi
    have bad : mayLn p l = false → Q (.bl false) M := fun hm => by
      have : nestB gs = false := by
        unfold nestB
        rw [nest_stop hgi hgt hm]
      rw [this] at h
      exact h
    have good : mayLn p l = true → ∀ (x5 x6 : Option D) (im' : Bool), im' = imNext im l → spLaid [.lst ((pileW p).map .str), .str l.word] M (fun x M1 => Nx [some (.lst (gs.map fun l => D.str l.txt)), some x, some (.bl im'), some (.lst (.str l.word :: t.map D.str)), some (.str l.word), x5, x6] M1) Et0 := fun hm x5 x6 im' him => by
      refine ⟨pileW p, l.word, rfl, by omega, hN _ _ ⟨rfl, (nestStep (1 + (ys.length : Nat)) (d, p) l).1, (nestStep (1 + (ys.length : Nat)) (d, p) l).2, im', some (.lst (.str l.word :: t.map D.str)), some (.str l.word), x5, x6, ?_, step_ok ok hm, ?_, ?_, ?_⟩⟩
      · rw [nestGo_app, hn]
        simp only [Option.bind_some]
        rw [if_pos hm]
      · rw [him]; exact im_step ok hm hi
      · have h1 := laid_eq (d := d) (k := 1 + (ys.length : Nat)) hp1 ok hm
        have h2 := congrArg List.length h1
        rw [pileW_len] at h2
        have h3 : (lawLaid (pileW p) l.word).length ≤ (pileW p).length + 1 := by
          unfold lawLaid
          have := List.length_dropLast (xs := pileW p)
          split
          · rw [List.length_append]; simp
          · split
            · rw [List.length_append]; simp only [List.length_cons, List.length_nil]; omega
            · split <;> omega
        rw [pileW_len] at h3
        rw [List.length_append]
        simp only [List.length_cons, List.length_nil]
        omega
      · rw [laid_eq (d := d) (k := 1 + (ys.length : Nat)) hp1 ok hm]
    have im1 : l.word ≠ "def" → im = imNext im l := fun z => (imNext_one z).symm
    unfold lawMay at may
    by_cases c1 : l.word = Str.ofString "def"
    · rw [if_pos c1] at may
      rw [if_pos c1]
      refine eq_empty hpw ?_
      obtain ⟨x, ps, rfl⟩ : ∃ x ps, l = .dff x ps := by
        cases l with
        | dff x ps => exact ⟨x, ps, rfl⟩
        | pln s => exact absurd c1 plain_wd.1
        | iff e => exact absurd c1 (by decide +kernel : ¬ Str.ofString "if" = Str.ofString "def")
        | whl e => exact absurd c1 (by decide +kernel : ¬ Str.ofString "while" = Str.ofString "def")
        | els => exact absurd c1 (by decide +kernel : ¬ Str.ofString "else" = Str.ofString "def")
        | fin => exact absurd c1 (by decide +kernel : ¬ Str.ofString "end" = Str.ofString "def")
      have ht2 : t = x :: ps := (List.cons.inj ht).2.symm
      subst ht2
      walk_at "vc"
      rw [may]
      cases hm : mayLn p (.dff x ps) with
      | false => rw [if_pos rfl]; exact bad hm
      | true => rw [if_neg (by decide)]; exact good hm _ _ _ rfl
    rw [if_neg c1] at may
    rw [if_neg c1]
    rw [hbe]
    have hem : (pileW p).isEmpty = true → mayLn p l = false := fun z => by rw [← may, if_pos z]
    have fold : ∀ {b : Bool} (x5 : Bool → Option D) (x6 : Option D), mayLn p l = b → (if b = false then Q (.bl false) M else spLaid [.lst ((pileW p).map .str), .str l.word] M (fun x M1 => Nx [some (.lst (gs.map fun l => D.str l.txt)), some x, some (.bl im), some (.lst (.str l.word :: t.map D.str)), some (.str l.word), x5 b, x6] M1) Et0) := fun {b} x5 x6 hm => by
      cases b with
      | false => rw [if_pos rfl]; exact bad hm
      | true => rw [if_neg (by decide)]; exact good hm _ _ _ (im1 c1)
    have may2 : (pileW p).isEmpty = false → (if l.word = "else" then decide ((pileW p).getLastD "" = "if") else if l.word = "break" ∨ l.word = "again" then decide (("while" : Str) ∈ pileW p) else if l.word = "return" then !im else if l.word = "if" ∨ l.word = "while" then decide ((pileW p).length < 6) else true) = mayLn p l := fun he => by
      rw [he, if_neg (by decide)] at may
      exact may
    have nowh : (pileW p).isEmpty = true → decide (("while" : Str) ∈ pileW p) = false := fun he => by
      rw [List.isEmpty_iff.mp he]
      rfl
    by_cases c2 : l.word = Str.ofString "else"
    · rw [if_pos c2]
      cases he : (pileW p).isEmpty with
      | true => rw [if_neg (by decide)]; exact bad (hem he)
      | false =>
        have m := may2 he
        rw [if_pos c2] at m
        rw [if_pos rfl, at_last he]
        walk_at "vc"
        rw [m]
        by_cases z : (pileW p).getLastD (Str.ofString "") = Str.ofString "if"
        · rw [if_neg (fun y => y z)]
          rw [decide_eq_true z] at m
          exact good m.symm _ _ _ (im1 c1)
        · rw [if_pos z]
          rw [decide_eq_false z] at m
          exact bad m.symm
    rw [if_neg c2]
    have wh : ∀ {x6 : Option D}, (l.word = "break" ∨ l.word = "again") → (if decide (("while" : Str) ∈ pileW p) = false then Q (.bl false) M else spLaid [.lst ((pileW p).map .str), .str l.word] M (fun x M1 => Nx [some (.lst (gs.map fun l => D.str l.txt)), some x, some (.bl im), some (.lst (.str l.word :: t.map D.str)), some (.str l.word), some (.bl (decide (("while" : Str) ∈ pileW p))), x6] M1) Et0) := fun {x6} hw => by
      cases he : (pileW p).isEmpty with
      | true => rw [nowh he, if_pos rfl]; exact bad (hem he)
      | false =>
        have m := may2 he
        rw [if_neg c2, if_pos hw] at m
        rw [m]
        exact fold (fun b => some (.bl b)) _ rfl
    by_cases c3 : l.word = Str.ofString "break"
    · rw [if_pos c3]
      refine ⟨rfl, all_ws, ?_⟩
      rw [any_ws]
      exact wh (.inl c3)
    rw [if_neg c3]
    by_cases c4 : l.word = Str.ofString "again"
    · rw [if_pos c4]
      refine ⟨rfl, all_ws, ?_⟩
      rw [any_ws]
      exact wh (.inr c4)
    rw [if_neg c4]
    have c34 : ¬ (l.word = "break" ∨ l.word = "again") := fun z => z.elim c3 c4
    by_cases c5 : l.word = Str.ofString "return"
    · rw [if_pos c5]
      cases he : (pileW p).isEmpty with
      | true => rw [if_neg (by decide)]; exact bad (hem he)
      | false =>
        rw [if_pos rfl]
        have m := may2 he
        rw [if_neg c2, if_neg c34, if_pos c5] at m
        by_cases z : im = true
        · rw [if_pos z]
          rw [z] at m
          exact bad m.symm
        · rw [if_neg z]
          rw [Bool.not_eq_true] at z
          rw [z] at m
          exact good m.symm _ _ _ (im1 c1)
    rw [if_neg c5]
    have six : ∀ {x5 x6 : Option D}, (l.word = "if" ∨ l.word = "while") → (pileW p).isEmpty = false → (if ¬ ((pileW p).length : Int) < 6 then Q (.bl false) M else spLaid [.lst ((pileW p).map .str), .str l.word] M (fun x M1 => Nx [some (.lst (gs.map fun l => D.str l.txt)), some x, some (.bl im), some (.lst (.str l.word :: t.map D.str)), some (.str l.word), x5, x6] M1) Et0) := fun {x5 x6} hw he => by
      have m := may2 he
      rw [if_neg c2, if_neg c34, if_neg c5, if_pos hw] at m
      by_cases h6 : (pileW p).length < 6
      · rw [if_neg (by omega)]
        rw [decide_eq_true h6] at m
        exact good m.symm _ _ _ (im1 c1)
      · rw [if_pos (by omega)]
        rw [decide_eq_false h6] at m
        exact bad m.symm
    by_cases c6 : l.word = Str.ofString "if"
    · rw [if_pos c6]
      cases he : (pileW p).isEmpty with
      | true => rw [if_neg (by decide)]; exact bad (hem he)
      | false => rw [if_pos rfl]; exact six (.inl c6) he
    rw [if_neg c6]
    by_cases c7 : l.word = Str.ofString "while"
    · rw [if_pos c7]
      cases he : (pileW p).isEmpty with
      | true => rw [if_neg (by decide)]; exact bad (hem he)
      | false => rw [if_pos rfl]; exact six (.inr c7) he
    rw [if_neg c7]
    cases he : (pileW p).isEmpty with
    | true => rw [if_pos rfl]; exact bad (hem he)
    | false =>
      rw [if_neg (by decide)]
      have m := may2 he
      rw [if_neg c2, if_neg c34, if_neg c5, if_neg (fun z => z.elim c6 c7)] at m
      exact good m.symm _ _ _ (im1 c1)
  · rintro τ M ⟨rfl, d, p, im, x3, x4, x5, x6, hn, ok, hi, hpl2, rfl⟩
    walk_at "vc"
    refine eq_empty (pile_words ok) ?_
    rw [pileW_emp]
    unfold nestB at h
    rw [hn] at h
    cases p with
    | nil => exact h
    | cons a t => exact h
def spNamed : SpT := fun ds M Q _ => ∃ (xs : List Str) (gs : List Lin), ds = [.lst (xs.map .str)] ∧ linesOf xs = some gs ∧ (∀ l ∈ gs, argsOne l) ∧ xs.length ≤ 200 ∧ ∀ M', Ext M M' → (namesL gs → Q (.bl true) M') ∧ (¬ namesL gs → Q (.bl false) M')
theorem ok_l_named (T : Tp K mg) : Fn P w K mg base CX0 1 "_law_named" spNamed := by
  refine fn_top T.top 45 e_l_named (m_l_named T) sc_l_named (by rintro _ M Q Et ⟨_, n, rfl, _⟩; rfl) (fun cdv A outer s H E hr => ⟨_, (qss_cons (qs_set (i := 1) sc_l_named.nd q_dnewK)
 (qss_cons (qs_for PassesOwn.never rfl (qi_list (q_lc rfl sc_l_named.nd (qi_list (qv 0)) (blkOk_by (N := nm_l_named) (sc := defScope s_l_named) (own := [(("_law_row" : Str), 3)]) (by decide +kernel)) go_name (fun _ _ _ _ _ => (pg_name (i := 3) sc_l_named.nd rfl (Or.inl rfl))) (fun _ _ _ _ _ => (qts_one (qt_cmp oq_eq (q_sliceS (qv 3) qo_none (qo_some q_int)) q_str))) (fun _ _ _ _ _ => (q_split (qv 3) q_str)))) (qg_name (i := 2) sc_l_named.nd)
  (qss_cons (qs_if (qt_w (qw_or (qt_din (hu_of hr) (q_ix (qv 2) q_int) (qv 1)) (qw_or1 (qt_cmp oq_lt (q_lenSetG rfl (m_len T) (m_set T) (q_sliceL (qv 2) (qo_some q_int) qo_none)) (q_op oq_sub (q_callB cq_len (m_len T) (by decide +kernel) (qa_cons (qv 2) qa_nil)) q_int)))))
  (qss_one (qs_ret q_bl))
  qss_nil)
 (qss_one (qs_asg (q_op oq_sub (q_callB cq_len (m_len T) (by decide +kernel) (qa_cons (qv 2) qa_nil)) q_int) (qg_sub (qv 1) (q_ix (qv 2) q_int) (sq_dict (hu_of hr)))))))
 (qss_cons (qs_for PassesOwn.never rfl (qi_list (q_lc rfl sc_l_named.nd (qi_list (qv 0)) (blkOk_by (N := nm_l_named) (sc := defScope s_l_named) (own := [(("_law_row" : Str), 3)]) (by decide +kernel)) go_name (fun _ _ _ _ _ => (pg_name (i := 3) sc_l_named.nd rfl (Or.inl rfl))) (fun _ _ _ _ _ => (qts_one (qt_cmp oq_eq (q_sliceS (qv 3) qo_none (qo_some q_int)) q_str))) (fun _ _ _ _ _ => (q_split (qv 3) q_str)))) (qg_name (i := 2) sc_l_named.nd)
  (qss_one (qs_if (qt_w (qw_or (qt_cmp oq_eq (q_ix (qv 2) q_int) q_str) (qw_or1 (qt_cmp oq_ne (q_dget2 (hu_of hr) (qv 1) (q_ix (qv 2) q_int) (q_un uq_neg q_int)) (q_op oq_sub (q_callB cq_len (m_len T) (by decide +kernel) (qa_cons (qv 2) qa_nil)) q_int)))))
  (qss_one (qs_ret q_bl))
  qss_nil)))
 (qss_one (qs_ret (q_cmp oq_eq (q_dget2 (hu_of hr) (qv 1) q_str q_int) q_int)))))), ?_⟩) (fun _ _ _ _ _ _ us hl => match us, hl with | [_], _ => rfl)
  rintro _ M Q Et ⟨xs, gs, rfl, hgs, ha, hl, h⟩
  obtain ⟨g1, g2, g3, g4⟩ := lines_ok hgs
  have hD : xs.map D.str = gs.map fun l => D.str l.txt := by rw [g3, List.map_map]; rfl
  have hb : Str.ofString " " = blank := rfl
  walk_at "vc"
  intro r hr
  rw [hD]
  have hE : ∀ {o : MO}, Ext M (mup M r o) := fun {o} => .mup hr
  refine lc_filter gs (fun l => D.str l.txt) isDffL (fun l => D.lst (l.words.map D.str)) rfl (by rw [sizeLine_eq]; omega) trivial (fun l R1 R0 hl2 h1 h0 => ?_) ?_
  · walk_at "vc"
    have hll := lin_len (g2 l hl2)
    have hc := (line_cut (g2 l hl2)).1
    refine ⟨by omega, ?_⟩
    by_cases e : isDffL l = true
    · rw [if_pos (hc.mpr e), hb, lin_split (g2 l hl2)]
      exact ⟨by decide +kernel, by omega, h1 e⟩
    · rw [if_neg (fun z => e (hc.mp z))]
      exact h0 (by simpa using e)
  rw [lstOf_l, oSome_i]
  have hfl : (gs.filter isDffL).length ≤ 200 := Nat.le_trans (List.length_filter_le _ _) (by omega)
  refine for_map (gs.filter isDffL) (fun l => D.lst (l.words.map D.str)) rfl (fun ys τ M1 => (((ys.flatMap dffP).map (·.1)).Nodup ∧ ∀ q ∈ ys.flatMap dffP, q.2.Nodup) ∧ M1 = mup M r (.dK (roomsD (asPg (ys.flatMap dffP)))) ∧ ∃ x2 x3, τ = [some (.lst (gs.map fun l => D.str l.txt)), some (.ref r), x2, x3]) ⟨⟨List.nodup_nil, (fun q hq => by cases hq)⟩, rfl, _, _, rfl⟩ (fun _ _ _ _ => lstOf_l) ?_ ?_
  · rintro ys l zs τ M1 Nx hx ⟨⟨hnd, hpn⟩, rfl, x2, x3, rfl⟩ hN
    have hlm : l ∈ gs.filter isDffL := by rw [hx]; simp
    obtain ⟨hl1, hl3⟩ := List.mem_filter.mp hlm
    obtain ⟨x, ps, rfl⟩ : ∃ x ps, l = .dff x ps := by
      cases l with
      | dff x ps => exact ⟨x, ps, rfl⟩
      | _ => cases hl3
    have ok := g2 _ hl1
    rw [show (Lin.dff x ps).words = ("def" : Str) :: x :: ps from rfl]
    have hflat : gs.flatMap dffP = ys.flatMap dffP ++ ((x, ps) :: zs.flatMap dffP) := by
      rw [← dff_flat, hx, List.flatMap_append, List.flatMap_cons]
      rfl
    have hnx : (ys ++ [Lin.dff x ps]).flatMap dffP = ys.flatMap dffP ++ [(x, ps)] := by rw [List.flatMap_append]; rfl
    have hnms := asPg_names (ys.flatMap dffP)
    have val : ∀ f, valD (roomsD (asPg (ys.flatMap dffP))) (.inr f) = (roomOf (asPg (ys.flatMap dffP)) f).map fun n => D.int (n : Nat) := fun f => by rw [rooms_val]
    walk_at "vc"
    rw [val]
    have hpl : ps.length ≤ 6 := ok.2.1
    have hgl : (ys.flatMap dffP).length ≤ 200 := by
      have : (gs.flatMap dffP).length ≤ 200 := by
        have h1 : ∀ (ls : List Lin), (ls.flatMap dffP).length ≤ ls.length := fun ls => by
          induction ls with
          | nil => exact Nat.le_refl _
          | cons a t ih =>
            rw [List.flatMap_cons, List.length_append, List.length_cons]
            have : (dffP a).length ≤ 1 := by cases a <;> simp [dffP]
            omega
        have := h1 gs
        omega
      rw [hflat, List.length_append] at this
      omega
    by_cases hin : x ∈ (ys.flatMap dffP).map (·.1)
    · obtain ⟨n, hn⟩ := room_some (pg := asPg (ys.flatMap dffP)) (f := x) (by rw [hnms]; exact hin)
      rw [hn, if_pos (by rfl)]
      refine (h _ hE).2 fun z => ?_
      have := z.1
      rw [hflat, List.map_append, List.map_cons] at this
      exact (List.nodup_append.mp this).2.2 _ hin _ (List.mem_cons_self ..) rfl
    have hno : x ∉ (asPg (ys.flatMap dffP)).map (·.name) := by rw [hnms]; exact hin
    rw [room_none hno, if_neg (by simp)]
    refine ⟨ps, ?_, by omega, ?_⟩
    · rw [show (some (2 : Int)) = some ((2 : Nat) : Int) from rfl, cut_fr]
      rfl
    have hd := dcn_le ps ps.length
    by_cases hpd : ps.Nodup
    · rw [if_neg (by have := dcn_all.mpr hpd; omega)]
      refine ⟨by unfold roomsD asPg; rw [List.length_map, List.length_map]; omega, hN _ _ ⟨⟨?_, ?_⟩, ?_, _, _, rfl⟩⟩
      · rw [hnx, List.map_append]
        exact List.nodup_append.mpr ⟨hnd, by simp, fun a ha b hb e => hin (by rw [List.map_cons, List.map_nil, List.mem_singleton] at hb; have e2 : a = x := e.trans hb; rw [← e2]; exact ha)⟩
      · rw [hnx]
        intro q hq
        rcases List.mem_append.mp hq with hq | hq
        · exact hpn q hq
        · rw [List.mem_singleton.mp hq]; exact hpd
      · rw [hnx, show asPg (ys.flatMap dffP ++ [(x, ps)]) = asPg (ys.flatMap dffP) ++ [⟨x, ps, [], 0, 0⟩] from by unfold asPg; rw [List.map_append]; rfl, ← rooms_put (o := ⟨x, ps, [], 0, 0⟩) hno]
        rw [show ((ps.length + 1 + 1 : Nat) : Int) - 2 = ((ps.length : Nat) : Int) by omega]
    · rw [if_pos (by have : dcn ps ps.length ≠ ps.length := fun z => hpd (dcn_all.mp z); omega)]
      exact (h _ hE).2 fun z => hpd (z.2.1 (x, ps) (by rw [hflat]; simp))
  · rintro τ M1 ⟨⟨hnd, hpn⟩, rfl, x2, x3, rfl⟩
    rw [dff_flat] at hnd hpn ⊢
    have val : ∀ f, valD (roomsD (asPg (gs.flatMap dffP))) (.inr f) = (roomL (gs.flatMap dffP) f).map fun n => D.int (n : Nat) := fun f => by rw [rooms_val, asPg_room]
    walk_at "vc"
    refine lc_filter gs (fun l => D.str l.txt) isCallL (fun l => D.lst (l.words.map D.str)) rfl (by rw [sizeLine_eq]; omega) trivial (fun l R1 R0 hl2 h1 h0 => ?_) ?_
    · walk_at "vc"
      have hll := lin_len (g2 l hl2)
      have hc := (line_cut (g2 l hl2)).2
      refine ⟨by omega, ?_⟩
      by_cases e : isCallL l = true
      · rw [if_pos (hc.mpr e), hb, lin_split (g2 l hl2)]
        exact ⟨by decide +kernel, by omega, h1 e⟩
      · rw [if_neg (fun z => e (hc.mp z))]
        exact h0 (by simpa using e)
    rw [lstOf_l, oSome_i]
    have hfc : (gs.filter isCallL).length ≤ 200 := Nat.le_trans (List.length_filter_le _ _) (by omega)
    refine for_map (gs.filter isCallL) (fun l => D.lst (l.words.map D.str)) rfl (fun ys τ M1 => (∀ l x f es, Lin.pln (.call l x f es) ∈ ys → f ≠ "main" ∧ roomL (gs.flatMap dffP) f = some es.length) ∧ M1 = mup M r (.dK (roomsD (asPg (gs.flatMap dffP)))) ∧ ∃ x2 x3, τ = [some (.lst (gs.map fun l => D.str l.txt)), some (.ref r), x2, x3]) ⟨(fun l x f es hm => by cases hm), rfl, _, _, rfl⟩ (fun _ _ _ _ => lstOf_l) ?_ ?_
    · rintro ys l zs τ M1 Nx hx ⟨hc, rfl, x2, x3, rfl⟩ hN
      have hlm : l ∈ gs.filter isCallL := by rw [hx]; simp
      obtain ⟨hl1, hl3⟩ := List.mem_filter.mp hlm
      obtain ⟨k, x, f, es, rfl⟩ : ∃ k x f es, l = .pln (.call k x f es) := by
        cases l with
        | pln s => cases s <;> first | exact ⟨_, _, _, _, rfl⟩ | cases hl3
        | _ => cases hl3
      have h1 : ∀ e ∈ es, (wordsE e).length = 1 := ha _ hl1
      have hw : (es.flatMap wordsE).length = es.length := by
        clear hx hN hlm hl1 hl3
        induction es with
        | nil => rfl
        | cons e t ih =>
          rw [List.flatMap_cons, List.length_append, h1 e (List.mem_cons_self ..), ih fun e he => h1 e (List.mem_cons_of_mem _ he), List.length_cons]
          omega
      have hesl : es.length ≤ 6 := (g2 _ hl1).2.2.1
      rw [show (Lin.pln (.call k x f es)).words = ("call" : Str) :: x :: f :: es.flatMap wordsE from rfl]
      walk_at "vc"
      by_cases c1 : f = Str.ofString "main"
      · rw [if_pos c1]
        exact (h _ hE).2 fun z => (z.2.2.2 _ _ _ _ hl1).1 c1
      rw [if_neg c1]
      refine ⟨⟨r, _, rfl, mup_same, trivial⟩, ?_⟩
      rw [val, hw, show ((es.length + 1 + 1 + 1 : Nat) : Int) - 3 = ((es.length : Nat) : Int) by omega]
      have hbad : roomL (gs.flatMap dffP) f ≠ some es.length → Q (.bl false) (mup M r (.dK (roomsD (asPg (gs.flatMap dffP))))) := fun q => (h _ hE).2 fun z => q (z.2.2.2 _ _ _ _ hl1).2
      by_cases c2 : roomL (gs.flatMap dffP) f = some es.length
      · rw [c2]
        show oSome (dScal (D.int ((es.length : Nat) : Int)) (D.int ((es.length : Nat) : Int))) _
        walk_at "vc"
        refine hN _ _ ⟨fun l y g vs hm => ?_, rfl, _, _, rfl⟩
        rcases List.mem_append.mp hm with hm | hm
        · exact hc _ _ _ _ hm
        · cases List.mem_singleton.mp hm
          exact ⟨c1, c2⟩
      · cases e : roomL (gs.flatMap dffP) f with
        | none =>
          show oSome (dScal (D.int (-1)) (D.int ((es.length : Nat) : Int))) _
          walk_at "vc"
          rw [if_pos (by omega)]
          exact hbad c2
        | some n =>
          have hn : n ≠ es.length := fun z => c2 (by rw [e, z])
          show oSome (dScal (D.int ((n : Nat) : Int)) (D.int ((es.length : Nat) : Int))) _
          walk_at "vc"
          rw [if_pos (by omega)]
          exact hbad c2
    · rintro τ M1 ⟨hc, rfl, x2, x3, rfl⟩
      walk_at "vc"
      refine ⟨⟨r, _, rfl, mup_same, trivial⟩, ?_⟩
      rw [val]
      have hcall : ∀ l x f es, Lin.pln (.call l x f es) ∈ gs → f ≠ "main" ∧ roomL (gs.flatMap dffP) f = some es.length := fun l x f es hm => hc l x f es (List.mem_filter.mpr ⟨hm, rfl⟩)
      by_cases c2 : roomL (gs.flatMap dffP) "main" = some 0
      · rw [c2]
        exact (h _ hE).1 ⟨hnd, hpn, c2, hcall⟩
      · have hbad : Q (.bl false) (mup M r (.dK (roomsD (asPg (gs.flatMap dffP))))) := (h _ hE).2 fun z => c2 z.2.2.1
        cases e : roomL (gs.flatMap dffP) "main" with
        | none => exact hbad
        | some n =>
          show oSome (dScal (D.int ((n : Nat) : Int)) (D.int 0)) _
          have hn : n ≠ 0 := fun z => c2 (by rw [e, z])
          walk_at "vc"
          rw [decide_eq_false (by omega)]
          exact hbad
def spDue : SpT := fun ds M Q _ => ∃ (xs : List Str) (fs : List Str) (b : Bool) (n : Nat), ds = [.lst (xs.map .str), .lst (fs.map .str)] ∧ InvX xs b n ∧ (b = true ↔ ("line" : Str) ∈ fs) ∧ n ≤ 3000 ∧ ∀ M', Ext M M' → Q (kindsDX (readOf xs)) M'
theorem ok_l_due (T : Tp K mg) : Fn P w K mg base CX0 3 "_law_due" spDue := by
  refine fn_top T.top 46 e_l_due (m_l_due T) sc_l_due (by rintro _ M Q Et ⟨_, _, _, n, rfl, _⟩; rfl) (fun cdv A outer s H E hr => ⟨_, (qss_cons (qs_if (qt_cmp oq_gt (q_callB cq_len (m_len T) (by decide +kernel) (qa_cons (qv 0) qa_nil)) q_int)
  (qss_one (qs_ret (q_lst (qa_cons q_bl (qa_cons q_bl (qa_cons q_bl (qa_cons q_bl (qa_cons q_bl (qa_cons q_bl (qa_cons q_bl qa_nil))))))))))
  qss_nil)
 (qss_cons (qs_if (qt_cmp oq_inQ q_str (qv 1))
  (qss_one (qs_ret (q_lst (qa_cons q_bl (qa_cons q_bl (qa_cons q_bl (qa_cons q_bl (qa_cons q_bl (qa_cons q_bl (qa_cons q_bl qa_nil))))))))))
  qss_nil)
 (qss_cons (qs_if (qt_not (qt_val (q_call (ok_l_nests T) (hr.mono (by decide)) (qa_cons (qv 0) qa_nil))))
  (qss_one (qs_ret (q_lst (qa_cons q_bl (qa_cons q_bl (qa_cons q_bl (qa_cons q_bl (qa_cons q_bl (qa_cons q_bl (qa_cons q_bl qa_nil))))))))))
  qss_nil)
 (qss_cons (qs_if (qt_not (qt_val (q_call (ok_l_named T) (hr.mono (by decide)) (qa_cons (qv 0) qa_nil))))
  (qss_one (qs_ret (q_lst (qa_cons q_bl (qa_cons q_bl (qa_cons q_bl (qa_cons q_bl (qa_cons q_bl (qa_cons q_bl (qa_cons q_bl qa_nil))))))))))
  qss_nil)
 (qss_one (qs_ret (q_lst qa_nil))))))), ?_⟩) (fun _ _ _ _ _ _ us hl => match us, hl with | [_, _], _ => rfl)
  rintro _ M Q Et ⟨xs, fs, b, n, rfl, iv, hb, hn, h⟩
  have few := iv.few
  walk_at "vc"
  by_cases h200 : 200 < xs.length
  · rw [if_pos (by omega)]
    have := h _ .refl
    unfold readOf at this
    rw [if_pos h200] at this
    exact this
  rw [if_neg (by omega)]
  refine ⟨rfl, all_ws, ?_⟩
  rw [any_ws]
  cases b with
  | true =>
    rw [if_pos (decide_eq_true (hb.mp rfl))]
    have := h _ .refl
    rw [read_line h200 iv.none] at this
    exact this
  | false =>
    rw [if_neg (fun z => by have := hb.mpr (of_decide_eq_true z); cases this)]
    obtain ⟨gs, hgs, ha⟩ := iv.lines
    obtain ⟨g1, g2, g3, g4⟩ := lines_ok hgs
    refine ⟨xs, gs, rfl, hgs, by omega, ?_⟩
    dsimp only
    rw [oBl_i]
    cases hnb : nestB gs with
    | false =>
      rw [if_pos rfl]
      have := h _ .refl
      rw [read_nest h200 hgs hnb] at this
      exact this
    | true =>
      rw [if_neg (by decide)]
      obtain ⟨pg, hpg⟩ := nestB_ok hnb
      have nl := names_L g2 (by omega) hpg
      refine ⟨xs, gs, rfl, hgs, ha, by omega, fun M' hM => ⟨fun hin => ?_, fun hin => ?_⟩⟩
      · dsimp only
        rw [oBl_i, if_neg (by decide)]
        have := h M' hM
        rw [read_named h200 hgs hpg, if_pos (nl.mpr hin)] at this
        exact this
      · dsimp only
        rw [oBl_i, if_pos rfl]
        have := h M' hM
        rw [read_named h200 hgs hpg, if_neg (fun z => hin (nl.mp z))] at this
        exact this
end
end K07
namespace K07
open PySem PySem.Spec PyProof.Rows L2 Tl
section
variable {P : Program} {w : World} {K : PySem.W.Frag} {mg : Str → Option Value} {base : Heap}
def drawn (nm : List Str) (c2 : Int) (k : Nat) : Str × Nat := (nm.getD (4 + k) "" ++ "x", (mixH c2 k % 4).toNat)
theorem ok_law (T : Tp K mg) {f : Addr} {fd : FuncData} (F : FunD K e_law.name e_law.qual e_law.params e_law.body e_law.scope [] [] f fd) : FnOk P w K mg base CX0 24 f fd ["_law_script"] (lSp K spLaw) := by
  refine fn_ok e_law fd F sc_law (by rintro _ M Q Et ⟨n, rfl, _⟩; rfl) (fun cdv A outer s H E hr => ⟨_, (qss_cons (qs_set (i := 1) sc_law.nd (q_call (ok_l_names T) (hr.mono (by decide)) (qa_cons (q_call (ok_l_cell_at T) (hr.mono (by decide)) (qa_cons (qv 0) (qa_cons q_int qa_nil))) (qa_cons q_int qa_nil))))
 (qss_cons (qs_set (i := 2) sc_law.nd (q_op oq_addI q_int (q_op oq_mod (q_call (ok_l_cell_at T) (hr.mono (by decide)) (qa_cons (qv 0) (qa_cons q_int qa_nil))) q_int)))
 (qss_cons (qs_setLc (i := 4) (own := [(("_law_k" : Str), 3)]) (lv_lcV go_name) rfl sc_law.nd (qi_range1 (m_range T) (qa_cons (qv 2) qa_nil)) (blkOk_by (N := nm_law) (sc := defScope s_law) (own := [(("_law_k" : Str), 3)]) (by decide +kernel)) (fun _ _ _ _ _ => (pg_name (i := 3) sc_law.nd rfl (Or.inl rfl))) (fun _ _ _ _ _ => qts_nil) (fun _ _ _ _ _ => (q_tup (qa_cons (q_op oq_addS (q_ix (qv 1) (q_op oq_addI q_int (qv 3))) q_str) (qa_cons (q_op oq_mod (q_call (ok_l_mixed T) (hr.mono (by decide)) (qa_cons (q_call (ok_l_cell_at T) (hr.mono (by decide)) (qa_cons (qv 0) (qa_cons q_int qa_nil))) (qa_cons (qv 3) qa_nil))) q_int) qa_nil)))) (sw_true rfl rfl rfl (by decide +kernel)))
 (qss_cons (qs_asg (q_tup (qa_cons q_str (qa_cons q_int qa_nil))) (qg_sub (qv 4) (q_op oq_mod (q_op oq_fdiv (q_call (ok_l_cell_at T) (hr.mono (by decide)) (qa_cons (qv 0) (qa_cons q_int qa_nil))) q_int) (qv 2)) sq_list))
 (qss_re (qss_cons (qs_set (i := 5) sc_law.nd (q_call (ok_l_filled T) (hr.mono (by decide)) (qa_cons (q_call (ok_l_text T) (hr.mono (by decide)) (qa_cons (qv 0) (qa_cons (qv 1) (qa_cons (qv 4) qa_nil)))) (qa_cons (q_call (ok_l_cell_at T) (hr.mono (by decide)) (qa_cons (qv 0) (qa_cons q_int qa_nil))) qa_nil))))
 (qss_cons (qs_set (i := 6) sc_law.nd (q_lstM qa_nil))
 (qss_cons (qs_for PassesOwn.never rfl (qi_range1 (m_range T) (qa_cons (q_ix (q_lst (qa_lits (ds := [.int 1, .int 2, .int 0, .int 3, .int 1, .int 1]) rfl)) (q_op oq_mod (q_op oq_fdiv (q_call (ok_l_cell_at T) (hr.mono (by decide)) (qa_cons (qv 0) (qa_cons q_int qa_nil))) q_int) q_int)) qa_nil)) (qg_name (i := 3) sc_law.nd)
  (qss_cons (qs_set (i := 7) sc_law.nd (q_call (ok_l_mixed T) (hr.mono (by decide)) (qa_cons (q_call (ok_l_cell_at T) (hr.mono (by decide)) (qa_cons (qv 0) (qa_cons (q_callB (cq_max2 rfl) (m_max T) (by decide +kernel) (qa_cons q_int (qa_cons (q_op oq_sub (q_op oq_sub (q_callB cq_len (m_len T) (by decide +kernel) (qa_cons (qv 0) qa_nil)) q_int) (qv 3)) qa_nil))) qa_nil))) (qa_cons (q_op oq_addI q_int (qv 3)) qa_nil))))
 (qss_cons (qs_asg (q_call (ok_l_spoilt T) (hr.mono (by decide)) (qa_cons (qv 5) (qa_cons (qv 7) (qa_cons (qv 1) (qa_cons (qv 4) qa_nil))))) (qg_tup (n := 2) rfl (qgs_cons (qg_name (i := 8) sc_law.nd) (qgs_cons (qg_name (i := 5) sc_law.nd) qgs_nil))))
 (qss_one (qs_expr (q_append (qv 6) (qa_cons (qv 8) qa_nil)))))))
 (qss_re (qss_cons (qs_set (i := 9) sc_law.nd (q_join q_str (qv 5)))
 (qss_cons (qs_set (i := 10) sc_law.nd (q_call (ok_l_due T) (hr.mono (by decide)) (qa_cons (qv 5) (qa_cons (qv 6) qa_nil))))
 (qss_cons (qs_for PassesOwn.never rfl (qi_range1 (m_range T) (qa_cons q_int qa_nil)) (qg_name (i := 11) sc_law.nd)
  (qss_one (qs_if (qt_cmp (oq_neD (un64 hr)) (q_call (ok_l_kinds_of T) (hr.mono (by decide)) (qa_cons (qv 9) qa_nil)) (qv 10))
  (qss_one (qs_ret q_bl))
  qss_nil)))
 (qss_cons (qs_if (qt_cmp (oq_neD (un64 hr)) (qv 10) (q_lst qa_nil))
  (qss_one (qs_ret q_bl))
  qss_nil)
 (qss_cons (qs_set (i := 12) sc_law.nd (q_call (ok_shown T) (hr.mono (by decide)) (qa_cons (q_callL (ok_read T) (hr.mono (by decide)) (qa_cons (qv 9) qa_nil)) qa_nil)))
 (qss_one (qs_ret (q_and (q_callB cq_isi (m_isinstance T) (by decide +kernel) (qa_cons (qv 12) (qa_cons (q_ty "str" (m_str T) (by decide +kernel)) qa_nil))) (q_one (q_cmp oq_eq (qv 12) (qv 9)))))))))))))))))))), ?_⟩)
  rintro _ M Q Et ⟨ns, rfl, hl, h⟩
  walk_at "vc"
  refine ⟨ns, 1, rfl, hl, ?_⟩
  refine ⟨ns.getD 1 0, 8, rfl, by omega, fun nm hnl hnm => ?_⟩
  refine ⟨ns, 0, rfl, hl, ?_⟩
  dsimp only
  rw [oInt_i]
  have m0 := modB (a := ns.getD 0 0) (b := 4) (by decide)
  obtain ⟨mn, hmn⟩ : ∃ mn : Nat, 1 + ns.getD 0 0 % 4 = (mn : Int) := ⟨(1 + ns.getD 0 0 % 4).toNat, by omega⟩
  rw [hmn]
  refine ⟨by omega, ?_⟩
  rw [Int.toNat_natCast]
  have hdr : ∀ k, k < mn → okName (drawn nm (ns.getD 2 0) k).1 ∧ (drawn nm (ns.getD 2 0) k).2 ≤ 3 := fun k hk => by
    have hlt : 4 + k < nm.length := by omega
    have m := modB (a := mixH (ns.getD 2 0) k) (b := 4) (by decide)
    unfold drawn
    rw [List.getD_eq_getElem?_getD, List.getElem?_eq_getElem hlt]
    refine ⟨?_, by dsimp only; omega⟩
    obtain ⟨q1, q2⟩ := hnm nm[4 + k] (List.getElem_mem hlt)
    exact nameX_ok (nameX_x q1 q2)
  refine lc_map (List.range mn) (fun k => D.int (k : Nat)) (fun k => dfD (drawn nm (ns.getD 2 0) k)) rfl (by rw [List.length_range, sizeLine_eq]; omega) trivial (fun k R1 R0 hk h1 => ?_) ?_
  · rw [List.mem_range] at hk
    have hlt : 4 + k < nm.length := by omega
    have m := modB (a := mixH (ns.getD 2 0) k) (b := 4) (by decide)
    have hx := (hnm nm[4 + k] (List.getElem_mem hlt)).2
    have lx : (Str.ofString "x").length = 1 := by decide +kernel
    walk_at "vc"
    rw [show (4 : Int) + (k : Int) = ((4 + k : Nat) : Int) by omega, atI_nat (v := .str nm[4 + k]) (by rw [List.getElem?_map, List.getElem?_eq_getElem hlt]; rfl)]
    walk_at "vc"
    refine ⟨by omega, ns, 2, rfl, hl, ?_⟩
    refine ⟨ns.getD 2 0, k, rfl, by omega, ?_⟩
    dsimp only
    rw [oInt_i]
    have e : dfD (drawn nm (ns.getD 2 0) k) = .tup [.str (nm[4 + k] ++ Str.ofString "x"), .int (mixH (ns.getD 2 0) k % 4)] := by
      unfold dfD drawn
      rw [List.getD_eq_getElem?_getD, List.getElem?_eq_getElem hlt]
      dsimp only
      rw [Int.toNat_of_nonneg m.1]
      rfl
    rw [← e]
    exact h1
  walk_at "vc"
  intro p hp
  refine ⟨ns, 0, rfl, hl, ?_⟩
  dsimp only
  rw [oInt_i]
  have m1 := modB (a := ns.getD 0 0 / 4) (b := (mn : Int)) (by omega)
  obtain ⟨j, hj⟩ : ∃ j : Nat, ns.getD 0 0 / 4 % (mn : Int) = (j : Int) := ⟨(ns.getD 0 0 / 4 % (mn : Int)).toNat, by omega⟩
  rw [hj]
  refine ⟨wd60 (by decide) (by decide), by omega, ?_⟩
  rw [mLst_at mup_same, oSome_i, List.length_map, List.length_range, ix_nat (by omega), oSome_i]
  have hset : ((List.range mn).map fun k => dfD (drawn nm (ns.getD 2 0) k)).set j (.tup [.str "main", .int 0]) = (((List.range mn).map (drawn nm (ns.getD 2 0))).set j ("main", 0)).map dfD := by
    rw [List.map_set, List.map_map]
    rfl
  rw [hset, mup_mup]
  have hdv : DefsOk (((List.range mn).map (drawn nm (ns.getD 2 0))).set j ("main", 0)) := by
    refine ⟨by rw [List.length_set, List.length_map, List.length_range]; omega, fun q hq => ?_⟩
    rcases List.mem_or_eq_of_mem_set hq with hq | rfl
    · obtain ⟨k, hk, rfl⟩ := List.mem_map.mp hq
      exact hdr k (List.mem_range.mp hk)
    · exact ⟨by decide +kernel, by decide⟩
  generalize ((List.range mn).map (drawn nm (ns.getD 2 0))).set j ("main", 0) = dv at hdv
  refine ⟨_, _, (ReS.freeze (i := 4) (a := p) (ds := dv.map dfD) rfl mup_same).trans (ReS.drop (M' := M) (by rw [mdel_mup hp]; exact fun _ _ e => e)), ?_⟩
  walk_at "vc"
  refine ⟨ns, nm, dv, rfl, hl, hnl, fun x hx => (hnm x hx).1, hdv, fun ys M1 hM1 iv0 => ?_⟩
  dsimp only
  refine ⟨ns, 3, rfl, hl, ?_⟩
  refine ⟨ys, ns.getD 3 0, false, 1000, rfl, iv0, by omega, fun ys iv0 => ?_⟩
  dsimp only
  intro p2 hp2
  refine ⟨ns, 0, rfl, hl, ?_⟩
  dsimp only
  rw [oInt_i]
  have m2 := modB (a := ns.getD 0 0 / 16) (b := 6) (by decide)
  refine ⟨wd60 (by decide) (by decide), ?_⟩
  refine at_some (p := fun d => ∃ z : Nat, d = .int z ∧ z ≤ 3) m2.1 (by show _ < (6 : Int); exact m2.2) (by
    simp only [List.forall_mem_cons, List.not_mem_nil, false_imp_iff, implies_true, and_true]
    exact ⟨⟨1, rfl, by decide⟩, ⟨2, rfl, by decide⟩, ⟨0, rfl, by decide⟩, ⟨3, rfl, by decide⟩, ⟨1, rfl, by decide⟩, ⟨1, rfl, by decide⟩⟩) ?_
  rintro _ ⟨z, rfl, hz⟩
  rw [oInt_i]
  refine ⟨by omega, ?_⟩
  rw [Int.toNat_natCast]
  refine for_map (List.range z) (fun k => D.int (k : Nat)) rfl (fun js τ M2 => ∃ (xs : List Str) (b : Bool) (fs : List Str), InvX xs b (1210 + 20 * js.length) ∧ (b = true ↔ ("line" : Str) ∈ fs) ∧ fs.length = js.length ∧ M2 = mup M1 p2 (.lst (fs.map .str)) ∧ ∃ x3 x7 x8, τ = [some (.scr (ns.map .int)), some (.lst (nm.map .str)), some (.int mn), x3, some (.lst (dv.map dfD)), some (.lst (xs.map .str)), some (.ref p2), x7, x8, none, none, none, none]) ⟨ys, false, [], iv0.mono (by omega), ⟨(fun e => by cases e), (fun e => by cases e)⟩, rfl, rfl, _, _, _, rfl⟩ (fun _ _ _ _ => trivial) ?_ ?_
  · rintro js k ks τ M2 Nx hx ⟨xs, b, fs, iv, hb, hfl, rfl, x3, x7, x8, rfl⟩ hN
    have hk : k < z := List.mem_range.mp (by rw [hx]; simp)
    have hjl : js.length < z := by have := congrArg List.length hx; rw [List.length_range, List.length_append, List.length_cons] at this; omega
    walk_at "vc"
    obtain ⟨q, hq⟩ : ∃ q : Nat, (if ((ns.length : Nat) : Int) - 1 - (k : Int) > 0 then ((ns.length : Nat) : Int) - 1 - (k : Int) else 0) = (q : Int) := by
      split
      · exact ⟨ns.length - 1 - k, by omega⟩
      · exact ⟨0, rfl⟩
    rw [hq]
    refine ⟨ns, q, rfl, hl, ?_⟩
    refine ⟨ns.getD q 0, 9 + k, by rw [show ((9 + k : Nat) : Int) = 9 + (k : Int) by omega], by omega, ?_⟩
    refine ⟨xs, nm, _, dv, b, 1210 + 20 * js.length, rfl, iv, by omega, hnl, fun x hx => (hnm x hx).1, hdv, fun w us hw iw => ?_⟩
    walk_at "vc"
    refine ⟨by omega, hN _ _ ⟨us, b || decide (w = "line"), fs ++ [w], iw.mono (by rw [List.length_append]; simp only [List.length_cons, List.length_nil]; omega), ?_, by rw [List.length_append, List.length_append, hfl]; rfl, by rw [List.map_append]; rfl, _, _, _, rfl⟩⟩
    rw [Bool.or_eq_true, decide_eq_true_iff, List.mem_append, hb, List.mem_singleton]
    exact or_congr Iff.rfl ⟨fun e => e.symm, fun e => e.symm⟩
  · rintro τ M2 ⟨xs, b, fs, iv, hb, hfl, rfl, x3, x7, x8, rfl⟩
    rw [List.length_range] at iv hfl
    walk_at "vc"
    refine ⟨_, _, (ReS.freeze (i := 6) (a := p2) (ds := fs.map .str) rfl mup_same).trans (ReS.drop (M' := M1) (by rw [mdel_mup hp2]; exact fun _ _ e => e)), ?_⟩
    walk_at "vc"
    have hfew := iv.few
    have hsum := sum_le_mul (k := 200) (ws := xs) iv.short
    have ll : (Str.ofString "\n").length = 1 := by decide +kernel
    have hb2 : Str.ofString "\n" = lineEnd := rfl
    refine ⟨xs, rfl, by rw [ll]; omega, xs, fs, b, _, rfl, iv, hb, by omega, fun M3 hM3 => ?_⟩
    walk_at "vc"
    rw [hb2]
    refine for_map (List.range 2) (fun k => D.int (k : Nat)) rfl (fun _ τ _ => ∃ x11, τ = [some (.scr (ns.map .int)), some (.lst (nm.map .str)), some (.int mn), x3, some (.lst (dv.map dfD)), some (.lst (xs.map .str)), some (.lst (fs.map .str)), x7, x8, some (.str (Txt.join lineEnd xs)), some (kindsDX (readOf xs)), x11, none]) ⟨_, rfl⟩ (fun _ _ _ _ => trivial) ?_ ?_
    · rintro js k ks τ M4 Nx hx ⟨x11, rfl⟩ hN
      walk_at "vc"
      refine ⟨xs, rfl, iv.ne, by omega, iv.free, fun M5 hM5 => ?_⟩
      refine kinds_eqX ?_
      walk_at "vc"
      exact hN _ _ ⟨_, rfl⟩
    · rintro τ M4 ⟨x11, rfl⟩
      walk_at "vc"
      refine kinds_emp (fun hno => ?_) (fun hok => ?_)
      · walk_at "vc"
        exact h _
      · walk_at "vc"
        obtain ⟨pg, hpg⟩ := hok
        refine ⟨xs, rfl, iv.ne, by omega, iv.free, fun M5 hM5 => ?_⟩
        rw [hpg]
        obtain ⟨gs, hgs, hn, h200⟩ := read_ok hpg
        obtain ⟨g1, g2, g3, g4⟩ := lines_ok hgs
        obtain ⟨f1, f2, f3⟩ := read_fit g2 (by omega) hn
        refine ⟨pg, gs, rfl, shP_of (fun l hl => plain_ok (g2 l hl)) hn, g2, by omega, fun o ho => ⟨(f2 o ho).1, (f2 o ho).2.2.1, (f2 o ho).2.2.2.1⟩, ?_⟩
        rw [← g3]
        walk_at "vc"
        exact h _
end
end K07
namespace K07
open PySem PySem.Spec PyProof.Rows L2 Tl
theorem facts {P : Program} {w : World} {K : PySem.W.Frag} {h : Heap} {mg : Str → Option Value} {f : Addr} (X : K.In h) (G : h.Ns mainGlobals mg) (hfa : mg ("law" : Str) = some (.ref f)) (hh : Heap) (c0 : He.SaysX fa fn [] [] exB w hh K) :
    ∃ fd : FuncData, (∀ (s : Shared) (v : Value), BindsTo s fd ⟨[v], []⟩ [("_law_script", v)]) ∧ ∀ base : Heap, K.In base → base.Ns mainGlobals mg → FnOk P w K mg base CX0 24 f fd ["_law_script"] (lSp K spLaw) := by
  have T : Tp K mg := ⟨⟨c0.t.d, h, X, G⟩, c0.more⟩
  obtain ⟨fd, F⟩ := c0.t.d.def_ 47 (d := e_law) rfl
  have e := hfa.symm.trans (m_law T)
  cases e
  have b := FunD.bindsA (ps := ["_law_script"]) F fun _ _ _ _ _ _ us hl => match us, hl with | [_], _ => rfl
  exact ⟨fd, fun s v => b s [v] rfl, fun base _ _ => ok_law T F⟩
end K07
open PySem PySem.W PySem.Calls PyProof.Rows
theorem PySem.Challenge.cw_widelanes_k07_refused_in_order_holds : PySem.Challenge.rw_widelanes_k07_refused_in_order.Holds := by
  w_on; o_law
  refine HandSHeadRun.head_any (r := OpenLaw.row PySem.Challenge.rw_widelanes_k07_refused_in_order) (q := view (OpenLaw.row PySem.Challenge.rw_widelanes_k07_refused_in_order).prog [73]) (H := K07.hk) (ob := K07.ob) (M := 6000) (loose := ("__name__" :: "LaneError" :: "TooMuch" :: "NoLine" :: "NoNest" :: "NoName" :: "Waits" :: "NoHead" :: "LETTERS" :: "FIGURES" :: "SIGNS" :: "WORKINGS" :: "DEEDS" :: "KEPT" :: "LONGEST" :: "MANY" :: "DEEPEST" :: "all_of_these" :: "is_name" :: "is_number" :: "read_number" :: "plain_of" :: "expression_at" :: "expressions_at" :: "shown_expression" :: "BARE" :: "ONES" :: "JOININGS" :: "MOST_lines" :: "name_at" :: "just_so_many" :: "six_at_most" :: "joining_of" :: "named_of" :: "parts_of" :: "MOST_nests" :: "Opened" :: "may_stand" :: "close_innermost" :: "nested" :: "blocks_of" :: "all_of" :: "MOST_texts" :: "check_names" :: "read" :: "shown_part" :: "shown_block" :: "shown" :: "_law_mixed" :: "_law_cell_at" :: "_law_names" :: "_law_plain" :: "_law_called" :: "_law_text" :: "_law_no_line" :: "_law_in_front" :: "_law_nest_fault" :: "_law_round" :: "_law_alike_names" :: "_law_name_fault" :: "_law_filled" :: "_law_spoilt" :: "_law_kinds_of" :: "_law_laid" :: "_law_nests" :: "_law_named" :: "_law_due" :: [])) (d := HandSHeadRun.topDef (OpenLaw.row PySem.Challenge.rw_widelanes_k07_refused_in_order).prog 73) (kwd := []) K07.ob_eq
    (by kernel_rfl) (fun s => by kernel_rfl) K07.run (by kernel_rfl) (by kernel_rfl) (by kernel_rfl) (by rfl) (by first | assumption | decide +kernel) (by decide +kernel) ⟨rfl, rfl, rfl, rfl, rfl, by decide +kernel⟩ ?hw ?hc
  case hw => w_witness2
  case hc =>
    refine L2.walk_ofE (l := PySem.Challenge.rw_widelanes_k07_refused_in_order) (n := 63) (k := 24) (x := "_law_script") (CX := L2.CX0) rfl (by decide) (by kernel_rfl) ⟨rfl, by decide, by decide⟩ ?F (fun _ _ _ _ z => z)
    intro w mg fa h Y G hmg0
    obtain ⟨K, KX, c⟩ := Y
    have hmg : mg ("law" : PySem.Str) = some (.ref fa) := by
      have e : (HandSHeadRun.topDef (OpenLaw.row PySem.Challenge.rw_widelanes_k07_refused_in_order).prog 73).name = ("law" : PySem.Str) := by kernel_rfl
      rw [← e]
      exact hmg0
    obtain ⟨fd, hb, hF⟩ := K07.facts (P := (PySem.Challenge.rw_widelanes_k07_refused_in_order).prog) (w := w) KX G hmg _ c
    exact ⟨K, fd, Tl.lSp K Tl.spLaw, KX, hb, fun H a ns hl _ hS => Tl.end_sp hS ⟨ns, rfl, hl, fun _ => rfl⟩, hF⟩
#print axioms PySem.Challenge.cw_widelanes_k07_refused_in_order_holds
