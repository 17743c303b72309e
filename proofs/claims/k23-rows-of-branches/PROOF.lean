import PyProof.Rows.All
import Wide.All
import OpenK.AllK
import Wide.FinOn
import HandS.ForMost
import HandS.ForExc
import HandS.Wide
import HandS.IsInst
import HandS.HeadHook2
import HandS.Head2
import HandS.HeadEnd
import PyProof.Rows.SeqMore
import HandS.SortInts
import PyProof.Rows.RuleDivmod
import HandS.TupLen
import HandS.TupAny
import HandS.TupMul
import HandS.More
import HandS.Conv
import HandS.SetKeys
import HandS.WideBits
import HandS.SortRule
import KE.BitLaws
import HandS.Codes
import HandS.Zip
import HandS.TryOnly
import KE.GoesEnumKw
import KE.DataMinMax
import HandS.Strs
import HandS.RaiseMore
import HandS.HeadHook4
import PySem.Challenge.RW_widelanes_k23_rows_of_branches
set_option Elab.async false
set_option linter.all false
set_option maxRecDepth 100000
set_option maxHeartbeats 4000000
namespace Tl
open PySem PySem.Spec PyProof.Rows L2
/-! ### data as trees -/
inductive D where
  | non | bl (b : Bool) | int (i : Int) | str (s : Str) | tup (l : List D) | lst (l : List D) | tab (l : List D) | scr (l : List D) | ref (a : Addr) | ty (n : String)
/-- what may still change -/
inductive MO where
  | lst (l : List D) | dK (kvs : List (Key × D)) | dT (kvs : List (List Key × D)) | obj (C dx : Addr) (fl : List Str) (ds : List D) | lk (o : Obj) (ks : List (Key × V)) (kvs : List (Key × D))
abbrev MH := Addr → Option MO
def mup (M : MH) (a : Addr) (o : MO) : MH := fun b => if b = a then some o else M b
def mdel (M : MH) (a : Addr) : MH := fun b => if b = a then none else M b
theorem mup_same {M : MH} {a : Addr} {o : MO} : mup M a o a = some o := by unfold mup; rw [if_pos rfl]
theorem mup_ne {M : MH} {a b : Addr} {o : MO} (h : b ≠ a) : mup M a o b = M b := by unfold mup; rw [if_neg h]
theorem mup_mup {M : MH} {a : Addr} {o u : MO} : mup (mup M a o) a u = mup M a u := by
  funext b; unfold mup; split <;> rfl
theorem mdel_mup {M : MH} {a : Addr} {o : MO} (h : M a = none) : mdel (mup M a o) a = M := by
  funext b; unfold mdel mup
  by_cases e : b = a
  · rw [if_pos e, e, h]
  · rw [if_neg e, if_neg e]
section
variable (K : PySem.W.Frag)
mutual
inductive Rp (F : Hp) : V → D → Prop
  | non : Rp F .non .non
  | bl (b : Bool) : Rp F (.bl b) (.bl b)
  | int (i : Int) : Rp F (.int i) (.int i)
  | str (s : Str) : Rp F (.str s) (.str s)
  | ty (n : String) : Rp F (.ty n) (.ty n)
  | ref (a : Addr) : Rp F (.ref a) (.ref a)
  | tup {a : Addr} {vs : List V} {ds : List D} (h : F a = some (.tup vs)) (r : Rps F vs ds) : Rp F (.ref a) (.tup ds)
  | tab {a : Addr} {vs : List V} {ds : List D} (h : SqT K F a vs) (r : Rps F vs ds) : Rp F (.ref a) (.tab ds)
  | lst {a : Addr} {vs : List V} {ds : List D} (h : F a = some (.lst vs)) (r : Rps F vs ds) : Rp F (.ref a) (.lst ds)
  | scr {a : Addr} {vs : List V} {ds : List D} (h : SqL K F a vs) (r : Rps F vs ds) : Rp F (.ref a) (.scr ds)
inductive Rps (F : Hp) : List V → List D → Prop
  | nil : Rps F [] []
  | cons {v : V} {d : D} {vs : List V} {ds : List D} (h : Rp F v d) (t : Rps F vs ds) : Rps F (v :: vs) (d :: ds)
end
end
section
variable {K : PySem.W.Frag}
theorem SameT {H H' : Hp} {a : Addr} {xs : List V} (e : Same H H') (h : SqT K H a xs) : SqT K H' a xs := by
  rcases h with (h | ⟨o, h⟩) | h
  · exact .inl (.inl (e _ _ h))
  · exact .inl (.inr ⟨o, e _ _ h⟩)
  · exact .inr h
mutual
theorem Rp.mono {F F' : Hp} (s : Same F F') : ∀ {v : V} {d : D}, Rp K F v d → Rp K F' v d
  | _, _, .non => .non
  | _, _, .bl b => .bl b
  | _, _, .int i => .int i
  | _, _, .str x => .str x
  | _, _, .ty n => .ty n
  | _, _, .ref a => .ref a
  | _, _, .tup h r => .tup (s _ _ h) (Rps.mono s r)
  | _, _, .tab h r => .tab (SameT s h) (Rps.mono s r)
  | _, _, .lst h r => .lst (s _ _ h) (Rps.mono s r)
  | _, _, .scr h r => .scr (s.seq h) (Rps.mono s r)
theorem Rps.mono {F F' : Hp} (s : Same F F') : ∀ {vs : List V} {ds : List D}, Rps K F vs ds → Rps K F' vs ds
  | _, _, .nil => .nil
  | _, _, .cons h t => .cons (Rp.mono s h) (Rps.mono s t)
end
theorem Rps.length {F : Hp} : ∀ {vs : List V} {ds : List D}, Rps K F vs ds → vs.length = ds.length
  | _, _, .nil => rfl
  | _, _, .cons _ t => by rw [List.length_cons, List.length_cons, Rps.length t]
theorem Rps.get {F : Hp} : ∀ {vs : List V} {ds : List D} {i : Nat} {v : V}, Rps K F vs ds → vs[i]? = some v → ∃ d, ds[i]? = some d ∧ Rp K F v d
  | _, _, _, _, .nil, e => by simp at e
  | _, _, 0, _, .cons h _, e => by simp at e; subst e; exact ⟨_, rfl, h⟩
  | _, _, i + 1, v, .cons _ t, e => by
    obtain ⟨d, h1, h2⟩ := Rps.get (i := i) (v := v) t (by simpa using e)
    exact ⟨d, by simpa using h1, h2⟩
theorem Rps.getD {F : Hp} : ∀ {vs : List V} {ds : List D} {i : Nat} {d : D}, Rps K F vs ds → ds[i]? = some d → ∃ v, vs[i]? = some v ∧ Rp K F v d
  | _, _, _, _, .nil, e => by simp at e
  | _, _, 0, _, .cons h _, e => by simp at e; subst e; exact ⟨_, rfl, h⟩
  | _, _, i + 1, v, .cons _ t, e => by
    obtain ⟨d, h1, h2⟩ := Rps.getD (i := i) (d := v) t (by simpa using e)
    exact ⟨d, by simpa using h1, h2⟩
theorem Rps.append {F : Hp} : ∀ {vs ws : List V} {ds es : List D}, Rps K F vs ds → Rps K F ws es → Rps K F (vs ++ ws) (ds ++ es)
  | _, _, _, _, .nil, s => s
  | _, _, _, _, .cons h t, s => .cons h (Rps.append t s)
theorem Rps.take {F : Hp} : ∀ {vs : List V} {ds : List D} (n : Nat), Rps K F vs ds → Rps K F (vs.take n) (ds.take n)
  | _, _, 0, _ => .nil
  | _, _, _ + 1, .nil => .nil
  | _, _, n + 1, .cons r t => .cons r (Rps.take n t)
theorem Rps.drop {F : Hp} : ∀ {vs : List V} {ds : List D} (n : Nat), Rps K F vs ds → Rps K F (vs.drop n) (ds.drop n)
  | _, _, 0, r => r
  | _, _, _ + 1, .nil => .nil
  | _, _, n + 1, .cons _ t => Rps.drop n t
theorem Rps.set {F : Hp} {v : V} {d : D} (r : Rp K F v d) : ∀ {vs : List V} {ds : List D} (n : Nat), Rps K F vs ds → Rps K F (vs.set n v) (ds.set n d)
  | _, _, _, .nil => .nil
  | _, _, 0, .cons _ t => .cons r t
  | _, _, n + 1, .cons q t => .cons q (Rps.set r n t)
theorem Rps.dropLast {F : Hp} {vs : List V} {ds : List D} (h : Rps K F vs ds) : Rps K F vs.dropLast ds.dropLast := by
  rw [List.dropLast_eq_take, List.dropLast_eq_take, h.length]
  exact h.take _
theorem Rps.reverse {F : Hp} : ∀ {vs : List V} {ds : List D}, Rps K F vs ds → Rps K F vs.reverse ds.reverse
  | _, _, .nil => .nil
  | _, _, .cons h t => by
    rw [List.reverse_cons, List.reverse_cons]
    exact (Rps.reverse t).append (.cons h .nil)
/-- what stands at a mutable place -/
def RpLk (K : PySem.W.Frag) (F : Hp) (u : HO) (ks : List (Key × V)) (ls : List (Key × D)) : Prop := u = .dK ks ∧ Paired (fun (p : Key × V) (q : Key × D) => p.1 = q.1 ∧ Rp K F p.2 q.2) ks ls
def RpO (K : PySem.W.Frag) (F : Hp) : HO → MO → Prop
  | .lst vs, .lst ds => Rps K F vs ds
  | .dK ks, .dK ls => Paired (fun (p : Key × V) (q : Key × D) => p.1 = q.1 ∧ Rp K F p.2 q.2) ks ls
  | .dT ks, .dT ls => Paired (fun (p : List Key × V) (q : List Key × D) => p.1 = q.1 ∧ Rp K F p.2 q.2) ks ls
  | .ins C dx fs, .obj C' dx' fl ds => C = C' ∧ dx = dx' ∧ fl.Nodup ∧ fs.map (·.1) = fl.take ds.length ∧ Rps K F (fs.map (·.2)) ds
  | .frz ob u, .lk o ks ls => ob = o ∧ RpLk K F u ks ls
  | _, _ => False
theorem Paired.imp {α β : Type} {R S : α → β → Prop} (h : ∀ a b, R a b → S a b) : ∀ {xs : List α} {ys : List β}, Paired R xs ys → Paired S xs ys
  | _, _, .nil => .nil
  | _, _, .cons r t => .cons (h _ _ r) (Paired.imp h t)
theorem RpO.mono {F F' : Hp} (s : Same F F') : ∀ {u : HO} {o : MO}, RpO K F u o → RpO K F' u o
  | .lst _, .lst _, h => Rps.mono s h
  | .dK _, .dK _, h => Paired.imp (fun _ _ q => ⟨q.1, q.2.mono s⟩) h
  | .dT _, .dT _, h => Paired.imp (fun _ _ q => ⟨q.1, q.2.mono s⟩) h
  | .ins _ _ _, .obj _ _ _ _, h => ⟨h.1, h.2.1, h.2.2.1, h.2.2.2.1, Rps.mono s h.2.2.2.2⟩
  | .lst _, .dK _, h => h.elim
  | .lst _, .dT _, h => h.elim
  | .lst _, .obj _ _ _ _, h => h.elim
  | .dK _, .lst _, h => h.elim
  | .dK _, .dT _, h => h.elim
  | .dK _, .obj _ _ _ _, h => h.elim
  | .dT _, .lst _, h => h.elim
  | .dT _, .dK _, h => h.elim
  | .dT _, .obj _ _ _ _, h => h.elim
  | .ins _ _ _, .lst _, h => h.elim
  | .ins _ _ _, .dK _, h => h.elim
  | .ins _ _ _, .dT _, h => h.elim
  | .tup _, _, h => (h : False).elim
  | .set _ _, _, h => (h : False).elim
  | .own _, _, h => (h : False).elim
  | .xd _, _, h => (h : False).elim
  | .met _ _, _, h => (h : False).elim
  | .rng _ _, _, h => (h : False).elim
  | .lst _, .lk _ _ _, h => h.elim
  | .dK _, .lk _ _ _, h => h.elim
  | .dT _, .lk _ _ _, h => h.elim
  | .ins _ _ _, .lk _ _ _, h => h.elim
  | .frz _ u, .lk _ ks ls, h => ⟨h.1, h.2.1, Paired.imp (fun _ _ q => ⟨q.1, q.2.mono s⟩) h.2.2⟩
  | .frz _ _, .lst _, h => (h : False).elim
  | .frz _ _, .dK _, h => (h : False).elim
  | .frz _ _, .dT _, h => (h : False).elim
  | .frz _ _, .obj _ _ _ _, h => (h : False).elim
  | .tbl _, _, h => (h : False).elim
  | .ext _, _, h => (h : False).elim
/-- what a caller hides G, the frozen part F, the heap H, the changing part M -/
structure Rel (K : PySem.W.Frag) (G F H : Hp) (M : MH) : Prop where
  sub : Same F H
  chg : ∀ a o, M a = some o → F a = none ∧ ∃ u, H a = some u ∧ RpO K F u o
  hid : ∀ a o, G a = some o → H a = some o ∧ F a = none ∧ M a = none
  hidt : ∀ a vs, G a ≠ some (.tup vs)
theorem same_upd {H : Hp} {p : Addr} {o : HO} (h : H p = none) : Same H (upd H p o) := fun b x e => by
  rw [upd_ne (ne_of_none e h)]
  exact e
section
variable {G F H : Hp} {M : MH}
theorem Rel.free (R : Rel K G F H M) {p : Addr} (h : H p = none) : F p = none ∧ M p = none := by
  refine ⟨R.sub.free h, ?_⟩
  cases e : M p with
  | none => rfl
  | some o =>
    obtain ⟨_, u, hu, _⟩ := R.chg p o e
    rw [h] at hu
    cases hu
theorem Rel.freeG (R : Rel K G F H M) {p : Addr} (h : H p = none) : G p = none := by
  cases e : G p with
  | none => rfl
  | some o =>
    rw [(R.hid p o e).1] at h
    cases h
/-- a new frozen thing -/
theorem Rel.newF (R : Rel K G F H M) {p : Addr} {o : HO} (h : H p = none) : Same F (upd F p o) ∧ Rel K G (upd F p o) (upd H p o) M := by
  have s : Same F (upd F p o) := same_upd (R.free h).1
  refine ⟨s, ⟨fun b u e => ?_, fun a m e => ?_, fun a u e => ?_, R.hidt⟩⟩
  · by_cases q : b = p
    · subst q
      rw [upd_same] at e ⊢
      exact e
    · rw [upd_ne q] at e ⊢
      exact R.sub _ _ e
  · obtain ⟨f, u, hu, r⟩ := R.chg a m e
    have q : a ≠ p := ne_of_none hu h
    exact ⟨by rw [upd_ne q]; exact f, u, by rw [upd_ne q]; exact hu, r.mono s⟩
  · obtain ⟨h1, h2, h3⟩ := R.hid a u e
    have q : a ≠ p := ne_of_none h1 h
    exact ⟨by rw [upd_ne q]; exact h1, by rw [upd_ne q]; exact h2, h3⟩
/-- a new changing thing -/
theorem Rel.newM (R : Rel K G F H M) {p : Addr} {u : HO} {o : MO} (h : H p = none) (r : RpO K F u o) : Rel K G F (upd H p u) (mup M p o) := by
  refine ⟨fun b x e => same_upd h _ _ (R.sub _ _ e), fun a m e => ?_, fun a x e => ?_, R.hidt⟩
  · by_cases q : a = p
    · subst q
      rw [mup_same] at e
      cases e
      exact ⟨(R.free h).1, u, upd_same, r⟩
    · rw [mup_ne q] at e
      obtain ⟨f, x, hx, r⟩ := R.chg a m e
      exact ⟨f, x, by rw [upd_ne q]; exact hx, r⟩
  · obtain ⟨h1, h2, h3⟩ := R.hid a x e
    have q : a ≠ p := ne_of_none h1 h
    exact ⟨by rw [upd_ne q]; exact h1, h2, by rw [mup_ne q]; exact h3⟩
/-- a store -/
theorem Rel.put (R : Rel K G F H M) {p : Addr} {u : HO} {o o0 : MO} (h : M p = some o0) (r : RpO K F u o) : Rel K G F (upd H p u) (mup M p o) := by
  obtain ⟨f0, _, _, _⟩ := R.chg p o0 h
  refine ⟨fun b x e => ?_, fun a m e => ?_, fun a x e => ?_, R.hidt⟩
  · rw [upd_ne (ne_of_none e f0)]
    exact R.sub _ _ e
  · by_cases q : a = p
    · subst q
      rw [mup_same] at e
      cases e
      exact ⟨f0, u, upd_same, r⟩
    · rw [mup_ne q] at e
      obtain ⟨f, x, hx, r⟩ := R.chg a m e
      exact ⟨f, x, by rw [upd_ne q]; exact hx, r⟩
  · obtain ⟨h1, h2, h3⟩ := R.hid a x e
    have q : a ≠ p := fun q => by
      rw [q, h] at h3
      cases h3
    exact ⟨by rw [upd_ne q]; exact h1, h2, by rw [mup_ne q]; exact h3⟩
/-- less is known -/
theorem Rel.drop {M' : MH} (R : Rel K G F H M) (h : ∀ a o, M' a = some o → M a = some o) : Rel K G F H M' := ⟨R.sub, fun a o e => R.chg a o (h a o e), (fun a o e => by
  obtain ⟨h1, h2, h3⟩ := R.hid a o e
  refine ⟨h1, h2, ?_⟩
  cases q : M' a with
  | none => rfl
  | some x =>
    rw [h a x q] at h3
    cases h3), R.hidt⟩
/-- a changing list will change no more -/
theorem Rel.freeze (R : Rel K G F H M) {p : Addr} {ds : List D} (h : M p = some (.lst ds)) : ∃ F', Same F F' ∧ Rel K G F' H (mdel M p) ∧ Rp K F' (.ref p) (.lst ds) := by
  obtain ⟨f, u, hu, r⟩ := R.chg p _ h
  cases u with
  | lst vs =>
    have r' : Rps K F vs ds := r
    have s : Same F (upd F p (.lst vs)) := same_upd f
    refine ⟨upd F p (.lst vs), s, ⟨fun b x e => ?_, fun a m e => ?_, fun a x e => ?_, R.hidt⟩, .lst upd_same (r'.mono s)⟩
    · by_cases q : b = p
      · subst q
        rw [upd_same] at e
        rw [hu]
        exact e
      · rw [upd_ne q] at e
        exact R.sub _ _ e
    · unfold mdel at e
      by_cases q : a = p
      · rw [if_pos q] at e
        cases e
      · rw [if_neg q] at e
        obtain ⟨f2, x, hx, r2⟩ := R.chg a m e
        exact ⟨by rw [upd_ne q]; exact f2, x, hx, r2.mono s⟩
    · obtain ⟨h1, h2, h3⟩ := R.hid a x e
      have q : a ≠ p := fun q => by
        rw [q, h] at h3
        cases h3
      refine ⟨h1, by rw [upd_ne q]; exact h2, ?_⟩
      unfold mdel
      rw [if_neg q]
      exact h3
  | _ => exact (r : False).elim
/-- a new thing, hidden -/
theorem Rel.newG (R : Rel K G F H M) {p : Addr} {u : HO} (h : H p = none) (hu : ∀ vs, u ≠ .tup vs := by intro vs; exact HO.noConfusion) : Rel K (upd G p u) F (upd H p u) M := by
  have q0 : ∀ a x, H a = some x → a ≠ p := fun a x e => ne_of_none e h
  refine ⟨fun b x e => same_upd h _ _ (R.sub _ _ e), fun a m e => ?_, fun a x e => ?_, fun a vs e => ?_⟩
  · obtain ⟨f, x, hx, r⟩ := R.chg a m e
    exact ⟨f, x, by rw [upd_ne (q0 _ _ hx)]; exact hx, r⟩
  · by_cases q : a = p
    · subst q
      rw [upd_same] at e
      cases e
      exact ⟨upd_same, (R.free h).1, (R.free h).2⟩
    · rw [upd_ne q] at e
      obtain ⟨h1, h2, h3⟩ := R.hid a x e
      exact ⟨by rw [upd_ne q]; exact h1, h2, h3⟩
  · by_cases q : a = p
    · subst q
      rw [upd_same] at e
      exact hu vs (Option.some.inj e)
    · rw [upd_ne q] at e
      exact R.hidt a vs e
/-- the hidden thing is changed -/
theorem Rel.putG {u u' : HO} {p : Addr} (R : Rel K (upd G p u) F H M) (hu : ∀ vs, u' ≠ .tup vs := by intro vs; exact HO.noConfusion) : Rel K (upd G p u') F (upd H p u') M := by
  obtain ⟨h1, h2, h3⟩ := R.hid p u upd_same
  refine ⟨fun b x e => ?_, fun a m e => ?_, fun a x e => ?_, fun a vs e => ?_⟩
  · rw [upd_ne (ne_of_none e h2)]
    exact R.sub _ _ e
  · obtain ⟨f, x, hx, r⟩ := R.chg a m e
    have q : a ≠ p := fun q => by
      rw [q, h3] at e
      cases e
    exact ⟨f, x, by rw [upd_ne q]; exact hx, r⟩
  · by_cases q : a = p
    · subst q
      rw [upd_same] at e
      cases e
      exact ⟨upd_same, h2, h3⟩
    · rw [upd_ne q] at e
      obtain ⟨g1, g2, g3⟩ := R.hid a x (by rw [upd_ne q]; exact e)
      exact ⟨by rw [upd_ne q]; exact g1, g2, g3⟩
  · by_cases q : a = p
    · subst q
      rw [upd_same] at e
      exact hu vs (Option.some.inj e)
    · rw [upd_ne q] at e
      exact R.hidt a vs (by rw [upd_ne q]; exact e)
/-- the hidden thing is shown, frozen | changing -/
theorem Rel.showF {u : HO} {p : Addr} (hg : G p = none) (R : Rel K (upd G p u) F H M) : Same F (upd F p u) ∧ Rel K G (upd F p u) H M := by
  obtain ⟨h1, h2, h3⟩ := R.hid p u upd_same
  have s : Same F (upd F p u) := same_upd h2
  refine ⟨s, fun b x e => ?_, fun a m e => ?_, fun a x e => ?_, fun a vs e => R.hidt a vs (by rw [upd_ne (ne_of_none e hg)]; exact e)⟩
  · by_cases q : b = p
    · subst q
      rw [upd_same] at e
      rw [h1]
      exact e
    · rw [upd_ne q] at e
      exact R.sub _ _ e
  · obtain ⟨f, x, hx, r⟩ := R.chg a m e
    have q : a ≠ p := fun q => by
      rw [q, h3] at e
      cases e
    exact ⟨by rw [upd_ne q]; exact f, x, hx, r.mono s⟩
  · have q : a ≠ p := ne_of_none e hg
    obtain ⟨g1, g2, g3⟩ := R.hid a x (by rw [upd_ne q]; exact e)
    exact ⟨g1, by rw [upd_ne q]; exact g2, g3⟩
end
end
end Tl
namespace Tl
open PySem PySem.Spec PyProof.Rows L2
/-! ### judgements over trees -/
abbrev Sg := List (Option D)
abbrev VD := D → MH → Prop
abbrev XT := Value → MH → Prop
abbrev TEt := Sg → MH → VD → Prop
abbrev TTt := Sg → MH → (Bool → MH → Prop) → Prop
abbrev TAt := Sg → MH → (List D → MH → Prop) → Prop
structure En where
  nx : Sg → MH → Prop
  rt : VD
  bk : Sg → MH → Prop := fun _ _ => False
  ct : Sg → MH → Prop := fun _ _ => False
abbrev TSt := En → Sg → MH → Prop
def nth : Sg → Nat → Option D
  | [], _ => none
  | x :: _, 0 => x
  | _ :: t, n + 1 => nth t n
theorem nth_get : ∀ {t : Sg} {i : Nat} {d : D}, nth t i = some d → t[i]? = some (some d)
  | [], _, _, h => by cases h
  | x :: _, 0, d, h => by
    show some x = some (some d)
    exact congrArg some h
  | _ :: t, n + 1, d, h => by
    rw [List.getElem?_cons_succ]
    exact nth_get (t := t) h
abbrev Et0 : XT := fun _ _ => False
def Sgr (K : PySem.W.Frag) (F : Hp) (σ : L2.St) (τ : Sg) : Prop := σ.length = τ.length ∧ ∀ (i : Nat) (d : D), τ[i]? = some (some d) → ∃ v, σ[i]? = some (some v) ∧ Rp K F v d
/-- what is wished of exceptions -/
def EL (K : PySem.W.Frag) (G F : Hp) (E : XK) (Et : XT) : Prop := ∀ cls F' H' M', Same F F' → Rel K G F' H' M' → Et cls M' → E cls none H'
structure At (K : PySem.W.Frag) (E : XK) (Et : XT) (G F H : Hp) (M : MH) (σ : L2.St) (τ : Sg) : Prop where
  rel : Rel K G F H M
  sg : Sgr K F σ τ
  el : EL K G F E Et
section
variable {K : PySem.W.Frag} {E : XK} {Et : XT} {G F F' H H' : Hp} {M M' : MH} {σ : L2.St} {τ : Sg}
theorem Sgr.mono (h : Sgr K F σ τ) (s : Same F F') : Sgr K F' σ τ := ⟨h.1, fun i d e => by
  obtain ⟨v, a, b⟩ := h.2 i d e
  exact ⟨v, a, b.mono s⟩⟩
theorem Sgr.set (h : Sgr K F σ τ) {i : Nat} {v : V} {d : D} (r : Rp K F v d) : Sgr K F (σ.set i (some v)) (τ.set i (some d)) := by
  refine ⟨by rw [List.length_set, List.length_set]; exact h.1, fun j e q => ?_⟩
  by_cases hij : i = j
  · subst hij
    by_cases hl : i < τ.length
    · rw [List.getElem?_set_self hl] at q
      rw [List.getElem?_set_self (by rw [h.1]; exact hl)]
      cases q
      exact ⟨v, rfl, r⟩
    · rw [List.getElem?_eq_none (by rw [List.length_set]; omega)] at q
      cases q
  · rw [List.getElem?_set_ne hij] at q ⊢
    exact h.2 j e q
theorem Sgr.unset (h : Sgr K F σ τ) {i : Nat} : Sgr K F (σ.set i none) (τ.set i none) := by
  refine ⟨by rw [List.length_set, List.length_set]; exact h.1, fun j e q => ?_⟩
  by_cases hij : i = j
  · subst hij
    by_cases hl : i < τ.length
    · rw [List.getElem?_set_self hl] at q
      cases q
    · rw [List.getElem?_eq_none (by rw [List.length_set]; omega)] at q
      cases q
  · rw [List.getElem?_set_ne hij] at q ⊢
    exact h.2 j e q
theorem EL.mono (h : EL K G F E Et) (s : Same F F') : EL K G F' E Et := fun cls F2 H2 M2 s2 => h cls F2 H2 M2 (s.trans s2)
theorem EL.never {E : XK} : EL K G F E Et0 := fun _ _ _ _ _ _ h => h.elim
theorem At.step (a : At K E Et G F H M σ τ) (s : Same F F') (r : Rel K G F' H' M') : At K E Et G F' H' M' σ τ := ⟨r, a.sg.mono s, a.el.mono s⟩
theorem At.store (a : At K E Et G F H M σ τ) {i : Nat} {v : V} {d : D} (r : Rp K F v d) : At K E Et G F H M (σ.set i (some v)) (τ.set i (some d)) := ⟨a.rel, a.sg.set r, a.el⟩
end
section
variable (K : PySem.W.Frag) (E : XK) (Et : XT)
def liftE (t : TEt) : TE := fun σ H Q => ∃ G F M τ Qt, At K E Et G F H M σ τ ∧ t τ M Qt ∧ ∀ v F' H' M' d, Same F F' → Rel K G F' H' M' → Rp K F' v d → Qt d M' → Q v H'
def liftT (t : TTt) : TT := fun σ H Q => ∃ G F M τ Qt, At K E Et G F H M σ τ ∧ t τ M Qt ∧ ∀ b F' H' M', Same F F' → Rel K G F' H' M' → Qt b M' → Q b H'
def liftA (t : TAt) : TA := fun σ H Q => ∃ G F M τ Qt, At K E Et G F H M σ τ ∧ t τ M Qt ∧ ∀ vs F' H' M' ds, Same F F' → Rel K G F' H' M' → Rps K F' vs ds → Qt ds M' → Q vs H'
structure EnL (G F : Hp) (D : Ends) (Dt : En) : Prop where
  nx : ∀ F' H' M' σ τ, Same F F' → At K E Et G F' H' M' σ τ → Dt.nx τ M' → D.nx σ H'
  rt : ∀ F' H' M' v d, Same F F' → Rel K G F' H' M' → Rp K F' v d → Dt.rt d M' → D.rt v H'
  bk : ∀ F' H' M' σ τ, Same F F' → At K E Et G F' H' M' σ τ → Dt.bk τ M' → D.bk σ H'
  ct : ∀ F' H' M' σ τ, Same F F' → At K E Et G F' H' M' σ τ → Dt.ct τ M' → D.ct σ H'
def liftS (t : TSt) : TS := fun D σ H => ∃ G F M τ Dt, At K E Et G F H M σ τ ∧ EnL K E Et G F D Dt ∧ t Dt τ M
end
theorem EnL.mono {K : PySem.W.Frag} {E : XK} {Et : XT} {G F F' : Hp} {D : Ends} {Dt : En} (h : EnL K E Et G F D Dt) (s : Same F F') : EnL K E Et G F' D Dt :=
  ⟨fun F2 H2 M2 σ τ s2 => h.nx F2 H2 M2 σ τ (s.trans s2), fun F2 H2 M2 v d s2 => h.rt F2 H2 M2 v d (s.trans s2), fun F2 H2 M2 σ τ s2 => h.bk F2 H2 M2 σ τ (s.trans s2), fun F2 H2 M2 σ τ s2 => h.ct F2 H2 M2 σ τ (s.trans s2)⟩
abbrev QE (X : Cx) (E : XK) (Et : XT) (e : Expr) (t : TEt) : Prop := PE X e (liftE X.K E Et t)
abbrev QT (X : Cx) (E : XK) (Et : XT) (e : Expr) (t : TTt) : Prop := PT X e (liftT X.K E Et t)
abbrev QW (X : Cx) (E : XK) (Et : XT) (e : Expr) (t : TTt) : Prop := PW X e (liftT X.K E Et t)
abbrev QA (X : Cx) (E : XK) (Et : XT) (es : List Expr) (t : TAt) : Prop := PA X es (liftA X.K E Et t)
abbrev QS (X : Cx) (E : XK) (Et : XT) (st : Stmt) (t : TSt) : Prop := PS X st (liftS X.K E Et t)
abbrev QSs (X : Cx) (E : XK) (Et : XT) (st : List Stmt) (t : TSt) : Prop := PSs X st (liftS X.K E Et t)
section
variable {X : Cx}
theorem PEimp {e : Expr} {t t' : TE} (h : PE X e t) (i : ∀ σ H Q, t' σ H Q → t σ H Q) : PE X e t' := ⟨fun pins s σ H Q I w => h.run pins s σ H Q I (i _ _ _ w)⟩
theorem PTimp {e : Expr} {t t' : TT} (h : PT X e t) (i : ∀ σ H Q, t' σ H Q → t σ H Q) : PT X e t' := ⟨fun pins s σ H Q I w => h.run pins s σ H Q I (i _ _ _ w)⟩
theorem PWimp {e : Expr} {t t' : TT} (h : PW X e t) (i : ∀ σ H Q, t' σ H Q → t σ H Q) : PW X e t' := ⟨fun wh pins s σ H Q I w => h.run wh pins s σ H Q I (i _ _ _ w)⟩
theorem PAimp {e : List Expr} {t t' : TA} (h : PA X e t) (i : ∀ σ H Q, t' σ H Q → t σ H Q) : PA X e t' := ⟨fun pos pins s σ H Q I w => h.run pos pins s σ H Q I (i _ _ _ w)⟩
theorem PSimp {e : Stmt} {t t' : TS} (h : PS X e t) (i : ∀ D σ H, t' D σ H → t D σ H) : PS X e t' := ⟨fun pins s σ H D I w => h.run pins s σ H D I (i _ _ _ w)⟩
theorem PSsimp {e : List Stmt} {t t' : TS} (h : PSs X e t) (i : ∀ D σ H, t' D σ H → t D σ H) : PSs X e t' := ⟨fun pins s σ H D I w => h.run pins s σ H D I (i _ _ _ w)⟩
theorem OpRimp {f : Value → Value → Sem Value} {r r' : R2} (h : OpR X f r) (i : ∀ x y H Q, r' x y H Q → r x y H Q) : OpR X f r' := fun pins s σ H x y u v Q I rx ry w => h pins s σ H x y u v Q I rx ry (i _ _ _ _ w)
theorem UnRimp {f : Value → Sem Value} {r r' : V → Hp → VK → Prop} (h : UnR X f r) (i : ∀ x H Q, r' x H Q → r x H Q) : UnR X f r' := fun pins s σ H x u Q I rx w => h pins s σ H x u Q I rx (i _ _ _ w)
theorem CallRimp {f : Value} {r r' : List V → Hp → VK → Prop} (h : CallR X f r) (i : ∀ x H Q, r' x H Q → r x H Q) : CallR X f r' := fun pins s σ H x u Q I rx w => h pins s σ H x u Q I rx (i _ _ _ w)
end
/-! ### names, constants -/
def tV (i : Nat) : TEt := fun τ M Q => match nth τ i with
  | some d => Q d M
  | none => False
def tK (d : D) : TEt := fun _ M Q => Q d M
section
variable {X : Cx} {E : XK} {Et : XT}
theorem lv_var {i : Nat} : ∀ σ H Q, liftE X.K E Et (tV i) σ H Q → tVar i σ H Q := by
  rintro σ H Q ⟨G, F, M, τ, Qt, a, h, k⟩
  unfold tV at h
  cases e : nth τ i with
  | none => rw [e] at h; exact h.elim
  | some d =>
    rw [e] at h
    obtain ⟨v, h1, h2⟩ := a.sg.2 i d (nth_get e)
    exact ⟨v, h1, k v F H M d (Same.refl _) a.rel h2 h⟩
theorem qv (i : Nat) {x : Str} {pos : Pos} (hN : X.N[i]? = some x := by rfl) (hv : Vis X.env.scope x := by first | exact Or.inl rfl | exact Or.inr (Or.inl rfl) | exact Or.inr (Or.inr rfl)) (hd : (x == ("__debug__" : Str)) = false := by decide)
    (hcd : (x == ("__classdict__" : Str)) = false := by decide) : QE X E Et (.Name x pos) (tV i) := PEimp (pe_var hN hv hd hcd) lv_var
theorem lv_c {v : V} {d : D} (r : ∀ F, Rp X.K F v d) : ∀ σ H Q, liftE X.K E Et (tK d) σ H Q → tC v σ H Q := by
  rintro σ H Q ⟨G, F, M, τ, Qt, a, h, k⟩
  exact k v F H M d (Same.refl _) a.rel (r F) h
theorem q_int {i j pos} : QE X E Et (.Constant (.int i) j pos) (tK (.int i)) := PEimp pe_int (lv_c fun _ => .int i)
theorem q_bl {b j pos} : QE X E Et (.Constant (.bool b) j pos) (tK (.bl b)) := PEimp pe_bl (lv_c fun _ => .bl b)
theorem q_non {j pos} : QE X E Et (.Constant .none j pos) (tK .non) := PEimp pe_non (lv_c fun _ => .non)
theorem q_str {x j pos} : QE X E Et (.Constant (.str x) j pos) (tK (.str x)) := PEimp pe_str (lv_c fun _ => .str x)
theorem q_gint {x : Str} {i : Int} {pos : Pos} (hm : ∃ t, X.mg x = some (.int i t)) (hg : Gl X x := by rfl) (hd : (x == ("__debug__" : Str)) = false := by decide) : QE X E Et (.Name x pos) (tK (.int i)) := by
  obtain ⟨t, hm⟩ := hm
  exact PEimp (pe_glob (v := .int i) hg hm ⟨t, rfl⟩ hd) (lv_c fun _ => .int i)
theorem q_gstr {x : Str} {i : Str} {pos : Pos} (hm : ∃ t, X.mg x = some (.str i t)) (hg : Gl X x := by rfl) (hd : (x == ("__debug__" : Str)) = false := by decide) : QE X E Et (.Name x pos) (tK (.str i)) := by
  obtain ⟨t, hm⟩ := hm
  exact PEimp (pe_glob (v := .str i) hg hm ⟨t, rfl⟩ hd) (lv_c fun _ => .str i)
/-- a table of the top: a tuple | a list -/
theorem q_gref {x : Str} {u : Addr} {d : D} {pos : Pos} (hm : X.mg x = some (.ref u)) (r : ∀ F, Rp X.K F (.ref u) d) (hg : Gl X x := by rfl) (hd : (x == ("__debug__" : Str)) = false := by decide) : QE X E Et (.Name x pos) (tK d) :=
  PEimp (pe_glob (v := .ref u) hg hm rfl hd) (lv_c r)
theorem q_ty {x : Str} (T : String) {pos : Pos} (hm : X.mg x = none) (hv : bootBuiltins x = some (.type T)) (hg : Gl X x := by rfl) (hn : x ≠ "__name__" := by decide) (hd : (x == ("__debug__" : Str)) = false := by decide) : QE X E Et (.Name x pos) (tK (.ty T)) :=
  PEimp (pe_bltn (v := .ty T) hg hm hv rfl hn hd) (lv_c fun _ => .ty T)
end
/-! ### operators by values -/
abbrev R2t := D → D → MH → VD → Prop
abbrev R1t := D → MH → VD → Prop
abbrev RLt := List D → MH → VD → Prop
def lr2 (K : PySem.W.Frag) (r : R2t) : R2 := fun x y H Q => ∃ G F M dx dy Qt, Rel K G F H M ∧ Rp K F x dx ∧ Rp K F y dy ∧ r dx dy M Qt ∧ ∀ v F' H' M' d, Same F F' → Rel K G F' H' M' → Rp K F' v d → Qt d M' → Q v H'
def lr1 (K : PySem.W.Frag) (r : R1t) : V → Hp → VK → Prop := fun x H Q => ∃ G F M dx Qt, Rel K G F H M ∧ Rp K F x dx ∧ r dx M Qt ∧ ∀ v F' H' M' d, Same F F' → Rel K G F' H' M' → Rp K F' v d → Qt d M' → Q v H'
def lrL (K : PySem.W.Frag) (r : RLt) : List V → Hp → VK → Prop := fun xs H Q => ∃ G F M ds Qt, Rel K G F H M ∧ Rps K F xs ds ∧ r ds M Qt ∧ ∀ v F' H' M' d, Same F F' → Rel K G F' H' M' → Rp K F' v d → Qt d M' → Q v H'
abbrev OpQ (X : Cx) (f : Value → Value → Sem Value) (r : R2t) : Prop := OpR X f (lr2 X.K r)
abbrev UnQ (X : Cx) (f : Value → Sem Value) (r : R1t) : Prop := UnR X f (lr1 X.K r)
abbrev CallQ (X : Cx) (f : Value) (r : RLt) : Prop := CallR X f (lrL X.K r)
def tO (r : R2t) (ta tb : TEt) : TEt := fun τ M Q => ta τ M fun x M1 => tb τ M1 fun y M2 => r x y M2 Q
def tU (r : R1t) (ta : TEt) : TEt := fun τ M Q => ta τ M fun x M1 => r x M1 Q
def tCa (r : RLt) (ta : TAt) : TEt := fun τ M Q => ta τ M fun xs M1 => r xs M1 Q
section
variable {X : Cx} {E : XK} {Et : XT} {e a b : Expr} {es : List Expr} {ta tb : TEt} {t : TAt} {pos : Pos}
theorem lv_op {r : R2t} : ∀ σ H Q, liftE X.K E Et (tO r ta tb) σ H Q → tOp (lr2 X.K r) (liftE X.K E Et ta) (liftE X.K E Et tb) σ H Q := by
  rintro σ H Q ⟨G, F, M, τ, Qt, a, h, k⟩
  refine ⟨G, F, M, τ, _, a, h, fun v F1 H1 M1 d s1 r1 p1 q1 => ?_⟩
  refine ⟨G, F1, M1, τ, _, a.step s1 r1, q1, fun v2 F2 H2 M2 d2 s2 r2 p2 q2 => ?_⟩
  exact ⟨G, F2, M2, d, d2, Qt, r2, p1.mono s2, p2, q2, fun v F' H' M' d s => k v F' H' M' d ((s1.trans s2).trans s)⟩
theorem q_op {op : Operator} {r : R2t} (ho : OpQ X (binaryOp op) r) (ha : QE X E Et a ta) (hb : QE X E Et b tb) : QE X E Et (.BinOp a op b pos) (tO r ta tb) := PEimp (pe_op ho ha hb) lv_op
theorem q_cmp {op : CmpOp} {r : R2t} (ho : OpQ X (compareOp op) r) (ha : QE X E Et a ta) (hb : QE X E Et b tb) (hm : behindInMarks op b = false := by first | exact nomark _ | rfl) : QE X E Et (.Compare a [op] [b] pos) (tO r ta tb) := PEimp (pe_cmpR ho ha hb hm) lv_op
theorem q_un {op : UnaryOp} {r : R1t} (ho : UnQ X (unaryOp op) r) (ha : QE X E Et a ta) : QE X E Et (.UnaryOp op a pos) (tU r ta) := PEimp (pe_un ho ha) (by
  rintro σ H Q ⟨G, F, M, τ, Qt, a, h, k⟩
  refine ⟨G, F, M, τ, _, a, h, fun v F1 H1 M1 d s1 r1 p1 q1 => ?_⟩
  exact ⟨G, F1, M1, d, Qt, r1, p1, q1, fun v F' H' M' d s => k v F' H' M' d (s1.trans s)⟩)
/-! ### arguments -/
def tN : TAt := fun _ M Q => Q [] M
def tCs (ta : TEt) (tr : TAt) : TAt := fun τ M Q => ta τ M fun x M1 => tr τ M1 fun xs M2 => Q (x :: xs) M2
theorem qa_nil : QA X E Et [] tN := PAimp pa_nil (by
  rintro σ H Q ⟨G, F, M, τ, Qt, a, h, k⟩
  exact k [] F H M [] (Same.refl _) a.rel .nil h)
theorem qa_cons (ha : QE X E Et e ta) (hr : QA X E Et es t) (hs : starEach (e :: es) X.env = (false, eval e X.env) :: starEach es X.env := by rfl) : QA X E Et (e :: es) (tCs ta t) := PAimp (pa_cons ha hr hs) (by
  rintro σ H Q ⟨G, F, M, τ, Qt, a, h, k⟩
  refine ⟨G, F, M, τ, _, a, h, fun v F1 H1 M1 d s1 r1 p1 q1 => ?_⟩
  refine ⟨G, F1, M1, τ, _, a.step s1 r1, q1, fun vs F2 H2 M2 ds s2 r2 p2 q2 => ?_⟩
  exact k (v :: vs) F2 H2 M2 (d :: ds) (s1.trans s2) r2 (.cons (p1.mono s2) p2) q2)
theorem lv_cb {r : RLt} : ∀ σ H Q, liftE X.K E Et (tCa r t) σ H Q → tCB (lrL X.K r) (liftA X.K E Et t) σ H Q := by
  rintro σ H Q ⟨G, F, M, τ, Qt, a, h, k⟩
  refine ⟨G, F, M, τ, _, a, h, fun vs F1 H1 M1 ds s1 r1 p1 q1 => ?_⟩
  exact ⟨G, F1, M1, ds, Qt, r1, p1, q1, fun v F' H' M' d s => k v F' H' M' d (s1.trans s)⟩
theorem q_callB {id : String} {x : Str} {p : Pos} {r : RLt} (hc : CallQ X (.builtin id) r) (hm : X.mg x = none) (hv : bootBuiltins x = some (.builtin id)) (ha : QA X E Et (e :: es) t) (hg : Gl X x := by rfl) (hn : x ≠ "__name__" := by decide) (hdb : (x == ("__debug__" : Str)) = false := by decide)
    (he : starEach (e :: es) X.env = (false, eval e X.env) :: starEach es X.env := by rfl) (hpl : (backTo pos (starEach es X.env)).any (·.1) = false := by rfl) : QE X E Et (.Call (.Name x p) (e :: es) [] pos) (tCa r t) :=
  PEimp (pe_callB hc hg hm hv ha hn hdb he hpl) lv_cb
theorem q_callTy {T : String} {x : Str} {p : Pos} {r : RLt} (hc : CallQ X (.type T) r) (hm : X.mg x = none) (hv : bootBuiltins x = some (.type T)) (ha : QA X E Et (e :: es) t) (hg : Gl X x := by rfl) (hn : x ≠ "__name__" := by decide) (hdb : (x == ("__debug__" : Str)) = false := by decide)
    (he : starEach (e :: es) X.env = (false, eval e X.env) :: starEach es X.env := by rfl) (hpl : (backTo pos (starEach es X.env)).any (·.1) = false := by rfl) : QE X E Et (.Call (.Name x p) (e :: es) [] pos) (tCa r t) :=
  PEimp (pe_callTy hc hg hm hv ha hn hdb he hpl) lv_cb
end
/-! ### tests -/
def tBo (t : TEt) : TTt := fun τ M Q => t τ M fun x M1 => match x with
  | .bl c => Q c M1
  | _ => False
def tAn (t u : TTt) : TTt := fun τ M Q => t τ M fun c M1 => if c = true then u τ M1 Q else Q false M1
def tOr' (t u : TTt) : TTt := fun τ M Q => t τ M fun c M1 => if c = true then Q true M1 else u τ M1 Q
def tNo (t : TTt) : TTt := fun τ M Q => t τ M fun c M1 => Q (!c) M1
def tAnV (ta tb : TEt) : TEt := fun τ M Q => ta τ M fun x M1 => match x with
  | .bl c => if c = true then tb τ M1 Q else Q (.bl false) M1
  | _ => False
def tOrV' (ta tb : TEt) : TEt := fun τ M Q => ta τ M fun x M1 => match x with
  | .bl c => if c = true then Q (.bl true) M1 else tb τ M1 Q
  | _ => False
def tNoV (ta : TEt) : TEt := fun τ M Q => ta τ M fun x M1 => match x with
  | .bl c => Q (.bl (!c)) M1
  | _ => False
def tIfE (t : TTt) (ta tb : TEt) : TEt := fun τ M Q => t τ M fun c M1 => if c = true then ta τ M1 Q else tb τ M1 Q
section
variable {X : Cx} {E : XK} {Et : XT} {e a b c : Expr} {rest : List Expr} {ta tb : TEt} {t u : TTt} {pos : Pos}
theorem Rp.bl_inv {K : PySem.W.Frag} {F : Hp} {v : V} {c : Bool} (h : Rp K F v (.bl c)) : v = .bl c := by cases h; rfl
theorem lv_bo : ∀ σ H Q, liftT X.K E Et (tBo ta) σ H Q → tB (liftE X.K E Et ta) σ H Q := by
  rintro σ H Q ⟨G, F, M, τ, Qt, a, h, k⟩
  refine ⟨G, F, M, τ, _, a, h, fun v F1 H1 M1 d s1 r1 p1 q1 => ?_⟩
  cases d with
  | bl c => exact ⟨c, p1.bl_inv, k c F1 H1 M1 s1 r1 q1⟩
  | _ => exact q1.elim
theorem qt_val (h : QE X E Et e ta) (he : ∀ whole, isTrue e X.env whole = (do let v ← whole; standAt e.pos; holding [v] (truthy v)) := by intro _; rfl) : QT X E Et e (tBo ta) := PTimp (pt_val h he) lv_bo
theorem qt_cmp {op : CmpOp} {r : R2t} (ho : OpQ X (compareOp op) r) (ha : QE X E Et a ta) (hb : QE X E Et b tb) (hm : behindInMarks op b = false := by first | exact nomark _ | rfl) : QT X E Et (.Compare a [op] [b] pos) (tBo (tO r ta tb)) := PTimp (pt_cmpR ho ha hb hm) (by
  rintro σ H Q ⟨G, F, M, τ, Qt, a, h, k⟩
  refine lv_op _ _ _ ⟨G, F, M, τ, _, a, h, fun v F1 H1 M1 d s1 r1 p1 q1 => ?_⟩
  cases d with
  | bl c => exact ⟨c, p1.bl_inv, k c F1 H1 M1 s1 r1 q1⟩
  | _ => exact q1.elim)
theorem qw_and1 (ha : QT X E Et a t) : QW X E Et (.BoolOp .And [a] pos) t := pw_and1 ha
theorem qw_or1 (ha : QT X E Et a t) : QW X E Et (.BoolOp .Or [a] pos) t := pw_or1 ha
theorem qw_and (ha : QT X E Et a t) (hb : QW X E Et (.BoolOp .And (b :: rest) pos) u) : QW X E Et (.BoolOp .And (a :: b :: rest) pos) (tAn t u) := PWimp (pw_and ha hb) (by
  rintro σ H Q ⟨G, F, M, τ, Qt, a, h, k⟩
  refine ⟨G, F, M, τ, _, a, h, fun b F1 H1 M1 s1 r1 q1 => ?_⟩
  cases b with
  | true =>
    rw [if_pos rfl] at q1 ⊢
    exact ⟨G, F1, M1, τ, Qt, a.step s1 r1, q1, fun b F2 H2 M2 s2 => k b F2 H2 M2 (s1.trans s2)⟩
  | false =>
    rw [if_neg Bool.false_ne_true] at q1 ⊢
    exact k false F1 H1 M1 s1 r1 q1)
theorem qw_or (ha : QT X E Et a t) (hb : QW X E Et (.BoolOp .Or (b :: rest) pos) u) : QW X E Et (.BoolOp .Or (a :: b :: rest) pos) (tOr' t u) := PWimp (pw_or ha hb) (by
  rintro σ H Q ⟨G, F, M, τ, Qt, a, h, k⟩
  refine ⟨G, F, M, τ, _, a, h, fun b F1 H1 M1 s1 r1 q1 => ?_⟩
  cases b with
  | true =>
    rw [if_pos rfl] at q1 ⊢
    exact k true F1 H1 M1 s1 r1 q1
  | false =>
    rw [if_neg Bool.false_ne_true] at q1 ⊢
    exact ⟨G, F1, M1, τ, Qt, a.step s1 r1, q1, fun b F2 H2 M2 s2 => k b F2 H2 M2 (s1.trans s2)⟩)
theorem qt_w (h : QW X E Et e t) : QT X E Et e t := h.pt
theorem qt_not (ha : QT X E Et a t) : QT X E Et (.UnaryOp .Not a pos) (tNo t) := PTimp (pt_not ha) (by
  rintro σ H Q ⟨G, F, M, τ, Qt, a, h, k⟩
  exact ⟨G, F, M, τ, _, a, h, fun b F1 H1 M1 s1 r1 q1 => k _ F1 H1 M1 s1 r1 q1⟩)
theorem q_one {op} (h : QE X E Et a ta) : QE X E Et (.BoolOp op [a] pos) ta := pe_one h
theorem q_and (ha : QE X E Et a ta) (hb : QE X E Et (.BoolOp .And (b :: rest) pos) tb) : QE X E Et (.BoolOp .And (a :: b :: rest) pos) (tAnV ta tb) := PEimp (pe_and ha hb) (by
  rintro σ H Q ⟨G, F, M, τ, Qt, a, h, k⟩
  refine ⟨G, F, M, τ, _, a, h, fun v F1 H1 M1 d s1 r1 p1 q1 => ?_⟩
  cases d with
  | bl c =>
    refine ⟨c, p1.bl_inv, ?_⟩
    cases c with
    | true =>
      rw [if_pos rfl]
      exact ⟨G, F1, M1, τ, Qt, a.step s1 r1, q1, fun v F2 H2 M2 d s2 => k v F2 H2 M2 d (s1.trans s2)⟩
    | false =>
      rw [if_neg Bool.false_ne_true]
      exact k _ F1 H1 M1 _ s1 r1 (.bl false) q1
  | _ => exact q1.elim)
theorem q_or (ha : QE X E Et a ta) (hb : QE X E Et (.BoolOp .Or (b :: rest) pos) tb) : QE X E Et (.BoolOp .Or (a :: b :: rest) pos) (tOrV' ta tb) := PEimp (pe_or ha hb) (by
  rintro σ H Q ⟨G, F, M, τ, Qt, a, h, k⟩
  refine ⟨G, F, M, τ, _, a, h, fun v F1 H1 M1 d s1 r1 p1 q1 => ?_⟩
  cases d with
  | bl c =>
    refine ⟨c, p1.bl_inv, ?_⟩
    cases c with
    | true =>
      rw [if_pos rfl]
      exact k _ F1 H1 M1 _ s1 r1 (.bl true) q1
    | false =>
      rw [if_neg Bool.false_ne_true]
      exact ⟨G, F1, M1, τ, Qt, a.step s1 r1, q1, fun v F2 H2 M2 d s2 => k v F2 H2 M2 d (s1.trans s2)⟩
  | _ => exact q1.elim)
theorem q_not (ha : QE X E Et a ta) : QE X E Et (.UnaryOp .Not a pos) (tNoV ta) := PEimp (pe_not ha) (by
  rintro σ H Q ⟨G, F, M, τ, Qt, a, h, k⟩
  refine ⟨G, F, M, τ, _, a, h, fun v F1 H1 M1 d s1 r1 p1 q1 => ?_⟩
  cases d with
  | bl c => exact ⟨c, p1.bl_inv, k _ F1 H1 M1 _ s1 r1 (.bl _) q1⟩
  | _ => exact q1.elim)
/-- a < b < c -/
def tCh (r r' : R2t) (ta tb tc : TEt) : TEt := fun τ M Q => ta τ M fun x M1 => tb τ M1 fun y M2 => r x y M2 fun z M3 => match z with
  | .bl k => if k = true then tc τ M3 fun w M4 => r' y w M4 Q else Q (.bl false) M3
  | _ => False
end
end Tl
namespace Tl
open PySem PySem.Spec PyProof.Rows L2
/-! ### calls of the text's own defs -/
abbrev SpT := List D → MH → VD → XT → Prop
def lSp (K : PySem.W.Frag) (sp : SpT) : Sp := fun vs H Q E => ∃ G F M ds Qt Et, Rel K G F H M ∧ Rps K F vs ds ∧ EL K G F E Et ∧ sp ds M Qt Et ∧ ∀ v F' H' M' d, Same F F' → Rel K G F' H' M' → Rp K F' v d → Qt d M' → Q v H'
/-- a def of the text, called by its name x -/
structure Fn (P : Program) (w : World) (K : PySem.W.Frag) (mg : Str → Option Value) (base : Heap) (CX : CXT) (k : Nat) (x : Str) (sp : SpT) : Prop where
  ok : ∃ fd ps, FnOk P w K mg base CX k (He.ga K x) fd ps (lSp K sp) ∧ Binds K fd ps []
  m : mg x = some (.ref (He.ga K x))
  kp : PySem.W.keepIn K (.ref (He.ga K x)) = true
def tCl (sp : SpT) (Et : XT) (t : TAt) : TEt := fun τ M Q => t τ M fun ds M1 => sp ds M1 Q Et
section
variable {X : Cx} {E E' : XK} {Et Et' : XT} {e : Expr} {es : List Expr} {t : TAt} {pos p : Pos} {sp : SpT} {k : Nat} {x : Str}
theorem lv_call (hE : ∀ G F, EL X.K G F E Et → EL X.K G F E' Et') : ∀ σ H Q, liftE X.K E Et (tCl sp Et' t) σ H Q → tCall (lSp X.K sp) [] E' (liftA X.K E Et t) σ H Q := by
  rintro σ H Q ⟨G, F, M, τ, Qt, a, h, k⟩
  refine ⟨G, F, M, τ, _, a, h, fun vs F1 H1 M1 ds s1 r1 p1 q1 => ?_⟩
  show lSp X.K sp (vs ++ []) H1 Q E'
  rw [List.append_nil]
  exact ⟨G, F1, M1, ds, Qt, Et', r1, p1, hE G F1 (a.el.mono s1), q1, fun v F' H' M' d s => k v F' H' M' d (s1.trans s)⟩
theorem q_call (Fo : Fn X.prog X.w X.K X.mg X.base CX0 k x sp) (hr : Room k X.A) (ha : QA X E Et (e :: es) t) (hg : Gl X x := by rfl) (hdb : (x == ("__debug__" : Str)) = false := by decide)
    (he : starEach (e :: es) X.env = (false, eval e X.env) :: starEach es X.env := by rfl) (hpl : (backTo pos (starEach es X.env)).any (·.1) = false := by rfl) : QE X E Et (.Call (.Name x p) (e :: es) [] pos) (tCl sp Et0 t) := by
  obtain ⟨⟨fd, ps, F1, b⟩, m, kp⟩ := Fo
  exact PEimp (pe_call F1 hr hg m kp b .nil pass0 ha hdb he hpl) (lv_call fun _ _ _ => .never)
end
/-! ### statements -/
def sNx : TSt := fun D τ M => D.nx τ M
def sSq (t u : TSt) : TSt := fun D τ M => t { D with nx := u D } τ M
def sBk : TSt := fun D τ M => D.bk τ M
def sCt : TSt := fun D τ M => D.ct τ M
def sDr (t : TEt) : TSt := fun D τ M => t τ M fun _ M1 => D.nx τ M1
def sRt (t : TEt) : TSt := fun D τ M => t τ M D.rt
def sRtN : TSt := fun D _ M => D.rt .non M
def sIf (c : TTt) (t u : TSt) : TSt := fun D τ M => c τ M fun b M1 => if b = true then t D τ M1 else u D τ M1
abbrev TGt := D → Sg → MH → (Sg → MH → Prop) → Prop
abbrev TGst := List D → Sg → MH → (Sg → MH → Prop) → Prop
def liftG (K : PySem.W.Frag) (E : XK) (Et : XT) (t : TGt) : TG := fun v σ H Q => ∃ G F M τ d Qt, At K E Et G F H M σ τ ∧ Rp K F v d ∧ t d τ M Qt ∧ ∀ F' H' M' σ' τ', Same F F' → At K E Et G F' H' M' σ' τ' → Qt τ' M' → Q σ' H'
def liftGs (K : PySem.W.Frag) (E : XK) (Et : XT) (t : TGst) : TGs := fun vs σ H Q => ∃ G F M τ ds Qt, At K E Et G F H M σ τ ∧ Rps K F vs ds ∧ t ds τ M Qt ∧ ∀ F' H' M' σ' τ', Same F F' → At K E Et G F' H' M' σ' τ' → Qt τ' M' → Q σ' H'
def gN (i : Nat) : TGt := fun d τ M Q => Q (τ.set i (some d)) M
def gNl : TGst := fun ds τ M Q => match ds with
  | [] => Q τ M
  | _ :: _ => False
def gCs (t : TGt) (u : TGst) : TGst := fun ds τ M Q => match ds with
  | [] => False
  | d :: r => t d τ M fun τ' M' => u r τ' M' Q
def gTp (n : Nat) (t : TGst) : TGt := fun d τ M Q => match d with
  | .tup ds => ds.length = n ∧ t ds τ M Q
  | _ => False
/-- o[i] = v by values -/
abbrev TSett := D → D → D → MH → (MH → Prop) → Prop
def lSet (K : PySem.W.Frag) (t : TSett) : TSet := fun o i v H Q => ∃ G F M od idd vd Qt, Rel K G F H M ∧ Rp K F o od ∧ Rp K F i idd ∧ Rp K F v vd ∧ t od idd vd M Qt ∧ ∀ F' H' M', Same F F' → Rel K G F' H' M' → Qt M' → Q H'
def gSb (to ti : TEt) (t : TSett) : TGt := fun v τ M Q => to τ M fun o M1 => ti τ M1 fun i M2 => t o i v M2 fun M3 => Q τ M3
abbrev QG (X : Cx) (E : XK) (Et : XT) (e : Expr) (t : TGt) : Prop := PG X e (liftG X.K E Et t)
abbrev QGs (X : Cx) (E : XK) (Et : XT) (e : List Expr) (t : TGst) : Prop := PGs X e (liftGs X.K E Et t)
def sAs (te : TEt) (g : TGt) : TSt := fun D τ M => te τ M fun x M1 => g x τ M1 D.nx
section
variable {X : Cx} {E : XK} {Et : XT} {st : Stmt} {rest : List Stmt} {t u : TSt} {e : Expr} {te : TEt} {pos : Pos}
theorem qss_nil : QSs X E Et [] sNx := PSsimp pss_nil (by
  rintro D σ H ⟨G, F, M, τ, Dt, a, en, h⟩
  exact en.nx F H M σ τ (Same.refl _) a h)
theorem qss_cons (h1 : QS X E Et st t) (h2 : QSs X E Et rest u) : QSs X E Et (st :: rest) (sSq t u) := PSsimp (pss_cons h1 h2) (by
  rintro D σ H ⟨G, F, M, τ, Dt, a, en, h⟩
  exact ⟨G, F, M, τ, { Dt with nx := u Dt }, a, ⟨fun F' H' M' σ' τ' s a' h' => ⟨G, F', M', τ', Dt, a', en.mono s, h'⟩, en.rt, en.bk, en.ct⟩, h⟩)
theorem qss_one (h1 : QS X E Et st t) : QSs X E Et [st] t := pss_one h1
theorem qs_expr (he : QE X E Et e te) (hs : swapsWith e none pos.line X.env = pure false := by rfl) : QS X E Et (.Expr e pos) (sDr te) := PSimp (ps_expr he hs) (by
  rintro D σ H ⟨G, F, M, τ, Dt, a, en, h⟩
  exact ⟨G, F, M, τ, _, a, h, fun v F' H' M' d s r p q => en.nx F' H' M' σ τ s (a.step s r) q⟩)
theorem qs_ret (he : QE X E Et e te) : QS X E Et (.Return (some e) pos) (sRt te) := PSimp (ps_ret he) (by
  rintro D σ H ⟨G, F, M, τ, Dt, a, en, h⟩
  exact ⟨G, F, M, τ, _, a, h, fun v F' H' M' d s r p q => en.rt F' H' M' v d s r p q⟩)
theorem qs_if {c : Expr} {a b : List Stmt} {tc : TTt} (hc : QT X E Et c tc) (ha : QSs X E Et a t) (hb : QSs X E Et b u) : QS X E Et (.If c a b pos) (sIf tc t u) := PSimp (ps_if hc ha hb) (by
  rintro D σ H ⟨G, F, M, τ, Dt, a, en, h⟩
  refine ⟨G, F, M, τ, _, a, h, fun b F' H' M' s r q => ?_⟩
  cases b with
  | true =>
    rw [if_pos rfl] at q ⊢
    exact ⟨G, F', M', τ, Dt, a.step s r, en.mono s, q⟩
  | false =>
    rw [if_neg Bool.false_ne_true] at q ⊢
    exact ⟨G, F', M', τ, Dt, a.step s r, en.mono s, q⟩)
/-! targets -/
theorem qg_name {i : Nat} {x : Str} (hN : X.N.Nodup) (hi : X.N[i]? = some x := by rfl) (hx : Loc X.env.scope x := by first | exact Or.inl rfl | exact Or.inr rfl) (hf : X.fn x = true ∨ X.env.scope.names.lookup x = some .local := by first | exact .inl rfl | exact .inr rfl | assumption) : QG X E Et (.Name x pos) (gN i) := by
  refine ⟨fun pins s σ H v u Q I r h => ?_⟩
  obtain ⟨G, F, M, τ, d, Qt, a, p, h, k⟩ := h
  exact (pg_name hN hi hx hf).run pins s σ H v u Q I r (k F H M _ _ (Same.refl _) (a.store p) h)
theorem qgs_nil : QGs X E Et [] gNl := by
  refine ⟨fun pins s σ H vs us Q I r h => ?_⟩
  obtain ⟨G, F, M, τ, ds, Qt, a, p, h, k⟩ := h
  cases p with
  | nil => exact pgs_nil.run pins s σ H [] us Q I r ⟨rfl, k F H M _ _ (Same.refl _) a h⟩
  | cons _ _ => exact (show False from h).elim
theorem qgs_cons {es : List Expr} {t : TGt} {u : TGst} (h1 : QG X E Et e t) (h2 : QGs X E Et es u)
    (hs : (assignEach (e :: es) X.env).map (·.2) = assign e X.env :: (assignEach es X.env).map (·.2) := by rfl) : QGs X E Et (e :: es) (gCs t u) := by
  refine ⟨fun pins s σ H vs us Q I r h => ?_⟩
  obtain ⟨G, F, M, τ, ds, Qt, a, p, h, k⟩ := h
  cases p with
  | nil => exact (show False from h).elim
  | cons p1 p2 =>
    refine (pgs_cons h1 h2 hs).run pins s σ H _ us Q I r ⟨_, _, rfl, G, F, M, τ, _, _, a, p1, h, fun F1 H1 M1 σ1 τ1 s1 a1 q1 => ?_⟩
    exact ⟨G, F1, M1, τ1, _, Qt, a1, p2.mono s1, q1, fun F' H' M' σ' τ' s => k F' H' M' σ' τ' (s1.trans s)⟩
theorem qg_tup {es : List Expr} {k : Nat} {t : TGst} {n : Nat} (hc : X.calm = true) (h : QGs X E Et es t)
    (hn : (assignEach es X.env).length = n := by rfl) (hst : (assignEach es X.env).findIdx? (·.1) = none := by rfl) : QG X E Et (.Tuple es k pos) (gTp n t) := by
  refine ⟨fun pins s σ H v u Q I r hw => ?_⟩
  obtain ⟨G, F, M, τ, d, Qt, a, p, hw, k⟩ := hw
  cases p with
  | tup h0 r0 =>
    obtain ⟨hl, hw⟩ := (show _ ∧ _ from hw)
    exact (pg_tup hc h hn hst).run pins s σ H _ u Q I r ⟨_, _, rfl, SqT.of (a.rel.sub _ _ h0), by rw [r0.length]; exact hl, G, F, M, τ, _, Qt, a, r0, hw, k⟩
  | _ => exact (show False from hw).elim
theorem qg_sub {o i : Expr} {to ti : TEt} {t : TSett} (ho : QE X E Et o to) (hi : QE X E Et i ti) (hs : PSet X (lSet X.K t))
    (ha : ∀ v, assign (.Subscript o i pos) X.env v = (do
      let ov ← holding [v] (eval o X.env)
      let iv ← holding [v, ov] (eval i X.env)
      standAt pos
      holding [v, ov, iv] (setItem ov iv v)
      release [v, ov, iv] []) := by intro _; rfl) : QG X E Et (.Subscript o i pos) (gSb to ti t) := by
  refine ⟨fun pins s σ H v u Q I r hw => ?_⟩
  obtain ⟨G, F, M, τ, d, Qt, a, p, hw, k⟩ := hw
  refine (pg_sub ho hi hs ha).run pins s σ H v u Q I r ?_
  refine ⟨G, F, M, τ, _, a, hw, fun v1 F1 H1 M1 d1 s1 r1 p1 q1 => ?_⟩
  refine ⟨G, F1, M1, τ, _, a.step s1 r1, q1, fun v2 F2 H2 M2 d2 s2 r2 p2 q2 => ?_⟩
  exact ⟨G, F2, M2, d1, d2, d, _, r2, p1.mono s2, p2, p.mono (s1.trans s2), q2, fun F3 H3 M3 s3 r3 q3 => k F3 H3 M3 σ τ ((s1.trans s2).trans s3) (a.step ((s1.trans s2).trans s3) r3) q3⟩
theorem lv_asg {g : TGt} : ∀ D σ H, liftS X.K E Et (sAs te g) D σ H → tAsg (liftE X.K E Et te) (liftG X.K E Et g) D σ H := by
  rintro D σ H ⟨G, F, M, τ, Dt, a, en, h⟩
  refine ⟨G, F, M, τ, _, a, h, fun v F1 H1 M1 d s1 r1 p1 q1 => ?_⟩
  exact ⟨G, F1, M1, τ, d, _, a.step s1 r1, p1, q1, fun F' H' M' σ' τ' s a' q => en.nx F' H' M' σ' τ' (s1.trans s) a' q⟩
theorem qs_asg {tg : Expr} {g : TGt} (he : QE X E Et e te) (hg : QG X E Et tg g) (hs : swapsWithSole [tg] e pos.line X.env = pure false := by rfl) (hw : swappedStores [tg] e X.env = pure none := by rfl)
    (h1 : (assignEach [tg] X.env).map (·.2) = [assign tg X.env] := by rfl) : QS X E Et (.Assign [tg] e pos) (sAs te g) := PSimp (ps_asg he hg hs hw h1) lv_asg
theorem qs_set {i : Nat} {x : Str} {pos' : Pos} (hN : X.N.Nodup) (he : QE X E Et e te) (hi : X.N[i]? = some x := by rfl) (hx : Loc X.env.scope x := by first | exact Or.inl rfl | exact Or.inr rfl) (hs : swapsWith e (some (.Name x pos')) pos.line X.env = pure false := by rfl) (hf : X.fn x = true ∨ X.env.scope.names.lookup x = some .local := by first | exact .inl rfl | exact .inr rfl | assumption) :
    QS X E Et (.Assign [.Name x pos'] e pos) (sAs te (gN i)) := PSimp (ps_set hN hi hx he hs hf) (by
  rintro D σ H ⟨G, F, M, τ, Dt, a, en, h⟩
  refine ⟨G, F, M, τ, _, a, h, fun v F1 H1 M1 d s1 r1 p1 q1 => ?_⟩
  exact en.nx F1 H1 M1 _ _ s1 ((a.step s1 r1).store p1) q1)
/-- x += e -/
def sAg (i : Nat) (te : TEt) (r : R2t) : TSt := fun D τ M => match nth τ i with
  | some x => te τ M fun y M1 => r x y M1 fun z M2 => D.nx (τ.set i (some z)) M2
  | none => False
theorem qs_aug {i : Nat} {x : Str} {op : Operator} {r : R2t} {pos' : Pos} (hN : X.N.Nodup) (ho : OpQ X (inplaceOp op) r) (he : QE X E Et e te) (hi : X.N[i]? = some x := by rfl) (hx : Loc X.env.scope x := by first | exact Or.inl rfl | exact Or.inr rfl) (hf : X.fn x = true ∨ X.env.scope.names.lookup x = some .local := by first | exact .inl rfl | exact .inr rfl | assumption) :
    QS X E Et (.AugAssign (.Name x pos') op e pos) (sAg i te r) := PSimp (ps_aug hN hi hx he (fun pins s σ H x y v u Q I rx ry h => ho pins s σ H x y v u Q I rx ry h) hf) (by
  rintro D σ H ⟨G, F, M, τ, Dt, a, en, h⟩
  unfold sAg at h
  cases q : nth τ i with
  | none => rw [q] at h; exact h.elim
  | some d =>
    rw [q] at h
    obtain ⟨v, h1, h2⟩ := a.sg.2 i d (nth_get q)
    refine ⟨v, h1, G, F, M, τ, _, a, h, fun v1 F1 H1 M1 d1 s1 r1 p1 q1 => ?_⟩
    exact ⟨G, F1, M1, d, d1, _, r1, h2.mono s1, p1, q1, fun v2 F2 H2 M2 d2 s2 r2 p2 q2 => en.nx F2 H2 M2 _ _ (s1.trans s2) ((a.step (s1.trans s2) r2).store p2) q2⟩)
end
/-! ### loops -/
/-- while: W by a measure -/
def sWh (c : TTt) (tb : TSt) : TSt := fun D τ M => ∃ W : Nat → Sg → MH → Prop, (∃ m, W m τ M) ∧ ∀ m τ M, W m τ M →
  c τ M fun b M1 => if b = true then tb { D with nx := fun τ' M' => ∃ m', m' < m ∧ W m' τ' M', ct := fun τ' M' => ∃ m', m' < m ∧ W m' τ' M', bk := D.nx } τ M1 else D.nx τ M1
section
variable {X : Cx} {E : XK} {Et : XT} {pos : Pos}
theorem qs_while {c : Expr} {body : List Stmt} {tc : TTt} {tb : TSt} (hp : PassesOwn (model X.prog X.w) X.A X.env X.xe) (hc : QT X E Et c tc) (hb : QSs X E Et body tb) : QS X E Et (.While c body [] pos) (sWh tc tb) := PSimp (ps_while hp hc hb) (by
  rintro D σ H ⟨G, F0, M0, τ0, Dt, a0, en0, W, ⟨m0, w0⟩, turn⟩
  refine ⟨fun m σ H => ∃ F M τ, Same F0 F ∧ At X.K E Et G F H M σ τ ∧ W m τ M, ⟨m0, F0, M0, τ0, Same.refl _, a0, w0⟩, ?_⟩
  rintro m σ H ⟨F, M, τ, s, a, hw⟩
  have en := en0.mono s
  refine ⟨G, F, M, τ, _, a, turn m τ M hw, fun b F1 H1 M1 s1 r1 q1 => ?_⟩
  cases b with
  | true =>
    rw [if_pos rfl] at q1 ⊢
    refine ⟨fun σ' H' => ∃ m', m' < m ∧ ∃ F M τ, Same F0 F ∧ At X.K E Et G F H' M σ' τ ∧ W m' τ M, fun σ' H' z => z, G, F1, M1, τ, _, a.step s1 r1, ?_, q1⟩
    exact ⟨fun F' H' M' σ' τ' s2 a2 ⟨m', hm, w'⟩ => ⟨m', hm, F', M', τ', (s.trans s1).trans s2, a2, w'⟩, (en.mono s1).rt, fun F' H' M' σ' τ' s2 a2 q => (en.mono s1).nx F' H' M' σ' τ' s2 a2 q,
      fun F' H' M' σ' τ' s2 a2 ⟨m', hm, w'⟩ => ⟨m', hm, F', M', τ', (s.trans s1).trans s2, a2, w'⟩⟩
  | false =>
    rw [if_neg Bool.false_ne_true] at q1 ⊢
    exact en.nx F1 H1 M1 σ τ s1 (a.step s1 r1) q1)
end
/-- what is walked: its items, as long as src holds -/
structure Its where
  items : List D
  src : MH → Prop
abbrev TIt := Sg → MH → (Its → MH → Prop) → Prop
/-- J walks the items: at any state in which src holds -/
structure ItOk (K : PySem.W.Frag) (F0 : Hp) (J : It) (I : Its) : Prop where
  go : ∀ i G F H M x, Same F0 F → Rel K G F H M → I.src M → I.items[i]? = some x → J.go i H
  yld : ∀ i G F H M x v H', Same F0 F → Rel K G F H M → I.src M → I.items[i]? = some x → J.yld i H v H' → ∃ F', Same F F' ∧ Rel K G F' H' M ∧ Rp K F' v x
  stop : ∀ i G F H M, Same F0 F → Rel K G F H M → I.src M → I.items.length ≤ i → J.stop i H
def liftI (K : PySem.W.Frag) (E : XK) (Et : XT) (t : TIt) : TI := fun σ H R => ∃ G F M τ Qt, At K E Et G F H M σ τ ∧ t τ M Qt ∧ ∀ J I F' H' M', Same F F' → Rel K G F' H' M' → ItOk K F' J I → Qt I M' → R J H'
abbrev QI (X : Cx) (E : XK) (Et : XT) (tg iter : Expr) (t : TIt) : Prop := PI X tg iter (liftI X.K E Et t)
def sFo (ti : TIt) (g : TGt) (tb : TSt) : TSt := fun D τ M => ti τ M fun I M1 => ∃ W : Nat → Sg → MH → Prop, W 0 τ M1 ∧ (∀ i τ M, W i τ M → I.src M) ∧
  (∀ i x τ M, I.items[i]? = some x → W i τ M → g x τ M fun τ2 M2 => tb { D with nx := W (i + 1), ct := W (i + 1), bk := D.nx } τ2 M2) ∧ ∀ τ M, W I.items.length τ M → D.nx τ M
section
variable {X : Cx} {E : XK} {Et : XT} {pos : Pos}
theorem qs_for {tg iter : Expr} {body : List Stmt} {ti : TIt} {g : TGt} {tb : TSt} (hp : PassesOwn (model X.prog X.w) X.A X.env X.xe) (hc : X.calm = true) (hi : QI X E Et tg iter ti) (hg : QG X E Et tg g) (hb : QSs X E Et body tb)
    (hs : ∀ x, foldedSetIterable iter X.env x = pure x := by intro _; rfl) : QS X E Et (.For tg iter body [] pos) (sFo ti g tb) := PSimp (ps_for hp hc hi hg hb hs) (by
  rintro D σ H ⟨G, F0, M0, τ0, Dt, a0, en0, h⟩
  refine ⟨G, F0, M0, τ0, _, a0, h, fun J I F1 H1 M1 s1 r1 ok q1 => ?_⟩
  obtain ⟨W, w0, ws, turn, done⟩ := q1
  refine ⟨fun i m σ H => m = I.items.length - i ∧ i ≤ I.items.length ∧ ∃ F M τ, Same F1 F ∧ At X.K E Et G F H M σ τ ∧ W i τ M, ⟨I.items.length, by simp, Nat.zero_le _, F1, M1, τ0, Same.refl _, a0.step s1 r1, w0⟩, ?_⟩
  rintro i m σ H ⟨rfl, hi, F, M, τ, s, a, hw⟩
  have en := en0.mono (s1.trans s)
  by_cases hlt : i < I.items.length
  · have hx : I.items[i]? = some I.items[i] := List.getElem?_eq_getElem hlt
    refine .inr ⟨ok.go i G F H M _ s a.rel (ws i τ M hw) hx, fun σ' H' => I.items.length - (i + 1) < I.items.length - i ∧ ∃ F M τ, Same F1 F ∧ At X.K E Et G F H' M σ' τ ∧ W (i + 1) τ M, fun σ' H' z => ⟨_, z.1, rfl, hlt, z.2⟩, fun v H' y => ?_⟩
    obtain ⟨F2, s2, r2, p2⟩ := ok.yld i G F H M _ v H' s a.rel (ws i τ M hw) hx y
    have hm : I.items.length - (i + 1) < I.items.length - i := by omega
    refine ⟨G, F2, M, τ, _, _, a.step s2 r2, p2, turn i _ τ M hx hw, fun F3 H3 M3 σ3 τ3 s3 a3 q3 => ?_⟩
    refine ⟨G, F3, M3, τ3, _, a3, ?_, q3⟩
    exact ⟨fun F' H' M' σ' τ' s4 a4 w' => ⟨hm, F', M', τ', ((s.trans s2).trans s3).trans s4, a4, w'⟩, (en.mono (s2.trans s3)).rt, fun F' H' M' σ' τ' s4 a4 q => (en.mono (s2.trans s3)).nx F' H' M' σ' τ' s4 a4 q,
      fun F' H' M' σ' τ' s4 a4 w' => ⟨hm, F', M', τ', ((s.trans s2).trans s3).trans s4, a4, w'⟩⟩
  · have e : i = I.items.length := by omega
    subst e
    exact .inl ⟨ok.stop _ G F H M s a.rel (ws _ τ M hw) (Nat.le_refl _), en.nx F H M σ τ (Same.refl _) a (done τ M hw)⟩)
end
/-- the items of a list that stands, frozen or not -/
def lstOf (M : MH) : D → Option (List D)
  | .lst ds => some ds
  | .scr ds => some ds
  | .ref a => match M a with
    | some (.lst ds) => some ds
    | _ => none
  | _ => none
def tupOf : D → Option (List D)
  | .tup ds => some ds
  | .tab ds => some ds
  | _ => none
section
variable {K : PySem.W.Frag}
theorem lst_of {G F H : Hp} {M : MH} {v : V} {d : D} {ds : List D} (R : Rel K G F H M) (p : Rp K F v d) (e : lstOf M d = some ds) : ∃ a vs, v = .ref a ∧ SqL K H a vs ∧ Rps K F vs ds := by
  cases p with
  | lst h r =>
    cases e
    exact ⟨_, _, rfl, SqL.of (R.sub _ _ h), r⟩
  | scr h r =>
    cases e
    exact ⟨_, _, rfl, R.sub.seq h, r⟩
  | ref a =>
    unfold lstOf at e
    cases q : M a with
    | none => simp only [q] at e; cases e
    | some o =>
      simp only [q] at e
      obtain ⟨_, u, hu, r⟩ := R.chg a o q
      cases o with
      | lst xs =>
        cases e
        cases u with
        | lst vs => exact ⟨a, vs, rfl, SqL.of hu, r⟩
        | _ => exact (r : False).elim
      | _ => cases e
  | _ => cases e
theorem tup_of {G F H : Hp} {M : MH} {v : V} {d : D} {ds : List D} (R : Rel K G F H M) (p : Rp K F v d) (e : tupOf d = some ds) : ∃ a vs, v = .ref a ∧ SqT K H a vs ∧ Rps K F vs ds := by
  cases p with
  | tup h r =>
    cases e
    exact ⟨_, _, rfl, SqT.of (R.sub _ _ h), r⟩
  | tab h r =>
    cases e
    exact ⟨_, _, rfl, SameT R.sub h, r⟩
  | _ => cases e
end
/-- for x in xs -/
def iLs (te : TEt) : TIt := fun τ M Q => te τ M fun d M1 => match lstOf M1 d with
  | some ds => Q ⟨ds, fun M => lstOf M d = some ds⟩ M1
  | none => False
def iTu (te : TEt) : TIt := fun τ M Q => te τ M fun d M1 => match tupOf d with
  | some ds => Q ⟨ds, fun _ => True⟩ M1
  | none => False
def iR1 (ta : TAt) : TIt := fun τ M Q => ta τ M fun ds M1 => match ds with
  | [.int j] => (-(2 ^ 62) ≤ j ∧ j < 2 ^ 62) ∧ Q ⟨(List.range j.toNat).map fun i => .int (i : Nat), fun _ => True⟩ M1
  | _ => False
def iR2 (ta : TAt) : TIt := fun τ M Q => ta τ M fun ds M1 => match ds with
  | [.int i, .int j] => (-(2 ^ 62) ≤ i ∧ i < 2 ^ 62 ∧ -(2 ^ 62) ≤ j ∧ j < 2 ^ 62) ∧ Q ⟨(List.range (j - i).toNat).map fun k => .int (i + (k : Nat)), fun _ => True⟩ M1
  | _ => False
theorem SqL_get {K : PySem.W.Frag} {H : Hp} {a : Addr} {vs : List V} (h : SqL K H a vs) {i : Nat} {v x : V} (hx : vs[i]? = some x) (f : ∀ xs, SqL K H a xs → xs[i]? = some v) : v = x := Option.some.inj ((f _ h).symm.trans hx)
theorem SqT_get {K : PySem.W.Frag} {H : Hp} {a : Addr} {vs : List V} (h : SqT K H a vs) {i : Nat} {v x : V} (hx : vs[i]? = some x) (f : ∀ xs, SqT K H a xs → xs[i]? = some v) : v = x := Option.some.inj ((f _ h).symm.trans hx)
section
variable {X : Cx} {E : XK} {Et : XT} {pos : Pos} {tg e : Expr} {te : TEt}
theorem itOk_list {K : PySem.W.Frag} {F0 : Hp} {a : Addr} {d : D} {ds : List D} (p : Rp K F0 (.ref a) d) : ItOk K F0 (Itl K a) ⟨ds, fun M => lstOf M d = some ds⟩ where
  go := fun i G F H M x s R h hx => by
    obtain ⟨b, vs, e, hs, r⟩ := lst_of R (p.mono s) h
    cases e
    obtain ⟨v, hv, _⟩ := r.getD hx
    exact ⟨vs, v, hs, hv⟩
  yld := fun i G F H M x v H' s R h hx y => by
    obtain ⟨b, vs, e, hs, r⟩ := lst_of R (p.mono s) h
    cases e
    obtain ⟨v', hv, rv⟩ := r.getD hx
    obtain ⟨rfl, f⟩ := y
    have := SqL_get hs hv f
    subst this
    exact ⟨F, Same.refl _, R, rv⟩
  stop := fun i G F H M s R h hl => by
    obtain ⟨b, vs, e, hs, r⟩ := lst_of R (p.mono s) h
    cases e
    exact ⟨vs, hs, by rw [r.length]; exact hl⟩
theorem itOk_tup {K : PySem.W.Frag} {F0 : Hp} {a : Addr} {d : D} {ds : List D} (p : Rp K F0 (.ref a) d) (h : tupOf d = some ds) : ItOk K F0 (Itt K a) ⟨ds, fun _ => True⟩ where
  go := fun i G F H M x s R _ hx => by
    obtain ⟨b, vs, e, hs, r⟩ := tup_of R (p.mono s) h
    cases e
    obtain ⟨v, hv, _⟩ := r.getD hx
    exact ⟨vs, v, hs, hv⟩
  yld := fun i G F H M x v H' s R _ hx y => by
    obtain ⟨b, vs, e, hs, r⟩ := tup_of R (p.mono s) h
    cases e
    obtain ⟨v', hv, rv⟩ := r.getD hx
    obtain ⟨rfl, f⟩ := y
    have := SqT_get hs hv f
    subst this
    exact ⟨F, Same.refl _, R, rv⟩
  stop := fun i G F H M s R _ hl => by
    obtain ⟨b, vs, e, hs, r⟩ := tup_of R (p.mono s) h
    cases e
    exact ⟨vs, hs, by rw [r.length]; exact hl⟩
theorem qi_list (he : QE X E Et e te) : QI X E Et tg e (iLs te) := by
  refine ⟨fun pins s σ H R I h => (pi_list he).run pins s σ H R I ?_⟩
  obtain ⟨G, F, M, τ, Qt, a, h, k⟩ := h
  refine ⟨G, F, M, τ, _, a, h, fun v F1 H1 M1 d s1 r1 p1 q1 => ?_⟩
  cases q : lstOf M1 d with
  | none => simp only [q] at q1
  | some ds =>
    simp only [q] at q1
    obtain ⟨b, vs, rfl, hs, r⟩ := lst_of r1 p1 q
    exact ⟨b, rfl, ⟨vs, hs⟩, k _ _ F1 H1 M1 s1 r1 (itOk_list p1) q1⟩
theorem qi_tup (he : QE X E Et e te) : QI X E Et tg e (iTu te) := by
  refine ⟨fun pins s σ H R I h => (pi_tup he).run pins s σ H R I ?_⟩
  obtain ⟨G, F, M, τ, Qt, a, h, k⟩ := h
  refine ⟨G, F, M, τ, _, a, h, fun v F1 H1 M1 d s1 r1 p1 q1 => ?_⟩
  cases q : tupOf d with
  | none => simp only [q] at q1
  | some ds =>
    simp only [q] at q1
    obtain ⟨b, vs, rfl, hs, r⟩ := tup_of r1 p1 q
    exact ⟨b, rfl, ⟨vs, hs⟩, k _ _ F1 H1 M1 s1 r1 (itOk_tup p1 q) q1⟩
theorem range_at {n i : Nat} {f : Nat → D} {x : D} (h : ((List.range n).map f)[i]? = some x) : i < n ∧ x = f i := by
  rw [List.getElem?_map] at h
  by_cases hi : i < n
  · rw [List.getElem?_range hi] at h
    exact ⟨hi, (Option.some.inj h).symm⟩
  · rw [List.getElem?_eq_none (by rw [List.length_range]; omega)] at h
    cases h
theorem itOk_range {K : PySem.W.Frag} {F0 : Hp} {lo : Int} {n : Nat} : ItOk K F0 (Itr lo n) ⟨(List.range n).map fun k => .int (lo + (k : Nat)), fun _ => True⟩ where
  go := fun i G F H M x s R _ hx => (range_at hx).1
  yld := fun i G F H M x v H' s R _ hx y => by
    obtain ⟨rfl, rfl⟩ := y
    obtain ⟨_, rfl⟩ := range_at hx
    exact ⟨F, Same.refl _, R, .int _⟩
  stop := fun i G F H M s R _ hl => by
    rw [List.length_map, List.length_range] at hl
    exact hl
theorem Rp.int_inv {K : PySem.W.Frag} {F : Hp} {v : V} {c : Int} (h : Rp K F v (.int c)) : v = .int c := by cases h; rfl
theorem qi_range2 {a b : Expr} {ta : TAt} {p : Pos} (hm : X.mg "range" = none) (ha : QA X E Et [a, b] ta) (hg : Gl X "range" := by rfl) (hs : starEach [a, b] X.env = [(false, eval a X.env), (false, eval b X.env)] := by rfl) (hs2 : starEach [b] X.env = [(false, eval b X.env)] := by rfl) : QI X E Et tg (.Call (.Name "range" p) [a, b] [] pos) (iR2 ta) := by
  refine ⟨fun pins s σ H R I h => (pi_range2 hg hm ha hs hs2).run pins s σ H R I ?_⟩
  obtain ⟨G, F, M, τ, Qt, a, h, k⟩ := h
  refine ⟨G, F, M, τ, _, a, h, fun vs F1 H1 M1 ds s1 r1 p1 q1 => ?_⟩
  match ds, p1, q1 with
  | [.int i, .int j], .cons h1 (.cons h2 .nil), q1 =>
    cases h1
    cases h2
    obtain ⟨b, q1⟩ := q1
    exact ⟨i, j, rfl, b, k _ _ F1 H1 M1 s1 r1 itOk_range q1⟩
end
end Tl
namespace Tl
open PySem PySem.Spec PyProof.Rows L2
/-! ### numbers -/
section
variable {K : PySem.W.Frag}
theorem lr2_int {C : Int → Int → Prop} {g : Int → Int → V} {gD : Int → Int → D} {r : R2t} (hg : ∀ F i j, Rp K F (g i j) (gD i j))
    (hr : ∀ x y M Q, r x y M Q → ∃ i j, x = .int i ∧ y = .int j ∧ C i j ∧ Q (gD i j) M) : ∀ x y H Q, lr2 K r x y H Q → rI C g x y H Q := by
  rintro x y H Q ⟨G, F, M, dx, dy, Qt, R, px, py, h, k⟩
  obtain ⟨i, j, rfl, rfl, c, q⟩ := hr dx dy M Qt h
  exact ⟨i, j, px.int_inv, py.int_inv, c, k _ F H M _ (Same.refl _) R (hg F i j) q⟩
theorem lr2_int0 {g : Int → Int → V} {gD : Int → Int → D} {r : R2t} (hg : ∀ F i j, Rp K F (g i j) (gD i j))
    (hr : ∀ x y M Q, r x y M Q → ∃ i j, x = .int i ∧ y = .int j ∧ Q (gD i j) M) : ∀ x y H Q, lr2 K r x y H Q → rI0 g x y H Q := by
  rintro x y H Q ⟨G, F, M, dx, dy, Qt, R, px, py, h, k⟩
  obtain ⟨i, j, rfl, rfl, q⟩ := hr dx dy M Qt h
  exact ⟨i, j, px.int_inv, py.int_inv, k _ F H M _ (Same.refl _) R (hg F i j) q⟩
end
/-- x op y on whole numbers -/
def bInt (C : Int → Int → Prop) (g : Int → Int → D) : R2t := fun x y M Q => match x, y with
  | .int i, .int j => C i j ∧ Q (g i j) M
  | _, _ => False
def bInt0 (g : Int → Int → D) : R2t := fun x y M Q => match x, y with
  | .int i, .int j => Q (g i j) M
  | _, _ => False
theorem bInt_inv {C : Int → Int → Prop} {g : Int → Int → D} : ∀ x y M Q, bInt C g x y M Q → ∃ i j, x = .int i ∧ y = .int j ∧ C i j ∧ Q (g i j) M := by
  intro x y M Q h
  cases x <;> cases y <;> first | exact ⟨_, _, rfl, rfl, h⟩ | exact (show False from h).elim
theorem bInt0_inv {g : Int → Int → D} : ∀ x y M Q, bInt0 g x y M Q → ∃ i j, x = .int i ∧ y = .int j ∧ Q (g i j) M := by
  intro x y M Q h
  cases x <;> cases y <;> first | exact ⟨_, _, rfl, rfl, h⟩ | exact (show False from h).elim
section
variable {X : Cx}
abbrev bSub : R2t := bInt0 fun i j => .int (i - j)
theorem oq_addI : OpQ X (binaryOp .Add) (bInt0 fun i j => .int (i + j)) := OpRimp op_add (lr2_int0 (fun _ _ _ => .int _) bInt0_inv)
theorem oq_sub : OpQ X (binaryOp .Sub) bSub := OpRimp op_sub (lr2_int0 (fun _ _ _ => .int _) bInt0_inv)
theorem oq_fdiv : OpQ X (binaryOp .FloorDiv) (bInt CDivW fun i j => .int (i / j)) := OpRimp op_fdivW (lr2_int (fun _ _ _ => .int _) bInt_inv)
theorem oq_mod : OpQ X (binaryOp .Mod) (bInt (fun _ j => 0 < j) fun i j => .int (i % j)) := OpRimp op_mod (lr2_int (fun _ _ _ => .int _) bInt_inv)
theorem oq_iaddI : OpQ X (inplaceOp .Add) (bInt0 fun i j => .int (i + j)) := OpRimp iop_add (lr2_int0 (fun _ _ _ => .int _) bInt0_inv)
theorem oq_lt : OpQ X (compareOp .Lt) (bInt0 fun i j => .bl (decide (i < j))) := OpRimp op_lt (lr2_int0 (fun _ _ _ => .bl _) bInt0_inv)
theorem oq_le : OpQ X (compareOp .LtE) (bInt0 fun i j => .bl (decide (i ≤ j))) := OpRimp op_le (lr2_int0 (fun _ _ _ => .bl _) bInt0_inv)
theorem oq_gt : OpQ X (compareOp .Gt) (bInt0 fun i j => .bl (decide (j < i))) := OpRimp op_gt (lr2_int0 (fun _ _ _ => .bl _) bInt0_inv)
theorem oq_ge : OpQ X (compareOp .GtE) (bInt0 fun i j => .bl (decide (j ≤ i))) := OpRimp op_ge (lr2_int0 (fun _ _ _ => .bl _) bInt0_inv)
def uNeg : R1t := fun x M Q => match x with
  | .int i => Q (.int (-i)) M
  | _ => False
theorem uq_neg : UnQ X (unaryOp .USub) uNeg := UnRimp un_neg (by
  rintro x H Q ⟨G, F, M, dx, Qt, R, px, h, k⟩
  cases dx <;> first | exact (show False from h).elim | exact ⟨_, px.int_inv, k _ F H M _ (Same.refl _) R (.int _) h⟩)
end
/-! ### == and != of scalars -/
def dScal : D → D → Option Bool
  | .non, .non => some true
  | .int i, .int j => some (decide (i = j))
  | .str x, .str y => some (decide (x = y))
  | .bl x, .bl y => some (decide (x = y))
  | .non, .int _ => some false
  | .int _, .non => some false
  | .non, .str _ => some false
  | .str _, .non => some false
  | .non, .bl _ => some false
  | .bl _, .non => some false
  | .int _, .str _ => some false
  | .str _, .int _ => some false
  | _, _ => none
def bEq : R2t := fun x y M Q => match dScal x y with
  | some b => Q (.bl b) M
  | none => False
def bNe : R2t := fun x y M Q => match dScal x y with
  | some b => Q (.bl (!b)) M
  | none => False
theorem dScal_of {K : PySem.W.Frag} {F : Hp} {v w : V} {x y : D} {b : Bool} (px : Rp K F v x) (py : Rp K F w y) (e : dScal x y = some b) : scal v w = true ∧ decide (v = w) = b := by
  cases x <;> cases y <;> first
    | (cases e; done)
    | (cases px; cases py; cases e; exact ⟨rfl, by first | rfl | (congr 1; simp)⟩)
section
variable {X : Cx}
theorem oq_eq : OpQ X (compareOp .Eq) bEq := OpRimp op_eq (by
  rintro x y H Q ⟨G, F, M, dx, dy, Qt, R, px, py, h, k⟩
  unfold bEq at h
  cases e : dScal dx dy with
  | none => simp only [e] at h
  | some b =>
    simp only [e] at h
    obtain ⟨h1, h2⟩ := dScal_of px py e
    exact ⟨h1, k _ F H M _ (Same.refl _) R (by rw [h2]; exact .bl b) h⟩)
theorem oq_ne : OpQ X (compareOp .NotEq) bNe := OpRimp op_ne (by
  rintro x y H Q ⟨G, F, M, dx, dy, Qt, R, px, py, h, k⟩
  unfold bNe at h
  cases e : dScal dx dy with
  | none => simp only [e] at h
  | some b =>
    simp only [e] at h
    obtain ⟨h1, h2⟩ := dScal_of px py e
    exact ⟨h1, k _ F H M _ (Same.refl _) R (by rw [h2]; exact .bl _) h⟩)
def isNonD : D → Bool
  | .non => true
  | _ => false
theorem isNonD_of {K : PySem.W.Frag} {F : Hp} {v : V} {x : D} (px : Rp K F v x) : decide (v = .non) = isNonD x := by
  cases px <;> rfl
def bIsN : R2t := fun x y M Q => match y with
  | .non => Q (.bl (isNonD x)) M
  | _ => False
def bNotN : R2t := fun x y M Q => match y with
  | .non => Q (.bl (!isNonD x)) M
  | _ => False
theorem oq_isN : OpQ X (compareOp .Is) bIsN := OpRimp op_isN (by
  rintro x y H Q ⟨G, F, M, dx, dy, Qt, R, px, py, h, k⟩
  cases py <;> first | exact (show False from h).elim | exact ⟨rfl, k _ F H M _ (Same.refl _) R (by rw [isNonD_of px]; exact .bl _) h⟩)
theorem oq_notN : OpQ X (compareOp .IsNot) bNotN := OpRimp op_notN (by
  rintro x y H Q ⟨G, F, M, dx, dy, Qt, R, px, py, h, k⟩
  cases py <;> first | exact (show False from h).elim | exact ⟨rfl, k _ F H M _ (Same.refl _) R (by rw [isNonD_of px]; exact .bl _) h⟩)
end
/-! ### texts, lists, tuples joined -/
def bCatS : R2t := fun x y M Q => match x, y with
  | .str a, .str b => a.length + b.length ≤ sizeLine ∧ Q (.str (a ++ b)) M
  | _, _ => False
/-- a new frozen list -/
def bCatL : R2t := fun x y M Q => match lstOf M x, lstOf M y with
  | some a, some b => a.length + b.length ≤ sizeLine ∧ Q (.lst (a ++ b)) M
  | _, _ => False
/-- a new changing list -/
def bCatM : R2t := fun x y M Q => match lstOf M x, lstOf M y with
  | some a, some b => a.length + b.length ≤ sizeLine ∧ ∀ p, M p = none → Q (.ref p) (mup M p (.lst (a ++ b)))
  | _, _ => False
section
variable {X : Cx}
/-- list + list, frozen ones too -/
def rCatR (K : PySem.W.Frag) : R2 := fun x y H Q => ∃ l b xs zs, x = .ref l ∧ y = .ref b ∧ SqL K H l xs ∧ SqL K H b zs ∧ xs.length + zs.length ≤ sizeLine ∧ ∀ p, H p = none → Q (.ref p) (upd H p (.lst (xs ++ zs)))
theorem op_catR : OpR X (binaryOp .Add) (rCatR X.K) := by
  intro pins s σ H x y v u Q I rx ry h
  obtain ⟨l, b, xs, zs, rfl, rfl, hH, hB, hz, q⟩ := h
  cases rx
  cases ry
  obtain ⟨its, r, ⟨⟨cls, dd, data, sl⟩, n, ho, hc, hdd, hd⟩, z⟩ := I.list hH
  obtain ⟨its2, r2, ⟨⟨cls2, dd2, data2, sl2⟩, n2, ho2, hc2, hdd2, hd2⟩, z2⟩ := I.list hB
  simp only at hc hd hc2 hd2
  subst hc hd hc2 hd2
  have e1 := r.length
  have e2 := r2.length
  refine PySem.concat_meets ⟨_, ho, rfl⟩ ⟨_, ho2, rfl⟩ PySem.noFill_list_add PySem.seq_list_add PySem.F.slot_list_add PySem.F.entry_list_add (PySem.F.args_list_add_2 _ _) (PyProof.Rows.list_addW l b its.toArray its2.toArray n n2 dd dd2 sl sl2 (by rw [List.size_toArray, List.size_toArray]; omega)) ⟨ho, ho2, ?_⟩
  have ea : its.toArray ++ its2.toArray = (its ++ its2).toArray := by simp
  rw [ea]
  exact ⟨.ref _, _, I.lnew (t' := s.toks) (r.append r2) (by rw [List.length_append]; omega), rfl, q _ I.fresh⟩
end
section
variable {K : PySem.W.Frag}
theorem lst_two {r : R2t} {G F H : Hp} {M : MH} {x y : V} {dx dy : D} (R : Rel K G F H M) (px : Rp K F x dx) (py : Rp K F y dy) {a b : List D} (e1 : lstOf M dx = some a) (e2 : lstOf M dy = some b) :
    ∃ l m xs zs, x = .ref l ∧ y = .ref m ∧ SqL K H l xs ∧ SqL K H m zs ∧ Rps K F xs a ∧ Rps K F zs b := by
  obtain ⟨l, xs, h1, h2, h3⟩ := lst_of R px e1
  obtain ⟨m, zs, h4, h5, h6⟩ := lst_of R py e2
  exact ⟨l, m, xs, zs, h1, h4, h2, h5, h3, h6⟩
end
section
variable {X : Cx}
theorem oq_catL : OpQ X (binaryOp .Add) bCatL := OpRimp op_catR (by
  rintro x y H Q ⟨G, F, M, dx, dy, Qt, R, px, py, h, k⟩
  unfold bCatL at h
  cases e1 : lstOf M dx with
  | none => simp only [e1] at h
  | some a =>
    cases e2 : lstOf M dy with
    | none => simp only [e1, e2] at h
    | some b =>
      simp only [e1, e2] at h
      obtain ⟨l, m, xs, zs, rfl, rfl, h2, h5, h3, h6⟩ := lst_two (r := bCatL) R px py e1 e2
      refine ⟨l, m, xs, zs, rfl, rfl, h2, h5, by rw [h3.length, h6.length]; exact h.1, fun p np => ?_⟩
      obtain ⟨s, r⟩ := R.newF (o := .lst (xs ++ zs)) np
      exact k _ _ _ M _ s r (.lst upd_same ((h3.append h6).mono s)) h.2)
theorem oq_catM : OpQ X (binaryOp .Add) bCatM := OpRimp op_catR (by
  rintro x y H Q ⟨G, F, M, dx, dy, Qt, R, px, py, h, k⟩
  unfold bCatM at h
  cases e1 : lstOf M dx with
  | none => simp only [e1] at h
  | some a =>
    cases e2 : lstOf M dy with
    | none => simp only [e1, e2] at h
    | some b =>
      simp only [e1, e2] at h
      obtain ⟨l, m, xs, zs, rfl, rfl, h2, h5, h3, h6⟩ := lst_two (r := bCatM) R px py e1 e2
      refine ⟨l, m, xs, zs, rfl, rfl, h2, h5, by rw [h3.length, h6.length]; exact h.1, fun p np => ?_⟩
      exact k _ _ _ _ _ (Same.refl _) (R.newM (u := .lst (xs ++ zs)) (o := .lst (a ++ b)) np (h3.append h6)) (.ref p) (h.2 p (R.free np).2))
end
/-! ### displays -/
/-- (a, b) -/
def tTu (t : TAt) : TEt := fun τ M Q => t τ M fun ds M1 => ds.length ≤ sizeLine ∧ Q (.tup ds) M1
/-- [a, b]: it stays as it is -/
def tLi (t : TAt) : TEt := fun τ M Q => t τ M fun ds M1 => ds.length ≤ sizeLine ∧ Q (.lst ds) M1
/-- [a, b]: it may change -/
def tLm (t : TAt) : TEt := fun τ M Q => t τ M fun ds M1 => ds.length ≤ sizeLine ∧ ∀ p, M1 p = none → Q (.ref p) (mup M1 p (.lst ds))
section
variable {X : Cx} {E : XK} {Et : XT} {es : List Expr} {t : TAt} {pos : Pos}
theorem q_tup {x1} (h : QA X E Et es t) : QE X E Et (.Tuple es x1 pos) (tTu t) := PEimp (pe_tup h) (by
  rintro σ H Q ⟨G, F, M, τ, Qt, a, h, k⟩
  refine ⟨G, F, M, τ, _, a, h, fun vs F1 H1 M1 ds s1 r1 p1 q1 => ⟨by rw [p1.length]; exact q1.1, fun p np => ?_⟩⟩
  obtain ⟨s, r⟩ := r1.newF (o := .tup vs) np
  exact k _ _ _ M1 _ (s1.trans s) r (.tup upd_same (p1.mono s)) q1.2)
theorem q_lst (h : QA X E Et es t) : QE X E Et (.List es pos) (tLi t) := PEimp (pe_lst h) (by
  rintro σ H Q ⟨G, F, M, τ, Qt, a, h, k⟩
  refine ⟨G, F, M, τ, _, a, h, fun vs F1 H1 M1 ds s1 r1 p1 q1 => ⟨by rw [p1.length]; exact q1.1, fun p np => ?_⟩⟩
  obtain ⟨s, r⟩ := r1.newF (o := .lst vs) np
  exact k _ _ _ M1 _ (s1.trans s) r (.lst upd_same (p1.mono s)) q1.2)
theorem q_lstM (h : QA X E Et es t) : QE X E Et (.List es pos) (tLm t) := PEimp (pe_lst h) (by
  rintro σ H Q ⟨G, F, M, τ, Qt, a, h, k⟩
  refine ⟨G, F, M, τ, _, a, h, fun vs F1 H1 M1 ds s1 r1 p1 q1 => ⟨by rw [p1.length]; exact q1.1, fun p np => ?_⟩⟩
  exact k _ _ _ _ _ s1 (r1.newM (u := .lst vs) (o := .lst ds) np p1) (.ref p) (q1.2 p (r1.free np).2))
end
/-! ### what is as it was, told otherwise -/
/-- at M the value d may as well be told as d' at M' -/
def ReR (K : PySem.W.Frag) (d : D) (M : MH) (d' : D) (M' : MH) : Prop := ∀ G F H v, Rel K G F H M → Rp K F v d → ∃ F', Same F F' ∧ Rel K G F' H M' ∧ Rp K F' v d'
def tRe (K : PySem.W.Frag) (t : TEt) : TEt := fun τ M Q => t τ M fun d M1 => ∃ d' M2, ReR K d M1 d' M2 ∧ Q d' M2
section
variable {K : PySem.W.Frag}
theorem ReR.refl {d : D} {M : MH} : ReR K d M d M := fun G F H v R p => ⟨F, Same.refl _, R, p⟩
theorem ReR.trans {d d1 d2 : D} {M M1 M2 : MH} (a : ReR K d M d1 M1) (b : ReR K d1 M1 d2 M2) : ReR K d M d2 M2 := fun G F H v R p => by
  obtain ⟨F1, s1, R1, p1⟩ := a G F H v R p
  obtain ⟨F2, s2, R2, p2⟩ := b G F1 H v R1 p1
  exact ⟨F2, s1.trans s2, R2, p2⟩
theorem ReR.drop {d : D} {M M' : MH} (h : ∀ a o, M' a = some o → M a = some o) : ReR K d M d M' := fun G F H v R p => ⟨F, Same.refl _, R.drop h, p⟩
theorem ReR.freeze {a : Addr} {ds : List D} {M : MH} (h : M a = some (.lst ds)) : ReR K (.ref a) M (.lst ds) (mdel M a) := fun G F H v R p => by
  obtain ⟨F', s, R', r⟩ := R.freeze h
  cases p
  exact ⟨F', s, R', r⟩
/-- the commonest: a list made here is handed back -/
theorem ReR.made {a : Addr} {ds : List D} {M : MH} (h : M a = none) : ReR K (.ref a) (mup M a (.lst ds)) (.lst ds) M := by
  have := ReR.freeze (K := K) (a := a) (ds := ds) (M := mup M a (.lst ds)) mup_same
  rw [mdel_mup h] at this
  exact this
/-- any other value, while a list is frozen -/
theorem ReR.other {d : D} {a : Addr} {ds : List D} {M : MH} (h : M a = some (.lst ds)) : ReR K d M d (mdel M a) := fun G F H v R p => by
  obtain ⟨F', s, R', r⟩ := R.freeze h
  exact ⟨F', s, R', p.mono s⟩
end
section
variable {X : Cx} {E : XK} {Et : XT} {e : Expr} {t : TEt}
theorem q_re (h : QE X E Et e t) : QE X E Et e (tRe X.K t) := PEimp h (by
  rintro σ H Q ⟨G, F, M, τ, Qt, a, h, k⟩
  refine ⟨G, F, M, τ, _, a, h, fun v F1 H1 M1 d s1 r1 p1 ⟨d', M2, re, q⟩ => ?_⟩
  obtain ⟨F', s, R', p'⟩ := re G F1 H1 v r1 p1
  exact k v F' H1 M2 d' (s1.trans s) R' p' q)
end
/-- the same of all slots -/
def ReS (K : PySem.W.Frag) (τ : Sg) (M : MH) (τ' : Sg) (M' : MH) : Prop := ∀ G F H σ, Rel K G F H M → Sgr K F σ τ → ∃ F', Same F F' ∧ Rel K G F' H M' ∧ Sgr K F' σ τ'
def sRe (K : PySem.W.Frag) (u : TSt) : TSt := fun D τ M => ∃ τ' M', ReS K τ M τ' M' ∧ u D τ' M'
section
variable {X : Cx} {E : XK} {Et : XT} {sts : List Stmt} {u : TSt}
/-- slot i's list is frozen -/
theorem ReS.freeze {K : PySem.W.Frag} {τ : Sg} {M : MH} {i : Nat} {a : Addr} {ds : List D} (h : nth τ i = some (.ref a)) (hm : M a = some (.lst ds)) : ReS K τ M (τ.set i (some (.lst ds))) (mdel M a) := fun G F H σ R sg => by
  obtain ⟨F', s, R', r⟩ := R.freeze hm
  refine ⟨F', s, R', ?_⟩
  have g := sg.mono s
  obtain ⟨v, h1, h2⟩ := g.2 i _ (nth_get h)
  cases h2
  have e : σ = σ.set i (some (.ref a)) := by
    apply List.ext_getElem?
    intro j
    by_cases hij : i = j
    · subst hij
      rw [h1, List.getElem?_set_self (List.getElem?_eq_some_iff.mp h1).1]
    · rw [List.getElem?_set_ne hij]
  rw [e]
  exact g.set r
theorem ReS.drop {K : PySem.W.Frag} {τ : Sg} {M M' : MH} (h : ∀ a o, M' a = some o → M a = some o) : ReS K τ M τ M' := fun G F H σ R sg => ⟨F, Same.refl _, R.drop h, sg⟩
theorem ReS.refl {K : PySem.W.Frag} {τ : Sg} {M : MH} : ReS K τ M τ M := fun G F H σ R sg => ⟨F, Same.refl _, R, sg⟩
theorem ReS.trans {K : PySem.W.Frag} {τ τ1 τ2 : Sg} {M M1 M2 : MH} (a : ReS K τ M τ1 M1) (b : ReS K τ1 M1 τ2 M2) : ReS K τ M τ2 M2 := fun G F H v R p => by
  obtain ⟨F1, s1, R1, p1⟩ := a G F H v R p
  obtain ⟨F2, s2, R2, p2⟩ := b G F1 H v R1 p1
  exact ⟨F2, s1.trans s2, R2, p2⟩
end
/-! ### items -/
/-- x[i]: of a tuple, a list, a text -/
def bIx : R2t := fun x y M Q => match y with
  | .int i => match x with
    | .str z => z.length ≤ sizeLine ∧ match atI z.cps.toList i with
      | some c => Q (.str ⟨#[c]⟩) M
      | none => False
    | .tup ds => match atI ds i with
      | some d => Q d M
      | none => False
    | .tab ds => match atI ds i with
      | some d => Q d M
      | none => False
    | x => match lstOf M x with
      | some ds => match atI ds i with
        | some d => Q d M
        | none => False
      | none => False
  | _ => False
theorem Rps.at {K : PySem.W.Frag} {F : Hp} {vs : List V} {ds : List D} {i : Int} {d : D} (r : Rps K F vs ds) (h : atI ds i = some d) : ∃ v, atI vs i = some v ∧ Rp K F v d := by
  unfold atI at h ⊢
  rw [r.length]
  cases e : ixN ds.length i with
  | none => rw [e] at h; cases h
  | some j =>
    rw [e] at h
    exact r.getD (i := j) h
section
variable {X : Cx} {E : XK} {Et : XT} {a b : Expr} {ta tb : TEt} {pos : Pos}
theorem ixq : ∀ x y H Q, lr2 X.K bIx x y H Q → rIx X.K x y H Q := by
  rintro x y H Q ⟨G, F, M, dx, dy, Qt, R, px, py, h, k⟩
  cases py with
  | int i =>
    cases px with
    | str z =>
      obtain ⟨h1, h2⟩ := (show _ ∧ _ from h)
      cases e : atI z.cps.toList i with
      | none => rw [e] at h2; exact h2.elim
      | some c =>
        rw [e] at h2
        exact .inr (.inr ⟨z, i, c, rfl, rfl, h1, e, k _ F H M _ (Same.refl _) R (.str _) h2⟩)
    | @tup aa vs ds h0 r0 =>
      have h2 : (match atI ds i with | some d => Qt d M | none => False) := h
      cases e : atI ds i with
      | none => rw [e] at h2; exact h2.elim
      | some c =>
        rw [e] at h2
        obtain ⟨v, hv, rv⟩ := r0.at e
        exact .inr (.inl ⟨aa, vs, i, v, rfl, rfl, SqT.of (R.sub _ _ h0), hv, k _ F H M _ (Same.refl _) R rv h2⟩)
    | @tab aa vs ds h0 r0 =>
      have h2 : (match atI ds i with | some d => Qt d M | none => False) := h
      cases e : atI ds i with
      | none => rw [e] at h2; exact h2.elim
      | some c =>
        rw [e] at h2
        obtain ⟨v, hv, rv⟩ := r0.at e
        exact .inr (.inl ⟨aa, vs, i, v, rfl, rfl, SameT R.sub h0, hv, k _ F H M _ (Same.refl _) R rv h2⟩)
    | @lst aa vs ds h0 r0 =>
      have h2 : (match atI ds i with | some d => Qt d M | none => False) := h
      cases e : atI ds i with
      | none => rw [e] at h2; exact h2.elim
      | some c =>
        rw [e] at h2
        obtain ⟨v, hv, rv⟩ := r0.at e
        exact .inl ⟨aa, vs, i, v, rfl, rfl, SqL.of (R.sub _ _ h0), hv, k _ F H M _ (Same.refl _) R rv h2⟩
    | @scr aa vs ds h0 r0 =>
      have h2 : (match atI ds i with | some d => Qt d M | none => False) := h
      cases e : atI ds i with
      | none => rw [e] at h2; exact h2.elim
      | some c =>
        rw [e] at h2
        obtain ⟨v, hv, rv⟩ := r0.at e
        exact .inl ⟨aa, vs, i, v, rfl, rfl, R.sub.seq h0, hv, k _ F H M _ (Same.refl _) R rv h2⟩
    | ref aa =>
      have h2 : (match lstOf M (.ref aa) with | some ds => (match atI ds i with | some d => Qt d M | none => False) | none => False) := h
      cases q : lstOf M (.ref aa) with
      | none => rw [q] at h2; exact h2.elim
      | some ds =>
        rw [q] at h2
        obtain ⟨b, vs, eb, hs, r⟩ := lst_of R (.ref aa) q
        cases eb
        have h2 : (match atI ds i with | some d => Qt d M | none => False) := h2
        cases e : atI ds i with
        | none => rw [e] at h2; exact h2.elim
        | some c =>
          rw [e] at h2
          obtain ⟨v, hv, rv⟩ := r.at e
          exact .inl ⟨aa, vs, i, v, rfl, rfl, hs, hv, k _ F H M _ (Same.refl _) R rv h2⟩
    | _ => exact (show False from h).elim
  | _ => exact (show False from h).elim
theorem q_ix (ha : QE X E Et a ta) (hb : QE X E Et b tb) (hs : PlainIx b := by exact fun _ _ => rfl) : QE X E Et (.Subscript a b pos) (tO bIx ta tb) := PEimp (pe_ix ix_seq ha hb hs) (fun σ H Q h => by
  have := lv_op _ _ _ h
  obtain ⟨G, F, M, τ, Qt, a, h, k⟩ := this
  refine ⟨G, F, M, τ, Qt, a, h, fun v F' H' M' d s r p q => ?_⟩
  obtain ⟨G, F2, M2, τ2, Q2, a2, h2, k2⟩ := k v F' H' M' d s r p q
  exact ⟨G, F2, M2, τ2, Q2, a2, h2, fun v2 F3 H3 M3 d2 s2 r2 p2 q2 => ixq _ _ _ _ (k2 v2 F3 H3 M3 d2 s2 r2 p2 q2)⟩)
end
/-! ### slices -/
abbrev TOt := Sg → MH → (Option Int → MH → Prop) → Prop
def liftO (K : PySem.W.Frag) (E : XK) (Et : XT) (t : TOt) : TO := fun σ H Q => ∃ G F M τ Qt, At K E Et G F H M σ τ ∧ t τ M Qt ∧ ∀ b F' H' M', Same F F' → Rel K G F' H' M' → Qt b M' → Q b H'
abbrev QO (X : Cx) (E : XK) (Et : XT) (e : Option Expr) (t : TOt) : Prop := PO X e (liftO X.K E Et t)
def oNo : TOt := fun _ M Q => Q none M
def oYes (t : TEt) : TOt := fun τ M Q => t τ M fun d M1 => match d with
  | .int i => Q (some i) M1
  | _ => False
def cutD (xs : List D) (lo hi : Option Int) : List D := (xs.drop (HT.sIx xs.length 0 lo)).take (HT.sIx xs.length xs.length hi - HT.sIx xs.length 0 lo)
def tSc (r : D → Option Int → Option Int → MH → VD → Prop) (te : TEt) (tl th : TOt) : TEt := fun τ M Q => te τ M fun x M1 => tl τ M1 fun l M2 => th τ M2 fun u M3 => r x l u M3 Q
/-- of a list: a new frozen one -/
def cSlL : D → Option Int → Option Int → MH → VD → Prop := fun x lo hi M Q => match lstOf M x with
  | some ds => Q (.lst (cutD ds lo hi)) M
  | none => False
def cSlM : D → Option Int → Option Int → MH → VD → Prop := fun x lo hi M Q => match lstOf M x with
  | some ds => ∀ p, M p = none → Q (.ref p) (mup M p (.lst (cutD ds lo hi)))
  | none => False
def cSlS : D → Option Int → Option Int → MH → VD → Prop := fun x lo hi M Q => match x with
  | .str z => z.length ≤ sizeLine ∧ Q (.str (cutS z lo hi)) M
  | _ => False
theorem Rps.cut {K : PySem.W.Frag} {F : Hp} {vs : List V} {ds : List D} {lo hi : Option Int} (r : Rps K F vs ds) : Rps K F (cutV vs lo hi) (cutD ds lo hi) := by
  unfold cutV cutD
  rw [r.length]
  exact (r.drop _).take _
section
variable {X : Cx} {E : XK} {Et : XT} {e : Expr} {te : TEt} {lo hi : Option Expr} {tl th : TOt} {pos p2 : Pos}
theorem qo_none : QO X E Et none oNo := ⟨fun pins s σ H Q I h => po_none.run pins s σ H Q I (by
  obtain ⟨G, F, M, τ, Qt, a, h, k⟩ := h
  exact k none F H M (Same.refl _) a.rel h)⟩
theorem qo_some (h : QE X E Et e te) : QO X E Et (some e) (oYes te) := ⟨fun pins s σ H Q I w => (po_some h).run pins s σ H Q I (by
  obtain ⟨G, F, M, τ, Qt, a, w, k⟩ := w
  refine ⟨G, F, M, τ, _, a, w, fun v F1 H1 M1 d s1 r1 p1 q1 => ?_⟩
  cases p1 <;> first | exact (show False from q1).elim | exact ⟨_, rfl, k _ F1 H1 M1 s1 r1 q1⟩)⟩
def lSl (K : PySem.W.Frag) (r : D → Option Int → Option Int → MH → VD → Prop) : V → Option Int → Option Int → Hp → VK → Prop := fun x lo hi H Q => ∃ G F M dx Qt, Rel K G F H M ∧ Rp K F x dx ∧ r dx lo hi M Qt ∧ ∀ v F' H' M' d, Same F F' → Rel K G F' H' M' → Rp K F' v d → Qt d M' → Q v H'
theorem q_slice {r : D → Option Int → Option Int → MH → VD → Prop} {rr : V → Option Int → Option Int → Hp → VK → Prop} (hr : SlR X rr) (hi0 : ∀ x lo hi H Q, lSl X.K r x lo hi H Q → rr x lo hi H Q) (he : QE X E Et e te) (hl : QO X E Et lo tl) (hu : QO X E Et hi th) :
    QE X E Et (.Subscript e (.Slice lo hi none p2) pos) (tSc r te tl th) := PEimp (pe_slice hr he hl hu) (by
  rintro σ H Q ⟨G, F, M, τ, Qt, a, h, k⟩
  refine ⟨G, F, M, τ, _, a, h, fun v F1 H1 M1 d s1 r1 p1 q1 => ?_⟩
  refine ⟨G, F1, M1, τ, _, a.step s1 r1, q1, fun l F2 H2 M2 s2 r2 q2 => ?_⟩
  refine ⟨G, F2, M2, τ, _, a.step (s1.trans s2) r2, q2, fun u F3 H3 M3 s3 r3 q3 => hi0 _ _ _ _ _ ?_⟩
  exact ⟨G, F3, M3, d, Qt, r3, p1.mono (s2.trans s3), q3, fun v F' H' M' d s => k v F' H' M' d (((s1.trans s2).trans s3).trans s)⟩)
theorem q_sliceL (he : QE X E Et e te) (hl : QO X E Et lo tl) (hu : QO X E Et hi th) : QE X E Et (.Subscript e (.Slice lo hi none p2) pos) (tSc cSlL te tl th) := q_slice sl_list (by
  rintro x lo hi H Q ⟨G, F, M, dx, Qt, R, p, h, k⟩
  unfold cSlL at h
  cases q : lstOf M dx with
  | none => simp only [q] at h
  | some ds =>
    simp only [q] at h
    obtain ⟨b, vs, rfl, hs, r⟩ := lst_of R p q
    refine ⟨b, vs, rfl, hs, fun p np => ?_⟩
    obtain ⟨s, r1⟩ := R.newF (o := .lst (cutV vs lo hi)) np
    exact k _ _ _ M _ s r1 (.lst upd_same (r.cut.mono s)) h) he hl hu
theorem q_sliceS (he : QE X E Et e te) (hl : QO X E Et lo tl) (hu : QO X E Et hi th) : QE X E Et (.Subscript e (.Slice lo hi none p2) pos) (tSc cSlS te tl th) := q_slice sl_str (by
  rintro x lo hi H Q ⟨G, F, M, dx, Qt, R, p, h, k⟩
  cases p <;> first | exact (show False from h).elim | exact ⟨_, rfl, h.1, k _ F H M _ (Same.refl _) R (.str _) h.2⟩) he hl hu
end
end Tl
namespace Tl
open PySem PySem.Spec PyProof.Rows L2
/-! ### a def of the text -/
def begin_ (N : List Str) (ds : List D) : Sg := ds.map some ++ List.replicate (N.length - ds.length) none
theorem sg_start {K : PySem.W.Frag} {F : Hp} {N : List Str} {vs : List V} {ds : List D} (r : Rps K F vs ds) : Sgr K F (L2.start N vs) (begin_ N ds) := by
  refine ⟨by unfold L2.start begin_; rw [List.length_append, List.length_append, List.length_map, List.length_map, List.length_replicate, List.length_replicate, r.length], fun i d e => ?_⟩
  unfold begin_ at e
  unfold L2.start
  by_cases hi : i < ds.length
  · rw [List.getElem?_append_left (by rw [List.length_map]; exact hi), List.getElem?_map] at e
    rw [List.getElem?_append_left (by rw [List.length_map, r.length]; exact hi), List.getElem?_map]
    cases q : ds[i]? with
    | none => rw [q] at e; cases e
    | some x =>
      rw [q] at e
      have ex : x = d := Option.some.inj (Option.some.inj e)
      subst ex
      obtain ⟨v, h1, h2⟩ := r.getD q
      exact ⟨v, by rw [h1]; rfl, h2⟩
  · rw [List.getElem?_append_right (by rw [List.length_map]; omega)] at e
    have := List.mem_of_getElem? e
    rw [List.mem_replicate] at this
    exact absurd this.2 (by simp)
section
variable {P : Program} {w : World} {K : PySem.W.Frag} {mg : Str → Option Value} {base : Heap} {x qual : Str} {params : Arguments} {body : List Stmt} {scope : Scope} {f : Addr} {fd : FuncData} {N ps : List Str} {k : Nat} {sp : SpT}
/-- a def that raises nothing -/
theorem fn_ok (F : He.DefD) (fd : FuncData) (hF : FunD K F.name F.qual F.params F.body F.scope [] [] f fd) (S : FnScope N ps F.scope) (len : ∀ ds M Q Et, sp ds M Q Et → ds.length = ps.length)
    (hb : ∀ (cdv : Value) (A : Around) (outer : List Env) (s : Shared) (H : Hp) (E : XK), Room k (A.deeper (envOfC F.qual F.scope s.heap.objs.size f cdv)) →
      ∃ t, QSs (cxOf CX0 P w K mg base N F.qual F.scope f cdv A outer s H E).nox E0 Et0 F.body t ∧ ∀ ds M Q Et, sp ds M Q Et → t { nx := fun _ M' => Q .non M', rt := Q } (begin_ N ds) M) : FnOk P w K mg base CX0 (k + 1) f fd ps (lSp K sp) := by
  refine hF.ok S (fun vs H Q E h => ?_) fun cdv A outer s H vs Q E hr h => ?_
  · obtain ⟨G, F, M, ds, Qt, Et, R, r, _, h, _⟩ := h
    rw [r.length]
    exact len _ _ _ _ h
  · obtain ⟨t, ht, hw⟩ := hb cdv A outer s H E hr
    obtain ⟨G, F, M, ds, Qt, Et, R, r, el, h, kk⟩ := h
    refine ⟨_, PSs.nox ht, G, F, M, begin_ N ds, { nx := fun _ M' => Qt .non M', rt := Qt }, ⟨R, sg_start r, .never⟩, ?_, hw ds M Qt Et h⟩
    exact ⟨fun F' H' M' σ τ s a q => kk .non F' H' M' .non s a.rel .non q, fun F' H' M' v d s R' p q => kk v F' H' M' d s R' p q, fun _ _ _ _ _ _ _ q => q.elim, fun _ _ _ _ _ _ _ q => q.elim⟩
end
/-! ### facts of the top -/
/-- what the head tells -/
structure Top (fa : List He.Fa) (fn : List He.DefD) (K : PySem.W.Frag) (mg : Str → Option Value) : Prop where
  says : He.SaysD fa fn K
  at_ : ∃ h : Heap, K.In h ∧ h.Ns mainGlobals mg
section
variable {fa : List He.Fa} {fn : List He.DefD} {K : PySem.W.Frag} {mg : Str → Option Value}
theorem Top.glo (T : Top fa fn K mg) (i : Nat) {x : Str} (h : fa[i]? = some (.glo x) := by rfl) : mg x = some (.ref (He.ga K x)) := by
  obtain ⟨_, X, G⟩ := T.at_
  exact He.glo_ok X G (T.says.fact i h)
theorem Top.free (T : Top fa fn K mg) (i : Nat) {x : Str} (h : fa[i]? = some (.free x) := by rfl) : mg x = none := by
  obtain ⟨_, X, G⟩ := T.at_
  exact He.free_ok X G (T.says.fact i h)
theorem Top.int (T : Top fa fn K mg) (i : Nat) {x : Str} {z : Int} (h : fa[i]? = some (.int x z) := by rfl) : ∃ t, mg x = some (.int z t) := by
  obtain ⟨_, X, G⟩ := T.at_
  exact He.int_ok X G (T.says.fact i h)
theorem Top.str (T : Top fa fn K mg) (i : Nat) {x : Str} {z : Str} (h : fa[i]? = some (.str x z) := by rfl) : ∃ t, mg x = some (.str z t) := by
  obtain ⟨_, X, G⟩ := T.at_
  exact He.str_ok X G (T.says.fact i h)
end
section
variable {P : Program} {w : World} {K : PySem.W.Frag} {mg : Str → Option Value} {base : Heap} {x : Str} {N ps : List Str} {k : Nat} {sp : SpT} {fa : List He.Fa} {fn : List He.DefD}
/-- THE RULE of a def at the top, called by its name -/
theorem fn_top (T : Top fa fn K mg) (i : Nat) (d : He.DefD) (m : mg x = some (.ref (He.ga K x))) (S : FnScope N ps d.scope) (len : ∀ ds M Q Et, sp ds M Q Et → ds.length = ps.length)
    (hb : ∀ (cdv : Value) (A : Around) (outer : List Env) (s : Shared) (H : Hp) (E : XK), Room k (A.deeper (envOfC d.qual d.scope s.heap.objs.size (He.ga K x) cdv)) →
      ∃ t, QSs (cxOf CX0 P w K mg base N d.qual d.scope (He.ga K x) cdv A outer s H E).nox E0 Et0 d.body t ∧ ∀ ds M Q Et, sp ds M Q Et → t { nx := fun _ M' => Q .non M', rt := Q } (begin_ N ds) M)
    (bd : ∀ (kV doc pm : Value) (an : Option Addr) (cdv ct : Value) (us : List Value), us.length = ps.length → bindArgs (PySem.W.fnOf d.name d.qual d.params d.body d.scope .none kV doc pm an cdv ct) ⟨us, []⟩ = pure (ps.zip us))
    (h : fn[i]? = some d := by rfl) (h0 : d.dfl = [] := by rfl) (h1 : d.kwd = [] := by rfl) (hx : He.fAd K d.at_ = He.ga K x := by rfl) : Fn P w K mg base CX0 (k + 1) x sp := by
  obtain ⟨fd, F⟩ := T.says.def_ i h
  have e0 : d.dvs K = [] := by unfold He.DefD.dvs; rw [h0]; rfl
  have e1 : d.kws K = [] := by unfold He.DefD.kws; rw [h1]; rfl
  rw [e0, e1, hx] at F
  exact ⟨⟨fd, ps, fn_ok d fd F S len hb, F.bindsN bd⟩, m, F.kp⟩
end
/-! ### kinds -/
def dTy (M : MH) : D → Option String
  | .non => some "NoneType"
  | .bl _ => some "bool"
  | .int _ => some "int"
  | .str _ => some "str"
  | .tup _ => some "tuple"
  | .tab _ => some "tuple"
  | .lst _ => some "list"
  | .ref a => match M a with
    | some (.lst _) => some "list"
    | some (.dK _) => some "dict"
    | some (.dT _) => some "dict"
    | _ => none
  | _ => none
def cIsi : RLt := fun ds M Q => match ds with
  | [x, .ty T] => match dTy M x with
    | some t => match kitB t T with
      | some b => Q (.bl b) M
      | none => False
    | none => False
  | _ => False
theorem tyX_of {K : PySem.W.Frag} {G F H : Hp} {M : MH} {v : V} {x : D} {t : String} (R : Rel K G F H M) (p : Rp K F v x) (e : dTy M x = some t) : TyX K H v (.type t) := by
  cases p with
  | non => cases e; exact .base .non
  | bl b => cases e; exact .base (.bl b)
  | int i => cases e; exact .base (.int i)
  | str z => cases e; exact .base (.str z)
  | tup h r => cases e; exact .base (.tup (R.sub _ _ h))
  | lst h r => cases e; exact .base (.lst (R.sub _ _ h))
  | tab h r =>
    cases e
    rcases SameT R.sub h with (h | ⟨o, h⟩) | ⟨o, its, n, h, hc, _⟩
    · exact .base (.tup h)
    · exact .fTuple h
    · exact .kTuple h hc
  | ref a =>
    unfold dTy at e
    cases q : M a with
    | none => simp only [q] at e; cases e
    | some o =>
      simp only [q] at e
      obtain ⟨_, u, hu, r⟩ := R.chg a o q
      cases o with
      | lst xs => cases e; cases u <;> first | exact .base (.lst hu) | exact (r : False).elim
      | dK xs => cases e; cases u <;> first | exact .base (.dK hu) | exact (r : False).elim
      | dT xs => cases e; cases u <;> first | exact .base (.dT hu) | exact (r : False).elim
      | obj => cases e
      | lk => cases e
  | _ => cases e
section
variable {X : Cx}
theorem cq_isi : CallQ X (.builtin "isinstance") cIsi := CallRimp call_isi (by
  rintro xs H Q ⟨G, F, M, ds, Qt, R, r, h, k⟩
  match ds, r, h with
  | [x, .ty T], .cons h1 (.cons (.ty _) .nil), h =>
    have h : (match dTy M x with | some t => (match kitB t T with | some b => Qt (.bl b) M | none => False) | none => False) := h
    cases e : dTy M x with
    | none => rw [e] at h; exact h.elim
    | some t =>
      rw [e] at h
      have h : (match kitB t T with | some b => Qt (.bl b) M | none => False) := h
      cases e2 : kitB t T with
      | none => rw [e2] at h; exact h.elim
      | some b =>
        rw [e2] at h
        exact ⟨_, _, _, _, b, rfl, .ty T, tyX_of R h1 e, kit_ty e2, k _ F H M _ (Same.refl _) R (.bl b) h⟩)
/-- len -/
def lenOf (M : MH) : D → Option Nat
  | .str z => if z.length ≤ sizeLine then some z.length else none
  | .tup ds => some ds.length
  | .tab ds => some ds.length
  | .lst ds => some ds.length
  | .scr ds => some ds.length
  | .ref a => match M a with
    | some (.lst ds) => some ds.length
    | _ => none
  | _ => none
def cLen : RLt := fun ds M Q => match ds with
  | [x] => match lenOf M x with
    | some n => Q (.int (n : Int)) M
    | none => False
  | _ => False
theorem lenV_of {K : PySem.W.Frag} {G F H : Hp} {M : MH} {v : V} {x : D} {n : Nat} (R : Rel K G F H M) (p : Rp K F v x) (e : lenOf M x = some n) : LenV K v H n := by
  cases p with
  | str z =>
    unfold lenOf at e
    by_cases hz : z.length ≤ sizeLine
    · simp only [if_pos hz] at e; cases e; exact ⟨hz, rfl⟩
    · simp only [if_neg hz] at e; cases e
  | tup h r => cases e; exact .inr ⟨_, SqT.of (R.sub _ _ h), by rw [r.length]⟩
  | tab h r => cases e; exact .inr ⟨_, SameT R.sub h, by rw [r.length]⟩
  | lst h r => cases e; exact .inl ⟨_, SqL.of (R.sub _ _ h), by rw [r.length]⟩
  | scr h r => cases e; exact .inl ⟨_, R.sub.seq h, by rw [r.length]⟩
  | ref a =>
    unfold lenOf at e
    cases q : M a with
    | none => simp only [q] at e; cases e
    | some o =>
      simp only [q] at e
      obtain ⟨_, u, hu, r⟩ := R.chg a o q
      cases o with
      | lst xs =>
        cases e
        cases u with
        | lst vs => exact .inl ⟨vs, SqL.of hu, by rw [Rps.length (show Rps K F vs xs from r)]⟩
        | _ => exact (r : False).elim
      | _ => cases e
  | _ => cases e
theorem cq_len : CallQ X (.builtin "len") cLen := CallRimp call_len (by
  rintro xs H Q ⟨G, F, M, ds, Qt, R, r, h, k⟩
  match ds, r, h with
  | [x], .cons h1 .nil, h =>
    have h : (match lenOf M x with | some n => Qt (.int (n : Int)) M | none => False) := h
    cases e : lenOf M x with
    | none => rw [e] at h; exact h.elim
    | some n =>
      rw [e] at h
      exact ⟨_, n, rfl, lenV_of R h1 e, k _ F H M _ (Same.refl _) R (.int _) h⟩)
/-- int of an int, of a truth -/
def cInt : RLt := fun ds M Q => match ds with
  | [.int i] => Q (.int i) M
  | [.bl b] => Q (.int (if b then 1 else 0)) M
  | _ => False
end
/-! ### methods of lists -/
abbrev RMt := D → List D → MH → VD → Prop
def lMt (K : PySem.W.Frag) (r : RMt) : V → List V → Hp → VK → Prop := fun x xs H Q => ∃ G F M dx ds Qt, Rel K G F H M ∧ Rp K F x dx ∧ Rps K F xs ds ∧ r dx ds M Qt ∧ ∀ v F' H' M' d, Same F F' → Rel K G F' H' M' → Rp K F' v d → Qt d M' → Q v H'
def tMt (r : RMt) (to : TEt) (t : TAt) : TEt := fun τ M Q => to τ M fun x M1 => (lstOf M1 x).isSome = true ∧ t τ M1 fun xs M2 => r x xs M2 Q
def tMt0 (r : RMt) (to : TEt) : TEt := fun τ M Q => to τ M fun x M1 => (lstOf M1 x).isSome = true ∧ r x [] M1 Q
theorem ty_list {K : PySem.W.Frag} {G F H : Hp} {M : MH} {v : V} {x : D} (R : Rel K G F H M) (p : Rp K F v x) (e : (lstOf M x).isSome = true) : tyV K "list" v H := by
  obtain ⟨ds, e⟩ := Option.isSome_iff_exists.mp e
  obtain ⟨a, vs, rfl, h, _⟩ := lst_of R p e
  exact .inl ⟨rfl, vs, h⟩
def mAppend : RMt := fun x xs M Q => match x, xs with
  | .ref l, [y] => match M l with
    | some (.lst ds) => ds.length < sizeLine ∧ Q .non (mup M l (.lst (ds ++ [y])))
    | _ => False
  | _, _ => False
section
variable {X : Cx} {E : XK} {Et : XT} {o e : Expr} {es : List Expr} {to : TEt} {t : TAt} {apos cpos : Pos} {name : Str} {id : String} {r : RMt} {rr : V → List V → Hp → VK → Prop}
theorem lv_bm (hi : ∀ x xs H Q, lMt X.K r x xs H Q → rr x xs H Q) : ∀ σ H Q, liftE X.K E Et (tMt r to t) σ H Q → tBM X.K "list" rr (liftE X.K E Et to) (liftA X.K E Et t) σ H Q := by
  rintro σ H Q ⟨G, F, M, τ, Qt, a, h, k⟩
  refine ⟨G, F, M, τ, _, a, h, fun v F1 H1 M1 d s1 r1 p1 q1 => ⟨ty_list r1 p1 q1.1, ?_⟩⟩
  refine ⟨G, F1, M1, τ, _, a.step s1 r1, q1.2, fun vs F2 H2 M2 ds s2 r2 p2 q2 => hi _ _ _ _ ?_⟩
  exact ⟨G, F2, M2, d, ds, Qt, r2, p1.mono s2, p2, q2, fun v F' H' M' d s => k v F' H' M' d ((s1.trans s2).trans s)⟩
theorem lv_bm0 (hi : ∀ x xs H Q, lMt X.K r x xs H Q → rr x xs H Q) : ∀ σ H Q, liftE X.K E Et (tMt0 r to) σ H Q → tBM0 X.K "list" rr (liftE X.K E Et to) σ H Q := by
  rintro σ H Q ⟨G, F, M, τ, Qt, a, h, k⟩
  refine ⟨G, F, M, τ, _, a, h, fun v F1 H1 M1 d s1 r1 p1 q1 => ⟨ty_list r1 p1 q1.1, hi _ _ _ _ ?_⟩⟩
  exact ⟨G, F1, M1, d, [], Qt, r1, p1, .nil, q1.2, fun v F' H' M' d s => k v F' H' M' d (s1.trans s)⟩
theorem q_append (ho : QE X E Et o to) (ha : QA X E Et (e :: es) t)
    (hbase : attributeBase o "append" X.env (eval o X.env) = eval o X.env := by rfl)
    (hfew : ((backTo cpos (starEach (e :: es) X.env)).all (fun x => !x.1) && (backToKw cpos (keywordEach [] X.env)).all (fun x => x.1.isSome)
      && decide ((e :: es).length + ([] : List Keyword).length + (if ([] : List Keyword).isEmpty then 0 else 1) < 30)) = true := by rfl)
    (hline : (apos.endLine == cpos.line) = true := by rfl) (hs : starEach (e :: es) X.env = (false, eval e X.env) :: starEach es X.env := by rfl) (hplain : (backTo cpos (starEach es X.env)).any (·.1) = false := by rfl) :
    QE X E Et (.Call (.Attribute o "append" apos) (e :: es) [] cpos) (tMt mAppend to t) :=
  PEimp (pe_bm PySem.F.plainAttrs_list PySem.F.slot_list_append PySem.F.type_list_append mt_append ho ha hbase hfew hline hs hplain) (lv_bm (by
    rintro x xs H Q ⟨G, F, M, dx, ds, Qt, R, p, ps, h, k⟩
    match dx, ds, p, ps, h with
    | .ref l, [y], .ref _, .cons py .nil, h =>
      have h : (match M l with | some (.lst ds) => ds.length < sizeLine ∧ Qt .non (mup M l (.lst (ds ++ [y]))) | _ => False) := h
      cases q : M l with
      | none => simp only [q] at h
      | some mo =>
        cases mo with
        | lst ds =>
          simp only [q] at h
          obtain ⟨_, u, hu, r⟩ := R.chg l _ q
          cases u with
          | lst vs =>
            have r : Rps X.K F vs ds := r
            refine ⟨l, vs, _, rfl, rfl, hu, by rw [r.length]; exact h.1, ?_⟩
            exact k .non F _ _ .non (Same.refl _) (R.put (u := .lst (vs ++ [_])) (o := .lst (ds ++ [y])) q (r.append (.cons py .nil))) .non h.2
          | _ => exact (r : False).elim
        | _ => simp only [q] at h))
end
/-! ### comprehensions -/
def wip (τ : Sg) : List Nat → Sg
  | [] => τ
  | v :: vs => (wip τ vs).set v none
theorem sg_wipe {K : PySem.W.Frag} {F : Hp} {σ : L2.St} {τ : Sg} (h : Sgr K F σ τ) : ∀ vs : List Nat, Sgr K F (wipe σ vs) (wip τ vs)
  | [] => h
  | v :: vs => by
    have := (sg_wipe h vs).unset (i := v)
    unfold wip wipe
    exact this
abbrev QTs (X : Cx) (E : XK) (Et : XT) (es : List Expr) (t : TTt) : Prop := PTs X es (liftT X.K E Et t)
def tYe : TTt := fun _ M Q => Q true M
theorem qts_nil {X : Cx} {E : XK} {Et : XT} : QTs X E Et [] tYe := ⟨fun pins s σ H Q I h => pts_nil.run pins s σ H Q I (by
  obtain ⟨G, F, M, τ, Qt, a, h, k⟩ := h
  exact k true F H M (Same.refl _) a.rel h)⟩
theorem qts_one {X : Cx} {E : XK} {Et : XT} {c : Expr} {t : TTt} (h : QT X E Et c t) : QTs X E Et [c] t := pts_one h
/-- [elt for target in iter if ..], frozen: W by the turn and what is made so far; block slots vs; own: σ2 wipes as σ -/
def tLcF (ti : TIt) (g : TGt) (tt : TTt) (te : TEt) (vs : List Nat) : TEt := fun τ M Q => ti τ M fun I M1 => I.items.length < sizeLine ∧ ∃ W : Nat → List D → MH → Prop, W 0 [] M1 ∧ (∀ i acc M, W i acc M → I.src M ∧ acc.length ≤ i) ∧
  (∀ i x acc M, I.items[i]? = some x → W i acc M → g x (wip τ vs) M fun τ2 M2 => tt τ2 M2 fun b M3 => if b = true then te τ2 M3 fun y M4 => W (i + 1) (acc ++ [y]) M4 else W (i + 1) acc M3) ∧ ∀ acc M, W I.items.length acc M → Q (.lst acc) M
theorem wipe_get (σ : L2.St) : ∀ (vs : List Nat) (i : Nat), (wipe σ vs)[i]? = if i ∈ vs then (σ[i]?).map (fun _ => none) else σ[i]?
  | [], i => by rw [if_neg (by simp)]; rfl
  | v :: vs, i => by
    unfold wipe
    by_cases hv : v = i
    · subst hv
      rw [if_pos (List.mem_cons_self ..)]
      by_cases hl : v < σ.length
      · rw [List.getElem?_set_self (by rw [wipe_length]; exact hl), List.getElem?_eq_getElem hl]
        rfl
      · rw [List.getElem?_eq_none (by rw [List.length_set, wipe_length]; omega), List.getElem?_eq_none (by omega)]
        rfl
    · rw [List.getElem?_set_ne hv, wipe_get σ vs i]
      by_cases hm : i ∈ vs
      · rw [if_pos hm, if_pos (List.mem_cons_of_mem _ hm)]
      · rw [if_neg hm, if_neg (fun q => by
          rcases List.mem_cons.mp q with q | q
          · exact hv q.symm
          · exact hm q)]
theorem wipe_set {σ : L2.St} {vs : List Nat} {j : Nat} {x : Option V} (h : j ∈ vs) : wipe (σ.set j x) vs = wipe σ vs := by
  apply List.ext_getElem?
  intro i
  rw [wipe_get, wipe_get]
  by_cases hm : i ∈ vs
  · rw [if_pos hm, if_pos hm]
    by_cases hij : j = i
    · subst hij
      by_cases hl : j < σ.length
      · rw [List.getElem?_set_self hl, List.getElem?_eq_getElem hl]
        rfl
      · rw [List.getElem?_eq_none (by rw [List.length_set]; omega), List.getElem?_eq_none (by omega)]
    · rw [List.getElem?_set_ne hij]
  · rw [if_neg hm, if_neg hm, List.getElem?_set_ne (fun q => hm (by rw [← q]; exact h))]
theorem wipe_wipe (σ : L2.St) (vs : List Nat) : wipe (wipe σ vs) vs = wipe σ vs := by
  apply List.ext_getElem?
  intro i
  rw [wipe_get]
  by_cases hm : i ∈ vs
  · rw [if_pos hm, wipe_get, if_pos hm]
    cases σ[i]? <;> rfl
  · rw [if_neg hm]
/-- a target whose stores are the block's own -/
structure GOwn (K : PySem.W.Frag) (g : TG) (gt : TGt) (vs : List Nat) : Prop where
  lift : ∀ {G F H M σ τ v d Q Qt}, At K E0 Et0 G F H M σ τ → Rp K F v d → gt d τ M Qt →
    (∀ F' H' M' σ' τ', Same F F' → At K E0 Et0 G F' H' M' σ' τ' → wipe σ' vs = wipe σ vs → Qt τ' M' → Q σ' H') → g v σ H Q
section
variable {K : PySem.W.Frag} {vs : List Nat}
theorem go_name {j : Nat} (h : j ∈ vs := by decide) : GOwn K (gName j) (gN j) vs := ⟨fun {G F H M σ τ v d Q Qt} a p q k => k F H M _ _ (Same.refl _) (a.store p) (wipe_set h) q⟩
end
section
variable {X : Cx} {E : XK} {Et : XT} {elt tg iter : Expr} {ifs : List Expr} {scope : Scope} {own : List (Str × Nat)} {pos : Pos} {ti : TIt} {g : TG} {gt : TGt} {tt : TTt} {te : TEt}
/-- what a comprehension's reading asks of the layer below; show_: what is told of the new list -/
theorem lv_lc {vs : List Nat} (go : GOwn X.K g gt vs) {R : List D → MH → V → Hp → Prop} {σ : L2.St} {H : Hp} {Q : VK} {G F : Hp} {M : MH} {τ : Sg} {Qt : VD} (a : At X.K E Et G F H M σ τ) (h : tLcF ti gt tt te vs τ M Qt)
    (k : ∀ (F' H' : Hp) (M' : MH) (p : Addr) (vacc : List V) (acc : List D), Same F F' → Rel X.K (upd G p (.lst vacc)) F' H' M' → G p = none → Rps X.K F' vacc acc → Qt (.lst acc) M' → Q (.ref p) H') :
    tLc (liftI X.K E Et ti) g (liftT X.K E0 Et0 tt) (liftE X.K E0 Et0 te) vs σ H Q := by
  refine ⟨G, F, M, τ, _, a, h, fun J I F1 H1 M1 s1 r1 ok q1 => ?_⟩
  obtain ⟨hz, W, w0, ws, turn, done⟩ := q1
  intro Dl hD
  have hG : G Dl = none := r1.freeG hD
  refine ⟨fun i m H => m = I.items.length - i ∧ i ≤ I.items.length ∧ ∃ F' M' vacc acc, Same F1 F' ∧ Rel X.K (upd G Dl (.lst vacc)) F' H M' ∧ Rps X.K F' vacc acc ∧ W i acc M', ⟨_, rfl, Nat.zero_le _, F1, M1, [], [], Same.refl _, r1.newG hD, .nil, w0⟩, ?_⟩
  rintro i m H2 ⟨rfl, hi, F2, M2, vacc, acc, s2, r2, p2, hw⟩
  obtain ⟨hsrc, hlen⟩ := ws i acc M2 hw
  by_cases hlt : i < I.items.length
  · have hx : I.items[i]? = some I.items[i] := List.getElem?_eq_getElem hlt
    refine .inr ⟨ok.go i _ F2 H2 M2 _ s2 r2 hsrc hx, fun H' => ∃ F' M' vacc acc, Same F1 F' ∧ Rel X.K (upd G Dl (.lst vacc)) F' H' M' ∧ Rps X.K F' vacc acc ∧ W (i + 1) acc M', fun H' z => ⟨I.items.length - (i + 1), by omega, rfl, hlt, z⟩, fun v H3 y => ?_⟩
    obtain ⟨F3, s3, r3, p3⟩ := ok.yld i _ F2 H2 M2 _ v H3 s2 r2 hsrc hx y
    have a3 : At X.K E0 Et0 (upd G Dl (.lst vacc)) F3 H3 M2 (wipe σ vs) (wip τ vs) := ⟨r3, sg_wipe (a.sg.mono ((s1.trans s2).trans s3)) vs, .never⟩
    refine go.lift a3 p3 (turn i _ acc M2 hx hw) fun F4 H4 M4 σ4 τ4 s4 a4 e4 q4 => ⟨e4.trans (wipe_wipe σ vs), ?_⟩
    refine ⟨_, F4, M4, τ4, _, a4, q4, fun b F5 H5 M5 s5 r5 q5 => ?_⟩
    cases b with
    | true =>
      rw [if_pos rfl] at q5 ⊢
      refine ⟨_, F5, M5, τ4, _, a4.step s5 r5, q5, fun y F6 H6 M6 d s6 r6 p6 q6 => ?_⟩
      refine ⟨vacc, (r6.hid Dl _ upd_same).1, by rw [p2.length]; omega, F6, M6, vacc ++ [y], acc ++ [d], ((((s2.trans s3).trans s4).trans s5).trans s6), r6.putG, (p2.mono (((s3.trans s4).trans s5).trans s6)).append (.cons p6 .nil), q6⟩
    | false =>
      rw [if_neg Bool.false_ne_true] at q5 ⊢
      exact ⟨F5, M5, vacc, acc, ((s2.trans s3).trans s4).trans s5, r5, p2.mono ((s3.trans s4).trans s5), q5⟩
  · have e : i = I.items.length := by omega
    subst e
    exact .inl ⟨ok.stop _ _ F2 H2 M2 s2 r2 hsrc (Nat.le_refl _), k F2 H2 M2 Dl vacc acc (s1.trans s2) r2 hG p2 (done acc M2 hw)⟩
theorem lv_lcF {vs : List Nat} (go : GOwn X.K g gt vs) : ∀ σ H Q, liftE X.K E Et (tLcF ti gt tt te vs) σ H Q → tLc (liftI X.K E Et ti) g (liftT X.K E0 Et0 tt) (liftE X.K E0 Et0 te) vs σ H Q := by
  rintro σ H Q ⟨G, F, M, τ, Qt, a, h, k⟩
  refine lv_lc (R := fun _ _ _ _ => True) go a h fun F' H' M' p vacc acc s r hg ps q => ?_
  obtain ⟨s2, r2⟩ := r.showF hg
  exact k _ _ H' M' _ (s.trans s2) r2 (.lst upd_same (ps.mono s2)) q
/-- a changing list -/
def tLcV (ti : TIt) (g : TGt) (tt : TTt) (te : TEt) (vs : List Nat) : TEt := fun τ M Q => tLcF ti g tt te vs τ M fun d M1 => match d with
  | .lst acc => ∀ p, M1 p = none → Q (.ref p) (mup M1 p (.lst acc))
  | _ => False
theorem q_lc (hc : X.calm = true) (hN : X.N.Nodup) (hi : QI X E Et tg iter ti) (ok : BlkOk X.N X.env.scope scope own) (go : GOwn X.K g gt (own.map (·.2)))
    (hg : ∀ (s : Shared) (H : Hp) (C : Addr) (cl : List (Str × Addr)) (fp : List Addr), PG (X.blk s H scope (compEnvC scope cl C X.env) fp) tg g) (ht : ∀ (s : Shared) (H : Hp) (C : Addr) (cl : List (Str × Addr)) (fp : List Addr), QTs (X.blk s H scope (compEnvC scope cl C X.env) fp) E0 Et0 ifs tt)
    (he : ∀ (s : Shared) (H : Hp) (C : Addr) (cl : List (Str × Addr)) (fp : List Addr), QE (X.blk s H scope (compEnvC scope cl C X.env) fp) E0 Et0 elt te) (hs : ∀ x, foldedSetIterable iter X.env x = pure x := by intro _; rfl) :
    QE X E Et (.ListComp elt [⟨tg, iter, ifs, 0⟩] scope pos) (tLcF ti gt tt te (own.map (·.2))) := PEimp (pe_lc hc hN hi ok hg ht he hs) (lv_lcF go)
/-- x = [..] -/
theorem qs_setLc {i : Nat} {y : Str} {py spos : Pos} {tl : TEt} (lv : ∀ σ H Q, liftE X.K E Et tl σ H Q → tLc (liftI X.K E Et ti) g (liftT X.K E0 Et0 tt) (liftE X.K E0 Et0 te) (own.map (·.2)) σ H Q) (hc : X.calm = true) (hN : X.N.Nodup) (hi : QI X E Et tg iter ti) (ok : BlkOk X.N X.env.scope scope own)
    (hg : ∀ (s : Shared) (H : Hp) (C : Addr) (cl : List (Str × Addr)) (fp : List Addr), PG (X.blk s H scope (compEnvC scope cl C X.env) fp) tg g) (ht : ∀ (s : Shared) (H : Hp) (C : Addr) (cl : List (Str × Addr)) (fp : List Addr), QTs (X.blk s H scope (compEnvC scope cl C X.env) fp) E0 Et0 ifs tt)
    (he : ∀ (s : Shared) (H : Hp) (C : Addr) (cl : List (Str × Addr)) (fp : List Addr), QE (X.blk s H scope (compEnvC scope cl C X.env) fp) E0 Et0 elt te)
    (hsw : swapsWith (.ListComp elt [⟨tg, iter, ifs, 0⟩] scope pos) (some (.Name y py)) spos.line X.env = pure true) (hy : X.N[i]? = some y := by rfl) (hyl : X.env.scope.names.lookup y = some .local := by rfl) (hs : ∀ x, foldedSetIterable iter X.env x = pure x := by intro _; rfl) :
    QS X E Et (.Assign [.Name y py] (.ListComp elt [⟨tg, iter, ifs, 0⟩] scope pos) spos) (sAs tl (gN i)) := PSimp (ps_setLc hc hN hy hyl hsw hi ok hg ht he hs) (by
  rintro D σ H ⟨G, F, M, τ, Dt, a, en, h⟩
  refine lv _ _ _ ⟨G, F, M, τ, _, a, h, fun v F1 H1 M1 d s1 r1 p1 q1 => ?_⟩
  exact en.nx F1 H1 M1 _ _ s1 ((a.step s1 r1).store p1) q1)
end
/-! ### the law's end -/
def spLaw : SpT := fun ds M Q _ => ∃ ns : List Int, ds = [.scr (ns.map D.int)] ∧ ns.length ≤ 63 ∧ ∀ M', Q (.bl true) M'
theorem rps_ints {K : PySem.W.Frag} {F : Hp} : ∀ ns : List Int, Rps K F (ns.map V.int) (ns.map D.int)
  | [] => .nil
  | n :: ns => .cons (.int n) (rps_ints ns)
theorem end_sp {K : PySem.W.Frag} {sp : SpT} {H : Hp} {a : Addr} {ns : List Int} (hS : SqL K H a (ns.map V.int)) (h : sp [.scr (ns.map D.int)] (fun _ => none) (fun d _ => d = .bl true) Et0) :
    lSp K sp [.ref a] H (fun v _ => v = .bl true) fun _ _ _ => False :=
  ⟨fun _ => none, H, fun _ => none, _, _, Et0, ⟨Same.refl _, fun _ _ e => (nomatch (show (none : Option MO) = some _ from e)), fun _ _ e => (nomatch (show (none : Option HO) = some _ from e)), fun _ _ e => (nomatch (show (none : Option HO) = some _ from e))⟩, .cons (.scr hS (rps_ints ns)) .nil, .never, h, fun v F' H' M' d _ _ p q => by
    subst q
    exact p.bl_inv⟩
end Tl
namespace Tl
open PySem PySem.Spec PyProof.Rows L2
theorem kit_ii : kitB "int" "int" = some true := by decide +kernel
theorem kit_ib : kitB "int" "bool" = some false := by decide +kernel
theorem kit_bi : kitB "bool" "int" = some true := by decide +kernel
theorem kit_bb : kitB "bool" "bool" = some true := by decide +kernel
theorem kit_si : kitB "str" "int" = some false := by decide +kernel
theorem kit_ss : kitB "str" "str" = some true := by decide +kernel
theorem kit_is : kitB "int" "str" = some false := by decide +kernel
theorem kit_tt : kitB "tuple" "tuple" = some true := by decide +kernel
theorem kit_ll : kitB "list" "list" = some true := by decide +kernel
theorem kit_lt : kitB "list" "tuple" = some false := by decide +kernel
theorem kit_tl : kitB "tuple" "list" = some false := by decide +kernel
theorem kit_ts : kitB "tuple" "str" = some false := by decide +kernel
theorem kit_ls : kitB "list" "str" = some false := by decide +kernel
theorem kit_sl : kitB "str" "list" = some false := by decide +kernel
theorem kit_st : kitB "str" "tuple" = some false := by decide +kernel
theorem kit_it : kitB "int" "tuple" = some false := by decide +kernel
theorem kit_il : kitB "int" "list" = some false := by decide +kernel
theorem kit_dd : kitB "dict" "dict" = some true := by decide +kernel
theorem kit_ni : kitB "NoneType" "int" = some false := by decide +kernel
theorem kit_nb : kitB "NoneType" "bool" = some false := by decide +kernel
/-! ### written things, however many -/
def lit : Expr → Option D
  | .Constant (.int i) _ _ => some (.int i)
  | .Constant (.str x) _ _ => some (.str x)
  | .Constant (.bool b) _ _ => some (.bl b)
  | .Constant .none _ _ => some .non
  | .UnaryOp .USub (.Constant (.int i) _ _) _ => some (.int (-i))
  | _ => none
def litAll : List Expr → Option (List D)
  | [] => some []
  | e :: es => match lit e with
    | some d => match litAll es with
      | some ds => some (d :: ds)
      | none => none
    | none => none
def tLt (ds : List D) : TAt := fun _ M Q => Q ds M
section
variable {X : Cx} {E : XK} {Et : XT}
theorem q_lit {e : Expr} {d : D} (h : lit e = some d) : QE X E Et e (tK d) := by
  unfold lit at h
  split at h
  · cases h; exact q_int
  · cases h; exact q_str
  · cases h; exact q_bl
  · cases h; exact q_non
  · cases h
    exact PEimp (q_un uq_neg q_int) (fun σ H Q h => h)
  · cases h
theorem lit_star {e : Expr} {es : List Expr} {d : D} {env : Env} (h : lit e = some d) : starEach (e :: es) env = (false, eval e env) :: starEach es env := by
  unfold lit at h
  split at h <;> first | rfl | cases h
theorem qa_lits : ∀ {es : List Expr} {ds : List D}, litAll es = some ds → QA X E Et es (tLt ds)
  | [], ds, h => by
    cases h
    exact qa_nil
  | e :: es, ds, h => by
    unfold litAll at h
    cases h1 : lit e with
    | none => simp only [h1] at h; cases h
    | some d =>
      simp only [h1] at h
      cases h2 : litAll es with
      | none => simp only [h2] at h; cases h
      | some ds' =>
        simp only [h2] at h
        cases h
        exact PAimp (qa_cons (q_lit h1) (qa_lits h2) (lit_star h1)) (fun σ H Q h => h)
end
end Tl
namespace Tl
open PySem PySem.Spec PyProof.Rows L2
/-! ### // and % by any divisor, divmod -/
def CDivZ (_ j : Int) : Prop := j ≠ 0 ∧ j.natAbs.log2 < 9000
section
variable {X : Cx}
def cDivmod : RLt := fun ds M Q => match ds with
  | [.int i, .int j] => CDivZ i j ∧ Q (.tup [.int (i.fdiv j), .int (i.fmod j)]) M
  | _ => False
/-! ### list(x), sum, max, min, all, any -/
/-- the items of a list or a tuple -/
def seqOf (M : MH) (d : D) : Option (List D) := match tupOf d with
  | some ds => some ds
  | none => lstOf M d
theorem seq_of {K : PySem.W.Frag} {G F H : Hp} {M : MH} {v : V} {d : D} {ds : List D} (R : Rel K G F H M) (p : Rp K F v d) (e : seqOf M d = some ds) : ∃ a vs, v = .ref a ∧ (SqL K H a vs ∨ SqT K H a vs) ∧ Rps K F vs ds := by
  unfold seqOf at e
  cases q : tupOf d with
  | some es =>
    rw [q] at e
    cases e
    obtain ⟨a, vs, h1, h2, h3⟩ := tup_of R p q
    exact ⟨a, vs, h1, .inr h2, h3⟩
  | none =>
    rw [q] at e
    obtain ⟨a, vs, h1, h2, h3⟩ := lst_of R p e
    exact ⟨a, vs, h1, .inl h2, h3⟩
def cList : RLt := fun ds M Q => match ds with
  | [x] => match seqOf M x with
    | some es => Q (.lst es) M
    | none => False
  | _ => False
def cListM : RLt := fun ds M Q => match ds with
  | [x] => match seqOf M x with
    | some es => ∀ p, M p = none → Q (.ref p) (mup M p (.lst es))
    | none => False
  | _ => False
theorem cq_list : CallQ X (.type "list") cList := CallRimp call_list_of (by
  rintro xs H Q ⟨G, F, M, ds, Qt, R, r, h, k⟩
  match ds, r, h with
  | [x], .cons h1 .nil, h =>
    have h : (match seqOf M x with | some es => Qt (.lst es) M | none => False) := h
    cases e : seqOf M x with
    | none => rw [e] at h; exact h.elim
    | some es =>
      rw [e] at h
      obtain ⟨a, vs, rfl, hs, r⟩ := seq_of R h1 e
      refine ⟨a, vs, rfl, hs, fun p np => ?_⟩
      obtain ⟨s, r1⟩ := R.newF (o := .lst vs) np
      exact k _ _ _ M _ s r1 (.lst upd_same (r.mono s)) h)
theorem cq_listM : CallQ X (.type "list") cListM := CallRimp call_list_of (by
  rintro xs H Q ⟨G, F, M, ds, Qt, R, r, h, k⟩
  match ds, r, h with
  | [x], .cons h1 .nil, h =>
    have h : (match seqOf M x with | some es => ∀ p, M p = none → Qt (.ref p) (mup M p (.lst es)) | none => False) := h
    cases e : seqOf M x with
    | none => rw [e] at h; exact h.elim
    | some es =>
      rw [e] at h
      obtain ⟨a, vs, rfl, hs, r⟩ := seq_of R h1 e
      refine ⟨a, vs, rfl, hs, fun p np => ?_⟩
      exact k _ F _ _ _ (Same.refl _) (R.newM (u := .lst vs) (o := .lst es) np r) (.ref p) (h p (R.free np).2))
/-- a list of whole numbers -/
def intsD : List D → Option (List Int)
  | [] => some []
  | .int i :: r => match intsD r with
    | some is => some (i :: is)
    | none => none
  | _ => none
theorem intsD_map : ∀ is : List Int, intsD (is.map D.int) = some is
  | [] => rfl
  | i :: is => by simp only [List.map_cons, intsD, intsD_map is]
def intLst (M : MH) (d : D) : Option (List Int) := match lstOf M d with
  | some ds => intsD ds
  | none => none
def cSum : RLt := fun ds M Q => match ds with
  | [x] => match intLst M x with
    | some is => Q (.int is.sum) M
    | none => False
  | _ => False
def cMax : RLt := fun ds M Q => match ds with
  | [x] => match intLst M x with
    | some is => 0 < is.length ∧ ∀ m, m ∈ is → (∀ y, y ∈ is → y ≤ m) → Q (.int m) M
    | none => False
  | _ => False
def cMin : RLt := fun ds M Q => match ds with
  | [x] => match intLst M x with
    | some is => 0 < is.length ∧ ∀ m, m ∈ is → (∀ y, y ∈ is → m ≤ y) → Q (.int m) M
    | none => False
  | _ => False
def cMax2 : RLt := fun ds M Q => match ds with
  | [.int i, .int j] => Q (.int (if j > i then j else i)) M
  | _ => False
def cMin2 : RLt := fun ds M Q => match ds with
  | [.int i, .int j] => Q (.int (if j < i then j else i)) M
  | _ => False
def cAbs : RLt := fun ds M Q => match ds with
  | [.int i] => Q (.int (if i < 0 then -i else i)) M
  | _ => False
/-- a list of truths -/
def blsD : List D → Option (List Bool)
  | [] => some []
  | .bl i :: r => match blsD r with
    | some is => some (i :: is)
    | none => none
  | _ => none
theorem blsD_map : ∀ is : List Bool, blsD (is.map D.bl) = some is
  | [] => rfl
  | i :: is => by simp only [List.map_cons, blsD, blsD_map is]
theorem bls_of {K : PySem.W.Frag} {F : Hp} : ∀ {vs : List V} {ds : List D} {is : List Bool}, Rps K F vs ds → blsD ds = some is → vs = is.map V.bl
  | _, _, _, .nil, e => by cases e; rfl
  | _, _, _, .cons (.bl i) t, e => by
    unfold blsD at e
    split at e
    · rename_i is' q
      cases e
      rw [bls_of t q]; rfl
    · cases e
  | _, _, _, .cons .non _, e => by cases e
  | _, _, _, .cons (.int _) _, e => by cases e
  | _, _, _, .cons (.str _) _, e => by cases e
  | _, _, _, .cons (.ty _) _, e => by cases e
  | _, _, _, .cons (.ref _) _, e => by cases e
  | _, _, _, .cons (.tup _ _) _, e => by cases e
  | _, _, _, .cons (.tab _ _) _, e => by cases e
  | _, _, _, .cons (.scr _ _) _, e => by cases e
  | _, _, _, .cons (.lst _ _) _, e => by cases e
def blLst (M : MH) (d : D) : Option (List Bool) := match lstOf M d with
  | some ds => blsD ds
  | none => none
theorem blLst_of {K : PySem.W.Frag} {G F H : Hp} {M : MH} {v : V} {d : D} {is : List Bool} (R : Rel K G F H M) (p : Rp K F v d) (e : blLst M d = some is) : ∃ a, v = .ref a ∧ SqL K H a (is.map V.bl) := by
  unfold blLst at e
  cases q : lstOf M d with
  | none => rw [q] at e; cases e
  | some ds =>
    rw [q] at e
    obtain ⟨a, vs, rfl, hs, r⟩ := lst_of R p q
    rw [bls_of r e] at hs
    exact ⟨a, rfl, hs⟩
def cAny : RLt := fun ds M Q => match ds with
  | [x] => match blLst M x with
    | some is => Q (.bl (is.any id)) M
    | none => False
  | _ => False
def cAll : RLt := fun ds M Q => match ds with
  | [x] => match blLst M x with
    | some is => Q (.bl (is.all id)) M
    | none => False
  | _ => False
theorem cq_any (hc : X.calm = true) : CallQ X (.builtin "any") cAny := CallRimp (cr_any hc) (by
  rintro xs H Q ⟨G, F, M, ds, Qt, R, r, h, k⟩
  match ds, r, h with
  | [x], .cons h1 .nil, h =>
    have h : (match blLst M x with | some is => Qt (.bl (is.any id)) M | none => False) := h
    cases e : blLst M x with
    | none => rw [e] at h; exact h.elim
    | some is =>
      rw [e] at h
      obtain ⟨a, rfl, hs⟩ := blLst_of R h1 e
      exact ⟨a, is, rfl, hs, k _ F H M _ (Same.refl _) R (.bl _) h⟩)
theorem cq_all (hc : X.calm = true) : CallQ X (.builtin "all") cAll := CallRimp (cr_all hc) (by
  rintro xs H Q ⟨G, F, M, ds, Qt, R, r, h, k⟩
  match ds, r, h with
  | [x], .cons h1 .nil, h =>
    have h : (match blLst M x with | some is => Qt (.bl (is.all id)) M | none => False) := h
    cases e : blLst M x with
    | none => rw [e] at h; exact h.elim
    | some is =>
      rw [e] at h
      obtain ⟨a, rfl, hs⟩ := blLst_of R h1 e
      exact ⟨a, is, rfl, hs, k _ F H M _ (Same.refl _) R (.bl _) h⟩)
end
/-! ### enumerate, zip, range with a step, a text sign by sign -/
def enumD (xs : List D) : List D := xs.mapIdx fun i x => .tup [.int (i : Nat), x]
def zipD (xs ys : List D) : List D := List.zipWith (fun x y => .tup [x, y]) xs ys
def iEn (ta : TAt) : TIt := fun τ M Q => ta τ M fun ds M1 => match ds with
  | [d] => match lstOf M1 d with
    | some xs => Q ⟨enumD xs, fun M => lstOf M d = some xs⟩ M1
    | none => False
  | _ => False
def iZi (ta : TAt) : TIt := fun τ M Q => ta τ M fun ds M1 => match ds with
  | [d, e] => match lstOf M1 d with
    | some xs => match lstOf M1 e with
      | some ys => Q ⟨zipD xs ys, fun M => lstOf M d = some xs ∧ lstOf M e = some ys⟩ M1
      | none => False
    | none => False
  | _ => False
def iR3 (ta : TAt) : TIt := fun τ M Q => ta τ M fun ds M1 => match ds with
  | [.int i, .int j, .int c] => ∃ n, RgC i j c n ∧ Q ⟨(List.range n).map fun k => .int (i + (k : Nat) * c), fun _ => True⟩ M1
  | _ => False
def iSt (te : TEt) : TIt := fun τ M Q => te τ M fun d M1 => match d with
  | .str z => Q ⟨z.cps.toList.map fun c => .str ⟨#[c]⟩, fun _ => True⟩ M1
  | _ => False
def iRv (ta : TAt) : TIt := fun τ M Q => ta τ M fun ds M1 => match ds with
  | [d] => match lstOf M1 d with
    | some xs => Q ⟨xs.reverse, fun M => lstOf M d = some xs⟩ M1
    | none => False
  | _ => False
section
variable {X : Cx} {E : XK} {Et : XT} {pos p tpos : Pos} {elts : List Expr} {kk : Nat} {tg e e2 : Expr} {ta : TAt} {te : TEt}
theorem enumD_get {xs : List D} {i : Nat} {x : D} (h : (enumD xs)[i]? = some x) : ∃ y, xs[i]? = some y ∧ x = .tup [.int (i : Nat), y] := by
  unfold enumD at h
  rw [List.getElem?_mapIdx] at h
  cases e : xs[i]? with
  | none => rw [e] at h; cases h
  | some y => rw [e] at h; exact ⟨y, rfl, (Option.some.inj h).symm⟩
theorem itOk_enum {K : PySem.W.Frag} {F0 : Hp} {a : Addr} {d : D} {ds : List D} (p : Rp K F0 (.ref a) d) : ItOk K F0 (Ite K a) ⟨enumD ds, fun M => lstOf M d = some ds⟩ where
  go := fun i G F H M x s R h hx => by
    obtain ⟨b, vs, e, hs, r⟩ := lst_of R (p.mono s) h
    cases e
    obtain ⟨y, hy, _⟩ := enumD_get hx
    obtain ⟨v, hv, _⟩ := r.getD hy
    exact ⟨vs, v, hs, hv⟩
  yld := fun i G F H M x v H' s R h hx y => by
    obtain ⟨b, vs, e, hs, r⟩ := lst_of R (p.mono s) h
    cases e
    obtain ⟨z, hz, rfl⟩ := enumD_get hx
    obtain ⟨v', hv, rv⟩ := r.getD hz
    obtain ⟨T, w, rfl, nT, rfl, f⟩ := y
    have := SqL_get hs hv f
    subst this
    obtain ⟨s2, r2⟩ := R.newF (o := .tup [.int (i : Nat), w]) nT
    exact ⟨_, s2, r2, .tup upd_same (.cons (.int _) (.cons (rv.mono s2) .nil))⟩
  stop := fun i G F H M s R h hl => by
    obtain ⟨b, vs, e, hs, r⟩ := lst_of R (p.mono s) h
    cases e
    have hl : (enumD ds).length ≤ i := hl
    unfold enumD at hl
    rw [List.length_mapIdx] at hl
    exact ⟨vs, hs, by rw [r.length]; exact hl⟩
theorem qi_enum (hm : X.mg "enumerate" = none) (ha : QA X E Et [e] ta) (hg : Gl X "enumerate" := by rfl) (hs : starEach [e] X.env = [(false, eval e X.env)] := by rfl) : QI X E Et (.Tuple elts kk tpos) (.Call (.Name "enumerate" p) [e] [] pos) (iEn ta) := by
  refine ⟨fun pins s σ H R I h => (pi_enum hg hm ha hs).run pins s σ H R I ?_⟩
  obtain ⟨G, F, M, τ, Qt, a, h, k⟩ := h
  refine ⟨G, F, M, τ, _, a, h, fun vs F1 H1 M1 ds s1 r1 p1 q1 => ?_⟩
  match ds, p1, q1 with
  | [d], .cons h1 .nil, q1 =>
    have q1 : (match lstOf M1 d with | some xs => Qt ⟨enumD xs, fun M => lstOf M d = some xs⟩ M1 | none => False) := q1
    cases q : lstOf M1 d with
    | none => rw [q] at q1; exact q1.elim
    | some xs =>
      rw [q] at q1
      obtain ⟨b, vs, rfl, hs, r⟩ := lst_of r1 h1 q
      exact ⟨b, vs, rfl, hs, k _ _ F1 H1 M1 s1 r1 (itOk_enum h1) q1⟩
theorem itOk_str {K : PySem.W.Frag} {F0 : Hp} {z : Str} : ItOk K F0 (L2.Its z) ⟨z.cps.toList.map fun c => .str ⟨#[c]⟩, fun _ => True⟩ where
  go := fun i G F H M x s R _ hx => by
    have := (List.getElem?_eq_some_iff.mp hx).1
    rw [List.length_map] at this
    show i < z.cps.size
    simpa using this
  yld := fun i G F H M x v H' s R _ hx y => by
    obtain ⟨rfl, c, hc, rfl⟩ := y
    have hx : (z.cps.toList.map fun c => D.str ⟨#[c]⟩)[i]? = some x := hx
    rw [List.getElem?_map, Array.getElem?_toList, hc] at hx
    cases hx
    exact ⟨F, Same.refl _, R, .str _⟩
  stop := fun i G F H M s R _ hl => by
    have hl : (z.cps.toList.map fun c => D.str ⟨#[c]⟩).length ≤ i := hl
    rw [List.length_map] at hl
    show z.cps.size ≤ i
    simpa using hl
theorem qi_str (he : QE X E Et e te) : QI X E Et tg e (iSt te) := by
  refine ⟨fun pins s σ H R I h => (pi_str he).run pins s σ H R I ?_⟩
  obtain ⟨G, F, M, τ, Qt, a, h, k⟩ := h
  refine ⟨G, F, M, τ, _, a, h, fun v F1 H1 M1 d s1 r1 p1 q1 => ?_⟩
  cases p1 <;> first | exact (show False from q1).elim | exact ⟨_, rfl, k _ _ F1 H1 M1 s1 r1 itOk_str q1⟩
end
/-! ### list methods, stores -/
/-- a list of the program's own, frozen or not -/
def trkOf (M : MH) : D → Option (List D)
  | .lst ds => some ds
  | .ref a => match M a with
    | some (.lst ds) => some ds
    | _ => none
  | _ => none
theorem trk_of {K : PySem.W.Frag} {G F H : Hp} {M : MH} {v : V} {d : D} {ds : List D} (R : Rel K G F H M) (p : Rp K F v d) (e : trkOf M d = some ds) : ∃ a vs, v = .ref a ∧ H a = some (.lst vs) ∧ Rps K F vs ds := by
  cases p with
  | lst h r =>
    cases e
    exact ⟨_, _, rfl, R.sub _ _ h, r⟩
  | ref a =>
    unfold trkOf at e
    cases q : M a with
    | none => simp only [q] at e; cases e
    | some o =>
      simp only [q] at e
      obtain ⟨_, u, hu, r⟩ := R.chg a o q
      cases o with
      | lst xs =>
        cases e
        cases u with
        | lst vs => exact ⟨a, vs, rfl, hu, r⟩
        | _ => exact (r : False).elim
      | _ => cases e
  | _ => cases e
def mExtend : RMt := fun x xs M Q => match x, xs with
  | .ref l, [y] => match M l with
    | some (.lst ds) => match trkOf M y with
      | some es => ds.length + es.length ≤ sizeLine ∧ Q .non (mup M l (.lst (ds ++ es)))
      | none => False
    | _ => False
  | _, _ => False
def mPop : RMt := fun x xs M Q => match x, xs with
  | .ref l, [] => match M l with
    | some (.lst ds) => match ds.getLast? with
      | some y => Q y (mup M l (.lst ds.dropLast))
      | none => False
    | _ => False
  | _, _ => False
section
variable {X : Cx} {E : XK} {Et : XT} {o e : Expr} {es : List Expr} {to : TEt} {t : TAt} {apos cpos : Pos}
theorem chg_lst {K : PySem.W.Frag} {G F H : Hp} {M : MH} {l : Addr} {ds : List D} (R : Rel K G F H M) (q : M l = some (.lst ds)) : ∃ vs, H l = some (.lst vs) ∧ Rps K F vs ds := by
  obtain ⟨_, u, hu, r⟩ := R.chg l _ q
  cases u with
  | lst vs => exact ⟨vs, hu, r⟩
  | _ => exact (r : False).elim
theorem q_extend (ho : QE X E Et o to) (ha : QA X E Et (e :: es) t)
    (hbase : attributeBase o "extend" X.env (eval o X.env) = eval o X.env := by rfl)
    (hfew : ((backTo cpos (starEach (e :: es) X.env)).all (fun x => !x.1) && (backToKw cpos (keywordEach [] X.env)).all (fun x => x.1.isSome)
      && decide ((e :: es).length + ([] : List Keyword).length + (if ([] : List Keyword).isEmpty then 0 else 1) < 30)) = true := by rfl)
    (hline : (apos.endLine == cpos.line) = true := by rfl) (hs : starEach (e :: es) X.env = (false, eval e X.env) :: starEach es X.env := by rfl) (hplain : (backTo cpos (starEach es X.env)).any (·.1) = false := by rfl) :
    QE X E Et (.Call (.Attribute o "extend" apos) (e :: es) [] cpos) (tMt mExtend to t) :=
  PEimp (pe_bm PySem.F.plainAttrs_list PySem.F.slot_list_extend PySem.F.type_list_extend mt_extend ho ha hbase hfew hline hs hplain) (lv_bm (by
    rintro x xs H Q ⟨G, F, M, dx, ds, Qt, R, p, ps, h, k⟩
    match dx, ds, p, ps, h with
    | .ref l, [y], .ref _, .cons py .nil, h =>
      have h : (match M l with | some (.lst ds) => (match trkOf M y with | some es => ds.length + es.length ≤ sizeLine ∧ Qt .non (mup M l (.lst (ds ++ es))) | none => False) | _ => False) := h
      cases q : M l with
      | none => simp only [q] at h
      | some mo =>
        cases mo with
        | lst ds =>
          simp only [q] at h
          obtain ⟨vs, hu, r⟩ := chg_lst R q
          cases qb : trkOf M y with
          | none => rw [qb] at h; exact h.elim
          | some es =>
            rw [qb] at h
            obtain ⟨b, ws, rfl, hb, rb⟩ := trk_of R py qb
            refine ⟨l, b, vs, ws, rfl, rfl, hu, hb, by rw [r.length, rb.length]; exact h.1, ?_⟩
            exact k .non F _ _ .non (Same.refl _) (R.put (u := .lst (vs ++ ws)) (o := .lst (ds ++ es)) q (r.append rb)) .non h.2
        | _ => simp only [q] at h))
theorem q_pop (ho : QE X E Et o to) (hbase : attributeBase o "pop" X.env (eval o X.env) = eval o X.env := by rfl) (hline : (apos.endLine == cpos.line) = true := by rfl) : QE X E Et (.Call (.Attribute o "pop" apos) [] [] cpos) (tMt0 mPop to) :=
  PEimp (pe_bm0 PySem.F.plainAttrs_list PySem.F.slot_list_pop PySem.F.type_list_pop mt_pop ho hbase hline) (lv_bm0 (by
    rintro x xs H Q ⟨G, F, M, dx, ds, Qt, R, p, ps, h, k⟩
    match dx, ds, p, ps, h with
    | .ref l, [], .ref _, .nil, h =>
      have h : (match M l with | some (.lst ds) => (match ds.getLast? with | some y => Qt y (mup M l (.lst ds.dropLast)) | none => False) | _ => False) := h
      cases q : M l with
      | none => simp only [q] at h
      | some mo =>
        cases mo with
        | lst ds =>
          simp only [q] at h
          obtain ⟨vs, hu, r⟩ := chg_lst R q
          cases q2 : ds.getLast? with
          | none => rw [q2] at h; exact h.elim
          | some y =>
            rw [q2] at h
            rw [List.getLast?_eq_getElem?] at q2
            obtain ⟨v, hv, rv⟩ := r.getD q2
            refine ⟨l, vs, v, rfl, rfl, hu, by rw [r.length]; exact hv, ?_⟩
            exact k v F _ _ y (Same.refl _) (R.put (u := .lst vs.dropLast) (o := .lst ds.dropLast) q r.dropLast) rv h
        | _ => simp only [q] at h))
/-- l[i] = v -/
def zList : TSett := fun o i v M Q => match o, i with
  | .ref l, .int k => match M l with
    | some (.lst ds) => match ixN ds.length k with
      | some j => Q (mup M l (.lst (ds.set j v)))
      | none => False
    | _ => False
  | _, _ => False
theorem sq_list : PSet X (lSet X.K zList) := by
  intro pins s σ H o i v ov iv u Q I ro ri rv h
  obtain ⟨G, F, M, od, idd, vd, Qt, R, po, pi, pv, h, k⟩ := h
  match od, idd, po, pi, h with
  | .ref l, .int z, .ref _, .int _, h =>
    have h : (match M l with | some (.lst ds) => (match ixN ds.length z with | some j => Qt (mup M l (.lst (ds.set j vd))) | none => False) | _ => False) := h
    cases q : M l with
    | none => simp only [q] at h
    | some mo =>
      cases mo with
      | lst ds =>
        simp only [q] at h
        obtain ⟨vs, hu, r⟩ := chg_lst R q
        cases q2 : ixN ds.length z with
        | none => rw [q2] at h; exact h.elim
        | some j =>
          rw [q2] at h
          refine set_list pins s σ H _ _ v ov iv u Q I ro ri rv ⟨l, vs, z, j, rfl, rfl, hu, by rw [r.length]; exact q2, ?_⟩
          exact k F _ _ (Same.refl _) (R.put (u := .lst (vs.set j v)) (o := .lst (ds.set j vd)) q (r.set pv j)) h
      | _ => simp only [q] at h
end
end Tl
namespace Tl
open PySem PySem.Spec PyProof.Rows L2
/-! ### the readings, unfolded as far as the values are known -/
def oBl (x : D) (k : Bool → Prop) : Prop := match x with
  | .bl c => k c
  | _ => False
def oInt (x : D) (k : Int → Prop) : Prop := match x with
  | .int c => k c
  | _ => False
def oStr (x : D) (k : Str → Prop) : Prop := match x with
  | .str c => k c
  | _ => False
def oTup (x : D) (k : List D → Prop) : Prop := match x with
  | .tup c => k c
  | _ => False
def oSome {α : Type} (x : Option α) (k : α → Prop) : Prop := match x with
  | some c => k c
  | none => False
theorem oBl_i {c : Bool} {k : Bool → Prop} : oBl (.bl c) k = k c := propext Iff.rfl
theorem oInt_i {c : Int} {k : Int → Prop} : oInt (.int c) k = k c := propext Iff.rfl
theorem oStr_i {c : Str} {k : Str → Prop} : oStr (.str c) k = k c := propext Iff.rfl
theorem oTup_i {c : List D} {k : List D → Prop} : oTup (.tup c) k = k c := propext Iff.rfl
theorem oSome_i {α : Type} {c : α} {k : α → Prop} : oSome (some c) k = k c := propext Iff.rfl
theorem oBl_if {p : Prop} [Decidable p] {a b : D} {k : Bool → Prop} : oBl (if p then a else b) k = if p then oBl a k else oBl b k := by split <;> rfl
section
variable {τ : Sg} {M : MH} {Q : VD} {D0 : En} {t u : TSt} {te ta tb : TEt} {tt : TTt} {x y : D} {ds : List D} {n i : Nat} {k : Int} {g : TGt} {gs : TGst} {Qg : Sg → MH → Prop} {QI : Its → MH → Prop} {QO : Option Int → MH → Prop} {QB : Bool → MH → Prop} {tA : TAt} {lo hi : Option Int}
theorem uV : tV i τ M Q = oSome (nth τ i) fun d => Q d M := by unfold tV oSome; cases nth τ i <;> rfl
theorem uBo : tBo te τ M QB = te τ M fun x M1 => oBl x fun c => QB c M1 := by
  unfold tBo oBl
  first | rfl | (congr; first | rfl | (funext x M1; cases x <;> rfl))
theorem uAnV : tAnV ta tb τ M Q = ta τ M fun x M1 => oBl x fun c => if c = true then tb τ M1 Q else Q (.bl false) M1 := by
  unfold tAnV oBl
  first | rfl | (congr; first | rfl | (funext x M1; cases x <;> rfl))
theorem uOrV : tOrV' ta tb τ M Q = ta τ M fun x M1 => oBl x fun c => if c = true then Q (.bl true) M1 else tb τ M1 Q := by
  unfold tOrV' oBl
  first | rfl | (congr; first | rfl | (funext x M1; cases x <;> rfl))
theorem uNoV : tNoV ta τ M Q = ta τ M fun x M1 => oBl x fun c => Q (.bl (!c)) M1 := by
  unfold tNoV oBl
  first | rfl | (congr; first | rfl | (funext x M1; cases x <;> rfl))
theorem uCh {r r' : R2t} {tc : TEt} : tCh r r' ta tb tc τ M Q = ta τ M fun x M1 => tb τ M1 fun y M2 => r x y M2 fun z M3 => oBl z fun k => if k = true then tc τ M3 fun w M4 => r' y w M4 Q else Q (.bl false) M3 := by
  unfold tCh oBl
  first | rfl | (congr; funext x M1; congr; funext y M2; congr; funext z M3; cases z <;> rfl)
theorem uNl0 : gNl [] τ M Qg = Qg τ M := propext Iff.rfl
theorem uCs1 : gCs g gs (x :: ds) τ M Qg = g x τ M fun τ' M' => gs ds τ' M' Qg := propext Iff.rfl
theorem uTp : gTp n gs x τ M Qg = oTup x fun ds => ds.length = n ∧ gs ds τ M Qg := by unfold gTp oTup; cases x <;> rfl
theorem uAg {r : R2t} : sAg i te r D0 τ M = oSome (nth τ i) fun x => te τ M fun y M1 => r x y M1 fun z M2 => D0.nx (τ.set i (some z)) M2 := by unfold sAg oSome; cases nth τ i <;> rfl
theorem uInt {C : Int → Int → Prop} {h : Int → Int → D} : bInt C h x y M Q = oInt x fun i => oInt y fun j => C i j ∧ Q (h i j) M := by unfold bInt oInt; cases x <;> cases y <;> rfl
theorem uInt0 {h : Int → Int → D} : bInt0 h x y M Q = oInt x fun i => oInt y fun j => Q (h i j) M := by unfold bInt0 oInt; cases x <;> cases y <;> rfl
theorem uNegI : uNeg x M Q = oInt x fun i => Q (.int (-i)) M := by unfold uNeg oInt; cases x <;> rfl
theorem uEq : bEq x y M Q = oSome (dScal x y) fun b => Q (.bl b) M := by unfold bEq oSome; cases dScal x y <;> rfl
theorem uNe : bNe x y M Q = oSome (dScal x y) fun b => Q (.bl (!b)) M := by unfold bNe oSome; cases dScal x y <;> rfl
theorem dScal_ii {a b : Int} : dScal (.int a) (.int b) = some (decide (a = b)) := rfl
theorem dScal_ss {a b : Str} : dScal (.str a) (.str b) = some (decide (a = b)) := rfl
theorem dScal_bb {a b : Bool} : dScal (.bl a) (.bl b) = some (decide (a = b)) := rfl
theorem dScal_nn : dScal .non .non = some true := rfl
theorem dScal_ni {a : Int} : dScal .non (.int a) = some false := rfl
theorem dScal_in {a : Int} : dScal (.int a) .non = some false := rfl
theorem dScal_is {a : Int} {s : Str} : dScal (.int a) (.str s) = some false := rfl
theorem dScal_si {a : Int} {s : Str} : dScal (.str s) (.int a) = some false := rfl
theorem uIsN : bIsN x .non M Q = Q (.bl (isNonD x)) M := propext Iff.rfl
theorem uNotN : bNotN x .non M Q = Q (.bl (!isNonD x)) M := propext Iff.rfl
theorem nonD_n : isNonD .non = true := rfl
theorem nonD_i {a : Int} : isNonD (.int a) = false := rfl
theorem nonD_s {a : Str} : isNonD (.str a) = false := rfl
theorem nonD_t {a : List D} : isNonD (.tup a) = false := rfl
theorem nonD_l {a : List D} : isNonD (.lst a) = false := rfl
theorem nonD_b {a : Bool} : isNonD (.bl a) = false := rfl
theorem nonD_r {a : Addr} : isNonD (.ref a) = false := rfl
theorem uCatS : bCatS x y M Q = oStr x fun a => oStr y fun b => a.length + b.length ≤ 16777216 ∧ Q (.str (a ++ b)) M := by unfold bCatS oStr; rw [sizeLine_eq]; cases x <;> cases y <;> rfl
theorem uCatL : bCatL x y M Q = oSome (lstOf M x) fun a => oSome (lstOf M y) fun b => a.length + b.length ≤ 16777216 ∧ Q (.lst (a ++ b)) M := by unfold bCatL oSome; rw [sizeLine_eq]; cases lstOf M x <;> cases lstOf M y <;> rfl
theorem uCatM : bCatM x y M Q = oSome (lstOf M x) fun a => oSome (lstOf M y) fun b => a.length + b.length ≤ 16777216 ∧ ∀ p, M p = none → Q (.ref p) (mup M p (.lst (a ++ b))) := by unfold bCatM oSome; rw [sizeLine_eq]; cases lstOf M x <;> cases lstOf M y <;> rfl
theorem lstOf_l : lstOf M (.lst ds) = some ds := rfl
theorem lstOf_c : lstOf M (.scr ds) = some ds := rfl
theorem lstOf_m {a : Addr} : lstOf (mup M a (.lst ds)) (.ref a) = some ds := by simp only [lstOf, mup_same]
theorem lstOf_at {a : Addr} (h : M a = some (.lst ds)) : lstOf M (.ref a) = some ds := by simp only [lstOf, h]
theorem trkOf_l : trkOf M (.lst ds) = some ds := rfl
theorem trkOf_m {a : Addr} : trkOf (mup M a (.lst ds)) (.ref a) = some ds := by simp only [trkOf, mup_same]
theorem tupOf_t : tupOf (.tup ds) = some ds := rfl
theorem tupOf_b : tupOf (.tab ds) = some ds := rfl
theorem seqOf_t : seqOf M (.tup ds) = some ds := rfl
theorem seqOf_b : seqOf M (.tab ds) = some ds := rfl
theorem seqOf_l : seqOf M (.lst ds) = some ds := rfl
theorem seqOf_c : seqOf M (.scr ds) = some ds := rfl
theorem seqOf_r {a : Addr} : seqOf M (.ref a) = lstOf M (.ref a) := rfl
theorem uIx_t : bIx (.tup ds) (.int k) M Q = oSome (atI ds k) fun d => Q d M := by
  show (match atI ds k with | some d => Q d M | none => False) = _
  unfold oSome; cases atI ds k <;> rfl
theorem uIx_b : bIx (.tab ds) (.int k) M Q = oSome (atI ds k) fun d => Q d M := by
  show (match atI ds k with | some d => Q d M | none => False) = _
  unfold oSome; cases atI ds k <;> rfl
theorem uIx_l : bIx (.lst ds) (.int k) M Q = oSome (atI ds k) fun d => Q d M := by
  show (match atI ds k with | some d => Q d M | none => False) = _
  unfold oSome; cases atI ds k <;> rfl
theorem uIx_c : bIx (.scr ds) (.int k) M Q = oSome (atI ds k) fun d => Q d M := by
  show (match atI ds k with | some d => Q d M | none => False) = _
  unfold oSome; cases atI ds k <;> rfl
theorem uIx_s {z : Str} : bIx (.str z) (.int k) M Q = (z.length ≤ 16777216 ∧ oSome (atI z.cps.toList k) fun c => Q (.str ⟨#[c]⟩) M) := by
  show (z.length ≤ sizeLine ∧ match atI z.cps.toList k with | some c => Q (.str ⟨#[c]⟩) M | none => False) = _
  unfold oSome; rw [sizeLine_eq]; cases atI z.cps.toList k <;> rfl
theorem uIx_r {a : Addr} : bIx (.ref a) (.int k) M Q = oSome (lstOf M (.ref a)) fun ds => oSome (atI ds k) fun d => Q d M := by
  show (match lstOf M (.ref a) with | some ds => (match atI ds k with | some d => Q d M | none => False) | none => False) = _
  unfold oSome
  cases lstOf M (.ref a) with
  | none => rfl
  | some ds => cases h : atI ds k <;> simp [h]
theorem uYes : oYes te τ M QO = te τ M fun d M1 => oInt d fun i => QO (some i) M1 := by
  unfold oYes oInt
  first | rfl | (congr; first | rfl | (funext x M1; cases x <;> rfl))
theorem uSlL : cSlL x lo hi M Q = oSome (lstOf M x) fun ds => Q (.lst (cutD ds lo hi)) M := by unfold cSlL oSome; cases lstOf M x <;> rfl
theorem uSlM : cSlM x lo hi M Q = oSome (lstOf M x) fun ds => ∀ p, M p = none → Q (.ref p) (mup M p (.lst (cutD ds lo hi))) := by unfold cSlM oSome; cases lstOf M x <;> rfl
theorem uSlS : cSlS x lo hi M Q = oStr x fun z => z.length ≤ 16777216 ∧ Q (.str (cutS z lo hi)) M := by unfold cSlS oStr; rw [sizeLine_eq] <;> (cases x <;> rfl)
theorem uIsi {T : String} : cIsi [x, .ty T] M Q = oSome (dTy M x) fun t => oSome (kitB t T) fun b => Q (.bl b) M := by
  show (match dTy M x with | some t => (match kitB t T with | some b => Q (.bl b) M | none => False) | none => False) = _
  unfold oSome
  cases dTy M x with
  | none => rfl
  | some t => cases h : kitB t T <;> simp [h]
theorem dTy_n : dTy M .non = some "NoneType" := rfl
theorem dTy_b {b : Bool} : dTy M (.bl b) = some "bool" := rfl
theorem dTy_i {i : Int} : dTy M (.int i) = some "int" := rfl
theorem dTy_s {s : Str} : dTy M (.str s) = some "str" := rfl
theorem dTy_t : dTy M (.tup ds) = some "tuple" := rfl
theorem dTy_l : dTy M (.lst ds) = some "list" := rfl
theorem uLen : cLen [x] M Q = oSome (lenOf M x) fun n => Q (.int (n : Int)) M := by
  show (match lenOf M x with | some n => Q (.int (n : Int)) M | none => False) = _
  unfold oSome; cases lenOf M x <;> rfl
theorem lenOf_t : lenOf M (.tup ds) = some ds.length := rfl
theorem lenOf_b : lenOf M (.tab ds) = some ds.length := rfl
theorem lenOf_l : lenOf M (.lst ds) = some ds.length := rfl
theorem lenOf_c : lenOf M (.scr ds) = some ds.length := rfl
theorem lenOf_m {a : Addr} : lenOf (mup M a (.lst ds)) (.ref a) = some ds.length := by simp only [lenOf, mup_same]
theorem lenOf_at {a : Addr} (h : M a = some (.lst ds)) : lenOf M (.ref a) = some ds.length := by simp only [lenOf, h]
theorem uIntI {i : Int} : cInt [.int i] M Q = Q (.int i) M := propext Iff.rfl
theorem uIntB {b : Bool} : cInt [.bl b] M Q = Q (.int (if b then 1 else 0)) M := propext Iff.rfl
theorem uLs : iLs te τ M QI = te τ M fun d M1 => oSome (lstOf M1 d) fun ds => QI ⟨ds, fun M => lstOf M d = some ds⟩ M1 := by
  unfold iLs oSome
  first | rfl | (congr; funext d M1; cases lstOf M1 d <;> rfl)
theorem uTu : iTu te τ M QI = te τ M fun d M1 => oSome (tupOf d) fun ds => QI ⟨ds, fun _ => True⟩ M1 := by
  unfold iTu oSome
  first | rfl | (congr; funext d M1; cases tupOf d <;> rfl)
def oL1 (ds : List D) (k : D → Prop) : Prop := match ds with
  | [x] => k x
  | _ => False
def oL2 (ds : List D) (k : D → D → Prop) : Prop := match ds with
  | [x, y] => k x y
  | _ => False
def oL3 (ds : List D) (k : D → D → D → Prop) : Prop := match ds with
  | [x, y, z] => k x y z
  | _ => False
theorem oL1_i {x : D} {k : D → Prop} : oL1 [x] k = k x := propext Iff.rfl
theorem oL2_i {x y : D} {k : D → D → Prop} : oL2 [x, y] k = k x y := propext Iff.rfl
theorem oL3_i {x y z : D} {k : D → D → D → Prop} : oL3 [x, y, z] k = k x y z := propext Iff.rfl
theorem uR1 : iR1 tA τ M QI = tA τ M fun ds M1 => oL1 ds fun d => oInt d fun j => (-4611686018427387904 ≤ j ∧ j < 4611686018427387904) ∧ QI ⟨(List.range j.toNat).map fun i => .int (i : Nat), fun _ => True⟩ M1 := by
  unfold iR1
  congr; funext ds M1
  rcases ds with _ | ⟨d, _ | ⟨e, r⟩⟩
  · rfl
  · cases d <;> rfl
  · cases d <;> rfl
theorem uR2 : iR2 tA τ M QI = tA τ M fun ds M1 => oL2 ds fun d e => oInt d fun i => oInt e fun j => (-4611686018427387904 ≤ i ∧ i < 4611686018427387904 ∧ -4611686018427387904 ≤ j ∧ j < 4611686018427387904) ∧ QI ⟨(List.range (j - i).toNat).map fun k => .int (i + (k : Nat)), fun _ => True⟩ M1 := by
  unfold iR2
  congr; funext ds M1
  rcases ds with _ | ⟨d, _ | ⟨e, _ | ⟨f, r⟩⟩⟩
  · rfl
  · cases d <;> rfl
  · cases d <;> cases e <;> rfl
  · cases d <;> cases e <;> rfl
theorem uR3 : iR3 tA τ M QI = tA τ M fun ds M1 => oL3 ds fun d e f => oInt d fun i => oInt e fun j => oInt f fun c => ∃ n, RgC i j c n ∧ QI ⟨(List.range n).map fun k => .int (i + (k : Nat) * c), fun _ => True⟩ M1 := by
  unfold iR3
  congr; funext ds M1
  rcases ds with _ | ⟨d, _ | ⟨e, _ | ⟨f, _ | ⟨f2, r⟩⟩⟩⟩
  · rfl
  · cases d <;> rfl
  · cases d <;> cases e <;> rfl
  · cases d <;> cases e <;> cases f <;> rfl
  · cases d <;> cases e <;> cases f <;> rfl
theorem uEn : iEn tA τ M QI = tA τ M fun ds M1 => oL1 ds fun d => oSome (lstOf M1 d) fun xs => QI ⟨enumD xs, fun M => lstOf M d = some xs⟩ M1 := by
  unfold iEn
  congr; funext ds M1
  rcases ds with _ | ⟨d, _ | ⟨e, r⟩⟩
  · rfl
  · simp only [oL1, oSome]; cases lstOf M1 d <;> rfl
  · rfl
theorem uZi : iZi tA τ M QI = tA τ M fun ds M1 => oL2 ds fun d e => oSome (lstOf M1 d) fun xs => oSome (lstOf M1 e) fun ys => QI ⟨zipD xs ys, fun M => lstOf M d = some xs ∧ lstOf M e = some ys⟩ M1 := by
  unfold iZi
  congr; funext ds M1
  rcases ds with _ | ⟨d, _ | ⟨e, _ | ⟨f, r⟩⟩⟩
  · rfl
  · rfl
  · simp only [oL2, oSome]; cases lstOf M1 d <;> cases lstOf M1 e <;> rfl
  · rfl
theorem uSt : iSt te τ M QI = te τ M fun d M1 => oStr d fun z => QI ⟨z.cps.toList.map fun c => .str ⟨#[c]⟩, fun _ => True⟩ M1 := by
  unfold iSt oStr
  first | rfl | (congr; first | rfl | (funext x M1; cases x <;> rfl))
theorem uRv : iRv tA τ M QI = tA τ M fun ds M1 => oL1 ds fun d => oSome (lstOf M1 d) fun xs => QI ⟨xs.reverse, fun M => lstOf M d = some xs⟩ M1 := by
  unfold iRv
  congr; funext ds M1
  rcases ds with _ | ⟨d, _ | ⟨e, r⟩⟩
  · rfl
  · simp only [oL1, oSome]; cases lstOf M1 d <;> rfl
  · rfl
theorem uDivmod : cDivmod [x, y] M Q = oInt x fun i => oInt y fun j => CDivZ i j ∧ Q (.tup [.int (i.fdiv j), .int (i.fmod j)]) M := by unfold oInt; cases x <;> cases y <;> rfl
theorem uList : cList [x] M Q = oSome (seqOf M x) fun es => Q (.lst es) M := by
  show (match seqOf M x with | some es => Q (.lst es) M | none => False) = _
  unfold oSome; cases seqOf M x <;> rfl
theorem uListM : cListM [x] M Q = oSome (seqOf M x) fun es => ∀ p, M p = none → Q (.ref p) (mup M p (.lst es)) := by
  show (match seqOf M x with | some es => ∀ p, M p = none → Q (.ref p) (mup M p (.lst es)) | none => False) = _
  unfold oSome; cases seqOf M x <;> rfl
theorem uSum : cSum [x] M Q = oSome (intLst M x) fun is => Q (.int is.sum) M := by
  show (match intLst M x with | some is => Q (.int is.sum) M | none => False) = _
  unfold oSome; cases intLst M x <;> rfl
theorem uMax : cMax [x] M Q = oSome (intLst M x) fun is => 0 < is.length ∧ ∀ m, m ∈ is → (∀ y, y ∈ is → y ≤ m) → Q (.int m) M := by
  show (match intLst M x with | some is => 0 < is.length ∧ ∀ m, m ∈ is → (∀ y, y ∈ is → y ≤ m) → Q (.int m) M | none => False) = _
  unfold oSome; cases intLst M x <;> rfl
theorem uMin : cMin [x] M Q = oSome (intLst M x) fun is => 0 < is.length ∧ ∀ m, m ∈ is → (∀ y, y ∈ is → m ≤ y) → Q (.int m) M := by
  show (match intLst M x with | some is => 0 < is.length ∧ ∀ m, m ∈ is → (∀ y, y ∈ is → m ≤ y) → Q (.int m) M | none => False) = _
  unfold oSome; cases intLst M x <;> rfl
theorem intLst_l {is : List Int} : intLst M (.lst (is.map D.int)) = some is := intsD_map is
theorem intLst_c {is : List Int} : intLst M (.scr (is.map D.int)) = some is := intsD_map is
theorem blLst_l {is : List Bool} : blLst M (.lst (is.map D.bl)) = some is := blsD_map is
theorem uMax2 : cMax2 [x, y] M Q = oInt x fun i => oInt y fun j => Q (.int (if j > i then j else i)) M := by unfold oInt; cases x <;> cases y <;> rfl
theorem uMin2 : cMin2 [x, y] M Q = oInt x fun i => oInt y fun j => Q (.int (if j < i then j else i)) M := by unfold oInt; cases x <;> cases y <;> rfl
theorem uAbs : cAbs [x] M Q = oInt x fun i => Q (.int (if i < 0 then -i else i)) M := by unfold oInt; cases x <;> rfl
theorem uAny : cAny [x] M Q = oSome (blLst M x) fun is => Q (.bl (is.any id)) M := by
  show (match blLst M x with | some is => Q (.bl (is.any id)) M | none => False) = _
  unfold oSome; cases blLst M x <;> rfl
theorem uAll : cAll [x] M Q = oSome (blLst M x) fun is => Q (.bl (is.all id)) M := by
  show (match blLst M x with | some is => Q (.bl (is.all id)) M | none => False) = _
  unfold oSome; cases blLst M x <;> rfl
def mLst (M : MH) (a : Addr) : Option (List D) := match M a with
  | some (.lst ds) => some ds
  | _ => none
theorem mLst_m {a : Addr} : mLst (mup M a (.lst ds)) a = some ds := by unfold mLst; rw [mup_same]
theorem mLst_at {a : Addr} (h : M a = some (.lst ds)) : mLst M a = some ds := by unfold mLst; rw [h]
theorem uAppend {l : Addr} : mAppend (.ref l) [y] M Q = oSome (mLst M l) fun ds => ds.length < 16777216 ∧ Q .non (mup M l (.lst (ds ++ [y]))) := by
  show (match M l with | some (.lst ds) => ds.length < sizeLine ∧ Q .non (mup M l (.lst (ds ++ [y]))) | _ => False) = _
  unfold oSome mLst; rw [sizeLine_eq]
  cases M l with
  | none => rfl
  | some o => cases o <;> rfl
theorem uExtend {l : Addr} : mExtend (.ref l) [y] M Q = oSome (mLst M l) fun ds => oSome (trkOf M y) fun es => ds.length + es.length ≤ 16777216 ∧ Q .non (mup M l (.lst (ds ++ es))) := by
  show (match M l with | some (.lst ds) => (match trkOf M y with | some es => ds.length + es.length ≤ sizeLine ∧ Q .non (mup M l (.lst (ds ++ es))) | none => False) | _ => False) = _
  unfold oSome mLst; rw [sizeLine_eq]
  cases M l with
  | none => rfl
  | some o => cases o <;> first | rfl | (cases h : trkOf M y <;> simp [h])
theorem uPop {l : Addr} : mPop (.ref l) [] M Q = oSome (mLst M l) fun ds => oSome ds.getLast? fun y => Q y (mup M l (.lst ds.dropLast)) := by
  show (match M l with | some (.lst ds) => (match ds.getLast? with | some y => Q y (mup M l (.lst ds.dropLast)) | none => False) | _ => False) = _
  unfold oSome mLst
  cases M l with
  | none => rfl
  | some o =>
    cases o with
    | lst ds => cases h : ds.getLast? <;> simp [h]
    | _ => rfl
theorem uSet {l : Addr} {Qm : MH → Prop} : zList (.ref l) (.int k) y M Qm = oSome (mLst M l) fun ds => oSome (ixN ds.length k) fun j => Qm (mup M l (.lst (ds.set j y))) := by
  show (match M l with | some (.lst ds) => (match ixN ds.length k with | some j => Qm (mup M l (.lst (ds.set j y))) | none => False) | _ => False) = _
  unfold oSome mLst
  cases M l with
  | none => rfl
  | some o =>
    cases o with
    | lst ds => cases h : ixN ds.length k <;> simp [h]
    | _ => rfl
theorem lMt_l : (lstOf M (.lst ds)).isSome = true := rfl
theorem isS_m {a : Addr} : (lstOf (mup M a (.lst ds)) (.ref a)).isSome = true := by rw [lstOf_m]; rfl
theorem atI_0 {α : Type} {x : α} {r : List α} : atI (x :: r) 0 = some x := atI_nat (j := 0) rfl
theorem atI_1 {α : Type} {x y : α} {r : List α} : atI (x :: y :: r) 1 = some y := atI_nat (j := 1) rfl
theorem atI_2 {α : Type} {x y z : α} {r : List α} : atI (x :: y :: z :: r) 2 = some z := atI_nat (j := 2) rfl
theorem atI_3 {α : Type} {x y z a : α} {r : List α} : atI (x :: y :: z :: a :: r) 3 = some a := atI_nat (j := 3) rfl
theorem atI_4 {α : Type} {x y z a b : α} {r : List α} : atI (x :: y :: z :: a :: b :: r) 4 = some b := atI_nat (j := 4) rfl
theorem atI_5 {α : Type} {x y z a b c : α} {r : List α} : atI (x :: y :: z :: a :: b :: c :: r) 5 = some c := atI_nat (j := 5) rfl
end
end Tl
namespace Tl
open PySem PySem.Spec PyProof.Rows L2
/-! ### comprehensions whose turns change nothing -/
/-- what is kept and what it comes to; what is left out -/
inductive Sel {α β : Type} (P : α → β → Prop) (N : α → Prop) : List α → List β → Prop
  | nil : Sel P N [] []
  | keep {x : α} {y : β} {xs : List α} {ys : List β} (h : P x y) (t : Sel P N xs ys) : Sel P N (x :: xs) (y :: ys)
  | drop {x : α} {xs : List α} {ys : List β} (h : N x) (t : Sel P N xs ys) : Sel P N (x :: xs) ys
section
variable {α β : Type} {P : α → β → Prop} {N : α → Prop}
theorem Sel.len {xs : List α} {ys : List β} (h : Sel P N xs ys) : ys.length ≤ xs.length := by
  induction h with
  | nil => exact Nat.le_refl _
  | keep h t ih => exact Nat.succ_le_succ ih
  | drop h t ih => exact Nat.le_succ_of_le ih
theorem Sel.map {f : α → β} {xs : List α} {ys : List β} (h : Sel (fun x y => y = f x) (fun _ => False) xs ys) : ys = xs.map f := by
  induction h with
  | nil => rfl
  | keep h t ih => rw [h, ih]; rfl
  | drop h t ih => exact h.elim
theorem Sel.filter {f : α → β} {p : α → Bool} {xs : List α} {ys : List β} (h : Sel (fun x y => p x = true ∧ y = f x) (fun x => p x = false) xs ys) : ys = (xs.filter p).map f := by
  induction h with
  | nil => rfl
  | keep h t ih => rw [List.filter_cons, if_pos h.1, h.2, ih]; rfl
  | drop h t ih => rw [List.filter_cons, if_neg (by rw [h]; decide), ih]
theorem Sel.ex {α β γ : Type} {Pz : α → γ → Prop} {Nz : α → Prop} {a : γ → β} {xs : List α} {ys : List β} (h : Sel (fun x y => ∃ b, y = a b ∧ Pz x b) Nz xs ys) : ∃ bs : List γ, ys = bs.map a ∧ ∀ b ∈ bs, ∃ x ∈ xs, Pz x b := by
  induction h with
  | nil => exact ⟨[], rfl, by simp⟩
  | @keep x y xs ys h t ih =>
    obtain ⟨ms, rfl, h2⟩ := ih
    obtain ⟨n, rfl, hn⟩ := h
    refine ⟨n :: ms, rfl, fun b hb => ?_⟩
    rcases List.mem_cons.mp hb with rfl | hm
    · exact ⟨x, List.mem_cons_self .., hn⟩
    · obtain ⟨x', hx, hp⟩ := h2 b hm
      exact ⟨x', List.mem_cons_of_mem _ hx, hp⟩
  | drop h t ih =>
    obtain ⟨ms, rfl, h2⟩ := ih
    refine ⟨ms, rfl, fun b hb => ?_⟩
    obtain ⟨x', hx, hp⟩ := h2 b hb
    exact ⟨x', List.mem_cons_of_mem _ hx, hp⟩
theorem Sel.all {Z : β → Prop} {xs : List α} {ys : List β} (h : Sel P N xs ys) (hz : ∀ x y, x ∈ xs → P x y → Z y) : ∀ y ∈ ys, Z y := by
  induction h with
  | nil => intro y hy; cases hy
  | keep h t ih =>
    intro y hy
    rcases List.mem_cons.mp hy with e | hy
    · rw [e]; exact hz _ _ (List.mem_cons_self ..) h
    · exact ih (fun x y hx => hz x y (List.mem_cons_of_mem _ hx)) y hy
  | drop h t ih => exact ih (fun x y hx => hz x y (List.mem_cons_of_mem _ hx))
end
section
variable {ti : TIt} {g : TGt} {tt : TTt} {te : TEt} {vs : List Nat} {τ : Sg} {M : MH} {Q : VD}
/-- the rest of a comprehension when its source is known -/
def LcGo (g : TGt) (tt : TTt) (te : TEt) (vs : List Nat) (τ : Sg) (Q : VD) (I : Its) (M1 : MH) : Prop := I.items.length < sizeLine ∧ ∃ W : Nat → List D → MH → Prop, W 0 [] M1 ∧ (∀ i acc M, W i acc M → I.src M ∧ acc.length ≤ i) ∧
  (∀ i x acc M, I.items[i]? = some x → W i acc M → g x (wip τ vs) M fun τ2 M2 => tt τ2 M2 fun b M3 => if b = true then te τ2 M3 fun y M4 => W (i + 1) (acc ++ [y]) M4 else W (i + 1) acc M3) ∧ ∀ acc M, W I.items.length acc M → Q (.lst acc) M
theorem uLcF : tLcF ti g tt te vs τ M Q = ti τ M (LcGo g tt te vs τ Q) := propext Iff.rfl
def asRef (Q : VD) : VD := fun d M1 => match d with
  | .lst acc => ∀ p, M1 p = none → Q (.ref p) (mup M1 p (.lst acc))
  | _ => False
theorem uLcV' : tLcV ti g tt te vs τ M Q = ti τ M (LcGo g tt te vs τ (asRef Q)) := rfl
theorem uAsRef {acc : List D} : asRef Q (.lst acc) M = ∀ p, M p = none → Q (.ref p) (mup M p (.lst acc)) := propext Iff.rfl
/-- a comprehension that computes f of each item, and keeps the memory -/
theorem lc_map {I : Its} (xs : List α) (a : α → D) (f : α → D) (hi : I.items = xs.map a) (hz : xs.length < sizeLine) (hs : I.src M)
    (h : ∀ (x : α) (R1 : VD) (R0 : MH → Prop), x ∈ xs → R1 (f x) M → g (a x) (wip τ vs) M fun τ2 M2 => tt τ2 M2 fun b M3 => if b = true then te τ2 M3 R1 else R0 M3)
    (k : Q (.lst (xs.map f)) M) : LcGo g tt te vs τ Q I M := by
  refine ⟨by rw [hi, List.length_map]; exact hz, fun i acc M' => M' = M ∧ acc = (xs.take i).map f, ⟨rfl, by simp⟩, ?_, ?_, ?_⟩
  · rintro i acc _ ⟨rfl, rfl⟩
    exact ⟨hs, by simp only [List.length_map, List.length_take]; omega⟩
  · rintro i x acc _ hx ⟨rfl, rfl⟩
    rw [hi, List.getElem?_map] at hx
    obtain ⟨y, hy, rfl⟩ := Option.map_eq_some_iff.mp hx
    refine h y _ _ (List.mem_of_getElem? hy) ⟨rfl, ?_⟩
    rw [List.take_add_one, hy]; simp
  · rintro acc _ ⟨rfl, rfl⟩
    rw [hi, List.length_map, List.take_length]
    exact k
/-- a comprehension that keeps the items that answer p, and computes f of them -/
theorem lc_filter {I : Its} (xs : List α) (a : α → D) (p : α → Bool) (f : α → D) (hi : I.items = xs.map a) (hz : xs.length < sizeLine) (hs : I.src M)
    (h : ∀ (x : α) (R1 : VD) (R0 : MH → Prop), x ∈ xs → (p x = true → R1 (f x) M) → (p x = false → R0 M) → g (a x) (wip τ vs) M fun τ2 M2 => tt τ2 M2 fun b M3 => if b = true then te τ2 M3 R1 else R0 M3)
    (k : Q (.lst ((xs.filter p).map f)) M) : LcGo g tt te vs τ Q I M := by
  refine ⟨by rw [hi, List.length_map]; exact hz, fun i acc M' => M' = M ∧ acc = ((xs.take i).filter p).map f, ⟨rfl, by simp⟩, ?_, ?_, ?_⟩
  · rintro i acc _ ⟨rfl, rfl⟩
    refine ⟨hs, ?_⟩
    simp only [List.length_map]
    have := List.length_filter_le p (xs.take i)
    rw [List.length_take] at this
    omega
  · rintro i x acc _ hx ⟨rfl, rfl⟩
    rw [hi, List.getElem?_map] at hx
    obtain ⟨y, hy, rfl⟩ := Option.map_eq_some_iff.mp hx
    refine h y _ _ (List.mem_of_getElem? hy) (fun e => ⟨rfl, ?_⟩) fun e => ⟨rfl, ?_⟩
    · rw [List.take_add_one, hy]; simp [List.filter_append, e]
    · rw [List.take_add_one, hy]; simp [List.filter_append, e]
  · rintro acc _ ⟨rfl, rfl⟩
    rw [hi, List.length_map, List.take_length]
    exact k
end
/-- the rest of a loop when its source is known -/
def ForGo (g : TGt) (tb : TSt) (D0 : En) (τ : Sg) (I : Its) (M1 : MH) : Prop := ∃ W : Nat → Sg → MH → Prop, W 0 τ M1 ∧ (∀ i τ M, W i τ M → I.src M) ∧
  (∀ i x τ M, I.items[i]? = some x → W i τ M → g x τ M fun τ2 M2 => tb { D0 with nx := W (i + 1), ct := W (i + 1), bk := D0.nx } τ2 M2) ∧ ∀ τ M, W I.items.length τ M → D0.nx τ M
theorem uFo {ti : TIt} {g : TGt} {tb : TSt} {D0 : En} {τ : Sg} {M : MH} : sFo ti g tb D0 τ M = ti τ M (ForGo g tb D0 τ) := propext Iff.rfl
/-- a loop whose turns keep a word of the slots, from the left; a return on the way ends it -/
theorem for_any {I : Its} {g : TGt} {tb : TSt} {D0 : En} {τ : Sg} {M : MH} (W : Nat → Sg → MH → Prop) (w0 : W 0 τ M) (ws : ∀ i τ M, W i τ M → I.src M)
    (hs : ∀ i x τ M, I.items[i]? = some x → W i τ M → g x τ M fun τ2 M2 => tb { D0 with nx := W (i + 1), ct := W (i + 1), bk := D0.nx } τ2 M2) (hd : ∀ τ M, W I.items.length τ M → D0.nx τ M) :
    ForGo g tb D0 τ I M := ⟨W, w0, ws, hs, hd⟩
/-- the same over a mapped list, the invariant told of what is done -/
theorem for_map {I : Its} {g : TGt} {tb : TSt} {D0 : En} {τ : Sg} {M : MH} (xs : List α) (a : α → D) (hi : I.items = xs.map a) (W : List α → Sg → MH → Prop) (w0 : W [] τ M) (ws : ∀ ys τ M, W ys τ M → I.src M)
    (hs : ∀ ys x zs τ M (Nx : Sg → MH → Prop), xs = ys ++ x :: zs → W ys τ M → (∀ τ' M', W (ys ++ [x]) τ' M' → Nx τ' M') → g (a x) τ M fun τ2 M2 => tb { D0 with nx := Nx, ct := Nx, bk := D0.nx } τ2 M2) (hd : ∀ τ M, W xs τ M → D0.nx τ M) :
    ForGo g tb D0 τ I M := by
  refine ⟨fun i => W (xs.take i), by simpa using w0, fun i τ M w => ws _ τ M w, ?_, ?_⟩
  · intro i x τ M hx w
    rw [hi, List.getElem?_map] at hx
    obtain ⟨y, hy, rfl⟩ := Option.map_eq_some_iff.mp hx
    have hl := (List.getElem?_eq_some_iff.mp hy)
    obtain ⟨h1, h2⟩ := hl
    refine hs (xs.take i) y (xs.drop (i + 1)) τ M _ ?_ w fun τ' M' w' => ?_
    · rw [← h2, List.getElem_cons_drop, List.take_append_drop]
    · show W (xs.take (i + 1)) τ' M'
      rw [List.take_add_one, hy]; exact w'
  · intro τ M w
    refine hd τ M ?_
    rw [hi, List.length_map, List.take_length] at w
    exact w
/-- a while loop with a measure -/
theorem wh_any {c : TTt} {tb : TSt} {D0 : En} {τ : Sg} {M : MH} (W : Nat → Sg → MH → Prop) (m : Nat) (w0 : W m τ M)
    (hs : ∀ m τ M, W m τ M → c τ M fun b M1 => if b = true then tb { D0 with nx := fun τ' M' => ∃ m', m' < m ∧ W m' τ' M', ct := fun τ' M' => ∃ m', m' < m ∧ W m' τ' M', bk := D0.nx } τ M1 else D0.nx τ M1) : sWh c tb D0 τ M := ⟨W, ⟨m, w0⟩, hs⟩
end Tl
namespace Tl
open PySem PySem.Spec PyProof.Rows L2
/-! ### instances -/
def oObj (M : MH) (x : D) (k : Addr → Addr → Addr → List Str → List D → Prop) : Prop := match x with
  | .ref a => match M a with
    | some (.obj C dx fl ds) => k a C dx fl ds
    | _ => False
  | _ => False
theorem oObj_e {M : MH} {x : D} {k : Addr → Addr → Addr → List Str → List D → Prop} (h : oObj M x k) : ∃ a C dx fl ds, x = .ref a ∧ M a = some (.obj C dx fl ds) ∧ k a C dx fl ds := by
  unfold oObj at h
  cases x with
  | ref a =>
    cases e : M a with
    | none => simp only [e] at h
    | some o =>
      cases o with
      | obj C dx fl ds => simp only [e] at h; exact ⟨a, C, dx, fl, ds, rfl, e, h⟩
      | _ => simp only [e] at h
  | _ => exact h.elim
theorem RpO_obj {K : PySem.W.Frag} {F : Hp} {u : HO} {C dx : Addr} {fl : List Str} {ds : List D} (r : RpO K F u (.obj C dx fl ds)) : ∃ fs, u = .ins C dx fs ∧ fl.Nodup ∧ fs.map (·.1) = fl.take ds.length ∧ Rps K F (fs.map (·.2)) ds := by
  cases u with
  | ins C1 dx1 fs =>
    obtain ⟨rfl, rfl, nd, hn, rr⟩ := r
    exact ⟨fs, rfl, nd, hn, rr⟩
  | _ => exact (r : False).elim
def nthD : List D → Nat → Option D
  | [], _ => none
  | x :: _, 0 => some x
  | _ :: t, n + 1 => nthD t n
def putD : List D → Nat → D → List D
  | [], _, d => [d]
  | _ :: t, 0, d => d :: t
  | x :: t, n + 1, d => x :: putD t n d
theorem nthD_get : ∀ {l : List D} {i : Nat} {d : D}, nthD l i = some d → l[i]? = some d
  | [], _, _, h => by cases h
  | x :: _, 0, d, h => by rw [List.getElem?_cons_zero]; exact h
  | _ :: t, n + 1, d, h => by rw [List.getElem?_cons_succ]; exact nthD_get (l := t) h
theorem look_at {f : Str} {v : V} : ∀ {fs : List (Str × V)} {i : Nat}, (fs.map (·.1)).Nodup → fs[i]? = some (f, v) → fs.lookup f = some v
  | [], _, _, h => by rw [List.getElem?_nil] at h; cases h
  | (g, x) :: r, 0, _, h => by
    rw [List.getElem?_cons_zero] at h
    cases h
    show (match f == f with | true => some v | false => r.lookup f) = some v
    rw [show (f == f) = true from beq_iff_eq.mpr rfl]
  | (g, x) :: r, n + 1, nd, h => by
    rw [List.getElem?_cons_succ] at h
    have hm : f ∈ r.map (·.1) := List.mem_map.mpr ⟨(f, v), List.mem_of_getElem? h, rfl⟩
    have nd2 := List.nodup_cons.mp (show (g :: r.map (·.1)).Nodup from nd)
    have ne : (f == g) = false := beq_eq_false_iff_ne.mpr fun e => nd2.1 (e ▸ hm)
    show (match f == g with | true => some x | false => r.lookup f) = some v
    rw [ne]
    exact look_at nd2.2 h
theorem look_not {f : Str} : ∀ {fs : List (Str × V)}, f ∉ fs.map (·.1) → fs.lookup f = none
  | [], _ => rfl
  | (g, x) :: r, h => by
    have h2 : f ∉ g :: r.map (·.1) := h
    rw [List.mem_cons, not_or] at h2
    show (match f == g with | true => some x | false => r.lookup f) = none
    rw [show (f == g) = false from beq_eq_false_iff_ne.mpr h2.1]
    exact look_not h2.2
theorem putF_at {f : Str} {v v0 : V} : ∀ {fs : List (Str × V)} {i : Nat}, (fs.map (·.1)).Nodup → fs[i]? = some (f, v0) → putF f v fs = fs.set i (f, v)
  | [], _, _, h => by rw [List.getElem?_nil] at h; cases h
  | (g, x) :: r, 0, _, h => by
    rw [List.getElem?_cons_zero] at h
    cases h
    show (if f = f then (f, v) :: r else (f, v0) :: putF f v r) = (f, v) :: r
    rw [if_pos rfl]
  | (g, x) :: r, n + 1, nd, h => by
    rw [List.getElem?_cons_succ] at h
    have hm : f ∈ r.map (·.1) := List.mem_map.mpr ⟨(f, v0), List.mem_of_getElem? h, rfl⟩
    have nd2 := List.nodup_cons.mp (show (g :: r.map (·.1)).Nodup from nd)
    show (if g = f then (g, v) :: r else (g, x) :: putF f v r) = (g, x) :: r.set n (f, v)
    rw [if_neg fun e : g = f => nd2.1 (e ▸ hm), putF_at nd2.2 h]
theorem putF_new {f : Str} {v : V} : ∀ {fs : List (Str × V)}, f ∉ fs.map (·.1) → putF f v fs = fs ++ [(f, v)]
  | [], _ => rfl
  | (g, x) :: r, h => by
    have h2 : f ∉ g :: r.map (·.1) := h
    rw [List.mem_cons, not_or] at h2
    show (if g = f then (g, v) :: r else (g, x) :: putF f v r) = (g, x) :: (r ++ [(f, v)])
    rw [if_neg fun e : g = f => h2.1 e.symm, putF_new h2.2]
theorem putD_lt : ∀ {ds : List D} {i : Nat} {d : D}, i < ds.length → putD ds i d = ds.set i d
  | [], _, _, h => absurd h (Nat.not_lt_zero _)
  | _ :: _, 0, _, _ => rfl
  | x :: t, n + 1, d, h => by
    show x :: putD t n d = x :: t.set n d
    rw [putD_lt (Nat.lt_of_succ_lt_succ h)]
theorem putD_eq : ∀ {ds : List D} {d : D}, putD ds ds.length d = ds ++ [d]
  | [], _ => rfl
  | x :: t, d => by
    show x :: putD t t.length d = x :: (t ++ [d])
    rw [putD_eq]
theorem take_not {α : Type} {fl : List α} (nd : fl.Nodup) {n i : Nat} {f : α} (h : fl[i]? = some f) (hi : n ≤ i) : f ∉ fl.take n := by
  intro hm
  obtain ⟨j, hj⟩ := List.mem_iff_getElem?.mp hm
  have hj2 : j < n := by
    have := (List.getElem?_eq_some_iff.mp hj).1
    rw [List.length_take] at this; omega
  rw [List.getElem?_take_of_lt hj2] at hj
  obtain ⟨h1, e1⟩ := List.getElem?_eq_some_iff.mp h
  obtain ⟨h2, e2⟩ := List.getElem?_eq_some_iff.mp hj
  have := (List.getElem?_inj h2 nd).mp (hj.trans h.symm)
  omega
section
variable {K : PySem.W.Frag} {F : Hp} {fs : List (Str × V)} {fl : List Str} {ds : List D}
theorem fs_get (nd : fl.Nodup) (hn : fs.map (·.1) = fl.take ds.length) (r : Rps K F (fs.map (·.2)) ds) {i : Nat} {f : Str} {d : D} (hf : fl[i]? = some f) (hd : ds[i]? = some d) : ∃ v, fs.lookup f = some v ∧ fs[i]? = some (f, v) ∧ Rp K F v d := by
  obtain ⟨v, hv, rv⟩ := r.getD hd
  rw [List.getElem?_map] at hv
  obtain ⟨⟨g, v'⟩, e, rfl⟩ := Option.map_eq_some_iff.mp hv
  have hl := (List.getElem?_eq_some_iff.mp hd).1
  have h1 : (fs.map (·.1))[i]? = some g := by rw [List.getElem?_map, e]; rfl
  rw [hn, List.getElem?_take_of_lt hl, hf] at h1
  cases h1
  exact ⟨v', look_at (by rw [hn]; exact (List.take_sublist _ _).nodup nd) e, e, rv⟩
theorem fs_put (nd : fl.Nodup) (hn : fs.map (·.1) = fl.take ds.length) (r : Rps K F (fs.map (·.2)) ds) {i : Nat} {f : Str} {v : V} {d : D} (hf : fl[i]? = some f) (hi : i ≤ ds.length) (rv : Rp K F v d) :
    (putF f v fs).map (·.1) = fl.take (putD ds i d).length ∧ Rps K F ((putF f v fs).map (·.2)) (putD ds i d) := by
  have hlen : fs.length = ds.length := by rw [← r.length, List.length_map]
  have nd2 : (fs.map (·.1)).Nodup := by rw [hn]; exact (List.take_sublist _ _).nodup nd
  by_cases hlt : i < ds.length
  · obtain ⟨v0, _, e, _⟩ := fs_get nd hn r hf (List.getElem?_eq_getElem hlt)
    rw [putF_at nd2 e, putD_lt hlt]
    constructor
    · rw [List.map_set, List.length_set, ← hn]
      apply List.ext_getElem?
      intro j
      by_cases hj : i = j
      · subst hj
        rw [List.getElem?_set_self (by rw [List.length_map, hlen]; exact hlt), List.getElem?_map, e]; rfl
      · rw [List.getElem?_set_ne hj]
    · rw [List.map_set]
      exact r.set rv i
  · obtain rfl : i = ds.length := by omega
    have hnot : f ∉ fs.map (·.1) := by rw [hn]; exact take_not nd hf (Nat.le_refl _)
    rw [putF_new hnot, putD_eq]
    constructor
    · rw [List.map_append, List.length_append, hn]
      rw [show ds.length + [d].length = ds.length + 1 from rfl, List.take_add_one, hf]; rfl
    · rw [List.map_append]
      exact r.append (.cons rv .nil)
end
/-- e.f of an instance -/
def tFd (P : Addr → Prop) (fl : List Str) (i : Nat) (te : TEt) : TEt := fun τ M Q => te τ M fun x M1 => oObj M1 x fun _ C _ fl' ds => P C ∧ fl' = fl ∧ oSome (nthD ds i) fun d => Q d M1
/-- e.f = v -/
def sFd (P : Addr → Prop) (fl : List Str) (i : Nat) (te tv : TEt) : TSt := fun D τ M => tv τ M fun y M1 => te τ M1 fun x M2 => oObj M2 x fun a C dx fl' ds => P C ∧ fl' = fl ∧ i ≤ ds.length ∧ D.nx τ (mup M2 a (.obj C dx fl (putD ds i y)))
/-- e.f op= v -/
def sFa (P : Addr → Prop) (fl : List Str) (i : Nat) (te tv : TEt) (r : R2t) : TSt := fun D τ M => te τ M fun x M1 => oObj M1 x fun _ C _ fl' ds => P C ∧ fl' = fl ∧ oSome (nthD ds i) fun d =>
  tv τ M1 fun y M2 => r d y M2 fun z M3 => oObj M3 x fun a C' dx fl' ds => C' = C ∧ fl' = fl ∧ i ≤ ds.length ∧ D.nx τ (mup M3 a (.obj C dx fl (putD ds i z)))
section
variable {X : Cx} {E : XK} {Et : XT} {e value : Expr} {pos pos' : Pos} {te tv : TEt} {P : Addr → Prop} {fl : List Str} {i : Nat} {f : Str}
theorem oSome_e {α : Type} {o : Option α} {k : α → Prop} (h : oSome o k) : ∃ d, o = some d ∧ k d := by
  cases o with
  | none => exact h.elim
  | some d => exact ⟨d, rfl, h⟩
theorem q_fld (i : Nat) (fl : List Str) (c : ∀ C, P C → Cls X.K C ∧ NoAttr X.K C f) (he : QE X E Et e te) (hf : fl[i]? = some f := by rfl) (hb : attributeBase e f X.env (eval e X.env) = eval e X.env := by rfl) : QE X E Et (.Attribute e f pos) (tFd P fl i te) := PEimp (pe_fld he hb) (by
  rintro σ H Q ⟨G, F, M, τ, Qt, a, h, k⟩
  refine ⟨G, F, M, τ, _, a, h, fun v F1 H1 M1 d s1 r1 p1 q1 => ?_⟩
  obtain ⟨b, C, dx, fl', ds, rfl, hM, hP, rfl, q5⟩ := oObj_e q1
  obtain ⟨d', hd, q6⟩ := oSome_e q5
  cases p1
  obtain ⟨_, u, hu, r⟩ := r1.chg b _ hM
  · obtain ⟨fs, rfl, nd, hn, rr⟩ := RpO_obj r
    obtain ⟨v', e1, _, rv⟩ := fs_get nd hn rr hf (nthD_get hd)
    exact ⟨b, C, dx, fs, v', rfl, hu, (c _ hP).1, (c _ hP).2, e1, k v' F1 H1 M1 d' s1 r1 rv q6⟩)
theorem qs_fld (i : Nat) (fl : List Str) (c : ∀ C, P C → Cls X.K C ∧ NoAttr X.K C f) (he : QE X E Et e te) (hv : QE X E Et value tv) (hf : fl[i]? = some f := by rfl) (hl : fl.length < 1000 := by decide)
    (hs : swapsWith value (some (.Attribute e f pos')) pos.line X.env = pure false := by rfl) : QS X E Et (.Assign [.Attribute e f pos'] value pos) (sFd P fl i te tv) := PSimp (ps_fld he hv hs) (by
  rintro D σ H ⟨G, F, M, τ, Dt, a, en, h⟩
  refine ⟨G, F, M, τ, _, a, h, fun v F1 H1 M1 d s1 r1 p1 q1 => ?_⟩
  refine ⟨G, F1, M1, τ, _, a.step s1 r1, q1, fun x F2 H2 M2 xd s2 r2 p2 q2 => ?_⟩
  obtain ⟨b, C, dx, fl', ds, rfl, hM, hP, rfl, hi, q5⟩ := oObj_e q2
  cases p2
  obtain ⟨_, u, hu, r⟩ := r2.chg b _ hM
  · obtain ⟨fs, rfl, nd, hn, rr⟩ := RpO_obj r
    have z := fs_put nd hn rr hf hi (p1.mono s2)
    have z2 : RpO X.K F2 (.ins C dx (putF f v fs)) (.obj C dx _ (putD ds i d)) := ⟨rfl, rfl, nd, z.1, z.2⟩
    have hlen : fs.length < 1000 := by
      have := congrArg List.length hn
      rw [List.length_map, List.length_take] at this; omega
    exact ⟨b, C, dx, fs, rfl, hu, (c _ hP).1, (c _ hP).2, hlen, en.nx F2 _ _ _ _ (s1.trans s2) ⟨r2.put hM z2, (a.sg.mono s1).mono s2, (a.el.mono s1).mono s2⟩ q5⟩)
end
/-! ### methods -/
/-- a method of the class c -/
structure Fm (P : Program) (w : World) (K : PySem.W.Frag) (mg : Str → Option Value) (base : Heap) (CX : CXT) (k : Nat) (c m : Str) (sp : SpT) : Prop where
  ok : ∃ fd ps, FnOk P w K mg base CX k (He.ma K (He.ga K c) m) fd ps (lSp K sp) ∧ Binds K fd ps []
  me : Meth K (He.ga K c) m (He.ma K (He.ga K c) m)
  cl : Cls K (He.ga K c)
/-- a class that is made -/
structure Fi (P : Program) (w : World) (K : PySem.W.Frag) (mg : Str → Option Value) (base : Heap) (CX : CXT) (k : Nat) (c : Str) (sp : SpT) : Prop where
  ok : ∃ fd ps, FnOk P w K mg base CX k (He.ma K (He.ga K c) "__init__") fd ps (lSp K sp) ∧ Binds K fd ps []
  mkr : Mk K (He.ga K c) (He.ma K (He.ga K c) "__init__")
  m : mg c = some (.ref (He.ga K c))
def tMe (C : Addr) (fl : List Str) (sp : SpT) (te : TEt) (ta : TAt) : TEt := fun τ M Q => te τ M fun x M1 => oObj M1 x fun _ C' _ fl' _ => C' = C ∧ fl' = fl ∧ ta τ M1 fun ys M2 => sp (x :: ys) M2 Q Et0
def tMk (C : Addr) (fl : List Str) (sp : SpT) (ta : TAt) : TEt := fun τ M Q => ta τ M fun ys M1 => ∀ x dx, M1 x = none → sp (.ref x :: ys) (mup M1 x (.obj C dx fl [])) (fun v M2 => v = .non ∧ Q (.ref x) M2) Et0
def tAlt (t u : TEt) : TEt := fun τ M Q => t τ M Q ∨ u τ M Q
section
variable {X : Cx} {E : XK} {Et : XT} {e : Expr} {es : List Expr} {pos apos p : Pos} {te : TEt} {ta : TAt} {fl : List Str} {c m : Str} {sp : SpT} {k : Nat} {o : Expr}
theorem lv_meth {E' : XK} {to : TEt} (hm : m ∉ fl) : ∀ σ H Q, liftE X.K E Et (tMe (He.ga X.K c) fl sp to ta) σ H Q → tMeth (He.ga X.K c) m (lSp X.K sp) [] E' (liftE X.K E Et to) (liftA X.K E Et ta) σ H Q := by
  rintro σ H Q ⟨G, F, M, τ, Qt, a, h, k⟩
  refine ⟨G, F, M, τ, _, a, h, fun x F1 H1 M1 d s1 r1 p1 q1 => ?_⟩
  obtain ⟨b, C, dx, fl', ds, rfl, hM, rfl, rfl, q5⟩ := oObj_e q1
  cases p1
  obtain ⟨_, u, hu, r⟩ := r1.chg b _ hM
  · obtain ⟨fs, rfl, nd, hn, rr⟩ := RpO_obj r
    refine ⟨b, dx, fs, rfl, hu, look_not (by rw [hn]; exact fun z => hm (List.mem_of_mem_take z)), G, F1, M1, τ, _, a.step s1 r1, q5, fun vs F2 H2 M2 ys s2 r2 p2 q2 => ?_⟩
    show lSp X.K sp (.ref b :: (vs ++ [])) H2 Q E'
    rw [List.append_nil]
    exact ⟨G, F2, M2, .ref b :: ys, Qt, Et0, r2, .cons (.ref b) p2, .never, q2, fun v F' H' M' d s => k v F' H' M' d ((s1.trans s2).trans s)⟩
theorem q_meth (fl : List Str) (Fo : Fm X.prog X.w X.K X.mg X.base CX0 k c m sp) (hr : Room k X.A) {to : TEt} (he : QE X E Et o to) (ha : QA X E Et (e :: es) ta) (hm : m ∉ fl := by decide)
    (hst : starEach (e :: es) X.env = (false, eval e X.env) :: starEach es X.env := by rfl) (hpl : (backTo pos (starEach es X.env)).any (·.1) = false := by rfl)
    {pl : Sem Bool} (ht : eval (.Call (.Attribute o m apos) (e :: es) [] pos) X.env = (do
      let ov ← eval o X.env
      standAt apos.atName
      let (f, first) ← holding [ov] (getMethod ov m pl)
      callWith pos f first (backTo pos (starEach (e :: es) X.env)) (backToKw pos (keywordEach [] X.env))) := by rfl) :
    QE X E Et (.Call (.Attribute o m apos) (e :: es) [] pos) (tMe (He.ga X.K c) fl sp to ta) := by
  obtain ⟨⟨fd, ps, F1, b⟩, me, cl⟩ := Fo
  exact PEimp (pe_meth he cl me F1 hr b .nil pass0 ha hst hpl ht) (lv_meth hm)
theorem q_meth0 (fl : List Str) (Fo : Fm X.prog X.w X.K X.mg X.base CX0 k c m sp) (hr : Room k X.A) {to : TEt} (he : QE X E Et o to) (hm : m ∉ fl := by decide)
    {pl : Sem Bool} (ht : eval (.Call (.Attribute o m apos) [] [] pos) X.env = (do
      let ov ← eval o X.env
      standAt apos.atName
      let (f, first) ← holding [ov] (getMethod ov m pl)
      callWith pos f first (backTo pos (starEach [] X.env)) (backToKw pos (keywordEach [] X.env))) := by rfl) :
    QE X E Et (.Call (.Attribute o m apos) [] [] pos) (tMe (He.ga X.K c) fl sp to tN) := by
  obtain ⟨⟨fd, ps, F1, b⟩, me, cl⟩ := Fo
  refine PEimp (pe_meth0 he cl me F1 hr b .nil pass0 ht) ?_
  rintro σ H Q h
  obtain ⟨hx⟩ : Nonempty Unit := ⟨()⟩
  obtain ⟨G, F, M, τ, Qt, a, h, k⟩ := h
  refine ⟨G, F, M, τ, _, a, h, fun x F1 H1 M1 d s1 r1 p1 q1 => ?_⟩
  obtain ⟨b', C, dx, fl', ds, rfl, hM, rfl, rfl, q5⟩ := oObj_e q1
  cases p1
  obtain ⟨_, u, hu, r⟩ := r1.chg b' _ hM
  · obtain ⟨fs, rfl, nd, hn, rr⟩ := RpO_obj r
    refine ⟨b', dx, fs, rfl, hu, look_not (by rw [hn]; exact fun z => hm (List.mem_of_mem_take z)), ?_⟩
    exact ⟨G, F1, M1, [.ref b'], Qt, Et0, r1, .cons (.ref b') .nil, .never, q5, fun v F' H' M' d s => k v F' H' M' d (s1.trans s)⟩
theorem lv_make1 {E' : XK} {H1 : Hp} {F1 G : Hp} {M1 : MH} {ys : List D} {vs : List V} {Q : VK} {Qt : VD} (nd : fl.Nodup) (r1 : Rel X.K G F1 H1 M1) (p1 : Rps X.K F1 vs ys)
    (h : ∀ x dx, M1 x = none → sp (.ref x :: ys) (mup M1 x (.obj (He.ga X.K c) dx fl [])) (fun v M2 => v = .non ∧ Qt (.ref x) M2) Et0)
    (k : ∀ v F' H' M' d, Same F1 F' → Rel X.K G F' H' M' → Rp X.K F' v d → Qt d M' → Q v H') :
    ∀ x dx, H1 x = none → H1 dx = none → dx ≠ x → lSp X.K sp (.ref x :: vs) (upd (upd H1 dx (.own x)) x (.ins (He.ga X.K c) dx [])) (fun v H2 => v = .non ∧ Q (.ref x) H2) E' := by
  intro x dx nx ndx ne
  obtain ⟨s2, r2⟩ := r1.newF (o := .own x) ndx
  have r3 := r2.newM (p := x) (u := .ins (He.ga X.K c) dx []) (o := .obj (He.ga X.K c) dx fl []) (by rw [upd_ne (Ne.symm ne)]; exact nx) ⟨rfl, rfl, nd, rfl, .nil⟩
  refine ⟨G, _, _, .ref x :: ys, _, Et0, r3, .cons (.ref x) (p1.mono s2), .never, h x dx (r1.free nx).2, fun v F' H' M' d s r p q => ?_⟩
  obtain ⟨rfl, q⟩ := q
  cases p
  exact ⟨rfl, k _ F' H' M' (.ref x) (s2.trans s) r (.ref x) q⟩
theorem q_make (fl : List Str) (Fo : Fi X.prog X.w X.K X.mg X.base CX0 k c sp) (hr : Room (k + 1) X.A) (ha : QA X E Et (e :: es) ta) (hg : Gl X c := by rfl) (nd : fl.Nodup := by decide) (hdb : (c == ("__debug__" : Str)) = false := by decide)
    (he : starEach (e :: es) X.env = (false, eval e X.env) :: starEach es X.env := by rfl) (hpl : (backTo pos (starEach es X.env)).any (·.1) = false := by rfl) : QE X E Et (.Call (.Name c p) (e :: es) [] pos) (tMk (He.ga X.K c) fl sp ta) := by
  obtain ⟨⟨fd, ps, F1, b⟩, mk, m⟩ := Fo
  refine PEimp (pe_make mk F1 hr hg m b .nil pass0 ha hdb he hpl) ?_
  rintro σ H Q ⟨G, F, M, τ, Qt, a, h, k⟩
  refine ⟨G, F, M, τ, _, a, h, fun vs F1 H1 M1 ys s1 r1 p1 q1 => ?_⟩
  intro x dx nx ndx ne
  show lSp X.K sp (.ref x :: (vs ++ [])) _ _ E0
  rw [List.append_nil]
  exact lv_make1 nd r1 p1 q1 (fun v F' H' M' d s => k v F' H' M' d (s1.trans s)) x dx nx ndx ne
theorem q_make0 (fl : List Str) (Fo : Fi X.prog X.w X.K X.mg X.base CX0 k c sp) (hr : Room (k + 1) X.A) (hg : Gl X c := by rfl) (nd : fl.Nodup := by decide) (hdb : (c == ("__debug__" : Str)) = false := by decide) :
    QE X E Et (.Call (.Name c p) [] [] pos) (tMk (He.ga X.K c) fl sp tN) := by
  obtain ⟨⟨fd, ps, F1, b⟩, mk, m⟩ := Fo
  refine PEimp (pe_make0 mk F1 hr hg m b .nil pass0 hdb) ?_
  rintro σ H Q ⟨G, F, M, τ, Qt, a, h, k⟩
  intro x dx nx ndx ne
  exact lv_make1 nd a.rel .nil h k x dx nx ndx ne
end
section
variable {P : Program} {w : World} {K : PySem.W.Frag} {mg : Str → Option Value} {base : Heap} {c m : Str} {N ps : List Str} {k : Nat} {sp : SpT} {fa : List He.Fa} {fn : List He.DefD}
theorem Top.cls (T : Top fa fn K mg) (i : Nat) {x : Str} (h : fa[i]? = some (.cls x) := by rfl) : Cls K (He.ga K x) := He.cls_ok (T.says.fact i h)
theorem Top.noat (T : Top fa fn K mg) (i : Nat) {x f : Str} (h : fa[i]? = some (.noat x f) := by rfl) : NoAttr K (He.ga K x) f := He.noat_ok (T.says.fact i h)
theorem Top.meth (T : Top fa fn K mg) (i : Nat) {x f : Str} (h : fa[i]? = some (.meth x f) := by rfl) : Meth K (He.ga K x) f (He.ma K (He.ga K x) f) := He.meth_ok (T.says.fact i h)
theorem Top.mkr (T : Top fa fn K mg) (i : Nat) {x : Str} (h : fa[i]? = some (.mkr x) := by rfl) : Mk K (He.ga K x) (He.ma K (He.ga K x) "__init__") := He.mkr_ok (T.says.fact i h)
/-- THE RULE of a method's code, at whatever place -/
theorem fa_top (T : Top fa fn K mg) (d : He.DefD) (i : Nat) (S : FnScope N ps d.scope) (len : ∀ ds M Q Et, sp ds M Q Et → ds.length = ps.length)
    (hb : ∀ (cdv : Value) (A : Around) (outer : List Env) (s : Shared) (H : Hp) (E : XK), Room k (A.deeper (envOfC d.qual d.scope s.heap.objs.size (He.fAd K d.at_) cdv)) →
      ∃ t, QSs (cxOf CX0 P w K mg base N d.qual d.scope (He.fAd K d.at_) cdv A outer s H E).nox E0 Et0 d.body t ∧ ∀ ds M Q Et, sp ds M Q Et → t { nx := fun _ M' => Q .non M', rt := Q } (begin_ N ds) M)
    (bd : ∀ (kV doc pm : Value) (an : Option Addr) (cdv ct : Value) (us : List Value), us.length = ps.length → bindArgs (PySem.W.fnOf d.name d.qual d.params d.body d.scope .none kV doc pm an cdv ct) ⟨us, []⟩ = pure (ps.zip us))
    (h : fn[i]? = some d := by rfl) (h0 : d.dfl = [] := by rfl) (h1 : d.kwd = [] := by rfl) : ∃ fd ps, FnOk P w K mg base CX0 (k + 1) (He.fAd K d.at_) fd ps (lSp K sp) ∧ Binds K fd ps [] := by
  obtain ⟨fd, F⟩ := T.says.def_ i h
  have e0 : d.dvs K = [] := by unfold He.DefD.dvs; rw [h0]; rfl
  have e1 : d.kws K = [] := by unfold He.DefD.kws; rw [h1]; rfl
  rw [e0, e1] at F
  exact ⟨fd, ps, fn_ok d fd F S len hb, F.bindsN bd⟩
theorem fm_top (T : Top fa fn K mg) (d : He.DefD) (i : Nat) (S : FnScope N ps d.scope) (me : Meth K (He.ga K c) m (He.ma K (He.ga K c) m)) (cl : Cls K (He.ga K c)) (len : ∀ ds M Q Et, sp ds M Q Et → ds.length = ps.length)
    (hb : ∀ (cdv : Value) (A : Around) (outer : List Env) (s : Shared) (H : Hp) (E : XK), Room k (A.deeper (envOfC d.qual d.scope s.heap.objs.size (He.fAd K d.at_) cdv)) →
      ∃ t, QSs (cxOf CX0 P w K mg base N d.qual d.scope (He.fAd K d.at_) cdv A outer s H E).nox E0 Et0 d.body t ∧ ∀ ds M Q Et, sp ds M Q Et → t { nx := fun _ M' => Q .non M', rt := Q } (begin_ N ds) M)
    (bd : ∀ (kV doc pm : Value) (an : Option Addr) (cdv ct : Value) (us : List Value), us.length = ps.length → bindArgs (PySem.W.fnOf d.name d.qual d.params d.body d.scope .none kV doc pm an cdv ct) ⟨us, []⟩ = pure (ps.zip us))
    (h : fn[i]? = some d := by rfl) (h0 : d.dfl = [] := by rfl) (h1 : d.kwd = [] := by rfl) (hx : d.at_ = (c, some m) := by rfl) : Fm P w K mg base CX0 (k + 1) c m sp := by
  have z := fa_top (P := P) (w := w) (base := base) T d i S len hb bd h h0 h1
  rw [hx] at z
  exact ⟨z, me, cl⟩
theorem fi_top (T : Top fa fn K mg) (d : He.DefD) (i : Nat) (S : FnScope N ps d.scope) (mk : Mk K (He.ga K c) (He.ma K (He.ga K c) "__init__")) (hm : mg c = some (.ref (He.ga K c))) (len : ∀ ds M Q Et, sp ds M Q Et → ds.length = ps.length)
    (hb : ∀ (cdv : Value) (A : Around) (outer : List Env) (s : Shared) (H : Hp) (E : XK), Room k (A.deeper (envOfC d.qual d.scope s.heap.objs.size (He.fAd K d.at_) cdv)) →
      ∃ t, QSs (cxOf CX0 P w K mg base N d.qual d.scope (He.fAd K d.at_) cdv A outer s H E).nox E0 Et0 d.body t ∧ ∀ ds M Q Et, sp ds M Q Et → t { nx := fun _ M' => Q .non M', rt := Q } (begin_ N ds) M)
    (bd : ∀ (kV doc pm : Value) (an : Option Addr) (cdv ct : Value) (us : List Value), us.length = ps.length → bindArgs (PySem.W.fnOf d.name d.qual d.params d.body d.scope .none kV doc pm an cdv ct) ⟨us, []⟩ = pure (ps.zip us))
    (h : fn[i]? = some d := by rfl) (h0 : d.dfl = [] := by rfl) (h1 : d.kwd = [] := by rfl) (hx : d.at_ = (c, some ("__init__" : Str)) := by rfl) : Fi P w K mg base CX0 (k + 1) c sp := by
  have z := fa_top (P := P) (w := w) (base := base) T d i S len hb bd h h0 h1
  rw [hx] at z
  exact ⟨z, mk, hm⟩
end
/-! ### readings, for simp -/
section
variable {τ : Sg} {M : MH} {Q : VD} {te tv : TEt} {ta : TAt} {P : Addr → Prop} {fl : List Str} {i : Nat} {a C dx : Addr} {ds : List D} {sp : SpT}
def oAt (o : Option MO) (k : Addr → Addr → List Str → List D → Prop) : Prop := match o with
  | some (.obj C dx fl ds) => k C dx fl ds
  | _ => False
theorem uObj {k : Addr → Addr → Addr → List Str → List D → Prop} : oObj M (.ref a) k = oAt (M a) (k a) := by
  show (match M a with | some (.obj C dx fl ds) => k a C dx fl ds | _ => False) = oAt (M a) (k a)
  cases M a with
  | none => rfl
  | some o => cases o <;> rfl
theorem oAt_i {k : Addr → Addr → List Str → List D → Prop} : oAt (some (.obj C dx fl ds)) k = k C dx fl ds := propext Iff.rfl
theorem cxK {CX : CXT} {P : Program} {w : World} {K : PySem.W.Frag} {mg : Str → Option Value} {base : Heap} {N : List Str} {qual : Str} {scope : Scope} {f : Addr} {cdv : Value} {A : Around} {outer : List Env} {s : Shared} {H : Hp} {E : XK} : (cxOf CX P w K mg base N qual scope f cdv A outer s H E).K = K := rfl
theorem cxKn {CX : CXT} {P : Program} {w : World} {K : PySem.W.Frag} {mg : Str → Option Value} {base : Heap} {N : List Str} {qual : Str} {scope : Scope} {f : Addr} {cdv : Value} {A : Around} {outer : List Env} {s : Shared} {H : Hp} {E : XK} : (cxOf CX P w K mg base N qual scope f cdv A outer s H E).nox.K = K := rfl
theorem uAlt {t u : TEt} : tAlt t u τ M Q = (t τ M Q ∨ u τ M Q) := propext Iff.rfl
end
end Tl
namespace Tl
open PySem PySem.Spec PyProof.Rows L2
/-! ### == of nested data -/
mutual
def pyD : D → Option PyData
  | .non => some .none
  | .bl b => some (.bool b)
  | .int i => some (.int i)
  | .str s => some (.str s)
  | .tup l => (pyDs l).map .tuple
  | .tab l => (pyDs l).map .tuple
  | .lst l => (pyDs l).map .list
  | .scr l => (pyDs l).map .list
  | .ref _ => none
  | .ty _ => none
def pyDs : List D → Option (List PyData)
  | [] => some []
  | x :: t => match pyD x, pyDs t with
    | some a, some b => some (a :: b)
    | _, _ => none
end
def pyM (M : MH) (d : D) : Option PyData := match d with
  | .ref a => match M a with
    | some (.lst ds) => (pyDs ds).map .list
    | _ => none
  | d => pyD d
section
variable {K : PySem.W.Frag} {F H : Hp}
mutual
theorem Rp.dp (s : Same F H) : ∀ {v : V} {d : D} {y : PyData}, Rp K F v d → pyD d = some y → Dp K H v y
  | _, _, _, .non, e => by unfold pyD at e; cases e; exact .non
  | _, _, _, .bl b, e => by unfold pyD at e; cases e; exact .bl b
  | _, _, _, .int i, e => by unfold pyD at e; cases e; exact .int i
  | _, _, _, .str x, e => by unfold pyD at e; cases e; exact .str x
  | _, _, _, .ty n, e => by unfold pyD at e; cases e
  | _, _, _, .ref a, e => by unfold pyD at e; cases e
  | _, _, _, .tup h r, e => by
    unfold pyD at e
    obtain ⟨ys, e2, rfl⟩ := Option.map_eq_some_iff.mp e
    exact .tup (SqT.of (s _ _ h)) (Rps.dp s r e2)
  | _, _, _, .tab h r, e => by
    unfold pyD at e
    obtain ⟨ys, e2, rfl⟩ := Option.map_eq_some_iff.mp e
    exact .tup (SameT s h) (Rps.dp s r e2)
  | _, _, _, .lst h r, e => by
    unfold pyD at e
    obtain ⟨ys, e2, rfl⟩ := Option.map_eq_some_iff.mp e
    exact .lst (SqL.of (s _ _ h)) (Rps.dp s r e2)
  | _, _, _, .scr h r, e => by
    unfold pyD at e
    obtain ⟨ys, e2, rfl⟩ := Option.map_eq_some_iff.mp e
    exact .lst (s.seq h) (Rps.dp s r e2)
theorem Rps.dp (s : Same F H) : ∀ {vs : List V} {ds : List D} {ys : List PyData}, Rps K F vs ds → pyDs ds = some ys → DpAll K H vs ys
  | _, _, _, .nil, e => by unfold pyDs at e; cases e; exact .nil
  | _, _, _, .cons (d := d) (ds := ds) h t, e => by
    unfold pyDs at e
    cases q : pyD d with
    | none => simp only [q] at e; cases e
    | some a =>
      cases q2 : pyDs ds with
      | none => simp only [q, q2] at e; cases e
      | some b =>
        simp only [q, q2] at e
        cases e
        exact .cons (Rp.dp s h q) (Rps.dp s t q2)
end
theorem dp_of {G : Hp} {M : MH} {v : V} {d : D} {y : PyData} (R : Rel K G F H M) (p : Rp K F v d) (e : pyM M d = some y) : Dp K H v y := by
  cases d with
  | ref a =>
    cases p
    unfold pyM at e
    cases q : M a with
    | none => simp only [q] at e; cases e
    | some o =>
      simp only [q] at e
      obtain ⟨_, u, hu, r⟩ := R.chg a o q
      cases o with
      | lst ds =>
        obtain ⟨ys, e2, rfl⟩ := Option.map_eq_some_iff.mp e
        cases u with
        | lst vs => exact .lst (SqL.of hu) (Rps.dp R.sub r e2)
        | _ => exact (r : False).elim
      | _ => cases e
  | _ => exact Rp.dp R.sub p e
end
def bEqD : R2t := fun x y M Q => match pyM M x, pyM M y with
  | some d, some e => SeqAt.shaped d = true ∧ SeqAt.shaped e = true ∧ Q (.bl (PyData.eqv d e)) M
  | _, _ => False
def bNeD : R2t := fun x y M Q => match pyM M x, pyM M y with
  | some d, some e => SeqAt.shaped d = true ∧ SeqAt.shaped e = true ∧ Q (.bl (!PyData.eqv d e)) M
  | _, _ => False
section
variable {X : Cx}
theorem oq_eqD (hu : X.A.units + 64 < cLine) : OpQ X (compareOp .Eq) bEqD := OpRimp (op_eqD hu) (by
  rintro x y H Q ⟨G, F, M, dx, dy, Qt, R, px, py, h, k⟩
  unfold bEqD at h
  cases e1 : pyM M dx with
  | none => simp only [e1] at h
  | some d =>
    cases e2 : pyM M dy with
    | none => simp only [e1, e2] at h
    | some e =>
      simp only [e1, e2] at h
      exact ⟨d, e, dp_of R px e1, dp_of R py e2, h.1, h.2.1, k _ F H M _ (Same.refl _) R (.bl _) h.2.2⟩)
theorem oq_neD (hu : X.A.units + 64 < cLine) : OpQ X (compareOp .NotEq) bNeD := OpRimp (op_neD hu) (by
  rintro x y H Q ⟨G, F, M, dx, dy, Qt, R, px, py, h, k⟩
  unfold bNeD at h
  cases e1 : pyM M dx with
  | none => simp only [e1] at h
  | some d =>
    cases e2 : pyM M dy with
    | none => simp only [e1, e2] at h
    | some e =>
      simp only [e1, e2] at h
      exact ⟨d, e, dp_of R px e1, dp_of R py e2, h.1, h.2.1, k _ F H M _ (Same.refl _) R (.bl _) h.2.2⟩)
end
/-! data whose == is sameness: its texts are texts, its nesting is below n -/
mutual
def okD : Nat → D → Prop
  | _, .non => True
  | _, .int _ => True
  | _, .bl _ => True
  | _, .str s => PyData.strOk s = true
  | n + 1, .tup l => okDs n l
  | n + 1, .lst l => okDs n l
  | n + 1, .scr l => okDs n l
  | n + 1, .tab l => okDs n l
  | _, _ => False
def okDs : Nat → List D → Prop
  | _, [] => True
  | n, x :: t => okD n x ∧ okDs n t
end
mutual
theorem okD_py : ∀ (n : Nat) (d : D), okD n d → ∃ y, pyD d = some y ∧ y.canLay0 = true ∧ y.depth ≤ n
  | n, .non, _ => ⟨.none, by unfold pyD; rfl, by unfold PyData.canLay0; rfl, by unfold PyData.depth; omega⟩
  | n, .int i, _ => ⟨.int i, by unfold pyD; rfl, by unfold PyData.canLay0; rfl, by unfold PyData.depth; omega⟩
  | n, .bl b, _ => ⟨.bool b, by unfold pyD; rfl, by unfold PyData.canLay0; rfl, by unfold PyData.depth; omega⟩
  | n, .str s, h => ⟨.str s, by unfold pyD; rfl, by unfold PyData.canLay0; unfold okD at h; exact h, by unfold PyData.depth; omega⟩
  | n + 1, .tup l, h => by
    unfold okD at h
    obtain ⟨ys, e, c, dp⟩ := okDs_py n l h
    exact ⟨.tuple ys, by unfold pyD; rw [e]; rfl, by unfold PyData.canLay0; exact c, by unfold PyData.depth; omega⟩
  | n + 1, .tab l, h => by
    unfold okD at h
    obtain ⟨ys, e, c, dp⟩ := okDs_py n l h
    exact ⟨.tuple ys, by unfold pyD; rw [e]; rfl, by unfold PyData.canLay0; exact c, by unfold PyData.depth; omega⟩
  | n + 1, .lst l, h => by
    unfold okD at h
    obtain ⟨ys, e, c, dp⟩ := okDs_py n l h
    exact ⟨.list ys, by unfold pyD; rw [e]; rfl, by unfold PyData.canLay0; exact c, by unfold PyData.depth; omega⟩
  | n + 1, .scr l, h => by
    unfold okD at h
    obtain ⟨ys, e, c, dp⟩ := okDs_py n l h
    exact ⟨.list ys, by unfold pyD; rw [e]; rfl, by unfold PyData.canLay0; exact c, by unfold PyData.depth; omega⟩
  | 0, .tup l, h => by unfold okD at h; exact h.elim
  | 0, .tab l, h => by unfold okD at h; exact h.elim
  | 0, .lst l, h => by unfold okD at h; exact h.elim
  | 0, .scr l, h => by unfold okD at h; exact h.elim
  | _, .ref _, h => by unfold okD at h; exact h.elim
  | _, .ty _, h => by unfold okD at h; exact h.elim
theorem okDs_py : ∀ (n : Nat) (l : List D), okDs n l → ∃ ys, pyDs l = some ys ∧ PyData.canLayAll0 ys = true ∧ PyData.depthAll ys ≤ n
  | n, [], _ => ⟨[], by unfold pyDs; rfl, by unfold PyData.canLayAll0; rfl, by unfold PyData.depthAll; omega⟩
  | n, x :: t, h => by
    unfold okDs at h
    obtain ⟨y, e1, c1, d1⟩ := okD_py n x h.1
    obtain ⟨ys, e2, c2, d2⟩ := okDs_py n t h.2
    exact ⟨y :: ys, by unfold pyDs; rw [e1, e2], by unfold PyData.canLayAll0; rw [c1, c2]; rfl, by unfold PyData.depthAll; omega⟩
end
theorem okDs_of {n : Nat} : ∀ {l : List D}, (∀ x ∈ l, okD n x) → okDs n l
  | [], _ => by unfold okDs; trivial
  | x :: t, h => by unfold okDs; exact ⟨h x (List.mem_cons_self ..), okDs_of fun y hy => h y (List.mem_cons_of_mem _ hy)⟩
/-- a frozen thing, or a changing list of frozen things -/
def asD (M : MH) (d : D) : Option D := match d with
  | .ref a => match M a with
    | some (.lst ds) => some (.lst ds)
    | _ => none
  | d => some d
theorem pyM_asD {M : MH} {d e : D} (h : asD M d = some e) : pyM M d = pyD e := by
  cases d with
  | ref a =>
    unfold asD at h
    unfold pyM
    cases q : M a with
    | none => simp only [q] at h; cases h
    | some o => cases o <;> simp only [q] at h ⊢ <;> cases h; unfold pyD; rfl
  | _ => cases h; rfl
theorem eqD_same {M : MH} {x y z : D} {Q : VD} (n : Nat) (hx : asD M x = some z) (hy : asD M y = some z) (ok : okD n z) (h : Q (.bl true) M) (hn : n ≤ 64 := by decide) : bEqD x y M Q := by
  obtain ⟨d, e, c, dp⟩ := okD_py n z ok
  unfold bEqD
  simp only [pyM_asD hx, pyM_asD hy, e]
  have sh : SeqAt.shaped d = true := Bool.and_eq_true_iff.mpr ⟨c, decide_eq_true (by omega)⟩
  exact ⟨sh, sh, by rw [SeqAt.eqv_refl d c]; exact h⟩
theorem neD_same {M : MH} {x y z : D} {Q : VD} (n : Nat) (hx : asD M x = some z) (hy : asD M y = some z) (ok : okD n z) (h : Q (.bl false) M) (hn : n ≤ 64 := by decide) : bNeD x y M Q := by
  obtain ⟨d, e, c, dp⟩ := okD_py n z ok
  unfold bNeD
  simp only [pyM_asD hx, pyM_asD hy, e]
  have sh : SeqAt.shaped d = true := Bool.and_eq_true_iff.mpr ⟨c, decide_eq_true (by omega)⟩
  exact ⟨sh, sh, by rw [SeqAt.eqv_refl d c]; exact h⟩
/-- what was made and is needed no more -/
theorem ReR.new {K : PySem.W.Frag} {d : D} {M : MH} {a : Addr} {o : MO} (h : M a = none) : ReR K d (mup M a o) d M := ReR.drop fun b o' e => by
  rw [mup_ne (by rintro rfl; rw [h] at e; cases e)]; exact e
theorem wd60 {i j : Int} (h : 0 < j) (hj : j < 2 ^ 60) : CDivW i j := wide_div (b := 60) h (by omega) (by decide) (by decide)
theorem modB {a b : Int} (h : 0 < b) : 0 ≤ a % b ∧ a % b < b := ⟨Int.emod_nonneg _ (by omega), Int.emod_lt_of_pos _ h⟩
theorem cut_tail {x : D} {t : List D} : Tl.cutD (x :: t) (some 1) none = t := by
  unfold Tl.cutD
  rw [show (1 : Int) = ((1 : Nat) : Int) from rfl, HT.sIx_nat, HT.sIx_none]
  simp
theorem un64 {k : Nat} {A : Around} (hr : Room k A) : A.units + 64 < cLine := hr.units
end Tl
namespace Tl
open PySem PySem.Spec PyProof.Rows L2
/-! ### dicts -/
section
variable {κ : Type} [DecidableEq κ]
def valD (kvs : List (κ × D)) (k : κ) : Option D := (kvs.find? fun kv => decide (kv.1 = k)).map (·.2)
def putM (kvs : List (κ × D)) (k : κ) (v : D) : List (κ × D) :=
  if (kvs.any fun kv => decide (kv.1 = k)) = true then kvs.map (fun kv => if kv.1 = k then (kv.1, v) else kv) else kvs ++ [(k, v)]
theorem valD_pos {p : κ × D} {r : List (κ × D)} {k : κ} (e : p.1 = k) : valD (p :: r) k = some p.2 := by simp [valD, List.find?_cons, e]
theorem valD_neg {p : κ × D} {r : List (κ × D)} {k : κ} (e : ¬ p.1 = k) : valD (p :: r) k = valD r k := by simp [valD, List.find?_cons, e]
abbrev KP (K : PySem.W.Frag) (F : Hp) (vs : List (κ × V)) (ds : List (κ × D)) : Prop := Paired (fun (p : κ × V) (q : κ × D) => p.1 = q.1 ∧ Rp K F p.2 q.2) vs ds
variable {K : PySem.W.Frag} {F : Hp}
theorem kp_val {k : κ} : ∀ {vs : List (κ × V)} {ds : List (κ × D)}, KP K F vs ds → (valD ds k = none → valV vs k = none) ∧ ∀ d, valD ds k = some d → ∃ v, valV vs k = some v ∧ Rp K F v d
  | _, _, .nil => ⟨fun _ => rfl, fun _ h => by cases h⟩
  | _, _, .cons (a := p) (b := q) r t => by
    have ih := kp_val (k := k) t
    by_cases e : q.1 = k
    · rw [valD_pos e, valV_pos (r.1.trans e)]
      exact ⟨fun h => (by cases h), fun d h => (by cases h; exact ⟨_, rfl, r.2⟩)⟩
    · rw [valD_neg e, valV_neg (fun h => e (r.1.symm.trans h))]
      exact ih
theorem kp_any {k : κ} : ∀ {vs : List (κ × V)} {ds : List (κ × D)}, KP K F vs ds → (vs.any fun kv => decide (kv.1 = k)) = (ds.any fun kv => decide (kv.1 = k))
  | _, _, .nil => rfl
  | _, _, .cons r t => by rw [List.any_cons, List.any_cons, r.1, kp_any t]
theorem kp_map {k : κ} {v : V} {d : D} (rv : Rp K F v d) : ∀ {vs : List (κ × V)} {ds : List (κ × D)}, KP K F vs ds → KP K F (vs.map fun kv => if kv.1 = k then (kv.1, v) else kv) (ds.map fun kv => if kv.1 = k then (kv.1, d) else kv)
  | _, _, .nil => .nil
  | _, _, .cons (a := p) (b := q) r t => by
    refine .cons ?_ (kp_map rv t)
    dsimp only
    by_cases e : q.1 = k
    · rw [if_pos e, if_pos (r.1.trans e)]; exact ⟨r.1, rv⟩
    · rw [if_neg e, if_neg (fun h => e (r.1.symm.trans h))]; exact r
theorem kp_app {vs ws : List (κ × V)} {ds es : List (κ × D)} (h : KP K F vs ds) (h2 : KP K F ws es) : KP K F (vs ++ ws) (ds ++ es) := by
  induction h with
  | nil => exact h2
  | cons r t ih => exact .cons r ih
theorem kp_put {k : κ} {v : V} {d : D} (rv : Rp K F v d) {vs : List (κ × V)} {ds : List (κ × D)} (h : KP K F vs ds) : KP K F (putK vs k v) (putM ds k d) := by
  unfold putK putM
  rw [kp_any h]
  split
  · exact kp_map rv h
  · exact kp_app h (.cons ⟨rfl, rv⟩ .nil)
theorem kp_len {vs : List (κ × V)} {ds : List (κ × D)} (h : KP K F vs ds) : vs.length = ds.length := by
  induction h with
  | nil => rfl
  | cons r t ih => rw [List.length_cons, List.length_cons, ih]
end
def k1 : D → Option Key
  | .int i => some (.inl i)
  | .str s => some (.inr s)
  | _ => none
def kT : List D → Option (List Key)
  | [] => some []
  | x :: t => match k1 x, kT t with
    | some a, some b => some (a :: b)
    | _, _ => none
section
variable {K : PySem.W.Frag} {F : Hp}
theorem k1_of {v : V} {d : D} {k : Key} (p : Rp K F v d) (e : k1 d = some k) : v = kV k := by
  cases p <;> first | (cases e; rfl) | cases e
theorem kT_of : ∀ {vs : List V} {ds : List D} {ks : List Key}, Rps K F vs ds → kT ds = some ks → vs = ks.map kV
  | _, _, _, .nil, e => by cases e; rfl
  | _, _, _, .cons (d := d) (ds := ds) h t, e => by
    unfold kT at e
    cases q : k1 d with
    | none => simp only [q] at e; cases e
    | some a =>
      cases q2 : kT ds with
      | none => simp only [q, q2] at e; cases e
      | some b =>
        simp only [q, q2] at e
        cases e
        rw [k1_of h q, kT_of t q2]; rfl
end
/-- what the dict o holds at the key k -/
def oDA (o : Option MO) (k : D) (f : Option D → Prop) : Prop := match o with
  | some (.dK kvs) => match k1 k with
    | some c => f (valD kvs c)
    | none => False
  | some (.lk _ _ kvs) => match k1 k with
    | some c => f (valD kvs c)
    | none => False
  | some (.dT kvs) => match k with
    | .tup ds => match kT ds with
      | some c => f (valD kvs c)
      | none => False
    | _ => False
  | _ => False
def oDic (M : MH) (x k : D) (f : Option D → Prop) : Prop := match x with
  | .ref a => oDA (M a) k f
  | _ => False
def oPA (o : Option MO) (k d : D) (f : MO → Prop) : Prop := match o with
  | some (.dK kvs) => match k1 k with
    | some c => kvs.length < sizeLine ∧ f (.dK (putM kvs c d))
    | none => False
  | some (.dT kvs) => match k with
    | .tup ds => match kT ds with
      | some c => kvs.length < sizeLine ∧ f (.dT (putM kvs c d))
      | none => False
    | _ => False
  | _ => False
def isDic : MO → Prop
  | .dK _ => True
  | .dT _ => True
  | _ => False
theorem dic_of {K : PySem.W.Frag} {G F H : Hp} {M : MH} {a : Addr} {k : D} {y : V} {f : Option D → Prop} (R : Rel K G F H M) (p : Rp K F y k) (h : oDA (M a) k f) : ∃ o r, DGet H a y o ∧ f r ∧ (r = none → o = none) ∧ ∀ d, r = some d → ∃ v, o = some v ∧ Rp K F v d := by
  cases q : M a with
  | none => rw [q] at h; exact h.elim
  | some mo =>
    rw [q] at h
    obtain ⟨_, u, hu, r⟩ := R.chg a mo q
    cases mo with
    | dK kvs =>
      unfold oDA at h
      dsimp only at h
      cases q2 : k1 k with
      | none => simp only [q2] at h
      | some c =>
        simp only [q2] at h
        cases u with
        | dK vs =>
          have e := k1_of p q2
          subst e
          exact ⟨_, _, DGet.k hu, h, (kp_val r).1, (kp_val r).2⟩
        | _ => exact (r : False).elim
    | lk ob0 ks kvs =>
      unfold oDA at h
      dsimp only at h
      cases q2 : k1 k with
      | none => simp only [q2] at h
      | some c =>
        simp only [q2] at h
        cases u with
        | frz ob u =>
          obtain ⟨_, rfl, r2⟩ := (show ob = ob0 ∧ RpLk K F u ks kvs from r)
          have e := k1_of p q2
          subst e
          exact ⟨_, _, .inl ⟨ks, _, .inr ⟨ob, hu⟩, rfl, rfl⟩, h, (kp_val r2).1, (kp_val r2).2⟩
        | _ => exact (r : False).elim
    | dT kvs =>
      cases k with
      | tup ds =>
        unfold oDA at h
        dsimp only at h
        cases q2 : kT ds with
        | none => simp only [q2] at h
        | some c =>
          simp only [q2] at h
          cases u with
          | dT vs =>
            cases p with
            | tup hb rs =>
              have e := kT_of rs q2
              subst e
              exact ⟨_, _, DGet.t hu (R.sub _ _ hb), h, (kp_val r).1, (kp_val r).2⟩
          | _ => exact (r : False).elim
      | _ => exact h.elim
    | _ => exact h.elim
theorem put_of {K : PySem.W.Frag} {G F H : Hp} {M : MH} {a : Addr} {k d : D} {y v : V} {f : MO → Prop} (R : Rel K G F H M) (p : Rp K F y k) (pv : Rp K F v d) (h : oPA (M a) k d f) : ∃ o u, DPut H a y v (upd H a u) ∧ f o ∧ Rel K G F (upd H a u) (mup M a o) := by
  cases q : M a with
  | none => rw [q] at h; exact h.elim
  | some mo =>
    rw [q] at h
    obtain ⟨_, u, hu, r⟩ := R.chg a mo q
    cases mo with
    | dK kvs =>
      unfold oPA at h
      dsimp only at h
      cases q2 : k1 k with
      | none => simp only [q2] at h
      | some c =>
        simp only [q2] at h
        cases u with
        | dK vs =>
          have e := k1_of p q2
          subst e
          have r2 : RpO K F (.dK vs) (.dK kvs) := r
          exact ⟨_, _, DPut.k hu (by rw [kp_len (show KP K F vs kvs from r2)]; exact h.1), h.2, R.put q (show RpO K F (.dK (putK vs c v)) (.dK (putM kvs c d)) from kp_put pv r2)⟩
        | _ => exact (r : False).elim
    | dT kvs =>
      cases k with
      | tup ds =>
        unfold oPA at h
        dsimp only at h
        cases q2 : kT ds with
        | none => simp only [q2] at h
        | some c =>
          simp only [q2] at h
          cases u with
          | dT vs =>
            cases p with
            | tup hb rs =>
              have e := kT_of rs q2
              subst e
              have r2 : RpO K F (.dT vs) (.dT kvs) := r
              exact ⟨_, _, DPut.t hu (R.sub _ _ hb) (by rw [kp_len (show KP K F vs kvs from r2)]; exact h.1), h.2, R.put q (show RpO K F (.dT (putK vs c v)) (.dT (putM kvs c d)) from kp_put pv r2)⟩
          | _ => exact (r : False).elim
      | _ => exact h.elim
    | _ => exact h.elim
def tDnK : TEt := fun _ M Q => ∀ p, M p = none → Q (.ref p) (mup M p (.dK []))
def tDnT : TEt := fun _ M Q => ∀ p, M p = none → Q (.ref p) (mup M p (.dT []))
def tDg (to ti : TEt) : TEt := fun τ M Q => to τ M fun x M1 => ti τ M1 fun k M2 => oDic M2 x k fun r => oSome r fun d => Q d M2
def tDi (neg : Bool) (ti to : TEt) : TEt := fun τ M Q => ti τ M fun k M1 => to τ M1 fun x M2 => oDic M2 x k fun r => Q (.bl (if neg = true then !r.isSome else r.isSome)) M2
def tDg2 (to ti tz : TEt) : TEt := fun τ M Q => to τ M fun x M1 => (∃ a o, x = .ref a ∧ M1 a = some o ∧ isDic o) ∧ ti τ M1 fun k M2 => tz τ M2 fun z M3 => oDic M3 x k fun r => Q (r.getD z) M3
def zDict : TSett := fun o i v M Q => match o with
  | .ref a => oPA (M a) i v fun mo => Q (mup M a mo)
  | _ => False
section
variable {X : Cx} {E : XK} {Et : XT} {o i z : Expr} {pos apos cpos : Pos} {to ti tz : TEt}
theorem q_dnewK : QE X E Et (.Dict [] [] pos) tDnK := PEimp pe_dnewK (by
  rintro σ H Q ⟨G, F, M, τ, Qt, a, h, k⟩ p np
  exact k _ F _ _ _ (Same.refl _) (a.rel.newM (u := .dK []) (o := .dK []) np .nil) (.ref p) (h p (a.rel.free np).2))
theorem dic_ref {M : MH} {x k : D} {f : Option D → Prop} (h : oDic M x k f) : ∃ a, x = .ref a ∧ oDA (M a) k f := by
  cases x with
  | ref a => exact ⟨a, rfl, h⟩
  | _ => exact h.elim
theorem q_dget (hu : X.A.units + 1 < cLine) (ho : QE X E Et o to) (hi : QE X E Et i ti) (hs : NoSl i := by intro _ _; rfl) : QE X E Et (.Subscript o i pos) (tDg to ti) := PEimp (pe_dget hu ho hi hs) (by
  rintro σ H Q ⟨G, F, M, τ, Qt, a, h, k⟩
  refine ⟨G, F, M, τ, _, a, h, fun x F1 H1 M1 d s1 r1 p1 q1 => ?_⟩
  refine ⟨G, F1, M1, τ, _, a.step s1 r1, q1, fun y F2 H2 M2 e s2 r2 p2 q2 => ?_⟩
  obtain ⟨b, rfl, q3⟩ := dic_ref q2
  obtain ⟨ov, r, g, hf, h0, h1⟩ := dic_of r2 p2 q3
  obtain ⟨d, rfl, q4⟩ := oSome_e hf
  obtain ⟨v, rfl, pv⟩ := h1 d rfl
  cases p1
  exact ⟨b, v, rfl, g, k v F2 H2 M2 d (s1.trans s2) r2 pv q4⟩)
theorem lv_din {neg : Bool} : ∀ σ H Q, liftE X.K E Et (tDi neg ti to) σ H Q → (liftE X.K E Et ti σ H fun y H1 => liftE X.K E Et to σ H1 fun x H2 => ∃ a o, x = .ref a ∧ DGet H2 a y o ∧ Q (.bl (if neg = true then !o.isSome else o.isSome)) H2) := by
  rintro σ H Q ⟨G, F, M, τ, Qt, a, h, k⟩
  refine ⟨G, F, M, τ, _, a, h, fun y F1 H1 M1 e s1 r1 p1 q1 => ?_⟩
  refine ⟨G, F1, M1, τ, _, a.step s1 r1, q1, fun x F2 H2 M2 d s2 r2 p2 q2 => ?_⟩
  obtain ⟨b, rfl, q3⟩ := dic_ref q2
  obtain ⟨ov, r, g, hf, h0, h1⟩ := dic_of r2 (p1.mono s2) q3
  have e : ov.isSome = r.isSome := by
    cases r with
    | none => rw [h0 rfl]; rfl
    | some d => obtain ⟨v, rfl, _⟩ := h1 d rfl; rfl
  cases p2
  exact ⟨b, ov, rfl, g, by rw [e]; exact k _ F2 H2 M2 _ (s1.trans s2) r2 (.bl _) hf⟩
theorem lv_boP {te : TEt} {t : TE} (h : ∀ σ H Q, liftE X.K E Et te σ H Q → t σ H Q) : ∀ σ H Q, liftT X.K E Et (tBo te) σ H Q → tB t σ H Q := by
  rintro σ H Q ⟨G, F, M, τ, Qt, a, w, k⟩
  unfold tB
  refine h σ H _ ⟨G, F, M, τ, _, a, w, fun v F1 H1 M1 d s1 r1 p1 q1 => ?_⟩
  cases p1 <;> first | exact (show False from q1).elim | exact ⟨_, rfl, k _ F1 H1 M1 s1 r1 q1⟩
theorem qt_din (hu : X.A.units + 1 < cLine) (hi : QE X E Et i ti) (ho : QE X E Et o to) (hm : behindInMarks .In o = false := by rfl) : QT X E Et (.Compare i [.In] [o] pos) (tBo (tDi false ti to)) := PTimp (pt_cmp (pc_din hu hi ho) hm) (lv_boP lv_din)
theorem q_dget2 (hu : X.A.units + 1 < cLine) (ho : QE X E Et o to) (hi : QE X E Et i ti) (hz : QE X E Et z tz) (m : M2 X o "get" apos i z cpos := by exact ⟨rfl, rfl, rfl, rfl⟩) : QE X E Et (.Call (.Attribute o "get" apos) [i, z] [] cpos) (tDg2 to ti tz) := PEimp (pe_dget2 hu ho hi hz m) (by
  rintro σ H Q ⟨G, F, M, τ, Qt, a, h, k⟩
  refine ⟨G, F, M, τ, _, a, h, fun x F1 H1 M1 d s1 r1 p1 q1 => ?_⟩
  obtain ⟨⟨b, mo, rfl, hb, hd⟩, q1⟩ := q1
  cases p1
  have isd : IsD H1 b := by
    obtain ⟨_, u, hu, r⟩ := r1.chg b _ hb
    cases mo with
    | dK kvs =>
      cases u with
      | dK vs => exact .inl ⟨vs, .inl hu⟩
      | _ => exact (r : False).elim
    | dT kvs =>
      cases u with
      | dT vs => exact .inr ⟨vs, .inl hu⟩
      | _ => exact (r : False).elim
    | _ => exact hd.elim
  refine ⟨b, rfl, isd, G, F1, M1, τ, _, a.step s1 r1, q1, fun y F2 H2 M2 e s2 r2 p2 q2 => ?_⟩
  refine ⟨G, F2, M2, τ, _, a.step (s1.trans s2) r2, q2, fun w F3 H3 M3 zd s3 r3 p3 q3 => ?_⟩
  obtain ⟨ov, r, g, hf, h0, h1⟩ := dic_of (f := fun r => Qt (r.getD zd) M3) r3 (p2.mono s3) q3
  refine ⟨ov, g, ?_⟩
  cases r with
  | none => rw [h0 rfl]; exact k _ F3 H3 M3 _ ((s1.trans s2).trans s3) r3 p3 hf
  | some d =>
    obtain ⟨v, rfl, pv⟩ := h1 d rfl
    exact k _ F3 H3 M3 _ ((s1.trans s2).trans s3) r3 pv hf)
theorem sq_dict (hu : X.A.units + 1 < cLine) : PSet X (lSet X.K zDict) := by
  intro pins s σ H o i v ov iv u Q I ro ri rv h
  obtain ⟨G, F, M, od, idd, vd, Qt, R, po, pi, pv, h, k⟩ := h
  cases po with
  | ref a =>
    have h : oPA (M a) idd vd fun mo => Qt (mup M a mo) := h
    obtain ⟨mo, u', g, hq, R2⟩ := put_of R pi pv h
    obtain rfl : ov = Value.ref a := ro
    refine d_setItem hu I g ri rv fun s4 I4 => ?_
    exact ⟨_, I4, k F _ _ (Same.refl _) R2 hq⟩
  | _ => exact h.elim
end
/-! ### len of a dict, of anything -/
def cLenD : RLt := fun ds M Q => match ds with
  | [.ref a] => match M a with
    | some (.dK kvs) => Q (.int (kvs.length : Nat)) M
    | some (.dT kvs) => Q (.int (kvs.length : Nat)) M
    | _ => False
  | _ => False
section
variable {X : Cx} {E : XK} {Et : XT}
theorem call_len_dK : CallR X (.builtin "len") (fun xs H Q => ∃ (p : Addr) (kvs : List (Key × V)), xs = [.ref p] ∧ H p = some (.dK kvs) ∧ Q (.int ((kvs.length : Nat) : Int)) H) := by
  intro pins s σ H xs us Q I r h
  obtain ⟨p, kvs, rfl, e, q⟩ := h
  obtain ⟨u, rfl, rx⟩ := vals1 r
  cases rx
  exact d_len I (.inl e) fun t s' I' => ⟨.int (kvs.length : Nat), H, I', ⟨t, rfl⟩, q⟩
theorem cq_lenD : CallQ X (.builtin "len") cLenD := by
  intro pins s σ H xs us Q I r h
  obtain ⟨G, F, M, ds, Qt, R, rp, h, k⟩ := h
  match ds, rp, h with
  | [.ref a], .cons (.ref _) .nil, h =>
    have h : (match M a with | some (.dK kvs) => Qt (.int (kvs.length : Nat)) M | some (.dT kvs) => Qt (.int (kvs.length : Nat)) M | _ => False) := h
    cases e : M a with
    | none => rw [e] at h; exact h.elim
    | some mo =>
      obtain ⟨_, u, hu, rr⟩ := R.chg a mo e
      rw [e] at h
      cases mo with
      | dK kvs =>
        cases u with
        | dK vs =>
          refine call_len_dK pins s σ H _ us Q I r ⟨a, vs, rfl, hu, ?_⟩
          rw [kp_len (show KP X.K F vs kvs from rr)]
          exact k _ F H M _ (Same.refl _) R (.int _) h
        | _ => exact (rr : False).elim
      | dT kvs =>
        cases u with
        | dT vs =>
          refine call_len_dT pins s σ H _ us Q I r ⟨a, vs, rfl, hu, ?_⟩
          rw [kp_len (show KP X.K F vs kvs from rr)]
          exact k _ F H M _ (Same.refl _) R (.int _) h
        | _ => exact (rr : False).elim
      | _ => exact h.elim
/-! ### x in a row of plain values -/
def flatD : D → Bool
  | .non => true
  | .bl _ => true
  | .int _ => true
  | .str _ => true
  | _ => false
def eqD : D → D → Bool
  | .non, .non => true
  | .bl a, .bl b => a == b
  | .bl a, .int b => (if a then 1 else 0) == b
  | .int a, .bl b => a == (if b then 1 else 0)
  | .int a, .int b => a == b
  | .str a, .str b => a == b
  | _, _ => false
theorem flat_of {K : PySem.W.Frag} {F : Hp} {v : V} {d : D} (p : Rp K F v d) (h : flatD d = true) : flatV v = true := by
  cases p <;> first | rfl | cases h
theorem flats_of {K : PySem.W.Frag} {F : Hp} : ∀ {vs : List V} {ds : List D}, Rps K F vs ds → ds.all flatD = true → vs.all flatV = true
  | _, _, .nil, _ => rfl
  | _, _, .cons h t, e => by
    rw [List.all_cons, Bool.and_eq_true] at e ⊢
    exact ⟨flat_of h e.1, flats_of t e.2⟩
theorem eqD_of {K : PySem.W.Frag} {F : Hp} {v w : V} {x y : D} (p : Rp K F v x) (q : Rp K F w y) (hx : flatD x = true) (hy : flatD y = true) : eqV v w = eqD x y := by
  cases p <;> first | (cases hx; done) | (cases q <;> first | rfl | (cases hy; done))
theorem in_of {K : PySem.W.Frag} {F : Hp} {v : V} {x : D} (p : Rp K F v x) (hx : flatD x = true) : ∀ {vs : List V} {ds : List D}, Rps K F vs ds → ds.all flatD = true → (vs.any fun y => eqV y v) = (ds.any fun y => eqD y x)
  | _, _, .nil, _ => rfl
  | _, _, .cons h t, e => by
    rw [List.all_cons, Bool.and_eq_true] at e
    rw [List.any_cons, List.any_cons, eqD_of h p e.1 hx, in_of p hx t e.2]
def bIn (neg : Bool) : R2t := fun x y M Q => match seqOf M y with
  | some ds => flatD x = true ∧ ds.all flatD = true ∧ Q (.bl (if neg = true then !(ds.any fun z => eqD z x) else ds.any fun z => eqD z x)) M
  | none => False
theorem lv_in {neg : Bool} : ∀ x y H Q, lr2 X.K (bIn neg) x y H Q → rIn X.K neg x y H Q := by
  rintro x y H Q ⟨G, F, M, dx, dy, Qt, R, px, py, h, k⟩
  unfold bIn at h
  cases e : seqOf M dy with
  | none => simp only [e] at h
  | some ds =>
    simp only [e] at h
    obtain ⟨a, vs, rfl, hs, r⟩ := seq_of R py e
    refine ⟨a, vs, rfl, hs, flat_of px h.1, flats_of r h.2.1, ?_⟩
    unfold inV
    rw [in_of px h.1 r h.2.1]
    exact k _ F H M _ (Same.refl _) R (.bl _) h.2.2
theorem oq_inQ : OpQ X (compareOp .In) (bIn false) := OpRimp op_in_seq lv_in
theorem oq_inQN : OpQ X (compareOp .NotIn) (bIn true) := OpRimp op_notIn_seq lv_in
/-! ### text * n -/
def repS (z : Str) (n : Int) : Str := if n < 1 then Str.empty else if (n == 1 || z.length == 0) = true then z else ⟨(List.replicate n.toNat z.cps).foldl (· ++ ·) #[]⟩
def bRepS : R2t := fun x y M Q => match x, y with
  | .str z, .int n => (0 ≤ n ∧ n ≤ 1000 ∧ z.length ≤ 1000) ∧ Q (.str (repS z n)) M
  | _, _ => False
/-! ### list * n -/
def bRep : R2t := fun x y M Q => match x, y with
  | .lst ds, .int n => (0 ≤ n ∧ n ≤ 1000 ∧ ds.length ≤ 1000) ∧ Q (.lst (List.replicate n.toNat ds).flatten) M
  | _, _ => False
def bRepM : R2t := fun x y M Q => match x, y with
  | .lst ds, .int n => (0 ≤ n ∧ n ≤ 1000 ∧ ds.length ≤ 1000) ∧ ∀ p, M p = none → Q (.ref p) (mup M p (.lst (List.replicate n.toNat ds).flatten))
  | _, _ => False
/-! ### tuples: + and slices -/
def bCatT : R2t := fun x y M Q => match x, y with
  | .tup a, .tup b => a.length + b.length ≤ sizeLine ∧ Q (.tup (a ++ b)) M
  | _, _ => False
theorem oq_catT : OpQ X (binaryOp .Add) bCatT := OpRimp op_catA (by
  rintro x y H Q ⟨G, F, M, dx, dy, Qt, R, px, py, h, k⟩
  match dx, dy, px, py, h with
  | .tup ds, .tup es, .tup (a := a) (vs := vs) ha r, .tup (a := b) (vs := ws) hb r2, h =>
    refine ⟨a, b, vs, ws, rfl, rfl, SqT.of (R.sub _ _ ha), SqT.of (R.sub _ _ hb), by rw [r.length, r2.length]; exact h.1, fun e => ?_, fun _ e => ?_, fun _ _ p np => ?_⟩
    · subst e
      cases r
      exact k _ F H M _ (Same.refl _) R (.tup hb r2) h.2
    · subst e
      cases r2
      have h2 := h.2
      rw [List.append_nil] at h2
      exact k _ F H M _ (Same.refl _) R (.tup ha r) h2
    · obtain ⟨s, r1⟩ := R.newF (o := .tup (vs ++ ws)) np
      exact k _ _ _ M _ s r1 (.tup upd_same ((r.append r2).mono s)) h.2)
def cSlT : D → Option Int → Option Int → MH → VD → Prop := fun x lo hi M Q => match x with
  | .tup ds => Q (.tup (cutD ds lo hi)) M
  | _ => False
theorem cut_whole {α : Type} {xs : List α} {i j : Nat} (h1 : i = 0) (h2 : j = xs.length) : (xs.drop i).take (j - i) = xs := by
  subst h1; subst h2; simp
variable {e : Expr} {lo hi : Option Expr} {te : TEt} {tl th : TOt} {pos p2 : Pos}
theorem q_sliceT (he : QE X E Et e te) (hl : QO X E Et lo tl) (hu : QO X E Et hi th) : QE X E Et (.Subscript e (.Slice lo hi none p2) pos) (tSc cSlT te tl th) := q_slice sl_tupA (by
  rintro x lo hi H Q ⟨G, F, M, dx, Qt, R, p, h, k⟩
  match dx, p, h with
  | .tup ds, .tup (a := a) (vs := vs) ha r, h =>
    refine ⟨a, vs, rfl, SqT.of (R.sub _ _ ha), fun hw => ?_, fun hw p np => ?_⟩
    · have e : Tl.cutD ds lo hi = ds := by
        unfold Tl.cutD
        rw [← r.length]
        exact cut_whole hw.1 (by rw [hw.2, r.length])
      rw [show cSlT (.tup ds) lo hi M Qt = Qt (.tup (Tl.cutD ds lo hi)) M from rfl, e] at h
      exact k _ F H M _ (Same.refl _) R (.tup ha r) h
    · obtain ⟨s, r1⟩ := R.newF (o := .tup (cutV vs lo hi)) np
      exact k _ _ _ M _ s r1 (.tup upd_same (r.cut.mono s)) h) he hl hu
/-! ### sorted(d), d a dict of ints -/
def oSD (o : Option MO) (f : List Int → Prop) : Prop := match o with
  | some (.dK kvs) => ∃ ks : List Int, kvs.map (fun p : Key × D => p.1) = ks.map Sum.inl ∧ ks.length < 64 ∧ ∀ ys : List Int, ys.Perm ks → ys.Pairwise (· ≤ ·) → f ys
  | _ => False
def cSortDI : RLt := fun ds M Q => match ds with
  | [.ref a] => oSD (M a) fun ys => Q (.lst (ys.map D.int)) M
  | _ => False
end
/-! ### texts written out -/
theorem map_inj' {α β : Type} {f : α → β} (hf : ∀ a b, f a = f b → a = b) : ∀ {l m : List α}, l.map f = m.map f → l = m
  | [], [], _ => rfl
  | [], _ :: _, h => by simp at h
  | _ :: _, [], h => by simp at h
  | a :: l, b :: m, h => by
    simp only [List.map_cons, List.cons.injEq] at h
    rw [hf _ _ h.1, map_inj' hf h.2]
theorem ofS_inj {s t : String} : (Str.ofString s = Str.ofString t) = (s = t) := by
  apply propext
  constructor
  · intro h
    rw [Str.ofString_eq_toList, Str.ofString_eq_toList] at h
    have h2 : (s.toList.map Char.toNat) = (t.toList.map Char.toNat) := by
      have := congrArg (fun z : Str => z.cps.toList) h
      simpa using this
    have h3 : s.toList = t.toList := map_inj' (fun a b e => Char.toNat_inj.mp e) h2
    exact String.toList_inj.mp h3
  · intro h; rw [h]
/-! ### a cut between two statements -/
def sCut (t u : TSt) : TSt := fun D τ M => ∃ W : Sg → MH → Prop, t { D with nx := W } τ M ∧ ∀ τ' M', W τ' M' → u D τ' M'
theorem qss_cut {X : Cx} {E : XK} {Et : XT} {st : Stmt} {rest : List Stmt} {t u : TSt} (h1 : QS X E Et st t) (h2 : QSs X E Et rest u) : QSs X E Et (st :: rest) (sCut t u) := PSsimp (pss_cons h1 h2) (by
  rintro D σ H ⟨G, F, M, τ, Dt, a, en, W, h, hW⟩
  exact ⟨G, F, M, τ, { Dt with nx := W }, a, ⟨fun F' H' M' σ' τ' s a' h' => ⟨G, F', M', τ', Dt, a', en.mono s, hW τ' M' h'⟩, en.rt, en.bk, en.ct⟩, h⟩)
theorem cut_by {t u : TSt} {D0 : En} {τ : Sg} {M : MH} (W : Sg → MH → Prop) (h : t { D0 with nx := W } τ M) (h2 : ∀ τ' M', W τ' M' → u D0 τ' M') : sCut t u D0 τ M := ⟨W, h, h2⟩
/-! ### a branch that is not taken -/
theorem qs_never {X : Cx} {E : XK} {Et : XT} {st : Stmt} : QS X E Et st (fun _ _ _ => False) := ⟨fun pins s σ H D I w => by
  obtain ⟨G, F, M, τ, Dt, a, en, h⟩ := w
  exact h.elim⟩
theorem qss_never {X : Cx} {E : XK} {Et : XT} {st : List Stmt} : QSs X E Et st (fun _ _ _ => False) := ⟨fun pins s σ H D I w => by
  obtain ⟨G, F, M, τ, Dt, a, en, h⟩ := w
  exact h.elim⟩
/-! ### readings, for simp -/
section
variable {M : MH} {Q : VD} {a : Addr} {k x y d : D} {f : Option D → Prop} {g : MO → Prop} {ds es : List D} {i n : Int} {s z : Str}
theorem uDic : oDic M (.ref a) k f = oDA (M a) k f := propext Iff.rfl
theorem oDA_ki {kvs : List (Key × D)} : oDA (some (.dK kvs)) (.int i) f = f (valD kvs (.inl i)) := propext Iff.rfl
theorem oDA_ks {kvs : List (Key × D)} : oDA (some (.dK kvs)) (.str s) f = f (valD kvs (.inr s)) := propext Iff.rfl
theorem oDA_t {kvs : List (List Key × D)} : oDA (some (.dT kvs)) (.tup ds) f = oSome (kT ds) fun c => f (valD kvs c) := by
  unfold oDA oSome; cases h : kT ds <;> simp [h]
theorem oPA_ki {kvs : List (Key × D)} : oPA (some (.dK kvs)) (.int i) d g = (kvs.length < 16777216 ∧ g (.dK (putM kvs (.inl i) d))) := by rw [← sizeLine_eq]; rfl
theorem oPA_ks {kvs : List (Key × D)} : oPA (some (.dK kvs)) (.str s) d g = (kvs.length < 16777216 ∧ g (.dK (putM kvs (.inr s) d))) := by rw [← sizeLine_eq]; rfl
theorem oPA_t {kvs : List (List Key × D)} : oPA (some (.dT kvs)) (.tup ds) d g = oSome (kT ds) fun c => kvs.length < 16777216 ∧ g (.dT (putM kvs c d)) := by
  rw [← sizeLine_eq]; unfold oPA oSome; cases h : kT ds <;> simp [h]
def consK (a : Key) (o : Option (List Key)) : Option (List Key) := match o with
  | some l => some (a :: l)
  | none => none
theorem consK_s {a : Key} {l : List Key} : consK a (some l) = some (a :: l) := rfl
theorem kT_nil : kT [] = some [] := rfl
theorem kT_i {t : List D} : kT (.int i :: t) = consK (.inl i) (kT t) := by
  show (match k1 (.int i), kT t with | some a, some b => some (a :: b) | _, _ => none) = _
  cases kT t <;> rfl
theorem kT_s {t : List D} : kT (.str s :: t) = consK (.inr s) (kT t) := by
  show (match k1 (.str s), kT t with | some a, some b => some (a :: b) | _, _ => none) = _
  cases kT t <;> rfl
theorem uzDict {Qm : MH → Prop} : zDict (.ref a) k d M Qm = oPA (M a) k d fun mo => Qm (mup M a mo) := rfl
theorem uIn {neg : Bool} : bIn neg x y M Q = oSome (seqOf M y) fun ds => flatD x = true ∧ ds.all flatD = true ∧ Q (.bl (if neg = true then !(ds.any fun z => eqD z x) else ds.any fun z => eqD z x)) M := by
  unfold bIn oSome; cases seqOf M y <;> rfl
theorem uRepS : bRepS (.str z) (.int n) M Q = ((0 ≤ n ∧ n ≤ 1000 ∧ z.length ≤ 1000) ∧ Q (.str (repS z n)) M) := propext Iff.rfl
theorem uRep : bRep (.lst ds) (.int n) M Q = ((0 ≤ n ∧ n ≤ 1000 ∧ ds.length ≤ 1000) ∧ Q (.lst (List.replicate n.toNat ds).flatten) M) := propext Iff.rfl
theorem uRepM : bRepM (.lst ds) (.int n) M Q = ((0 ≤ n ∧ n ≤ 1000 ∧ ds.length ≤ 1000) ∧ ∀ p, M p = none → Q (.ref p) (mup M p (.lst (List.replicate n.toNat ds).flatten))) := propext Iff.rfl
theorem uCatT : bCatT (.tup ds) (.tup es) M Q = (ds.length + es.length ≤ 16777216 ∧ Q (.tup (ds ++ es)) M) := by rw [← sizeLine_eq]; rfl
theorem uSlT {lo hi : Option Int} : cSlT (.tup ds) lo hi M Q = Q (.tup (cutD ds lo hi)) M := propext Iff.rfl
def oLD (o : Option MO) (f : Nat → Prop) : Prop := match o with
  | some (.dK kvs) => f kvs.length
  | some (.dT kvs) => f kvs.length
  | _ => False
theorem oLD_k {kvs : List (Key × D)} {f : Nat → Prop} : oLD (some (.dK kvs)) f = f kvs.length := propext Iff.rfl
theorem oLD_t {kvs : List (List Key × D)} {f : Nat → Prop} : oLD (some (.dT kvs)) f = f kvs.length := propext Iff.rfl
theorem uLenD : cLenD [.ref a] M Q = oLD (M a) fun n => Q (.int (n : Nat)) M := by
  show (match M a with | some (.dK kvs) => Q (.int (kvs.length : Nat)) M | some (.dT kvs) => Q (.int (kvs.length : Nat)) M | _ => False) = _
  unfold oLD
  cases M a with
  | none => rfl
  | some o => cases o <;> rfl
theorem uSortDI : cSortDI [.ref a] M Q = oSD (M a) fun ys => Q (.lst (ys.map D.int)) M := propext Iff.rfl
end
end Tl
namespace Tl
open PySem PySem.Spec PyProof.Rows L2
/-! ### widelanes: expressions, statements, programs -/
inductive Op7 where
  | add | sub | mul | div | rem | lt | eq
deriving DecidableEq
def Op7.s : Op7 → Str
  | .add => "+" | .sub => "-" | .mul => "*" | .div => "div" | .rem => "rem" | .lt => "<" | .eq => "="
theorem op_lane {o : Op7} : (o.s = Str.ofString "lane") = False := by cases o <;> simp only [Op7.s, ofS_inj, String.reduceEq]
theorem op_lanes {o : Op7} : (o.s = Str.ofString "lanes") = False := by cases o <;> simp only [Op7.s, ofS_inj, String.reduceEq]
theorem op_mine {o : Op7} : (o.s = Str.ofString "mine") = False := by cases o <;> simp only [Op7.s, ofS_inj, String.reduceEq]
theorem op_num {o : Op7} : (o.s = Str.ofString "num") = False := by cases o <;> simp only [Op7.s, ofS_inj, String.reduceEq]
theorem op_name {o : Op7} : (o.s = Str.ofString "name") = False := by cases o <;> simp only [Op7.s, ofS_inj, String.reduceEq]
theorem op_box {o : Op7} : (o.s = Str.ofString "box") = False := by cases o <;> simp only [Op7.s, ofS_inj, String.reduceEq]
inductive Ex where
  | num (i : Int) | nam (x : Str) | lane | lanes | mine | box (e : Ex) | op (w : Op7) (a b : Ex)
def Ex.d : Ex → D
  | .num i => .tup [.str "num", .int i]
  | .nam x => .tup [.str "name", .str x]
  | .lane => .tup [.str "lane"]
  | .lanes => .tup [.str "lanes"]
  | .mine => .tup [.str "mine"]
  | .box e => .tup [.str "box", e.d]
  | .op w a b => .tup [.str w.s, a.d, b.d]
def Ex.deep : Ex → Nat
  | .box e => e.deep + 1
  | .op _ a b => max a.deep b.deep + 1
  | _ => 1
inductive Sm where
  | set (l : Int) (x : Str) (e : Ex) | put (l : Int) (a b : Ex) | tell (l : Int) (e : Ex) | ret (l : Int) (e : Ex) | stop (l : Int) | brk (l : Int) | agn (l : Int) | meet (l : Int)
  | join (l : Int) (x w : Str) (e : Ex) | call (l : Int) (x f : Str) (es : List Ex) | if1 (l : Int) (e : Ex) (b : List Sm) | if2 (l : Int) (e : Ex) (b c : List Sm) | whl (l : Int) (e : Ex) (b : List Sm)
mutual
def Sm.d : Sm → D
  | .set l x e => .tup [.str "set", .int l, .str x, e.d]
  | .put l a b => .tup [.str "put", .int l, a.d, b.d]
  | .tell l e => .tup [.str "tell", .int l, e.d]
  | .ret l e => .tup [.str "return", .int l, e.d]
  | .stop l => .tup [.str "stop", .int l]
  | .brk l => .tup [.str "break", .int l]
  | .agn l => .tup [.str "again", .int l]
  | .meet l => .tup [.str "meet", .int l]
  | .join l x w e => .tup [.str "join", .int l, .str x, .str w, e.d]
  | .call l x f es => .tup [.str "call", .int l, .str x, .str f, .lst (es.map Ex.d)]
  | .if1 l e b => .tup [.str "if", .int l, e.d, .lst (stD b), .non]
  | .if2 l e b c => .tup [.str "if", .int l, e.d, .lst (stD b), .lst (stD c)]
  | .whl l e b => .tup [.str "while", .int l, e.d, .lst (stD b)]
def stD : List Sm → List D
  | [] => []
  | s :: t => s.d :: stD t
end
theorem stD_map : ∀ b : List Sm, stD b = b.map Sm.d
  | [] => by unfold stD; rfl
  | s :: t => by unfold stD; rw [stD_map t]; rfl
theorem stD_len (b : List Sm) : (stD b).length = b.length := by rw [stD_map, List.length_map]
theorem stD_app (a b : List Sm) : stD (a ++ b) = stD a ++ stD b := by rw [stD_map, stD_map, stD_map, List.map_append]
mutual
def Sm.deep : Sm → Nat
  | .if1 _ _ b => deeps b + 1
  | .if2 _ _ b c => max (deeps b) (deeps c) + 1
  | .whl _ _ b => deeps b + 1
  | _ => 1
def deeps : List Sm → Nat
  | [] => 0
  | s :: t => max s.deep (deeps t)
end
theorem deeps_mem : ∀ {b : List Sm} {s : Sm}, s ∈ b → s.deep ≤ deeps b
  | x :: t, s, h => by
    unfold deeps
    rcases List.mem_cons.mp h with rfl | h
    · omega
    · have := deeps_mem h; omega
def Sm.line : Sm → Int
  | .set l _ _ => l | .put l _ _ => l | .tell l _ => l | .ret l _ => l | .stop l => l | .brk l => l | .agn l => l | .meet l => l | .join l _ _ _ => l | .call l _ _ _ => l | .if1 l _ _ => l | .if2 l _ _ _ => l | .whl l _ _ => l
def Sm.word : Sm → Str
  | .set .. => "set" | .put .. => "put" | .tell .. => "tell" | .ret .. => "return" | .stop .. => "stop" | .brk .. => "break" | .agn .. => "again" | .meet .. => "meet" | .join .. => "join" | .call .. => "call" | .if1 .. => "if" | .if2 .. => "if" | .whl .. => "while"
def Sm.given : Sm → Option Str
  | .set _ x _ => some x | .join _ x _ _ => some x | .call _ x _ _ => some x | _ => none
def Sm.blocks : Sm → List (List Sm)
  | .if1 _ _ b => [b] | .if2 _ _ b c => [b, c] | .whl _ _ b => [b] | _ => []
def Sm.rest : Sm → List D
  | .set _ x e => [.str x, e.d] | .put _ a b => [a.d, b.d] | .tell _ e => [e.d] | .ret _ e => [e.d] | .join _ x w e => [.str x, .str w, e.d] | .call _ x f es => [.str x, .str f, .lst (es.map Ex.d)]
  | .if1 _ e b => [e.d, .lst (stD b), .non] | .if2 _ e b c => [e.d, .lst (stD b), .lst (stD c)] | .whl _ e b => [e.d, .lst (stD b)] | _ => []
theorem sm_d (s : Sm) : s.d = .tup (.str s.word :: .int s.line :: s.rest) := by cases s <;> (unfold Sm.d; rfl)
structure Df where
  name : Str
  ps : List Str
  body : List Sm
  first : Int
  last : Int
def Df.d (f : Df) : D := .tup [.str f.name, .lst (f.ps.map .str), .lst (stD f.body), .int f.first, .int f.last]
abbrev Pg := List Df
def pgD (p : Pg) : List D := p.map Df.d
/-! ### marks -/
inductive MK where
  | name (f x : Str) | row (l : Int) | dfn (f : Str) | back (f : Str)
deriving DecidableEq
def MK.k : MK → List Key
  | .name f x => [.inr "name", .inr f, .inr x]
  | .row l => [.inr "row", .inl l]
  | .dfn f => [.inr "def", .inr f]
  | .back f => [.inr "back", .inr f]
def MK.d : MK → D
  | .name f x => .tup [.str "name", .str f, .str x]
  | .row l => .tup [.str "row", .int l]
  | .dfn f => .tup [.str "def", .str f]
  | .back f => .tup [.str "back", .str f]
theorem MK.k_inj {a b : MK} (h : a.k = b.k) : a = b := by
  have n1 : ("def" : Str) ≠ "back" := by decide
  cases a <;> cases b <;> simp only [MK.k, List.cons.injEq, Sum.inr.injEq, Sum.inl.injEq, and_true, true_and, reduceCtorEq, and_false, false_and] at h <;> first | exact h.elim | (subst h; rfl) | (obtain ⟨rfl, rfl⟩ := h; rfl) | exact absurd h.1 n1 | exact absurd h.1.symm n1
abbrev Why := List (Option MK)
def oD : Option MK → D
  | none => .non
  | some k => k.d
def whyD (w : Why) : D := .lst (w.map oD)
abbrev FM := List (MK × Int × Option MK)
def fmD (fd : FM) : List (List Key × D) := fd.map fun p => (p.1.k, .tup [.int p.2.1, oD p.2.2])
def hasK (fd : FM) (k : MK) : Bool := fd.any fun p => decide (p.1 = k)
theorem val_fm (fd : FM) (k : MK) : (valD (fmD fd) k.k).isSome = hasK fd k := by
  induction fd with
  | nil => rfl
  | cons p t ih =>
    unfold fmD hasK
    rw [List.map_cons, List.any_cons]
    by_cases e : p.1 = k
    · rw [valD_pos (by rw [e]), decide_eq_true e]; rfl
    · rw [valD_neg (fun h => e (MK.k_inj h)), decide_eq_false e]; exact ih
theorem val_name (fd : FM) (f x : Str) : (valD (fmD fd) [.inr "name", .inr f, .inr x]).isSome = hasK fd (.name f x) := val_fm fd (.name f x)
theorem val_row (fd : FM) (l : Int) : (valD (fmD fd) [.inr "row", .inl l]).isSome = hasK fd (.row l) := val_fm fd (.row l)
theorem val_def (fd : FM) (f : Str) : (valD (fmD fd) [.inr "def", .inr f]).isSome = hasK fd (.dfn f) := val_fm fd (.dfn f)
theorem val_back (fd : FM) (f : Str) : (valD (fmD fd) [.inr "back", .inr f]).isSome = hasK fd (.back f) := val_fm fd (.back f)
structure Spot where
  deed : Sm
  way : Why
  loop : Option Int
def loopD : Option Int → D
  | none => .non
  | some l => .int l
def Spot.d (s : Spot) : D := .tup [s.deed.d, whyD s.way, loopD s.loop]
theorem block_deep {s : Sm} {b : List Sm} {n : Nat} (h : s.deep ≤ n) (hb : b ∈ s.blocks) : deeps b < n := by
  cases s <;> unfold Sm.deep at h <;> simp only [Sm.blocks, List.mem_cons, List.not_mem_nil, or_false] at hb <;> first | exact hb.elim | (subst hb; omega) | (rcases hb with rfl | rfl <;> omega)
/-! ### what is placed, without the ways -/
mutual
def plnS (loop : Option Int) : Sm → List (Sm × Option Int)
  | .if1 l e b => (.if1 l e b, loop) :: pln loop b
  | .if2 l e b c => (.if2 l e b c, loop) :: (pln loop b ++ pln loop c)
  | .whl l e b => (.whl l e b, loop) :: pln (some l) b
  | s => [(s, loop)]
def pln (loop : Option Int) : List Sm → List (Sm × Option Int)
  | [] => []
  | s :: t => plnS loop s ++ pln loop t
end
theorem valD_put {κ : Type} [DecidableEq κ] {kvs : List (κ × D)} {k j : κ} {v : D} : valD (putM kvs k v) j = if k = j then some v else valD kvs j := by
  unfold putM
  split
  · rename_i h
    induction kvs with
    | nil => cases h
    | cons p r ih =>
      rw [List.map_cons]
      by_cases e : p.1 = k
      · rw [if_pos e]
        by_cases e2 : k = j
        · rw [valD_pos (by exact e.trans e2), if_pos e2]
        · rw [valD_neg (by exact fun z => e2 (e.symm.trans z)), if_neg e2, valD_neg (fun z => e2 (e.symm.trans z))]
          by_cases h2 : (r.any fun kv => decide (kv.1 = k)) = true
          · rw [ih h2, if_neg e2]
          · have : (r.map fun kv => if kv.1 = k then (kv.1, v) else kv) = r := by
              rw [List.map_congr_left (g := id) (fun kv hkv => ?_), List.map_id]
              rw [if_neg (fun z => h2 (List.any_eq_true.mpr ⟨kv, hkv, decide_eq_true z⟩))]; rfl
            rw [this]
      · rw [if_neg e]
        rw [List.any_cons, decide_eq_false e, Bool.false_or] at h
        by_cases e2 : p.1 = j
        · rw [valD_pos e2, valD_pos e2, if_neg (fun z => e (e2.trans z.symm))]
        · rw [valD_neg e2, valD_neg e2, ih h]
  · rename_i h
    by_cases e2 : k = j
    · subst e2
      rw [if_pos rfl]
      induction kvs with
      | nil => exact valD_pos rfl
      | cons p r ih =>
        rw [List.any_cons, Bool.or_eq_true, not_or, decide_eq_true_eq] at h
        rw [List.cons_append, valD_neg h.1, ih h.2]
    · rw [if_neg e2]
      clear h
      induction kvs with
      | nil => exact valD_neg e2
      | cons p r ih =>
        rw [List.cons_append]
        by_cases e : p.1 = j
        · rw [valD_pos e, valD_pos e]
        · rw [valD_neg e, valD_neg e, ih]
theorem putM_len {κ : Type} [DecidableEq κ] (kvs : List (κ × D)) (k : κ) (v : D) : (putM kvs k v).length ≤ kvs.length + 1 := by
  unfold putM
  split
  · rw [List.length_map]; omega
  · rw [List.length_append]; exact Nat.le_refl _
/-! ### waits -/
end Tl
namespace Tl
open PySem PySem.Spec PyProof.Rows L2
/-! ### cells: what stands where, beside what stood before -/
structure Cel (M0 M : MH) (cs : List (Addr × MO)) : Prop where
  nd : (cs.map (·.1)).Nodup
  at_ : ∀ c ∈ cs, M c.1 = some c.2
  old : ∀ a o, M0 a = some o → M a = some o
  new : ∀ c ∈ cs, M0 c.1 = none
section
variable {M0 M : MH} {cs pre post : List (Addr × MO)} {a p : Addr} {o o' : MO}
theorem Cel.nil : Cel M M [] := ⟨List.nodup_nil, fun _ h => (by cases h), fun _ _ h => h, fun _ h => (by cases h)⟩
theorem Cel.fresh (h : Cel M0 M cs) (hp : M p = none) : Cel M0 (mup M p o) ((p, o) :: cs) := by
  have hne : ∀ c ∈ cs, c.1 ≠ p := fun c hc e => by have := h.at_ c hc; rw [e, hp] at this; cases this
  refine ⟨?_, ?_, ?_, ?_⟩
  · rw [List.map_cons, List.nodup_cons]
    refine ⟨fun hm => ?_, h.nd⟩
    obtain ⟨c, hc, e⟩ := List.mem_map.mp hm
    exact hne c hc e
  · intro c hc
    rcases List.mem_cons.mp hc with rfl | hc
    · exact mup_same
    · rw [mup_ne (hne c hc)]; exact h.at_ c hc
  · intro b u e
    have := h.old b u e
    rw [mup_ne (by rintro rfl; rw [hp] at this; cases this)]; exact this
  · intro c hc
    rcases List.mem_cons.mp hc with rfl | hc
    · cases e : M0 p with
      | none => rfl
      | some u => have := h.old p u e; rw [hp] at this; cases this
    · exact h.new c hc
theorem Cel.here (h : Cel M0 M (pre ++ (a, o) :: post)) : M a = some o := h.at_ (a, o) (by simp)
theorem Cel.ne_mid (h : (List.map (fun x : Addr × MO => x.1) (pre ++ (a, o) :: post)).Nodup) : (∀ c ∈ pre, c.1 ≠ a) ∧ ∀ c ∈ post, c.1 ≠ a := by
  rw [List.map_append, List.map_cons] at h
  obtain ⟨h1, h2, h3⟩ := List.nodup_append.mp h
  obtain ⟨h4, h5⟩ := List.nodup_cons.mp h2
  exact ⟨fun c hc e => h3 c.1 (List.mem_map.mpr ⟨c, hc, rfl⟩) a (List.mem_cons_self ..) e, fun c hc e => h4 (List.mem_map.mpr ⟨c, hc, e⟩)⟩
theorem Cel.put (h : Cel M0 M (pre ++ (a, o) :: post)) : Cel M0 (mup M a o') (pre ++ (a, o') :: post) := by
  obtain ⟨n1, n2⟩ := Cel.ne_mid h.nd
  refine ⟨?_, ?_, ?_, ?_⟩
  · have := h.nd
    rw [List.map_append, List.map_cons] at this ⊢
    exact this
  · intro c hc
    rcases List.mem_append.mp hc with hc | hc
    · rw [mup_ne (n1 c hc)]; exact h.at_ c (List.mem_append_left _ hc)
    · rcases List.mem_cons.mp hc with rfl | hc
      · exact mup_same
      · rw [mup_ne (n2 c hc)]; exact h.at_ c (List.mem_append_right _ (List.mem_cons_of_mem _ hc))
  · intro b u e
    have hn := h.new (a, o) (by simp)
    rw [mup_ne (by rintro rfl; rw [hn] at e; cases e)]
    exact h.old b u e
  · intro c hc
    rcases List.mem_append.mp hc with hc | hc
    · exact h.new c (List.mem_append_left _ hc)
    · rcases List.mem_cons.mp hc with rfl | hc
      · exact h.new (a, o) (by simp)
      · exact h.new c (List.mem_append_right _ (List.mem_cons_of_mem _ hc))
theorem Cel.del (h : Cel M0 M (pre ++ (a, o) :: post)) : Cel M0 (mdel M a) (pre ++ post) := by
  obtain ⟨n1, n2⟩ := Cel.ne_mid h.nd
  have md : ∀ b, b ≠ a → mdel M a b = M b := fun b hb => by unfold mdel; rw [if_neg hb]
  refine ⟨?_, ?_, ?_, ?_⟩
  · have := h.nd
    rw [List.map_append, List.map_cons] at this
    rw [List.map_append]
    obtain ⟨h1, h2, h3⟩ := List.nodup_append.mp this
    exact List.nodup_append.mpr ⟨h1, (List.nodup_cons.mp h2).2, fun x hx y hy => h3 x hx y (List.mem_cons_of_mem _ hy)⟩
  · intro c hc
    rcases List.mem_append.mp hc with hc | hc
    · rw [md _ (n1 c hc)]; exact h.at_ c (List.mem_append_left _ hc)
    · rw [md _ (n2 c hc)]; exact h.at_ c (List.mem_append_right _ (List.mem_cons_of_mem _ hc))
  · intro b u e
    have hn := h.new (a, o) (by simp)
    rw [md _ (by rintro rfl; rw [hn] at e; cases e)]
    exact h.old b u e
  · intro c hc
    rcases List.mem_append.mp hc with hc | hc
    · exact h.new c (List.mem_append_left _ hc)
    · exact h.new c (List.mem_append_right _ (List.mem_cons_of_mem _ hc))
theorem Cel.forget (h : Cel M0 M (pre ++ (a, o) :: post)) : Cel M0 M (pre ++ post) := by
  refine ⟨?_, fun c hc => ?_, h.old, fun c hc => ?_⟩
  · have := h.nd
    rw [List.map_append, List.map_cons] at this
    rw [List.map_append]
    obtain ⟨h1, h2, h3⟩ := List.nodup_append.mp this
    exact List.nodup_append.mpr ⟨h1, (List.nodup_cons.mp h2).2, fun x hx y hy => h3 x hx y (List.mem_cons_of_mem _ hy)⟩
  · rcases List.mem_append.mp hc with hc | hc
    · exact h.at_ c (List.mem_append_left _ hc)
    · exact h.at_ c (List.mem_append_right _ (List.mem_cons_of_mem _ hc))
  · rcases List.mem_append.mp hc with hc | hc
    · exact h.new c (List.mem_append_left _ hc)
    · exact h.new c (List.mem_append_right _ (List.mem_cons_of_mem _ hc))
theorem Cel.re {K : PySem.W.Frag} {d : D} (h : Cel M0 M cs) : ReR K d M d M0 := ReR.drop h.old
end
theorem lstOf_of {M : MH} {a : Addr} {ds : List D} (h : M a = some (.lst ds)) : lstOf M (.ref a) = some ds := by
  show (match M a with | some (.lst ds) => some ds | _ => none) = _
  rw [h]
theorem mLst_of {M : MH} {a : Addr} {ds : List D} (h : M a = some (.lst ds)) : mLst M a = some ds := by
  unfold mLst
  rw [h]
theorem lenOf_of {M : MH} {a : Addr} {ds : List D} (h : M a = some (.lst ds)) : lenOf M (.ref a) = some ds.length := by
  show (match M a with | some (.lst ds) => some ds.length | _ => none) = _
  rw [h]
theorem asD_of {M : MH} {a : Addr} {ds : List D} (h : M a = some (.lst ds)) : asD M (.ref a) = some (.lst ds) := by
  show (match M a with | some (MO.lst ds) => some (D.lst ds) | _ => none) = _
  rw [h]
/-! ### freezing what a tuple holds -/
theorem rps_mid {K : PySem.W.Frag} {F : Hp} {x : D} {post : List D} : ∀ {pre : List D} {vs : List V}, Rps K F vs (pre ++ x :: post) → ∃ v1 v v2, vs = v1 ++ v :: v2 ∧ Rps K F v1 pre ∧ Rp K F v x ∧ Rps K F v2 post
  | [], _, .cons h t => ⟨[], _, _, rfl, .nil, h, t⟩
  | _ :: pre, _, .cons h t => by
    obtain ⟨v1, v, v2, rfl, r1, r2, r3⟩ := rps_mid (pre := pre) t
    exact ⟨_ :: v1, v, v2, rfl, .cons h r1, r2, r3⟩
theorem ReR.tup_freeze {K : PySem.W.Frag} {M : MH} {b : Addr} {ds : List D} (pre post : List D) (h : M b = some (.lst ds)) : ReR K (.tup (pre ++ .ref b :: post)) M (.tup (pre ++ .lst ds :: post)) (mdel M b) := fun G F H v R p => by
  obtain ⟨F', s, R', pb⟩ := R.freeze h
  cases p with
  | tup ha r =>
    obtain ⟨v1, v, v2, rfl, r1, r2, r3⟩ := rps_mid r
    cases r2
    exact ⟨F', s, R', .tup (s _ _ ha) ((r1.mono s).append (.cons pb (r3.mono s)))⟩
/-! ### picking out of a written row -/
/-- ds == [] -/
theorem eqD_nil {M : MH} {ds : List D} {Q : VD} (n : Nat) (ok : okDs n ds) (h : Q (.bl (decide (ds = []))) M) (hn : n + 1 ≤ 64 := by decide) : bEqD (.lst ds) (.lst []) M Q := by
  obtain ⟨ys, e, c, dp⟩ := okDs_py n ds ok
  have e1 : pyM M (.lst ds) = some (.list ys) := by show pyD (.lst ds) = _; unfold pyD; rw [e]; rfl
  have e2 : pyM M (.lst []) = some (.list []) := by show pyD (.lst []) = _; unfold pyD pyDs; rfl
  have sh : SeqAt.shaped (.list ys) = true := Bool.and_eq_true_iff.mpr ⟨by unfold PyData.canLay0; exact c, decide_eq_true (by unfold PyData.depth; omega)⟩
  have sh2 : SeqAt.shaped (.list []) = true := by decide +kernel
  unfold bEqD
  simp only [e1, e2]
  refine ⟨sh, sh2, ?_⟩
  have : PyData.eqv (.list ys) (.list []) = decide (ds = []) := by
    cases ds with
    | nil => unfold pyDs at e; cases e; simp [PyData.eqv, PyData.eqvAll]
    | cons x t =>
      unfold pyDs at e
      cases q : pyD x with
      | none => simp only [q] at e; cases e
      | some a =>
        cases q2 : pyDs t with
        | none => simp only [q, q2] at e; cases e
        | some b => simp only [q, q2] at e; cases e; simp [PyData.eqv, PyData.eqvAll]
  rw [this]; exact h
/-! ### xs == [], xs != [], whatever stands in xs -/
/-! ### texts that are texts -/
/-! ### what the builders of the laws lay: deeds without lines -/
inductive Od where
  | set (x : Str) (e : Ex) | ifo (e : Ex) | whl (e : Ex) | fin | els | brk | agn | meet | stop | tell (e : Ex) | ret (e : Ex) | put (a b : Ex) | join (x w : Str) (e : Ex) | call (x f : Str) (es : List Ex)
def Od.word : Od → Str
  | .set .. => "set" | .ifo .. => "if" | .whl .. => "while" | .fin => "end" | .els => "else" | .brk => "break" | .agn => "again" | .meet => "meet" | .stop => "stop" | .tell .. => "tell" | .ret .. => "return" | .put .. => "put" | .join .. => "join" | .call .. => "call"
def Od.rest : Od → List D
  | .set x e => [.str x, e.d] | .ifo e => [e.d] | .whl e => [e.d] | .tell e => [e.d] | .ret e => [e.d] | .put a b => [a.d, b.d] | .join x w e => [.str x, .str w, e.d] | .call x f es => [.str x, .str f, .lst (es.map Ex.d)] | _ => []
def Od.d (o : Od) : D := .tup (.str o.word :: o.rest)
/-- the statement that a plain deed becomes at a line -/
def Od.at_ (o : Od) (l : Int) : Option Sm := match o with
  | .set x e => some (.set l x e) | .brk => some (.brk l) | .agn => some (.agn l) | .meet => some (.meet l) | .stop => some (.stop l) | .tell e => some (.tell l e) | .ret e => some (.ret l e) | .put a b => some (.put l a b) | .join x w e => some (.join l x w e) | .call x f es => some (.call l x f es)
  | _ => none
end Tl
namespace Tl
open PySem PySem.Spec PyProof.Rows L2
/-! ### what a builder's frames hold (pure) -/
theorem deeps_app : ∀ {b c : List Sm}, deeps (b ++ c) = max (deeps b) (deeps c)
  | [], c => by rw [List.nil_append, show deeps [] = 0 from by unfold deeps; rfl]; omega
  | s :: t, c => by rw [List.cons_append, deeps, deeps, deeps_app]; omega
theorem deeps_one {s : Sm} : deeps [s] = s.deep := by rw [deeps, show deeps [] = 0 from by unfold deeps; rfl]; omega
structure Fr where
  at_ : Addr
  wh : Bool
  l : Int
  e : Ex
  body : Addr
  bs : List Sm
  els : Option (Addr × List Sm)
def Fr.word (f : Fr) : Str := if f.wh = true then "while" else "if"
def Fr.here (f : Fr) : Addr := match f.els with
  | none => f.body
  | some x => x.1
def elsD : Option (Addr × List Sm) → D
  | none => .non
  | some x => .ref x.1
def Fr.row (f : Fr) (outer : Addr) : MO := .lst [.str f.word, .int f.l, f.e.d, .ref outer, .ref f.body, elsD f.els]
def Fr.cells (f : Fr) (outer : Addr) : List (Addr × MO) :=
  (f.at_, f.row outer) :: (f.body, .lst (stD f.bs)) :: match f.els with
  | none => []
  | some x => [(x.1, .lst (stD x.2))]
def Fr.close (f : Fr) : Sm := if f.wh = true then .whl f.l f.e f.bs else match f.els with
  | none => .if1 f.l f.e f.bs
  | some x => .if2 f.l f.e f.bs x.2
theorem Cel.perm {M0 M : MH} {cs ds : List (Addr × MO)} (h : Cel M0 M cs) (p : cs.Perm ds) : Cel M0 M ds :=
  ⟨(p.map _).nodup_iff.mp h.nd, fun c hc => h.at_ c (p.mem_iff.mpr hc), h.old, fun c hc => h.new c (p.mem_iff.mpr hc)⟩
end Tl
namespace Tl
open PySem PySem.Spec PyProof.Rows L2
/-! ### mirrors of the builder of the laws k12 .. k17, k31 .. k37 -/
theorem atI_mapD {α β : Type} {f : α → β} {xs : List α} {k : Int} (d : α) (h0 : 0 ≤ k) (h : k < xs.length) : atI (xs.map f) k = some (f (xs.getD k.toNat d)) := by
  obtain ⟨j, rfl⟩ := Int.eq_ofNat_of_zero_le h0
  have hj : j < xs.length := by omega
  rw [atI_nat (v := f xs[j]) (by rw [List.getElem?_map, List.getElem?_eq_getElem hj]; rfl)]
  simp [List.getD, hj]
theorem getD_mem {α : Type} {xs : List α} {n : Nat} (d : α) (h : n < xs.length) : xs.getD n d ∈ xs := by
  rw [List.getD_eq_getElem?_getD, List.getElem?_eq_getElem h]
  exact List.getElem_mem h
theorem range_fold {α : Type} (f : α → Nat → α) (s : α) (n : Nat) : (List.range (n + 1)).foldl f s = f ((List.range n).foldl f s) n := by
  rw [List.range_succ, List.foldl_append]; rfl
def letters : Str := "abcdefghijklmnopqrstuvwxyz"
def keptL : List Str := ["def", "set", "put", "tell", "if", "else", "while", "end", "break", "again", "call", "return", "stop", "join", "meet", "lane", "lanes", "mine", "box", "div", "rem", "sum", "most", "least", "ahead"]
def okS (x : Str) : Prop := x.length ≤ 100 ∧ PyData.strOk x = true
/-! expressions -/
def exNm : Ex → Prop
  | .nam x => okS x
  | .box e => exNm e
  | .op _ a b => exNm a ∧ exNm b
  | _ => True
/-! deeds -/
abbrev Rm := List (Str × List Str)
end Tl
namespace Tl
open PySem PySem.Spec PyProof.Rows L2
/-! ### mirrors: lines laid in one another -/
structure Fp where
  wh : Bool
  l : Int
  e : Ex
  bs : List Sm
  els : Option (List Sm)
def Fr.p (f : Fr) : Fp := ⟨f.wh, f.l, f.e, f.bs, f.els.map (·.2)⟩
def Fp.close (f : Fp) : Sm := if f.wh = true then .whl f.l f.e f.bs else match f.els with
  | none => .if1 f.l f.e f.bs
  | some x => .if2 f.l f.e f.bs x
def addP (s : Sm) (b0 : List Sm) : List Fp → List Sm × List Fp
  | [] => (b0 ++ [s], [])
  | f :: r => (b0, (match f.els with
    | none => { f with bs := f.bs ++ [s] }
    | some x => { f with els := some (x ++ [s]) }) :: r)
def standF (o : Od) (stk : List Fp) (main : Bool) : Bool := match o with
  | .brk => stk.any (·.wh)
  | .agn => stk.any (·.wh)
  | .els => match stk with
    | [] => false
    | f :: _ => !f.wh && f.els.isNone
  | .fin => !stk.isEmpty
  | .ifo _ => decide (stk.length < 5)
  | .whl _ => decide (stk.length < 5)
  | .ret _ => !main
  | _ => true
structure LS where
  b0 : List Sm
  stk : List Fp
  line : Int
def laidGo (s : LS) : Od → LS
  | .fin => match s.stk with
    | [] => s
    | f :: r => ⟨(addP f.close s.b0 r).1, (addP f.close s.b0 r).2, s.line + 1⟩
  | .els => match s.stk with
    | [] => s
    | f :: r => ⟨s.b0, { f with els := some [] } :: r, s.line + 1⟩
  | .ifo e => ⟨s.b0, ⟨false, s.line + 1, e, [], none⟩ :: s.stk, s.line + 1⟩
  | .whl e => ⟨s.b0, ⟨true, s.line + 1, e, [], none⟩ :: s.stk, s.line + 1⟩
  | o => match o.at_ (s.line + 1) with
    | some st => ⟨(addP st s.b0 s.stk).1, (addP st s.b0 s.stk).2, s.line + 1⟩
    | none => s
def laidStep (main : Bool) (s : LS) (o : Od) : LS := if standF o s.stk main = true then laidGo s o else s
def laidS (main : Bool) (os : List Od) (l : Int) : LS := os.foldl (laidStep main) ⟨[], [], l⟩
def laidF (main : Bool) (os : List Od) (l : Int) : List Sm × Int := ((laidS main (os ++ List.replicate 5 .fin) l).b0, (laidS main (os ++ List.replicate 5 .fin) l).line + 1)
/-! what is asked holds -/
/-! rooms, variables, programs -/
theorem cut_both {xs : List D} (lo hi : Nat) : cutD xs (some (lo : Int)) (some (hi : Int)) = (xs.take hi).drop lo := by
  unfold cutD
  rw [HT.sIx_nat, HT.sIx_nat]
  by_cases h : lo ≤ xs.length
  · rw [Nat.min_eq_left h]
    rw [List.drop_take]
    by_cases h2 : hi ≤ xs.length
    · rw [Nat.min_eq_left h2]
    · rw [Nat.min_eq_right (show xs.length ≤ hi by omega), List.take_of_length_le (by rw [List.length_drop]; omega), List.take_of_length_le (by rw [List.length_drop]; omega)]
  · have a : xs.drop xs.length = [] := List.drop_of_length_le (Nat.le_refl _)
    have b : (xs.take hi).drop lo = [] := List.drop_of_length_le (by rw [List.length_take]; omega)
    rw [Nat.min_eq_right (show xs.length ≤ lo by omega), a, b, List.take_nil]
theorem cut_take {xs : List D} (n : Nat) : cutD xs none (some (n : Int)) = xs.take n := by
  have := cut_both (xs := xs) 0 n
  unfold cutD at this ⊢
  rw [HT.sIx_none]
  rw [HT.sIx_nat xs.length 0 0, Nat.zero_min, List.drop_zero] at this
  exact this
theorem ix_nat {n k : Nat} (h : k < n) : ixN n (k : Int) = some k := by
  unfold ixN
  rw [if_pos (by omega), if_pos (by omega)]
  simp
def isMain (x : Str) : Bool := decide (x = ("main" : Str))
end Tl
namespace Tl
open PySem PySem.Spec PyProof.Rows L2
/-! ### changing lists that stand in a frozen list -/
theorem ReS.at_ {K : PySem.W.Frag} {τ : Sg} {M M' : MH} {i : Nat} {d d' : D} (h : nth τ i = some d) (r : ReR K d M d' M') : ReS K τ M (τ.set i (some d')) M' := fun G F H σ R sg => by
  obtain ⟨v, h1, h2⟩ := sg.2 i _ (nth_get h)
  obtain ⟨F', s, R', p⟩ := r G F H v R h2
  refine ⟨F', s, R', ?_⟩
  have g := sg.mono s
  have e : σ = σ.set i (some v) := by
    apply List.ext_getElem?
    intro j
    by_cases hij : i = j
    · subst hij
      rw [h1, List.getElem?_set_self (List.getElem?_eq_some_iff.mp h1).1]
    · rw [List.getElem?_set_ne hij]
  rw [e]
  exact g.set p
theorem ReR.lst_freeze {K : PySem.W.Frag} {M : MH} {b : Addr} {ds : List D} (pre post : List D) (h : M b = some (.lst ds)) : ReR K (.lst (pre ++ .ref b :: post)) M (.lst (pre ++ .lst ds :: post)) (mdel M b) := fun G F H v R p => by
  obtain ⟨F', s, R', pb⟩ := R.freeze h
  cases p with
  | lst ha r =>
    obtain ⟨v1, v, v2, rfl, r1, r2, r3⟩ := rps_mid r
    cases r2
    exact ⟨F', s, R', .lst (s _ _ ha) ((r1.mono s).append (.cons pb (r3.mono s)))⟩
section
variable {α : Type} {f : α → D} {M0 M : MH}
def celsL (f : α → D) (cs : List (Addr × List α)) : List (Addr × MO) := cs.map fun c => (c.1, .lst (c.2.map f))
def refsL (cs : List (Addr × List α)) : List D := cs.map fun c => .ref c.1
def lstsL (f : α → D) (xss : List (List α)) : List D := xss.map fun xs => .lst (xs.map f)
theorem ReR.all {K : PySem.W.Frag} : ∀ (cs : List (Addr × List α)) (pre : List D) {M : MH}, Cel M0 M (celsL f cs) → ReR K (.lst (pre ++ refsL cs)) M (.lst (pre ++ lstsL f (cs.map (·.2)))) M0
  | [], pre, M, h => h.re
  | c :: cs, pre, M, h => by
    have h1 : Cel M0 M ([] ++ (c.1, .lst (c.2.map f)) :: celsL f cs) := h
    have a := ReR.lst_freeze (K := K) pre (refsL cs) h1.here
    have b := ReR.all (K := K) cs (pre ++ [.lst (c.2.map f)]) h1.del
    rw [List.append_assoc, List.append_assoc] at b
    exact a.trans b
end
theorem Cel.lift {M0 M : MH} {cs : List (Addr × MO)} {p : Addr} {o : MO} (h : Cel M0 M cs) (hp : M p = none) : Cel (mup M0 p o) (mup M p o) cs := by
  have hne : ∀ c ∈ cs, c.1 ≠ p := fun c hc e => by have := h.at_ c hc; rw [e, hp] at this; cases this
  refine ⟨h.nd, fun c hc => by rw [mup_ne (hne c hc)]; exact h.at_ c hc, fun a u e => ?_, fun c hc => by rw [mup_ne (hne c hc)]; exact h.new c hc⟩
  by_cases q : a = p
  · subst q; rw [mup_same] at e ⊢; exact e
  · rw [mup_ne q] at e ⊢; exact h.old a u e
theorem Cel.free {M0 M : MH} {cs : List (Addr × MO)} {p : Addr} (h : Cel M0 M cs) (hp : M p = none) : M0 p = none := by
  cases e : M0 p with
  | none => rfl
  | some u => rw [h.old p u e] at hp; cases hp
theorem enumD_map {α : Type} {f : α → D} {xs : List α} {k : Nat} {x : D} (h : (enumD (xs.map f))[k]? = some x) : ∃ a, xs[k]? = some a ∧ x = .tup [.int k, f a] := by
  obtain ⟨y, hy, rfl⟩ := enumD_get h
  rw [List.getElem?_map] at hy
  obtain ⟨a, ha, rfl⟩ := Option.map_eq_some_iff.mp hy
  exact ⟨a, ha, rfl⟩
theorem enumD_len (xs : List D) : (enumD xs).length = xs.length := by unfold enumD; simp
/-! ### x is True -/
def bIsB : R2t := fun x y M Q => match x, y with
  | .bl a, .bl b => Q (.bl (a == b)) M
  | _, _ => False
theorem uIsB {a b : Bool} {M : MH} {Q : VD} : bIsB (.bl a) (.bl b) M Q = Q (.bl (a == b)) M := propext Iff.rfl
end Tl
namespace Tl
open PySem PySem.Spec PyProof.Rows L2
/-! ### lines, in their order -/
mutual
def lnS : Sm → List Int
  | .if1 l _ b => l :: ln b
  | .if2 l _ b c => l :: (ln b ++ ln c)
  | .whl l _ b => l :: ln b
  | s => [s.line]
def ln : List Sm → List Int
  | [] => []
  | s :: t => lnS s ++ ln t
end
def Fp.seq (f : Fp) : List Int := f.l :: (ln f.bs ++ match f.els with
  | none => []
  | some x => ln x)
def LS.seq (b0 : List Sm) : List Fp → List Int
  | [] => ln b0
  | f :: r => LS.seq b0 r ++ f.seq
structure LI (l : Int) (k : Nat) (s : LS) : Prop where
  wf : ∀ f ∈ s.stk, f.wh = true → f.els = none
  inc : (LS.seq s.b0 s.stk).Pairwise (· < ·)
  rng : ∀ x ∈ LS.seq s.b0 s.stk, l < x ∧ x ≤ s.line
  len : (LS.seq s.b0 s.stk).length ≤ k
  low : l ≤ s.line
theorem LI.add {l : Int} {k : Nat} {s : LS} {b : List Sm} {st : List Fp} (h : LI l k s) (wf : ∀ f ∈ st, f.wh = true → f.els = none) (e : LS.seq b st = LS.seq s.b0 s.stk ++ [s.line + 1]) : LI l (k + 1) ⟨b, st, s.line + 1⟩ := by
  refine ⟨wf, ?_, ?_, ?_, ?_⟩
  · show (LS.seq b st).Pairwise _
    rw [e, List.pairwise_append]
    refine ⟨h.inc, List.pairwise_singleton _ _, fun x hx y hy => ?_⟩
    rw [List.mem_singleton.mp hy]
    have := (h.rng x hx).2
    omega
  · intro x hx
    have hx : x ∈ LS.seq b st := hx
    rw [e] at hx
    show l < x ∧ x ≤ s.line + 1
    rcases List.mem_append.mp hx with hx | hx
    · have := h.rng x hx; omega
    · rw [List.mem_singleton.mp hx]; have := h.low; omega
  · show (LS.seq b st).length ≤ _
    rw [e, List.length_append]
    have := h.len
    simp only [List.length_singleton]; omega
  · show l ≤ s.line + 1
    have := h.low; omega
theorem LI.same {l : Int} {k : Nat} {s : LS} {b : List Sm} {st : List Fp} (h : LI l k s) (wf : ∀ f ∈ st, f.wh = true → f.els = none) (e : LS.seq b st = LS.seq s.b0 s.stk) : LI l k ⟨b, st, s.line + 1⟩ := by
  refine ⟨wf, ?_, ?_, ?_, ?_⟩
  · show (LS.seq b st).Pairwise _
    rw [e]; exact h.inc
  · intro x hx
    have hx : x ∈ LS.seq b st := hx
    rw [e] at hx
    show l < x ∧ x ≤ s.line + 1
    have := h.rng x hx; omega
  · show (LS.seq b st).length ≤ _
    rw [e]; exact h.len
  · show l ≤ s.line + 1
    have := h.low; omega
theorem LI.mono {l : Int} {k m : Nat} {s : LS} (h : LI l k s) (hk : k ≤ m) : LI l m s := ⟨h.wf, h.inc, h.rng, Nat.le_trans h.len hk, h.low⟩
/-! ### what is asked of each statement -/
/-! ### the program whole -/
def dfLn (o : Df) : List Int := o.first :: ln o.body
def pgLn (pg : Pg) : List Int := (pg.map dfLn).flatten
/-- a def as the builder lays it -/
def laidDf (oss : List (List Od)) (rs : Rm) (o : Df) : Prop := ∃ os ∈ oss, (o.name, o.ps) ∈ rs ∧ o.body = (laidF (isMain o.name) os o.first).1 ∧ o.last = (laidF (isMain o.name) os o.first).2
structure PI (oss : List (List Od)) (rs : Rm) (n : Nat) (s : Pg × Int) : Prop where
  names : s.1.map (fun o => (o.name, o.ps)) = rs.take n
  defs : ∀ o ∈ s.1, laidDf oss rs o
  inc : (pgLn s.1).Pairwise (· < ·)
  rng : ∀ x ∈ pgLn s.1, 0 < x ∧ x ≤ s.2
  low : 0 ≤ s.2
  len : ((s.1.map fun o => (ln o.body).length)).sum ≤ ((oss.take n).map List.length).sum
/-! ### no own word -/
end Tl
namespace Tl
open PySem PySem.Spec PyProof.Rows L2
/-! ### the laws' own going over a body -/
structure Rd where
  deed : Sm
  rounds : List Int
  loop : Option Int
def Rd.d (s : Rd) : D := .tup [s.deed.d, .lst (s.rounds.map .int), loopD s.loop]
end Tl
namespace Tl
open PySem PySem.Spec PyProof.Rows L2
/-! ### ways by keys -/
end Tl
namespace Tl
open PySem PySem.Spec PyProof.Rows L2
/-! ### programs as data -/
mutual
theorem okD_mono : ∀ {n m : Nat} {d : D}, okD n d → n ≤ m → okD m d
  | n, m, .non, h, _ => by unfold okD; trivial
  | n, m, .int _, h, _ => by unfold okD; trivial
  | n, m, .bl _, h, _ => by unfold okD; trivial
  | n, m, .str _, h, _ => by unfold okD at h ⊢; exact h
  | n + 1, m + 1, .tup l, h, e => by unfold okD at h ⊢; exact okDs_mono h (by omega)
  | n + 1, m + 1, .lst l, h, e => by unfold okD at h ⊢; exact okDs_mono h (by omega)
  | n + 1, m + 1, .scr l, h, e => by unfold okD at h ⊢; exact okDs_mono h (by omega)
  | n + 1, m + 1, .tab l, h, e => by unfold okD at h ⊢; exact okDs_mono h (by omega)
  | n + 1, 0, .tup l, h, e => by omega
  | n + 1, 0, .lst l, h, e => by omega
  | n + 1, 0, .scr l, h, e => by omega
  | n + 1, 0, .tab l, h, e => by omega
  | 0, _, .tup l, h, _ => by unfold okD at h; exact h.elim
  | 0, _, .tab l, h, _ => by unfold okD at h; exact h.elim
  | 0, _, .lst l, h, _ => by unfold okD at h; exact h.elim
  | 0, _, .scr l, h, _ => by unfold okD at h; exact h.elim
  | _, _, .ref _, h, _ => by unfold okD at h; exact h.elim
  | _, _, .ty _, h, _ => by unfold okD at h; exact h.elim
theorem okDs_mono : ∀ {n m : Nat} {l : List D}, okDs n l → n ≤ m → okDs m l
  | n, m, [], h, _ => by unfold okDs; trivial
  | n, m, x :: t, h, e => by unfold okDs at h ⊢; exact ⟨okD_mono h.1 e, okDs_mono h.2 e⟩
end
theorem okD_str {n : Nat} {s : Str} (h : PyData.strOk s = true) : okD n (.str s) := by unfold okD; exact h
theorem okD_int {n : Nat} {i : Int} : okD n (.int i) := by unfold okD; trivial
theorem okDs_nil {n : Nat} : okDs n [] := by unfold okDs; trivial
theorem okDs_cons {n : Nat} {x : D} {t : List D} (h : okD n x) (ht : okDs n t) : okDs n (x :: t) := by unfold okDs; exact ⟨h, ht⟩
theorem okD_tup {n : Nat} {l : List D} (h : okDs n l) : okD (n + 1) (.tup l) := by unfold okD; exact h
theorem okD_lst {n : Nat} {l : List D} (h : okDs n l) : okD (n + 1) (.lst l) := by unfold okD; exact h
/-! ### which meetings wait -/
/-! by the laws' own ways -/
end Tl
namespace Tl
open PySem PySem.Spec PyProof.Rows L2
/-! ### what the laws call own -/
/-! what each statement, by the marks told, makes own -/
/-! a fixpoint is closed -/
end Tl
namespace Tl
open PySem PySem.Spec PyProof.Rows L2
/-! ### list(d), d a dict by tuples or by plain keys -/
/-! ### {"x": e} -/
def tDisp1 (k : Str) (t : TEt) : TEt := fun τ M Q => t τ M fun v M1 => ∀ p, M1 p = none → Q (.ref p) (mup M1 p (.dK [(.inr k, v)]))
end Tl
namespace Tl
open PySem PySem.Spec PyProof.Rows L2
/-! ### other names -/
end Tl
namespace Tl
open PySem PySem.Spec PyProof.Rows L2
/-! ### the builder with other names -/
/-! lines laid -/
end Tl
namespace Tl
open PySem PySem.Spec PyProof.Rows L2
/-! ### the names that are drawn are unlike -/
def cds (x : Str) : List Nat := x.cps.toList
theorem cds_inj {x y : Str} (h : cds x = cds y) : x = y := by
  obtain ⟨x⟩ := x
  obtain ⟨y⟩ := y
  unfold cds at h
  congr 1
  exact Array.toList_inj.mp h
theorem cds_len (x : Str) : (cds x).length = x.length := by unfold cds; rw [Array.length_toList]; rfl
theorem cds_app (x y : Str) : cds (x ++ y) = cds x ++ cds y := by
  show (x.cps ++ y.cps).toList = _
  rw [Array.toList_append]; rfl
/-! ### names exchanged -/
end Tl
namespace Tl
open PySem PySem.Spec PyProof.Rows L2
theorem uDisp1 {k : Str} {t : TEt} {τ : Sg} {M : MH} {Q : VD} : tDisp1 k t τ M Q = t τ M fun v M1 => ∀ p, M1 p = none → Q (.ref p) (mup M1 p (.dK [(.inr k, v)])) := propext Iff.rfl
/-! ### the names in a program's marks are those that were drawn -/
end Tl
namespace Tl
open PySem PySem.Spec PyProof.Rows L2
/-! ### forms of places -/
inductive Fo where
  | fixed (n : Int) | lane (n : Int) | any
def Fo.d : Fo → D
  | .fixed n => .tup [.str "fixed", .int n]
  | .lane n => .tup [.str "lane", .int n]
  | .any => .tup [.str "any", .int 0]
end Tl
namespace Tl
open PySem PySem.Spec PyProof.Rows L2
/-! ### readings unfolded, by proofs that are told (no check by unfolding is left to the kernel) -/
theorem z_tDnK {w0 : Sg} {M : MH} {Q : VD} : tDnK w0 M Q = ∀ p, M p = none → Q (.ref p) (mup M p (.dK [])) := propext Iff.rfl
theorem z_tDnT {w0 : Sg} {M : MH} {Q : VD} : tDnT w0 M Q = ∀ p, M p = none → Q (.ref p) (mup M p (.dT [])) := propext Iff.rfl
theorem z_tDg {to ti : TEt} {τ : Sg} {M : MH} {Q : VD} : tDg to ti τ M Q = to τ M fun x M1 => ti τ M1 fun k M2 => oDic M2 x k fun r => oSome r fun d => Q d M2 := propext Iff.rfl
theorem z_tDi {neg : Bool} {ti to : TEt} {τ : Sg} {M : MH} {Q : VD} : tDi neg ti to τ M Q = ti τ M fun k M1 => to τ M1 fun x M2 => oDic M2 x k fun r => Q (.bl (if neg = true then !r.isSome else r.isSome)) M2 := propext Iff.rfl
theorem z_tDg2 {to ti tz : TEt} {τ : Sg} {M : MH} {Q : VD} : tDg2 to ti tz τ M Q = to τ M fun x M1 => (∃ a o, x = .ref a ∧ M1 a = some o ∧ isDic o) ∧ ti τ M1 fun k M2 => tz τ M2 fun z M3 => oDic M3 x k fun r => Q (r.getD z) M3 := propext Iff.rfl
theorem z_tRe {K : PySem.W.Frag} {t : TEt} {τ : Sg} {M : MH} {Q : VD} : tRe K t τ M Q = t τ M fun d M1 => ∃ d' M2, ReR K d M1 d' M2 ∧ Q d' M2 := propext Iff.rfl
theorem z_sRe {K : PySem.W.Frag} {u : TSt} {D0 : En} {τ : Sg} {M : MH} : sRe K u D0 τ M = ∃ τ' M', ReS K τ M τ' M' ∧ u D0 τ' M' := propext Iff.rfl
theorem z_tFd {P : Addr → Prop} {fl : List Str} {i : Nat} {te : TEt} {τ : Sg} {M : MH} {Q : VD} : tFd P fl i te τ M Q = te τ M fun x M1 => oObj M1 x fun _ C _ fl' ds => P C ∧ fl' = fl ∧ oSome (nthD ds i) fun d => Q d M1 := propext Iff.rfl
theorem z_sFd {P : Addr → Prop} {fl : List Str} {i : Nat} {te tv : TEt} {D0 : En} {τ : Sg} {M : MH} : sFd P fl i te tv D0 τ M = tv τ M fun y M1 => te τ M1 fun x M2 => oObj M2 x fun a C dx fl' ds => P C ∧ fl' = fl ∧ i ≤ ds.length ∧ D0.nx τ (mup M2 a (.obj C dx fl (putD ds i y))) := propext Iff.rfl
theorem z_sFa {P : Addr → Prop} {fl : List Str} {i : Nat} {te tv : TEt} {r : R2t} {D0 : En} {τ : Sg} {M : MH} : sFa P fl i te tv r D0 τ M = te τ M fun x M1 => oObj M1 x fun _ C _ fl' ds => P C ∧ fl' = fl ∧ oSome (nthD ds i) fun d =>
  tv τ M1 fun y M2 => r d y M2 fun z M3 => oObj M3 x fun a C' dx fl' ds => C' = C ∧ fl' = fl ∧ i ≤ ds.length ∧ D0.nx τ (mup M3 a (.obj C dx fl (putD ds i z))) := propext Iff.rfl
theorem z_tMe {C : Addr} {fl : List Str} {sp : SpT} {te : TEt} {ta : TAt} {τ : Sg} {M : MH} {Q : VD} : tMe C fl sp te ta τ M Q = te τ M fun x M1 => oObj M1 x fun _ C' _ fl' _ => C' = C ∧ fl' = fl ∧ ta τ M1 fun ys M2 => sp (x :: ys) M2 Q Et0 := propext Iff.rfl
theorem z_tMk {C : Addr} {fl : List Str} {sp : SpT} {ta : TAt} {τ : Sg} {M : MH} {Q : VD} : tMk C fl sp ta τ M Q = ta τ M fun ys M1 => ∀ x dx, M1 x = none → sp (.ref x :: ys) (mup M1 x (.obj C dx fl [])) (fun v M2 => v = .non ∧ Q (.ref x) M2) Et0 := propext Iff.rfl
theorem z_sNx {D0 : En} {τ : Sg} {M : MH} : sNx D0 τ M = D0.nx τ M := propext Iff.rfl
theorem z_sSq {t u : TSt} {D0 : En} {τ : Sg} {M : MH} : sSq t u D0 τ M = t { D0 with nx := u D0 } τ M := propext Iff.rfl
theorem z_sBk {D0 : En} {τ : Sg} {M : MH} : sBk D0 τ M = D0.bk τ M := propext Iff.rfl
theorem z_sCt {D0 : En} {τ : Sg} {M : MH} : sCt D0 τ M = D0.ct τ M := propext Iff.rfl
theorem z_sDr {t : TEt} {D0 : En} {τ : Sg} {M : MH} : sDr t D0 τ M = t τ M fun _ M1 => D0.nx τ M1 := propext Iff.rfl
theorem z_sRt {t : TEt} {D0 : En} {τ : Sg} {M : MH} : sRt t D0 τ M = t τ M D0.rt := propext Iff.rfl
theorem z_sRtN {D0 : En} {w1 : Sg} {M : MH} : sRtN D0 w1 M = D0.rt .non M := propext Iff.rfl
theorem z_sIf {c : TTt} {t u : TSt} {D0 : En} {τ : Sg} {M : MH} : sIf c t u D0 τ M = c τ M fun b M1 => if b = true then t D0 τ M1 else u D0 τ M1 := propext Iff.rfl
theorem z_sAs {te : TEt} {g : TGt} {D0 : En} {τ : Sg} {M : MH} : sAs te g D0 τ M = te τ M fun x M1 => g x τ M1 D0.nx := propext Iff.rfl
theorem z_gN {i : Nat} {d : D} {τ : Sg} {M : MH} {Q : Sg → MH → Prop} : gN i d τ M Q = Q (τ.set i (some d)) M := propext Iff.rfl
theorem z_gSb {to ti : TEt} {t : TSett} {v : D} {τ : Sg} {M : MH} {Q : Sg → MH → Prop} : gSb to ti t v τ M Q = to τ M fun o M1 => ti τ M1 fun i M2 => t o i v M2 fun M3 => Q τ M3 := propext Iff.rfl
theorem z_tK {d : D} {w0 : Sg} {M : MH} {Q : VD} : tK d w0 M Q = Q d M := propext Iff.rfl
theorem z_tO {r : R2t} {ta tb : TEt} {τ : Sg} {M : MH} {Q : VD} : tO r ta tb τ M Q = ta τ M fun x M1 => tb τ M1 fun y M2 => r x y M2 Q := propext Iff.rfl
theorem z_tU {r : R1t} {ta : TEt} {τ : Sg} {M : MH} {Q : VD} : tU r ta τ M Q = ta τ M fun x M1 => r x M1 Q := propext Iff.rfl
theorem z_tCa {r : RLt} {ta : TAt} {τ : Sg} {M : MH} {Q : VD} : tCa r ta τ M Q = ta τ M fun xs M1 => r xs M1 Q := propext Iff.rfl
theorem z_tN {w0 : Sg} {M : MH} {Q : List D → MH → Prop} : tN w0 M Q = Q [] M := propext Iff.rfl
theorem z_tCs {ta : TEt} {tr : TAt} {τ : Sg} {M : MH} {Q : List D → MH → Prop} : tCs ta tr τ M Q = ta τ M fun x M1 => tr τ M1 fun xs M2 => Q (x :: xs) M2 := propext Iff.rfl
theorem z_tAn {t u : TTt} {τ : Sg} {M : MH} {Q : Bool → MH → Prop} : tAn t u τ M Q = t τ M fun c M1 => if c = true then u τ M1 Q else Q false M1 := propext Iff.rfl
theorem z_tNo {t : TTt} {τ : Sg} {M : MH} {Q : Bool → MH → Prop} : tNo t τ M Q = t τ M fun c M1 => Q (!c) M1 := propext Iff.rfl
theorem z_tIfE {t : TTt} {ta tb : TEt} {τ : Sg} {M : MH} {Q : VD} : tIfE t ta tb τ M Q = t τ M fun c M1 => if c = true then ta τ M1 Q else tb τ M1 Q := propext Iff.rfl
theorem z_tCl {sp : SpT} {Et : XT} {t : TAt} {τ : Sg} {M : MH} {Q : VD} : tCl sp Et t τ M Q = t τ M fun ds M1 => sp ds M1 Q Et := propext Iff.rfl
theorem z_tTu {t : TAt} {τ : Sg} {M : MH} {Q : VD} : tTu t τ M Q = t τ M fun ds M1 => ds.length ≤ sizeLine ∧ Q (.tup ds) M1 := propext Iff.rfl
theorem z_tLi {t : TAt} {τ : Sg} {M : MH} {Q : VD} : tLi t τ M Q = t τ M fun ds M1 => ds.length ≤ sizeLine ∧ Q (.lst ds) M1 := propext Iff.rfl
theorem z_tLm {t : TAt} {τ : Sg} {M : MH} {Q : VD} : tLm t τ M Q = t τ M fun ds M1 => ds.length ≤ sizeLine ∧ ∀ p, M1 p = none → Q (.ref p) (mup M1 p (.lst ds)) := propext Iff.rfl
theorem z_tSc {r : D → Option Int → Option Int → MH → VD → Prop} {te : TEt} {tl th : TOt} {τ : Sg} {M : MH} {Q : VD} : tSc r te tl th τ M Q = te τ M fun x M1 => tl τ M1 fun l M2 => th τ M2 fun u M3 => r x l u M3 Q := propext Iff.rfl
theorem z_oNo {w0 : Sg} {M : MH} {Q : Option Int → MH → Prop} : oNo w0 M Q = Q none M := propext Iff.rfl
theorem z_tMt {r : RMt} {to : TEt} {t : TAt} {τ : Sg} {M : MH} {Q : VD} : tMt r to t τ M Q = to τ M fun x M1 => (lstOf M1 x).isSome = true ∧ t τ M1 fun xs M2 => r x xs M2 Q := propext Iff.rfl
theorem z_tMt0 {r : RMt} {to : TEt} {τ : Sg} {M : MH} {Q : VD} : tMt0 r to τ M Q = to τ M fun x M1 => (lstOf M1 x).isSome = true ∧ r x [] M1 Q := propext Iff.rfl
theorem z_tYe {w0 : Sg} {M : MH} {Q : Bool → MH → Prop} : tYe w0 M Q = Q true M := propext Iff.rfl
theorem z_tLt {ds : List D} {w0 : Sg} {M : MH} {Q : List D → MH → Prop} : tLt ds w0 M Q = Q ds M := propext Iff.rfl
end Tl
namespace Tl
open PySem PySem.Spec PyProof.Rows L2
/-! ### == of plain data is sameness -/
mutual
def plD : D → Prop
  | .non => True
  | .int _ => True
  | .str _ => True
  | .tup l => plDs l
  | .lst l => plDs l
  | _ => False
def plDs : List D → Prop
  | [] => True
  | x :: t => plD x ∧ plDs t
end
mutual
theorem pl_eqv : ∀ (x y : D) (d e : PyData), plD x → plD y → pyD x = some d → pyD y = some e → (PyData.eqv d e = true ↔ x = y)
  | .non, y, d, e, hx, hy, h1, h2 => by
    unfold pyD at h1; cases h1
    cases y with
    | non => unfold pyD at h2; cases h2; unfold PyData.eqv; simp
    | int j => unfold pyD at h2; cases h2; unfold PyData.eqv; simp
    | str j => unfold pyD at h2; cases h2; unfold PyData.eqv; simp
    | tup l => unfold pyD at h2; obtain ⟨ys, _, rfl⟩ := Option.map_eq_some_iff.mp h2; unfold PyData.eqv; simp
    | lst l => unfold pyD at h2; obtain ⟨ys, _, rfl⟩ := Option.map_eq_some_iff.mp h2; unfold PyData.eqv; simp
    | _ => unfold plD at hy; exact hy.elim
  | .int i, y, d, e, hx, hy, h1, h2 => by
    unfold pyD at h1; cases h1
    cases y with
    | non => unfold pyD at h2; cases h2; unfold PyData.eqv; simp
    | int j => unfold pyD at h2; cases h2; unfold PyData.eqv; simp
    | str j => unfold pyD at h2; cases h2; unfold PyData.eqv; simp
    | tup l => unfold pyD at h2; obtain ⟨ys, _, rfl⟩ := Option.map_eq_some_iff.mp h2; unfold PyData.eqv; simp
    | lst l => unfold pyD at h2; obtain ⟨ys, _, rfl⟩ := Option.map_eq_some_iff.mp h2; unfold PyData.eqv; simp
    | _ => unfold plD at hy; exact hy.elim
  | .str i, y, d, e, hx, hy, h1, h2 => by
    unfold pyD at h1; cases h1
    cases y with
    | non => unfold pyD at h2; cases h2; unfold PyData.eqv; simp
    | int j => unfold pyD at h2; cases h2; unfold PyData.eqv; simp
    | str j => unfold pyD at h2; cases h2; unfold PyData.eqv; simp
    | tup l => unfold pyD at h2; obtain ⟨ys, _, rfl⟩ := Option.map_eq_some_iff.mp h2; unfold PyData.eqv; simp
    | lst l => unfold pyD at h2; obtain ⟨ys, _, rfl⟩ := Option.map_eq_some_iff.mp h2; unfold PyData.eqv; simp
    | _ => unfold plD at hy; exact hy.elim
  | .tup l, y, d, e, hx, hy, h1, h2 => by
    unfold pyD at h1
    obtain ⟨xs, e1, rfl⟩ := Option.map_eq_some_iff.mp h1
    cases y with
    | non => unfold pyD at h2; cases h2; unfold PyData.eqv; simp
    | int j => unfold pyD at h2; cases h2; unfold PyData.eqv; simp
    | str j => unfold pyD at h2; cases h2; unfold PyData.eqv; simp
    | tup m =>
      unfold pyD at h2
      obtain ⟨ys, e2, rfl⟩ := Option.map_eq_some_iff.mp h2
      unfold plD at hx hy
      have := pl_eqvs l m xs ys hx hy e1 e2
      unfold PyData.eqv
      rw [this, D.tup.injEq]
    | lst m => unfold pyD at h2; obtain ⟨ys, _, rfl⟩ := Option.map_eq_some_iff.mp h2; unfold PyData.eqv; simp
    | _ => unfold plD at hy; exact hy.elim
  | .lst l, y, d, e, hx, hy, h1, h2 => by
    unfold pyD at h1
    obtain ⟨xs, e1, rfl⟩ := Option.map_eq_some_iff.mp h1
    cases y with
    | non => unfold pyD at h2; cases h2; unfold PyData.eqv; simp
    | int j => unfold pyD at h2; cases h2; unfold PyData.eqv; simp
    | str j => unfold pyD at h2; cases h2; unfold PyData.eqv; simp
    | lst m =>
      unfold pyD at h2
      obtain ⟨ys, e2, rfl⟩ := Option.map_eq_some_iff.mp h2
      unfold plD at hx hy
      have := pl_eqvs l m xs ys hx hy e1 e2
      unfold PyData.eqv
      rw [this, D.lst.injEq]
    | tup m => unfold pyD at h2; obtain ⟨ys, _, rfl⟩ := Option.map_eq_some_iff.mp h2; unfold PyData.eqv; simp
    | _ => unfold plD at hy; exact hy.elim
  | .bl _, _, _, _, hx, _, _, _ => by unfold plD at hx; exact hx.elim
  | .tab _, _, _, _, hx, _, _, _ => by unfold plD at hx; exact hx.elim
  | .scr _, _, _, _, hx, _, _, _ => by unfold plD at hx; exact hx.elim
  | .ref _, _, _, _, hx, _, _, _ => by unfold plD at hx; exact hx.elim
  | .ty _, _, _, _, hx, _, _, _ => by unfold plD at hx; exact hx.elim
theorem pl_eqvs : ∀ (x y : List D) (d e : List PyData), plDs x → plDs y → pyDs x = some d → pyDs y = some e → (PyData.eqvAll d e = true ↔ x = y)
  | [], [], d, e, _, _, h1, h2 => by unfold pyDs at h1 h2; cases h1; cases h2; unfold PyData.eqvAll; simp
  | [], y :: t, d, e, _, _, h1, h2 => by
    unfold pyDs at h1 h2; cases h1
    cases q : pyD y with
    | none => simp only [q] at h2; cases h2
    | some a => cases q2 : pyDs t with
      | none => simp only [q, q2] at h2; cases h2
      | some b => simp only [q, q2] at h2; cases h2; unfold PyData.eqvAll; simp
  | x :: t, [], d, e, _, _, h1, h2 => by
    unfold pyDs at h1 h2; cases h2
    cases q : pyD x with
    | none => simp only [q] at h1; cases h1
    | some a => cases q2 : pyDs t with
      | none => simp only [q, q2] at h1; cases h1
      | some b => simp only [q, q2] at h1; cases h1; unfold PyData.eqvAll; simp
  | x :: t, y :: u, d, e, hx, hy, h1, h2 => by
    unfold pyDs at h1 h2
    unfold plDs at hx hy
    cases q : pyD x with
    | none => simp only [q] at h1; cases h1
    | some a => cases q2 : pyDs t with
      | none => simp only [q, q2] at h1; cases h1
      | some b => cases q3 : pyD y with
        | none => simp only [q3] at h2; cases h2
        | some a2 => cases q4 : pyDs u with
          | none => simp only [q3, q4] at h2; cases h2
          | some b2 =>
            simp only [q, q2] at h1
            simp only [q3, q4] at h2
            cases h1; cases h2
            unfold PyData.eqvAll
            rw [Bool.and_eq_true, pl_eqv x y a a2 hx.1 hy.1 q q3, pl_eqvs t u b b2 hx.2 hy.2 q2 q4, List.cons.injEq]
end
theorem eqD_pl {M : MH} {x y z w : D} {Q : VD} (n : Nat) (hx : asD M x = some z) (hy : asD M y = some w) (ok : okD n z) (ok2 : okD n w) (p : plD z) (p2 : plD w) (h : ∀ b : Bool, (b = true ↔ z = w) → Q (.bl b) M) (hn : n ≤ 64 := by decide) : bEqD x y M Q := by
  obtain ⟨d, e, c, dp⟩ := okD_py n z ok
  obtain ⟨d2, e2, c2, dp2⟩ := okD_py n w ok2
  unfold bEqD
  simp only [pyM_asD hx, pyM_asD hy, e, e2]
  have sh : SeqAt.shaped d = true := Bool.and_eq_true_iff.mpr ⟨c, decide_eq_true (by omega)⟩
  have sh2 : SeqAt.shaped d2 = true := Bool.and_eq_true_iff.mpr ⟨c2, decide_eq_true (by omega)⟩
  exact ⟨sh, sh2, h _ (pl_eqv z w d d2 p p2 e e2)⟩
end Tl
namespace Tl
open PySem PySem.Spec PyProof.Rows L2
/-! ### rows: a mirror of how a program is made into rows -/
inductive Sn where
  | lane | lanes | mine
deriving DecidableEq
def Sn.s : Sn → Str
  | .lane => "lane" | .lanes => "lanes" | .mine => "mine"
inductive Rw where
  | tick (l : Int) | num (l at_ n : Int) | copy (l at_ from_ : Int) | sign (l at_ : Int) (w : Sn) | op (l at_ : Int) (w : Op7) (one other : Int) | get (l at_ pl : Int) | put (l pl from_ : Int) | tell (l from_ : Int)
  | split (l from_ row : Int) | jump (l row : Int) | call (l at_ first many row : Int) | back (l : Int) | join (l at_ : Int) (w : Str) (from_ : Int) | meet (l : Int) | stop (l : Int)
def Rw.d : Rw → D
  | .tick l => .tup [.str "tick", .int l]
  | .num l a n => .tup [.str "num", .int l, .int a, .int n]
  | .copy l a f => .tup [.str "copy", .int l, .int a, .int f]
  | .sign l a w => .tup [.str "sign", .int l, .int a, .str w.s]
  | .op l a w o p => .tup [.str "op", .int l, .int a, .str w.s, .int o, .int p]
  | .get l a p => .tup [.str "get", .int l, .int a, .int p]
  | .put l p f => .tup [.str "put", .int l, .int p, .int f]
  | .tell l f => .tup [.str "tell", .int l, .int f]
  | .split l f r => .tup [.str "split", .int l, .int f, .int r]
  | .jump l r => .tup [.str "jump", .int l, .int r]
  | .call l a f m r => .tup [.str "call", .int l, .int a, .int f, .int m, .int r]
  | .back l => .tup [.str "back", .int l]
  | .join l a w f => .tup [.str "join", .int l, .int a, .str w, .int f]
  | .meet l => .tup [.str "meet", .int l]
  | .stop l => .tup [.str "stop", .int l]
def Rw.lead (t : Int) : Rw → Rw
  | .split l f _ => .split l f t
  | .jump l _ => .jump l t
  | .call l a f m _ => .call l a f m t
  | r => r
def leadAt (rows : List Rw) (k : Nat) (t : Int) : List Rw := rows.modify k (Rw.lead t)
/-! expressions and statements of a body, in their order -/
def Sm.exprs : Sm → List Ex
  | .put _ a b => [a, b] | .tell _ e => [e] | .ret _ e => [e] | .if1 _ e _ => [e] | .if2 _ e _ _ => [e] | .whl _ e _ => [e] | .set _ _ e => [e] | .call _ _ _ es => es | .join _ _ _ e => [e] | _ => []
mutual
def allSt : Sm → List Sm
  | .if1 l e b => .if1 l e b :: allBd b
  | .if2 l e b c => .if2 l e b c :: (allBd b ++ allBd c)
  | .whl l e b => .whl l e b :: allBd b
  | s => [s]
def allBd : List Sm → List Sm
  | [] => []
  | s :: t => allSt s ++ allBd t
end
/-! slots of names -/
def noteN (ss : List Str) (x : Str) : List Str := if x ∈ ss then ss else ss ++ [x]
def noteE : List Str → Ex → List Str
  | ss, .nam x => noteN ss x
  | ss, .box e => noteE ss e
  | ss, .op _ a b => noteE (noteE ss a) b
  | ss, _ => ss
def noteS (ss : List Str) (s : Sm) : List Str := s.exprs.foldl noteE (match s.given with
  | some x => noteN ss x
  | none => ss)
def slotsF (o : Df) : List Str := (allBd o.body).foldl noteS (o.ps.foldl noteN [])
def slotOf (ss : List Str) (x : Str) : Int := (ss.idxOf x + 1 : Nat)
def slotFrom : Nat → List Str → List (Key × D)
  | _, [] => []
  | i, x :: t => (.inr x, .int ((i + 1 : Nat) : Int)) :: slotFrom (i + 1) t
def slotD (ss : List Str) : List (Key × D) := slotFrom 0 ss
/-! rows of an expression -/
def exRows (ss : List Str) (l : Int) : Ex → Int → List Rw
  | .num n, a => [.num l a n]
  | .nam x, a => [.copy l a (slotOf ss x)]
  | .lane, a => [.sign l a .lane]
  | .lanes, a => [.sign l a .lanes]
  | .mine, a => [.sign l a .mine]
  | .box e, a => exRows ss l e a ++ [.get l a a]
  | .op w x y, a => exRows ss l x a ++ exRows ss l y (a + 1) ++ [.op l a w a (a + 1)]
def exsRows (ss : List Str) (l : Int) : List Ex → Int → List Rw
  | [], _ => []
  | e :: es, a => exRows ss l e a ++ exsRows ss l es (a + 1)
/-! the maker -/
structure Mk where
  rows : List Rw
  calls : List (Nat × Str)
  leaves : List Nat
  loops : List (Nat × List Nat)
def Mk.add (m : Mk) (rs : List Rw) : Mk := { m with rows := m.rows ++ rs }
def Mk.lead (m : Mk) (k : Nat) : Mk := { m with rows := leadAt m.rows k m.rows.length }
def Mk.leads (m : Mk) (ks : List Nat) : Mk := ks.foldl Mk.lead m
def lastRow (ss : List Str) (fr : Int) : Sm → Rw
  | .set l x _ => .copy l (slotOf ss x) fr
  | .put l _ _ => .put l fr (fr + 1)
  | .tell l _ => .tell l fr
  | .join l x w _ => .join l (slotOf ss x) w fr
  | .meet l => .meet l
  | s => .stop s.line
mutual
def mkS (ss : List Str) (fr : Int) (m0 : Mk) : Sm → Mk
  | .if1 l e b =>
    let m1 := m0.add (exRows ss l e fr ++ [.split l fr 0])
    (mkB ss fr m1 b).lead (m1.rows.length - 1)
  | .if2 l e b c =>
    let m1 := m0.add (exRows ss l e fr ++ [.split l fr 0])
    let m2 := (mkB ss fr m1 b).add [.jump l 0]
    (mkB ss fr (m2.lead (m1.rows.length - 1)) c).lead (m2.rows.length - 1)
  | .whl l e b =>
    let begin_ := m0.rows.length - 1
    let m1 := m0.add (exRows ss l e fr ++ [.split l fr 0])
    let m2 := (mkB ss fr { m1 with loops := (begin_, [m1.rows.length - 1]) :: m1.loops } b).add [.jump l begin_]
    match m2.loops with
    | [] => m2
    | (_, lv) :: r => ({ m2 with loops := r }).leads lv
  | .brk l => match m0.loops with
    | [] => m0
    | (b, lv) :: r => { m0 with rows := m0.rows ++ [.jump l b], loops := (b, lv ++ [m0.rows.length]) :: r }
  | .agn l => match m0.loops with
    | [] => m0
    | (b, _) :: _ => m0.add [.jump l b]
  | .ret l e =>
    let m1 := m0.add (exRows ss l e fr ++ [.copy l 0 fr, .jump l 0])
    { m1 with leaves := m1.leaves ++ [m1.rows.length - 1] }
  | .call l x f es =>
    let m1 := m0.add (exsRows ss l es fr ++ [.call l (slotOf ss x) fr es.length 0])
    { m1 with calls := m1.calls ++ [(m1.rows.length - 1, f)] }
  | s => m0.add (exsRows ss s.line s.exprs fr ++ [lastRow ss fr s])
def mkB (ss : List Str) (fr : Int) (m : Mk) : List Sm → Mk
  | [] => m
  | s :: t => mkB ss fr (mkS ss fr (m.add [.tick s.line]) s) t
end
def mkDef (m : Mk) (o : Df) : Mk :=
  let ss := slotsF o
  let m1 := mkB ss (ss.length + 1) { m with leaves := [] } o.body
  (m1.leads m1.leaves).add [.back o.last]
def mainFirst (pg : Pg) : Pg := (pg.filter fun o => isMain o.name) ++ pg.filter fun o => !isMain o.name
def mkAll (os : Pg) : Mk × List (Str × Nat) := os.foldl (fun s o => (mkDef s.1 o, s.2 ++ [(o.name, s.1.rows.length)])) (⟨[], [], [], []⟩, [])
def beginOf (bs : List (Str × Nat)) (f : Str) : Int := ((bs.reverse.find? fun p => decide (p.1 = f)).map fun p => (p.2 : Int)).getD 0
/-- the rows of a program -/
def rowsF (pg : Pg) : List Rw :=
  let s := mkAll (mainFirst pg)
  s.1.calls.foldl (fun rows c => leadAt rows c.1 (beginOf s.2 c.2)) s.1.rows
theorem allBd_app : ∀ {a b : List Sm}, allBd (a ++ b) = allBd a ++ allBd b
  | [], b => by rw [show allBd [] = [] from by unfold allBd; rfl]; rfl
  | s :: t, b => by rw [List.cons_append, allBd, allBd, allBd_app, List.append_assoc]
theorem allBd_one {s : Sm} : allBd [s] = allSt s := by rw [allBd, show allBd [] = [] from by unfold allBd; rfl, List.append_nil]
theorem allSt_eq (s : Sm) : allSt s = s :: (s.blocks.map allBd).flatten := by
  cases s <;> (unfold allSt Sm.blocks; simp)
end Tl
namespace Tl
open PySem PySem.Spec PyProof.Rows L2
/-! ### setdefault of a dict by numbers and texts -/
def isDK : MO → Prop
  | .dK _ => True
  | _ => False
def oSdk (o : Option MO) (k : D) (z : D) (f : D → Option MO → Prop) : Prop := match o with
  | some (.dK kvs) => match k1 k with
    | some c => kvs.length < sizeLine ∧ match valD kvs c with
      | some d => f d none
      | none => f z (some (.dK (putM kvs c z)))
    | none => False
  | _ => False
def sSdk (x k z : D) (M : MH) (Q : VD) : Prop := match x with
  | .ref a => oSdk (M a) k z fun d u => Q d (match u with
    | some o => mup M a o
    | none => M)
  | _ => False
def tSdk (to ti tz : TEt) : TEt := fun τ M Q => to τ M fun x M1 => (∃ a o, x = .ref a ∧ M1 a = some o ∧ isDK o) ∧ ti τ M1 fun k M2 => tz τ M2 fun z M3 => sSdk x k z M3 Q
section
variable {X : Cx} {E : XK} {Et : XT} {o i z : Expr} {apos cpos : Pos} {to ti tz : TEt}
theorem q_setdefault2 (ho : QE X E Et o to) (hi : QE X E Et i ti) (hz : QE X E Et z tz) (m : M2 X o "setdefault" apos i z cpos := by exact ⟨rfl, rfl, rfl, rfl⟩) : QE X E Et (.Call (.Attribute o "setdefault" apos) [i, z] [] cpos) (tSdk to ti tz) := PEimp (pe_dsetd ho hi hz m) (by
  rintro σ H Q ⟨G, F, M, τ, Qt, a, h, k⟩
  refine ⟨G, F, M, τ, _, a, h, fun x F1 H1 M1 d s1 r1 p1 q1 => ?_⟩
  obtain ⟨⟨b, mo, rfl, hb, hd⟩, q1⟩ := q1
  cases p1
  have isd : IsD H1 b := by
    obtain ⟨_, u, hu, r⟩ := r1.chg b _ hb
    cases mo with
    | dK kvs =>
      cases u with
      | dK vs => exact .inl ⟨vs, .inl hu⟩
      | _ => exact (r : False).elim
    | _ => exact hd.elim
  refine ⟨b, rfl, isd, G, F1, M1, τ, _, a.step s1 r1, q1, fun y F2 H2 M2 e s2 r2 p2 q2 => ?_⟩
  refine ⟨G, F2, M2, τ, _, a.step (s1.trans s2) r2, q2, fun w F3 H3 M3 zd s3 r3 p3 q3 => ?_⟩
  have q3 : oSdk (M3 b) e zd fun d u => Qt d (match u with
    | some o => mup M3 b o
    | none => M3) := q3
  cases q : M3 b with
  | none => rw [q] at q3; exact q3.elim
  | some mo3 =>
    rw [q] at q3
    obtain ⟨_, u, hu, r⟩ := r3.chg b mo3 q
    cases mo3 with
    | dK kvs =>
      unfold oSdk at q3
      dsimp only at q3
      cases q4 : k1 e with
      | none => simp only [q4] at q3
      | some c =>
        simp only [q4] at q3
        cases u with
        | dK vs =>
          have r : KP X.K F3 vs kvs := r
          have ec := k1_of (p2.mono s3) q4
          subst ec
          refine ⟨vs, c, hu, rfl, by rw [kp_len r]; exact q3.1, fun v hv => ?_, fun hn => ?_⟩
          · have q5 := q3.2
            have kv := kp_val r (k := c)
            cases q6 : valD kvs c with
            | none => rw [(kv.1 q6)] at hv; cases hv
            | some d =>
              rw [q6] at q5
              obtain ⟨v', e', pv⟩ := kv.2 d q6
              rw [hv] at e'
              cases e'
              exact k v F3 H3 M3 d ((s1.trans s2).trans s3) r3 pv q5
          · have q5 := q3.2
            have kv := kp_val r (k := c)
            cases q6 : valD kvs c with
            | some d =>
              obtain ⟨v', e', pv⟩ := kv.2 d q6
              rw [hn] at e'
              cases e'
            | none =>
              rw [q6] at q5
              exact k w F3 _ _ zd ((s1.trans s2).trans s3) (r3.put q (show RpO X.K F3 (.dK (putK vs c w)) (.dK (putM kvs c zd)) from kp_put p3 r)) p3 q5
        | _ => exact (r : False).elim
    | _ => exact q3.elim)
end
theorem uSdk {a : Addr} {k z : D} {M : MH} {Q : VD} : sSdk (.ref a) k z M Q = oSdk (M a) k z fun d u => Q d (match u with
    | some o => mup M a o
    | none => M) := propext Iff.rfl
theorem utSdk {to ti tz : TEt} {τ : Sg} {M : MH} {Q : VD} : tSdk to ti tz τ M Q = to τ M fun x M1 => (∃ a o, x = .ref a ∧ M1 a = some o ∧ isDK o) ∧ ti τ M1 fun k M2 => tz τ M2 fun z M3 => sSdk x k z M3 Q := propext Iff.rfl
theorem oSdk_s {kvs : List (Key × D)} {s : Str} {z : D} {f : D → Option MO → Prop} : oSdk (some (.dK kvs)) (.str s) z f = (kvs.length < 16777216 ∧ match valD kvs (.inr s) with
      | some d => f d none
      | none => f z (some (.dK (putM kvs (.inr s) z)))) := by rw [← sizeLine_eq]; rfl
/-! ### slots -/
theorem slotFrom_len : ∀ {ss : List Str} {i : Nat}, (slotFrom i ss).length = ss.length
  | [], _ => rfl
  | _ :: t, i => by rw [slotFrom, List.length_cons, List.length_cons, slotFrom_len]
theorem slotD_len {ss : List Str} : (slotD ss).length = ss.length := slotFrom_len
theorem slotFrom_val : ∀ {ss : List Str} {i : Nat} {x : Str}, valD (slotFrom i ss) (.inr x) = if x ∈ ss then some (.int ((i + ss.idxOf x + 1 : Nat) : Int)) else none
  | [], _, _ => by rw [if_neg (by simp)]; rfl
  | y :: t, i, x => by
    unfold slotFrom
    unfold valD
    rw [List.find?_cons]
    by_cases e : y = x
    · subst e
      simp
    · have h : ¬ ((Sum.inr y : Key) = .inr x) := fun h => e (Sum.inr.inj h)
      have ih := slotFrom_val (ss := t) (i := i + 1) (x := x)
      unfold valD at ih
      simp only [h, decide_false]
      rw [ih]
      have ex : (y == x) = false := by simpa using e
      by_cases hx : x ∈ t
      · rw [if_pos hx, if_pos (List.mem_cons_of_mem _ hx), List.idxOf_cons, ex]
        simp only [cond_false]
        congr 3
        omega
      · rw [if_neg hx, if_neg (by simp only [List.mem_cons, not_or]; exact ⟨fun h => e h.symm, hx⟩)]
theorem slot_there {ss : List Str} {x : Str} (h : x ∈ ss) : valD (slotD ss) (.inr x) = some (.int (slotOf ss x)) := by
  unfold slotD slotOf
  rw [slotFrom_val, if_pos h, Nat.zero_add]
theorem slot_new {ss : List Str} {x : Str} (h : x ∉ ss) : valD (slotD ss) (.inr x) = none := by
  unfold slotD
  rw [slotFrom_val, if_neg h]
theorem slotFrom_app : ∀ {ss : List Str} {i : Nat} {x : Str}, slotFrom i (ss ++ [x]) = slotFrom i ss ++ [(.inr x, .int ((i + ss.length + 1 : Nat) : Int))]
  | [], _, _ => rfl
  | y :: t, i, x => by
    rw [List.cons_append, slotFrom, slotFrom, slotFrom_app, List.cons_append, List.length_cons]
    congr 5
    omega
theorem slot_put {ss : List Str} {x : Str} (h : x ∉ ss) : putM (slotD ss) (.inr x) (.int ((ss.length : Int) + 1)) = slotD (ss ++ [x]) := by
  have hn : ¬ ((slotD ss).any fun q => decide (q.1 = .inr x)) = true := by
    intro ha
    have := slot_new h
    unfold valD at this
    rw [List.any_eq_true] at ha
    obtain ⟨q, hq, e⟩ := ha
    rw [Option.map_eq_none_iff, List.find?_eq_none] at this
    exact this q hq e
  unfold putM
  rw [if_neg hn]
  unfold slotD
  rw [slotFrom_app]
  congr 4
  omega
theorem noteN_len {ss : List Str} {x : Str} : ss.length ≤ (noteN ss x).length := by
  unfold noteN; split
  · omega
  · simp
theorem noteE_len : ∀ {e : Ex} {ss : List Str}, ss.length ≤ (noteE ss e).length
  | .num _, _ => Nat.le_refl _ | .lane, _ => Nat.le_refl _ | .lanes, _ => Nat.le_refl _ | .mine, _ => Nat.le_refl _
  | .nam _, _ => noteN_len
  | .box e, _ => noteE_len (e := e)
  | .op _ a b, _ => Nat.le_trans (noteE_len (e := a)) (noteE_len (e := b))
theorem notes_len {α : Type} {f : List Str → α → List Str} (h : ∀ ss x, ss.length ≤ (f ss x).length) : ∀ {l : List α} {ss : List Str}, ss.length ≤ (l.foldl f ss).length
  | [], _ => Nat.le_refl _
  | x :: t, ss => Nat.le_trans (h ss x) (notes_len h (l := t))
theorem mup_idem {M : MH} {a : Addr} {o : MO} (h : M a = some o) : mup M a o = M := by
  funext b
  unfold mup
  split
  · rename_i e; subst e; exact h.symm
  · rfl
/-- setdefault gives a name its slot -/
theorem sd_name {a : Addr} {M : MH} {ss : List Str} {x : Str} {n : Int} {Q : VD} (hM : M a = some (.dK (slotD ss))) (hl : (noteN ss x).length < 16777216) (hn : n = (ss.length : Int) + 1) (h : ∀ d, Q d (mup M a (.dK (slotD (noteN ss x))))) : sSdk (.ref a) (.str x) (.int n) M Q := by
  subst hn
  rw [uSdk, hM, oSdk_s]
  by_cases hx : x ∈ ss
  · have e : noteN ss x = ss := if_pos hx
    rw [e] at h hl
    rw [slot_there hx]
    refine ⟨by rw [slotD_len]; exact hl, ?_⟩
    have := h (.int (slotOf ss x))
    rw [mup_idem hM] at this
    exact this
  · have e : noteN ss x = ss ++ [x] := if_neg hx
    rw [e] at h hl
    rw [slot_new hx]
    refine ⟨by rw [slotD_len]; rw [List.length_append] at hl; omega, ?_⟩
    dsimp only
    rw [slot_put hx]
    exact h _
def Ex.inS (ss : List Str) : Ex → Prop
  | .nam x => x ∈ ss
  | .box e => e.inS ss
  | .op _ a b => a.inS ss ∧ b.inS ss
  | _ => True
theorem inS_mono {ss ts : List Str} (h : ∀ x ∈ ss, x ∈ ts) : ∀ {e : Ex}, e.inS ss → e.inS ts
  | .nam x, i => h x i
  | .box e, i => inS_mono h (e := e) i
  | .op _ a b, i => ⟨inS_mono h (e := a) i.1, inS_mono h (e := b) i.2⟩
  | .num _, _ => True.intro | .lane, _ => True.intro | .lanes, _ => True.intro | .mine, _ => True.intro
theorem noteN_sub {ss : List Str} {x : Str} : ∀ y ∈ ss, y ∈ noteN ss x := by
  intro y hy; unfold noteN; split
  · exact hy
  · exact List.mem_append_left _ hy
theorem noteN_in {ss : List Str} {x : Str} : x ∈ noteN ss x := by
  unfold noteN; split
  · assumption
  · simp
theorem noteE_sub : ∀ {e : Ex} {ss : List Str}, ∀ y ∈ ss, y ∈ noteE ss e
  | .num _, _, _, h => h | .lane, _, _, h => h | .lanes, _, _, h => h | .mine, _, _, h => h
  | .nam _, _, y, h => noteN_sub y h
  | .box e, _, y, h => noteE_sub (e := e) y h
  | .op _ a b, _, y, h => noteE_sub (e := b) y (noteE_sub (e := a) y h)
theorem noteE_in : ∀ {e : Ex} {ss : List Str}, e.inS (noteE ss e)
  | .num _, _ => True.intro | .lane, _ => True.intro | .lanes, _ => True.intro | .mine, _ => True.intro
  | .nam _, _ => noteN_in
  | .box e, _ => noteE_in (e := e)
  | .op _ a b, ss => ⟨inS_mono (noteE_sub (e := b)) (noteE_in (e := a)), noteE_in (e := b)⟩
theorem notes_sub {α : Type} {f : List Str → α → List Str} (h : ∀ ss x, ∀ y ∈ ss, y ∈ f ss x) : ∀ {l : List α} {ss : List Str}, ∀ y ∈ ss, y ∈ l.foldl f ss
  | [], _, _, i => i
  | x :: t, ss, y, i => notes_sub h (l := t) y (h ss x y i)
theorem notesE_in {ts : List Ex} : ∀ {ss : List Str}, ∀ e ∈ ts, e.inS (ts.foldl noteE ss) := by
  induction ts with
  | nil => intro ss e h; cases h
  | cons x t ih =>
    intro ss e h
    rcases List.mem_cons.mp h with rfl | h
    · exact inS_mono (notes_sub (f := noteE) (fun ss e => noteE_sub (e := e)) (l := t) (ss := noteE ss e)) noteE_in
    · exact ih e h
theorem noteS_sub (ss : List Str) (s : Sm) : ∀ y ∈ ss, y ∈ noteS ss s := by
  intro y hy
  unfold noteS
  refine notes_sub (f := noteE) (fun ss e => noteE_sub (e := e)) y ?_
  split
  · exact noteN_sub y hy
  · exact hy
theorem noteS_in {ss : List Str} {s : Sm} : (∀ e ∈ s.exprs, e.inS (noteS ss s)) ∧ ∀ x, s.given = some x → x ∈ noteS ss s := by
  unfold noteS
  refine ⟨fun e he => notesE_in e he, fun x hx => ?_⟩
  rw [hx]
  exact notes_sub (f := noteE) (fun ss e => noteE_sub (e := e)) x noteN_in
/-- every name that a statement of a def names has its slot -/
theorem slots_in {o : Df} : ∀ s ∈ allBd o.body, (∀ e ∈ s.exprs, e.inS (slotsF o)) ∧ ∀ x, s.given = some x → x ∈ slotsF o := by
  unfold slotsF
  generalize o.ps.foldl noteN [] = ss
  generalize allBd o.body = b
  induction b generalizing ss with
  | nil => intro s h; cases h
  | cons t r ih =>
    intro s h
    rcases List.mem_cons.mp h with rfl | h
    · have sub := notes_sub (f := noteS) noteS_sub (l := r) (ss := noteS ss s)
      exact ⟨fun e he => inS_mono sub (noteS_in.1 e he), fun x hx => sub x (noteS_in.2 x hx)⟩
    · exact ih _ s h
theorem is_m {M : MH} {r : Addr} {ds : List D} (h : M r = some (.lst ds)) : (lstOf M (.ref r)).isSome = true := by
  unfold lstOf; dsimp only; rw [h]; rfl
theorem ap_m {M : MH} {r : Addr} {ds : List D} {F : List D → Prop} (h : M r = some (.lst ds)) (q : F ds) : oSome (mLst M r) F := by
  unfold oSome mLst; rw [h]; exact q
end Tl
namespace Tl
open PySem PySem.Spec PyProof.Rows L2
/-! ### the maker of rows, as cells -/
structure MkA where
  s : Addr
  r : Addr
  p : Addr
  c : Addr
  v : Addr
  o : Addr
  C : Addr
  dx : Addr
  fl : List Str
def natD (n : Nat) : D := .int (n : Int)
def calD (c : Nat × Str) : D := .tup [natD c.1, .str c.2]
abbrev Lps := List (Addr × Nat × List Nat)
def lpD (l : Addr × Nat × List Nat) : D := .tup [natD l.2.1, .ref l.1]
def lpC (l : Addr × Nat × List Nat) : Addr × MO := (l.1, .lst (l.2.2.map natD))
def MkA.obj (A : MkA) (fr : Int) : MO := .obj A.C A.dx A.fl [.ref A.r, .ref A.p, .int fr, .ref A.c, .ref A.v, .ref A.o]
/-- the cells of a maker; the last loop first -/
def MkA.cells (A : MkA) (ss : List Str) (fr : Int) (m : Mk) (L : Lps) : List (Addr × MO) :=
  (A.r, .lst (m.rows.map Rw.d)) :: (A.p, .dK (slotD ss)) :: (A.s, A.obj fr) :: (A.c, .lst (m.calls.map calD)) :: (A.v, .lst (m.leaves.map natD)) :: (A.o, .lst (L.reverse.map lpD)) :: L.map lpC
structure MkS (A : MkA) (M0 M : MH) (ss : List Str) (fr : Int) (m : Mk) (L : Lps) : Prop where
  cel : Cel M0 M (A.cells ss fr m L)
  lps : m.loops = L.map (·.2)
section
variable {A : MkA} {M0 M : MH} {ss : List Str} {fr : Int} {m : Mk} {L : Lps}
theorem MkS.r_ (h : MkS A M0 M ss fr m L) : M A.r = some (.lst (m.rows.map Rw.d)) := h.cel.at_ (A.r, _) (by unfold MkA.cells; simp)
theorem MkS.p_ (h : MkS A M0 M ss fr m L) : M A.p = some (.dK (slotD ss)) := h.cel.at_ (A.p, .dK (slotD ss)) (by unfold MkA.cells; simp)
theorem MkS.s_ (h : MkS A M0 M ss fr m L) : M A.s = some (A.obj fr) := h.cel.at_ (A.s, A.obj fr) (by unfold MkA.cells; simp)
theorem MkS.c_ (h : MkS A M0 M ss fr m L) : M A.c = some (.lst (m.calls.map calD)) := h.cel.at_ (A.c, .lst (m.calls.map calD)) (by unfold MkA.cells; simp)
theorem MkS.v_ (h : MkS A M0 M ss fr m L) : M A.v = some (.lst (m.leaves.map natD)) := h.cel.at_ (A.v, .lst (m.leaves.map natD)) (by unfold MkA.cells; simp)
theorem MkS.o_ (h : MkS A M0 M ss fr m L) : M A.o = some (.lst (L.reverse.map lpD)) := h.cel.at_ (A.o, .lst (L.reverse.map lpD)) (by unfold MkA.cells; simp)
theorem MkS.rows (h : MkS A M0 M ss fr m L) {rs : List Rw} : MkS A M0 (mup M A.r (.lst (rs.map Rw.d))) ss fr { m with rows := rs } L :=
  ⟨Cel.put (pre := []) h.cel, h.lps⟩
theorem MkS.calls (h : MkS A M0 M ss fr m L) {cs : List (Nat × Str)} : MkS A M0 (mup M A.c (.lst (cs.map calD))) ss fr { m with calls := cs } L :=
  ⟨Cel.put (pre := [(A.r, .lst (m.rows.map Rw.d)), (A.p, .dK (slotD ss)), (A.s, A.obj fr)]) h.cel, h.lps⟩
theorem MkS.leaves (h : MkS A M0 M ss fr m L) {vs : List Nat} : MkS A M0 (mup M A.v (.lst (vs.map natD))) ss fr { m with leaves := vs } L :=
  ⟨Cel.put (pre := [(A.r, .lst (m.rows.map Rw.d)), (A.p, .dK (slotD ss)), (A.s, A.obj fr), (A.c, .lst (m.calls.map calD))]) h.cel, h.lps⟩
/-- a number joins the last loop's -/
theorem MkS.leaving {q : Addr} {b : Nat} {lv lv' : List Nat} {R : Lps} (h : MkS A M0 M ss fr m ((q, b, lv) :: R)) : MkS A M0 (mup M q (.lst (lv'.map natD))) ss fr { m with loops := (b, lv') :: R.map (·.2) } ((q, b, lv') :: R) := by
  refine ⟨?_, rfl⟩
  have := Cel.put (o' := .lst (lv'.map natD)) (pre := [(A.r, .lst (m.rows.map Rw.d)), (A.p, .dK (slotD ss)), (A.s, A.obj fr), (A.c, .lst (m.calls.map calD)), (A.v, .lst (m.leaves.map natD)), (A.o, .lst (((q, b, lv) :: R).reverse.map lpD))]) (a := q) (post := R.map lpC) h.cel
  unfold MkA.cells
  simp only [List.reverse_cons, List.map_append, List.map_cons, List.map_nil, lpD, lpC] at this ⊢
  exact this
theorem MkS.q_ {q : Addr} {b : Nat} {lv : List Nat} {R : Lps} (h : MkS A M0 M ss fr m ((q, b, lv) :: R)) : M q = some (.lst (lv.map natD)) := h.cel.at_ (q, .lst (lv.map natD)) (by unfold MkA.cells; simp [lpC])
/-- a loop begins -/
theorem MkS.begin_ {q : Addr} {b : Nat} {lv : List Nat} (h : MkS A M0 M ss fr m L) (hq : M q = none) : MkS A M0 (mup (mup M q (.lst (lv.map natD))) A.o (.lst (((q, b, lv) :: L).reverse.map lpD))) ss fr { m with loops := (b, lv) :: m.loops } ((q, b, lv) :: L) := by
  refine ⟨?_, by rw [h.lps]; rfl⟩
  have h1 := h.cel.fresh (p := q) (o := .lst (lv.map natD)) hq
  have h2 : Cel M0 (mup M q (.lst (lv.map natD))) ([(A.r, .lst (m.rows.map Rw.d)), (A.p, .dK (slotD ss)), (A.s, A.obj fr), (A.c, .lst (m.calls.map calD)), (A.v, .lst (m.leaves.map natD))] ++ (A.o, .lst (L.reverse.map lpD)) :: (q, .lst (lv.map natD)) :: L.map lpC) := by
    refine h1.perm ?_
    exact (List.perm_middle (l₁ := [(A.r, .lst (m.rows.map Rw.d)), (A.p, .dK (slotD ss)), (A.s, A.obj fr), (A.c, .lst (m.calls.map calD)), (A.v, .lst (m.leaves.map natD)), (A.o, .lst (L.reverse.map lpD))])).symm
  exact h2.put
/-- a loop ends -/
theorem MkS.end_ {q : Addr} {b : Nat} {lv : List Nat} {R : Lps} (h : MkS A M0 M ss fr m ((q, b, lv) :: R)) : MkS A M0 (mup M A.o (.lst (R.reverse.map lpD))) ss fr { m with loops := R.map (·.2) } R := by
  refine ⟨?_, rfl⟩
  have h1 : Cel M0 (mup M A.o (.lst (R.reverse.map lpD))) ([(A.r, .lst (m.rows.map Rw.d)), (A.p, .dK (slotD ss)), (A.s, A.obj fr), (A.c, .lst (m.calls.map calD)), (A.v, .lst (m.leaves.map natD)), (A.o, .lst (R.reverse.map lpD))] ++ (q, .lst (lv.map natD)) :: R.map lpC) :=
    Cel.put (pre := [(A.r, .lst (m.rows.map Rw.d)), (A.p, .dK (slotD ss)), (A.s, A.obj fr), (A.c, .lst (m.calls.map calD)), (A.v, .lst (m.leaves.map natD))]) h.cel
  exact h1.forget
end
end Tl
namespace Tl
open PySem PySem.Spec PyProof.Rows L2
theorem cut_init3 {a b c : D} : cutD [a, b, c] none (some (-1)) = [a, b] := rfl
theorem cut_init4 {a b c d : D} : cutD [a, b, c, d] none (some (-1)) = [a, b, c] := rfl
theorem cut_init6 {a b c d e f : D} : cutD [a, b, c, d, e, f] none (some (-1)) = [a, b, c, d, e] := rfl
theorem apl_m {M : MH} {r : Addr} {ds : List D} {F : List D → Prop} (h : M r = some (.lst ds)) (q : F ds) : oSome (lstOf M (.ref r)) F := by
  unfold oSome lstOf; dsimp only; rw [h]; exact q
def Rw.isLead : Rw → Prop
  | .split _ _ _ => True | .jump _ _ => True | .call _ _ _ _ _ => True | _ => False
/-- the row k is one that leads -/
def ledAt (rows : List Rw) (k : Nat) : Prop := ∃ x, rows[k]? = some x ∧ Rw.isLead x
theorem leadAt_set {rows : List Rw} {k : Nat} {t : Int} {x : Rw} (h : rows[k]? = some x) : (leadAt rows k t).map Rw.d = (rows.map Rw.d).set k (x.lead t).d := by
  unfold leadAt
  rw [← List.map_set]
  congr 1
  apply List.ext_getElem?
  intro j
  rw [List.getElem?_modify, List.getElem?_set]
  by_cases e : k = j
  · subst e
    rw [h]
    have := (List.getElem?_eq_some_iff.mp h).1
    simp [this]
  · simp [e]
theorem leadAt_len {rows : List Rw} {k : Nat} {t : Int} : (leadAt rows k t).length = rows.length := by unfold leadAt; simp
theorem ledAt_lead {rows : List Rw} {k j : Nat} {t : Int} (h : ledAt rows j) : ledAt (leadAt rows k t) j := by
  obtain ⟨x, hx, h2⟩ := h
  unfold ledAt leadAt
  rw [List.getElem?_modify]
  by_cases e : k = j
  · subst e
    rw [hx]
    refine ⟨x.lead t, by simp, ?_⟩
    cases x <;> exact h2
  · exact ⟨x, by simp [e, hx], h2⟩
theorem ledAt_app {rows rs : List Rw} {j : Nat} (h : ledAt rows j) : ledAt (rows ++ rs) j := by
  obtain ⟨x, hx, h2⟩ := h
  exact ⟨x, by rw [List.getElem?_append_left (List.getElem?_eq_some_iff.mp hx).1]; exact hx, h2⟩
theorem ledAt_last {rows : List Rw} {x : Rw} (h : x.isLead) : ledAt (rows ++ [x]) rows.length := ⟨x, by simp, h⟩
theorem MkS.rowsA {A : MkA} {M0 M : MH} {ss : List Str} {fr : Int} {m : Mk} {L : Lps} (h : MkS A M0 M ss fr m L) (rs : List Rw) (x : Rw) : MkS A M0 (mup M A.r (.lst (rs.map Rw.d ++ [x.d]))) ss fr { m with rows := rs ++ [x] } L := by
  have := h.rows (rs := rs ++ [x])
  rw [List.map_append] at this
  exact this
end Tl
namespace Tl
open PySem PySem.Spec PyProof.Rows L2
/-- what a maker keeps: its lists are no longer than its rows, and the rows that wait lead -/
structure Mk.ok (m : Mk) : Prop where
  lv : m.leaves.length ≤ m.rows.length
  cs : m.calls.length ≤ m.rows.length
  lp : m.loops.length ≤ m.rows.length
  ls : ∀ l ∈ m.loops, l.2.length ≤ m.rows.length
  lvd : ∀ k ∈ m.leaves, ledAt m.rows k
  csd : ∀ c ∈ m.calls, ledAt m.rows c.1
  lsd : ∀ l ∈ m.loops, ∀ k ∈ l.2, ledAt m.rows k
section
variable {A : MkA} {M0 M : MH} {ss : List Str} {fr : Int} {m : Mk} {L : Lps}
theorem MkS.leavesA (h : MkS A M0 M ss fr m L) (x : Nat) : MkS A M0 (mup M A.v (.lst (m.leaves.map natD ++ [natD x]))) ss fr { m with leaves := m.leaves ++ [x] } L := by
  have := h.leaves (vs := m.leaves ++ [x])
  rw [List.map_append] at this
  exact this
theorem MkS.callsA (h : MkS A M0 M ss fr m L) (x : Nat × Str) : MkS A M0 (mup M A.c (.lst (m.calls.map calD ++ [calD x]))) ss fr { m with calls := m.calls ++ [x] } L := by
  have := h.calls (cs := m.calls ++ [x])
  rw [List.map_append] at this
  exact this
end
theorem MkS.leavingA {A : MkA} {M0 M : MH} {ss : List Str} {fr : Int} {m : Mk} {q : Addr} {b : Nat} {lv : List Nat} {R : Lps} (h : MkS A M0 M ss fr m ((q, b, lv) :: R)) (x : Nat) : MkS A M0 (mup M q (.lst (lv.map natD ++ [natD x]))) ss fr { m with loops := (b, lv ++ [x]) :: R.map (·.2) } ((q, b, lv ++ [x]) :: R) := by
  have := h.leaving (lv' := lv ++ [x])
  rw [List.map_append] at this
  exact this
theorem atI_lst1 {α : Type} {xs : List α} {x : α} : atI (xs ++ [x]) (-1) = some x := by
  unfold atI ixN
  rw [if_neg (by omega), if_pos (by rw [List.length_append]; simp only [List.length_cons, List.length_nil]; omega)]
  show (xs ++ [x])[((-1 : Int) + ((xs ++ [x]).length : Nat)).toNat]? = some x
  rw [show ((-1 : Int) + ((xs ++ [x]).length : Nat)).toNat = xs.length by rw [List.length_append]; simp only [List.length_cons, List.length_nil]; omega]
  simp
theorem exs_app {ss : List Str} {l : Int} {zs : List Ex} : ∀ {ys : List Ex} {a : Int}, exsRows ss l (ys ++ zs) a = exsRows ss l ys a ++ exsRows ss l zs (a + (ys.length : Int))
  | [], a => by rw [List.nil_append, show exsRows ss l [] a = [] from rfl, List.nil_append, List.length_nil]; congr 1; omega
  | y :: t, a => by
    rw [List.cons_append, exsRows, exsRows, exs_app, List.append_assoc, List.length_cons]
    congr 3
    omega
theorem exs_one {ss : List Str} {l : Int} {x : Ex} {a : Int} : exsRows ss l [x] a = exRows ss l x a := by
  rw [exsRows, show exsRows ss l [] (a + 1) = [] from rfl, List.append_nil]
theorem exs_len_le {ss : List Str} {l : Int} {ys zs : List Ex} {a : Int} : (exsRows ss l ys a).length ≤ (exsRows ss l (ys ++ zs) a).length := by
  rw [exs_app, List.length_append]; omega
def isPlain : Sm → Prop
  | .set _ _ _ => True | .put _ _ _ => True | .tell _ _ => True | .join _ _ _ _ => True | .meet _ => True | .stop _ => True | _ => False
theorem mkS_plain {ss : List Str} {fr : Int} {m : Mk} {s : Sm} (h : isPlain s) : mkS ss fr m s = m.add (exsRows ss s.line s.exprs fr ++ [lastRow ss fr s]) := by
  cases s <;> first | (exact h.elim) | (unfold mkS; rfl)
end Tl
namespace Tl
open PySem PySem.Spec PyProof.Rows L2
/-! ### what a maker keeps, through a block -/
structure Mk.ext (m m' : Mk) : Prop where
  len : m.rows.length ≤ m'.rows.length
  led : ∀ k, ledAt m.rows k → ledAt m'.rows k
theorem Mk.ext.refl {m : Mk} : Mk.ext m m := ⟨Nat.le_refl _, fun _ h => h⟩
theorem Mk.ext.trans {a b c : Mk} (h : Mk.ext a b) (g : Mk.ext b c) : Mk.ext a c := ⟨Nat.le_trans h.len g.len, fun k i => g.led k (h.led k i)⟩
theorem Mk.ext.add {m : Mk} {rs : List Rw} : Mk.ext m (m.add rs) := ⟨by unfold Mk.add; simp, fun k h => by unfold Mk.add; exact ledAt_app h⟩
theorem Mk.ext.lead {m : Mk} {k : Nat} : Mk.ext m (m.lead k) := ⟨by unfold Mk.lead; rw [leadAt_len]; exact Nat.le_refl _, fun j h => by unfold Mk.lead; exact ledAt_lead h⟩
theorem lead_len {m : Mk} {k : Nat} : (m.lead k).rows.length = m.rows.length := by unfold Mk.lead; exact leadAt_len
theorem leads_len : ∀ {ks : List Nat} {m : Mk}, (m.leads ks).rows.length = m.rows.length
  | [], _ => rfl
  | k :: t, m => by
    show ((m.lead k).leads t).rows.length = _
    rw [leads_len, lead_len]
theorem Mk.ext.leads : ∀ {ks : List Nat} {m : Mk}, Mk.ext m (m.leads ks)
  | [], _ => Mk.ext.refl
  | k :: t, m => Mk.ext.trans Mk.ext.lead (Mk.ext.leads (ks := t) (m := m.lead k))
theorem leads_rest : ∀ {ks : List Nat} {m : Mk}, (m.leads ks).calls = m.calls ∧ (m.leads ks).leaves = m.leaves ∧ (m.leads ks).loops = m.loops
  | [], _ => ⟨rfl, rfl, rfl⟩
  | k :: t, m => leads_rest (ks := t) (m := m.lead k)
theorem leads_rows : ∀ {ks : List Nat} {m : Mk}, (m.leads ks).rows = ks.foldl (fun rs k => leadAt rs k rs.length) m.rows
  | [], _ => rfl
  | k :: t, m => leads_rows (ks := t) (m := m.lead k)
/-- the same waits, in more rows -/
theorem Mk.ok.same {m m' : Mk} (h : m.ok) (e : Mk.ext m m') (h1 : m'.calls = m.calls) (h2 : m'.leaves = m.leaves) (h3 : m'.loops = m.loops) : m'.ok := by
  refine ⟨?_, ?_, ?_, ?_, ?_, ?_, ?_⟩
  · rw [h2]; exact Nat.le_trans h.lv e.len
  · rw [h1]; exact Nat.le_trans h.cs e.len
  · rw [h3]; exact Nat.le_trans h.lp e.len
  · rw [h3]; exact fun l hl => Nat.le_trans (h.ls l hl) e.len
  · rw [h2]; exact fun k hk => e.led k (h.lvd k hk)
  · rw [h1]; exact fun c hc => e.led _ (h.csd c hc)
  · rw [h3]; exact fun l hl k hk => e.led k (h.lsd l hl k hk)
theorem Mk.ok.add {m : Mk} {rs : List Rw} (h : m.ok) : (m.add rs).ok := h.same Mk.ext.add rfl rfl rfl
theorem Mk.ok.lead {m : Mk} {k : Nat} (h : m.ok) : (m.lead k).ok := h.same Mk.ext.lead rfl rfl rfl
theorem Mk.ok.leads {m : Mk} {ks : List Nat} (h : m.ok) : (m.leads ks).ok := h.same Mk.ext.leads leads_rest.1 leads_rest.2.1 leads_rest.2.2
/-- how a block leaves the loops -/
def lpsLike (a b : List (Nat × List Nat)) : Prop := match a with
  | [] => b = []
  | (x, lv) :: r => ∃ z, b = (x, lv ++ z) :: r
theorem lpsLike.refl {a : List (Nat × List Nat)} : lpsLike a a := by
  cases a with
  | nil => rfl
  | cons p r => exact ⟨[], by rw [List.append_nil]⟩
theorem lpsLike.trans {a b c : List (Nat × List Nat)} (h : lpsLike a b) (g : lpsLike b c) : lpsLike a c := by
  cases a with
  | nil =>
    have h : b = [] := h
    subst h; exact g
  | cons p r =>
    obtain ⟨z, rfl⟩ := h
    obtain ⟨z', rfl⟩ := g
    exact ⟨z ++ z', by rw [List.append_assoc]⟩
theorem lpsLike.ne {a b : List (Nat × List Nat)} (h : lpsLike a b) (n : a ≠ []) : b ≠ [] := by
  cases a with
  | nil => exact (n rfl).elim
  | cons p r => obtain ⟨z, rfl⟩ := h; exact fun e => by cases e
structure Mk.keeps (m m' : Mk) : Prop where
  ok : m.ok → m'.ok
  ext : Mk.ext m m'
  lps : lpsLike m.loops m'.loops
theorem Mk.keeps.refl {m : Mk} : Mk.keeps m m := ⟨id, Mk.ext.refl, lpsLike.refl⟩
theorem Mk.keeps.trans {a b c : Mk} (h : Mk.keeps a b) (g : Mk.keeps b c) : Mk.keeps a c := ⟨fun o => g.ok (h.ok o), h.ext.trans g.ext, h.lps.trans g.lps⟩
theorem Mk.keeps.add {m : Mk} {rs : List Rw} : Mk.keeps m (m.add rs) := ⟨fun o => o.add, Mk.ext.add, lpsLike.refl⟩
theorem Mk.keeps.lead {m : Mk} {k : Nat} : Mk.keeps m (m.lead k) := ⟨fun o => o.lead, Mk.ext.lead, lpsLike.refl⟩
theorem Mk.keeps.leads {m : Mk} {ks : List Nat} : Mk.keeps m (m.leads ks) := ⟨fun o => o.leads, Mk.ext.leads, by rw [leads_rest.2.2]; exact lpsLike.refl⟩
theorem add_split_led {m : Mk} {rs : List Rw} {x : Rw} (h : x.isLead) : ledAt (m.add (rs ++ [x])).rows ((m.add (rs ++ [x])).rows.length - 1) := by
  have := ledAt_last (rows := m.rows ++ rs) h
  unfold Mk.add
  dsimp only
  rw [← List.append_assoc, List.length_append, List.length_singleton, Nat.add_sub_cancel]
  exact this
mutual
theorem mkS_keeps (ss : List Str) (fr : Int) : ∀ (s : Sm) (m : Mk), Mk.keeps m (mkS ss fr m s)
  | .if1 l e b, m => by
    unfold mkS
    exact (Mk.keeps.add.trans (mkB_keeps ss fr b _)).trans Mk.keeps.lead
  | .if2 l e b c, m => by
    unfold mkS
    exact ((((Mk.keeps.add.trans (mkB_keeps ss fr b _)).trans Mk.keeps.add).trans Mk.keeps.lead).trans (mkB_keeps ss fr c _)).trans Mk.keeps.lead
  | .whl l e b, m => by
    unfold mkS
    dsimp only
    have hl := add_split_led (m := m) (rs := exRows ss l e fr) (x := .split l fr 0) True.intro
    have hp : 0 < (m.add (exRows ss l e fr ++ [.split l fr 0])).rows.length := by unfold Mk.add; simp only [List.length_append, List.length_cons, List.length_nil]; omega
    have hp2 : m.rows.length + 1 ≤ (m.add (exRows ss l e fr ++ [.split l fr 0])).rows.length := by unfold Mk.add; simp only [List.length_append, List.length_cons, List.length_nil]; omega
    have h1 : Mk.keeps m (m.add (exRows ss l e fr ++ [.split l fr 0])) := Mk.keeps.add
    have hlp : (m.add (exRows ss l e fr ++ [.split l fr 0])).loops = m.loops := rfl
    generalize m.add (exRows ss l e fr ++ [.split l fr 0]) = m1 at *
    have h2 := (mkB_keeps ss fr b { m1 with loops := (m.rows.length - 1, [m1.rows.length - 1]) :: m1.loops }).trans (Mk.keeps.add (rs := [.jump l (m.rows.length - 1 : Nat)]))
    generalize (mkB ss fr { m1 with loops := (m.rows.length - 1, [m1.rows.length - 1]) :: m1.loops } b).add [.jump l (m.rows.length - 1 : Nat)] = m2 at *
    obtain ⟨z, hz⟩ := h2.lps
    rw [hz]
    dsimp only
    have hk : m.ok → m2.ok := fun o => by
      have o1 := h1.ok o
      refine h2.ok ⟨o1.lv, o1.cs, ?_, ?_, o1.lvd, o1.csd, ?_⟩
      · dsimp only
        rw [List.length_cons, hlp]
        have := o.lp
        omega
      · intro q hq
        rcases List.mem_cons.mp hq with rfl | hq
        · exact hp
        · exact o1.ls q hq
      · intro q hq k hk
        rcases List.mem_cons.mp hq with rfl | hq
        · rw [List.mem_singleton.mp hk]; exact hl
        · exact o1.lsd q hq k hk
    have he : Mk.ext m m2 := h1.ext.trans ⟨h2.ext.len, h2.ext.led⟩
    refine Mk.keeps.trans (b := { m2 with loops := m1.loops }) ⟨fun o => ?_, ⟨he.len, he.led⟩, by rw [hlp]; exact lpsLike.refl⟩ Mk.keeps.leads
    have o2 := hk o
    refine ⟨o2.lv, o2.cs, ?_, ?_, o2.lvd, o2.csd, ?_⟩
    · have := o2.lp
      rw [hz, List.length_cons] at this
      dsimp only
      omega
    · exact fun q hq => o2.ls q (by rw [hz]; exact List.mem_cons_of_mem _ hq)
    · exact fun q hq => o2.lsd q (by rw [hz]; exact List.mem_cons_of_mem _ hq)
  | .brk l, m => by
    unfold mkS
    split
    · exact Mk.keeps.refl
    · rename_i b lv r e
      have he : ∀ m' : Mk, m'.rows = m.rows ++ [.jump l b] → Mk.ext m m' := fun m' h => ⟨by rw [h]; simp, fun k i => by rw [h]; exact ledAt_app i⟩
      refine ⟨fun o => ?_, he _ rfl, by rw [e]; exact ⟨_, rfl⟩⟩
      have e' := he (m' := ⟨m.rows ++ [.jump l b], m.calls, m.leaves, (b, lv ++ [m.rows.length]) :: r⟩) rfl
      have hlen : (m.rows ++ [Rw.jump l b]).length = m.rows.length + 1 := by simp
      refine ⟨Nat.le_trans o.lv e'.len, Nat.le_trans o.cs e'.len, ?_, ?_, fun k h => e'.led k (o.lvd k h), fun c h => e'.led _ (o.csd c h), ?_⟩
      · have := o.lp
        rw [e, List.length_cons] at this
        dsimp only
        rw [List.length_cons, hlen]
        omega
      · intro q hq
        rcases List.mem_cons.mp hq with rfl | hq
        · have := o.ls (b, lv) (by rw [e]; simp)
          dsimp only at this ⊢
          rw [hlen, List.length_append, List.length_singleton]
          omega
        · exact Nat.le_trans (o.ls q (by rw [e]; exact List.mem_cons_of_mem _ hq)) e'.len
      · intro q hq k hk
        rcases List.mem_cons.mp hq with rfl | hq
        · rcases List.mem_append.mp hk with hk | hk
          · exact e'.led k (o.lsd (b, lv) (by rw [e]; simp) k hk)
          · rw [List.mem_singleton.mp hk]
            exact ledAt_last True.intro
        · exact e'.led k (o.lsd q (by rw [e]; exact List.mem_cons_of_mem _ hq) k hk)
  | .agn l, m => by
    unfold mkS
    split
    · exact Mk.keeps.refl
    · exact Mk.keeps.add
  | .ret l e, m => by
    unfold mkS
    dsimp only
    have hl := add_split_led (m := m) (rs := exRows ss l e fr ++ [.copy l 0 fr]) (x := .jump l 0) True.intro
    rw [List.append_assoc] at hl
    have h1 : Mk.keeps m (m.add (exRows ss l e fr ++ [.copy l 0 fr, .jump l 0])) := Mk.keeps.add
    have hp : m.rows.length + 1 ≤ (m.add (exRows ss l e fr ++ [.copy l 0 fr, .jump l 0])).rows.length := by unfold Mk.add; simp only [List.length_append, List.length_cons, List.length_nil]; omega
    have hlv : (m.add (exRows ss l e fr ++ [.copy l 0 fr, .jump l 0])).leaves = m.leaves := rfl
    simp only [List.cons_append, List.nil_append] at hl
    generalize m.add (exRows ss l e fr ++ [.copy l 0 fr, .jump l 0]) = m1 at *
    refine ⟨fun o => ?_, ⟨h1.ext.len, h1.ext.led⟩, h1.lps⟩
    have o1 := h1.ok o
    refine ⟨?_, o1.cs, o1.lp, o1.ls, ?_, o1.csd, o1.lsd⟩
    · have := o.lv
      dsimp only
      rw [List.length_append, List.length_singleton, hlv]
      omega
    · intro k hk
      rcases List.mem_append.mp hk with hk | hk
      · exact o1.lvd k hk
      · rw [List.mem_singleton.mp hk]; exact hl
  | .call l x f es, m => by
    unfold mkS
    dsimp only
    have hl := add_split_led (m := m) (rs := exsRows ss l es fr) (x := .call l (slotOf ss x) fr es.length 0) True.intro
    have h1 : Mk.keeps m (m.add (exsRows ss l es fr ++ [.call l (slotOf ss x) fr es.length 0])) := Mk.keeps.add
    have hp : m.rows.length + 1 ≤ (m.add (exsRows ss l es fr ++ [.call l (slotOf ss x) fr es.length 0])).rows.length := by unfold Mk.add; simp only [List.length_append, List.length_cons, List.length_nil]; omega
    have hlv : (m.add (exsRows ss l es fr ++ [.call l (slotOf ss x) fr es.length 0])).calls = m.calls := rfl
    generalize m.add (exsRows ss l es fr ++ [.call l (slotOf ss x) fr es.length 0]) = m1 at *
    refine ⟨fun o => ?_, ⟨h1.ext.len, h1.ext.led⟩, h1.lps⟩
    have o1 := h1.ok o
    refine ⟨o1.lv, ?_, o1.lp, o1.ls, o1.lvd, ?_, o1.lsd⟩
    · have := o.cs
      dsimp only
      rw [List.length_append, List.length_singleton, hlv]
      omega
    · intro c hc
      rcases List.mem_append.mp hc with hc | hc
      · exact o1.csd c hc
      · rw [List.mem_singleton.mp hc]; exact hl
  | .set .., m => by unfold mkS; exact Mk.keeps.add
  | .put .., m => by unfold mkS; exact Mk.keeps.add
  | .tell .., m => by unfold mkS; exact Mk.keeps.add
  | .join .., m => by unfold mkS; exact Mk.keeps.add
  | .meet .., m => by unfold mkS; exact Mk.keeps.add
  | .stop .., m => by unfold mkS; exact Mk.keeps.add
theorem mkB_keeps (ss : List Str) (fr : Int) : ∀ (b : List Sm) (m : Mk), Mk.keeps m (mkB ss fr m b)
  | [], m => by unfold mkB; exact Mk.keeps.refl
  | s :: t, m => by
    unfold mkB
    exact (Mk.keeps.add.trans (mkS_keeps ss fr s _)).trans (mkB_keeps ss fr t _)
end
theorem mkB_app {ss : List Str} {fr : Int} : ∀ {a b : List Sm} {m : Mk}, mkB ss fr m (a ++ b) = mkB ss fr (mkB ss fr m a) b
  | [], b, m => by rw [List.nil_append, show mkB ss fr m [] = m from by unfold mkB; rfl]
  | s :: t, b, m => by
    rw [List.cons_append, mkB, mkB, mkB_app]
theorem mkB_one {ss : List Str} {fr : Int} {s : Sm} {m : Mk} : mkB ss fr m [s] = mkS ss fr (m.add [.tick s.line]) s := by
  rw [mkB, show ∀ m, mkB ss fr m [] = m from fun m => by unfold mkB; rfl]
theorem mkB_nil {ss : List Str} {fr : Int} {m : Mk} : mkB ss fr m [] = m := by unfold mkB; rfl
/-! what a block must be for its rows to be made -/
mutual
def inLp (lp : Prop) : Sm → Prop
  | .brk _ => lp | .agn _ => lp
  | .if1 _ _ b => inLps lp b
  | .if2 _ _ b c => inLps lp b ∧ inLps lp c
  | .whl _ _ b => inLps True b
  | _ => True
def inLps (lp : Prop) : List Sm → Prop
  | [] => True
  | s :: t => inLp lp s ∧ inLps lp t
end
structure okRs (ss : List Str) (s : Sm) : Prop where
  len : s.exprs.length ≤ 1000
  ex : ∀ e ∈ s.exprs, e.deep < 12 ∧ e.inS ss
  gv : ∀ x, s.given = some x → x ∈ ss
structure okRb (ss : List Str) (lp : Prop) (b : List Sm) : Prop where
  st : ∀ s ∈ allBd b, okRs ss s
  lp : inLps lp b
theorem inLps_mem {lp : Prop} : ∀ {b : List Sm}, inLps lp b → ∀ s ∈ b, inLp lp s
  | _ :: _, h, s, hs => by
    unfold inLps at h
    rcases List.mem_cons.mp hs with rfl | hs
    · exact h.1
    · exact inLps_mem h.2 s hs
theorem allBd_mem : ∀ {b : List Sm} {s : Sm}, s ∈ b → ∀ t ∈ allSt s, t ∈ allBd b
  | x :: r, s, hs, t, ht => by
    rw [allBd]
    rcases List.mem_cons.mp hs with rfl | hs
    · exact List.mem_append_left _ ht
    · exact List.mem_append_right _ (allBd_mem hs t ht)
theorem okRb.at_ {ss : List Str} {lp : Prop} {b : List Sm} (h : okRb ss lp b) {s : Sm} (hs : s ∈ b) : okRs ss s ∧ inLp lp s ∧ ∀ t ∈ allSt s, okRs ss t := by
  refine ⟨h.st s (allBd_mem hs s ?_), inLps_mem h.lp s hs, fun t ht => h.st t (allBd_mem hs t ht)⟩
  rw [allSt_eq]; simp
/-! a cell more or less -/
theorem Cel.base {M0 M : MH} {cs : List (Addr × MO)} {b : Addr} {o o' : MO} (h : Cel M0 M cs) (hb : M0 b = some o) : Cel (mup M0 b o') (mup M b o') cs := by
  have n2 : ∀ c ∈ cs, c.1 ≠ b := fun c hc e => by have := h.new c hc; rw [e, hb] at this; cases this
  refine ⟨h.nd, fun c hc => by rw [mup_ne (n2 c hc)]; exact h.at_ c hc, fun a u e => ?_, fun c hc => by rw [mup_ne (n2 c hc)]; exact h.new c hc⟩
  unfold mup at e ⊢
  split
  · rename_i q; rw [if_pos q] at e; exact e
  · rename_i q; rw [if_neg q] at e; exact h.old a u e
theorem leads_eq {ks : List Nat} {m : Mk} : m.leads ks = ⟨ks.foldl (fun rs k => leadAt rs k rs.length) m.rows, m.calls, m.leaves, m.loops⟩ := by
  have h1 := leads_rows (ks := ks) (m := m)
  obtain ⟨h2, h3, h4⟩ := leads_rest (ks := ks) (m := m)
  generalize m.leads ks = m' at *
  cases m'
  simp only at h1 h2 h3 h4
  subst h1 h2 h3 h4
  rfl
def Mk.into (m : Mk) (b : Nat) (lv : List Nat) : Mk := ⟨m.rows, m.calls, m.leaves, (b, lv) :: m.loops⟩
def Mk.out (m : Mk) (r : List (Nat × List Nat)) : Mk := ⟨m.rows, m.calls, m.leaves, r⟩
theorem mkS_whl {ss : List Str} {fr : Int} {m : Mk} {l : Int} {e : Ex} {b : List Sm} {lv : List Nat} (h : (mkB ss fr ((m.add (exRows ss l e fr ++ [.split l fr 0])).into (m.rows.length - 1) [m.rows.length + (exRows ss l e fr).length]) b).loops = (m.rows.length - 1, lv) :: m.loops) :
    mkS ss fr m (.whl l e b) = (((mkB ss fr ((m.add (exRows ss l e fr ++ [.split l fr 0])).into (m.rows.length - 1) [m.rows.length + (exRows ss l e fr).length]) b).add [.jump l (m.rows.length - 1 : Nat)]).out m.loops).leads lv := by
  unfold mkS
  dsimp only
  rw [show ((m.add (exRows ss l e fr ++ [.split l fr 0])).rows.length - 1) = m.rows.length + (exRows ss l e fr).length by unfold Mk.add; simp [List.append_assoc]]
  rw [show (m.add (exRows ss l e fr ++ [.split l fr 0])).loops = m.loops from rfl]
  change (match ((mkB ss fr ((m.add (exRows ss l e fr ++ [.split l fr 0])).into (m.rows.length - 1) [m.rows.length + (exRows ss l e fr).length]) b).add [.jump l (m.rows.length - 1 : Nat)]).loops with
    | [] => _
    | (_, lv) :: r => _) = _
  rw [show ((mkB ss fr ((m.add (exRows ss l e fr ++ [.split l fr 0])).into (m.rows.length - 1) [m.rows.length + (exRows ss l e fr).length]) b).add [.jump l (m.rows.length - 1 : Nat)]).loops = _ from h]
  rfl
theorem Mk.ok.loop {m : Mk} (o : m.ok) (h : m.loops.length + 1 ≤ m.rows.length) {k b : Nat} (hl : ledAt m.rows k) : (m.into b [k]).ok := by
  refine ⟨o.lv, o.cs, by unfold Mk.into; simpa using h, ?_, o.lvd, o.csd, ?_⟩
  · intro q hq
    rcases List.mem_cons.mp hq with rfl | hq
    · show 1 ≤ m.rows.length
      omega
    · exact o.ls q hq
  · intro q hq k' hk
    rcases List.mem_cons.mp hq with rfl | hq
    · rw [List.mem_singleton.mp hk]; exact hl
    · exact o.lsd q hq k' hk
section
variable {A : MkA} {M0 M : MH} {ss : List Str} {fr : Int} {m : Mk} {L : Lps}
theorem MkS.other {q : Addr} {o : MO} (h : MkS A M0 M ss fr m L) (hq : M q = none) : MkS A M0 (mup M q o) ss fr m L := ⟨(h.cel.fresh (o := o) hq).forget (pre := []), h.lps⟩
theorem MkS.vne (h : MkS A M0 M ss fr m L) : A.v ≠ A.r := fun e => (Cel.ne_mid (pre := []) (a := A.r) (o := .lst (m.rows.map Rw.d)) (post := (A.p, .dK (slotD ss)) :: (A.s, A.obj fr) :: (A.c, .lst (m.calls.map calD)) :: (A.v, .lst (m.leaves.map natD)) :: (A.o, .lst (L.reverse.map lpD)) :: L.map lpC) h.cel.nd).2 (A.v, .lst (m.leaves.map natD)) (by simp) e
theorem MkS.qne {q : Addr} {b : Nat} {lv : List Nat} {R : Lps} (h : MkS A M0 M ss fr m ((q, b, lv) :: R)) : q ≠ A.r ∧ q ≠ A.o := by
  have h1 := (Cel.ne_mid (pre := [(A.r, .lst (m.rows.map Rw.d)), (A.p, .dK (slotD ss)), (A.s, A.obj fr), (A.c, .lst (m.calls.map calD)), (A.v, .lst (m.leaves.map natD)), (A.o, .lst (((q, b, lv) :: R).reverse.map lpD))]) (a := q) (o := .lst (lv.map natD)) (post := R.map lpC) h.cel.nd).1
  exact ⟨fun e => h1 (A.r, .lst (m.rows.map Rw.d)) (by simp) e.symm, fun e => h1 (A.o, .lst (((q, b, lv) :: R).reverse.map lpD)) (by simp) e.symm⟩
theorem MkS.beginA {q : Addr} {b : Nat} {lv : List Nat} {d : D} (h : MkS A M0 M ss fr m L) (hq : M q = none) (hd : d = natD b) : MkS A M0 (mup (mup M q (.lst (lv.map natD))) A.o (.lst (L.reverse.map lpD ++ [.tup [d, .ref q]]))) ss fr (m.into b lv) ((q, b, lv) :: L) := by
  have := h.begin_ (b := b) (lv := lv) hq
  rw [List.reverse_cons, List.map_append] at this
  subst hd
  exact this
theorem MkS.lift {b : Addr} {o : MO} (h : MkS A M0 M ss fr m L) (hb : M b = none) : MkS A (mup M0 b o) (mup M b o) ss fr m L := ⟨h.cel.lift hb, h.lps⟩
theorem MkS.base {b : Addr} {o o' : MO} (h : MkS A (mup M0 b o) M ss fr m L) : MkS A (mup M0 b o') (mup M b o') ss fr m L := ⟨by have := h.cel.base (o' := o') mup_same; rw [mup_mup] at this; exact this, h.lps⟩
end
/-! ### all defs -/
theorem mkDef_eq {m : Mk} {o : Df} : mkDef m o = ((mkB (slotsF o) ((slotsF o).length + 1) ⟨m.rows, m.calls, [], m.loops⟩ o.body).leads (mkB (slotsF o) ((slotsF o).length + 1) ⟨m.rows, m.calls, [], m.loops⟩ o.body).leaves).add [.back o.last] := rfl
theorem mkDef_ok {m : Mk} {o : Df} (ho : m.ok) : (mkDef m o).ok := by
  rw [mkDef_eq]
  have h0 : Mk.ok ⟨m.rows, m.calls, [], m.loops⟩ := ⟨Nat.zero_le _, ho.cs, ho.lp, ho.ls, fun k hk => (by cases hk), ho.csd, ho.lsd⟩
  exact ((mkB_keeps _ _ _ _).ok h0).leads.add
theorem mkDef_ext {m : Mk} {o : Df} : Mk.ext m (mkDef m o) := by
  rw [mkDef_eq]
  refine Mk.ext.trans (b := ⟨m.rows, m.calls, [], m.loops⟩) ⟨Nat.le_refl _, fun _ h => h⟩ ?_
  exact ((mkB_keeps _ _ _ _).ext.trans Mk.ext.leads).trans Mk.ext.add
def mkStep (s : Mk × List (Str × Nat)) (o : Df) : Mk × List (Str × Nat) := (mkDef s.1 o, s.2 ++ [(o.name, s.1.rows.length)])
theorem mkAll_eq {os : Pg} : mkAll os = os.foldl mkStep (⟨[], [], [], []⟩, []) := rfl
theorem mkAll_one {os : Pg} {o : Df} : mkAll (os ++ [o]) = mkStep (mkAll os) o := by rw [mkAll_eq, List.foldl_append]; rfl
theorem mkSteps_ext : ∀ {os : Pg} {s : Mk × List (Str × Nat)}, Mk.ext s.1 (os.foldl mkStep s).1
  | [], _ => Mk.ext.refl
  | o :: t, s => Mk.ext.trans mkDef_ext (mkSteps_ext (os := t) (s := mkStep s o))
theorem mkAll_ext {a b : Pg} : Mk.ext (mkAll a).1 (mkAll (a ++ b)).1 := by
  rw [mkAll_eq, mkAll_eq, List.foldl_append]
  exact mkSteps_ext
theorem mkSteps_ok : ∀ {os : Pg} {s : Mk × List (Str × Nat)}, s.1.ok → (os.foldl mkStep s).1.ok
  | [], _, h => h
  | o :: t, s, h => mkSteps_ok (os := t) (s := mkStep s o) (mkDef_ok h)
theorem mkAll_ok {a : Pg} : (mkAll a).1.ok := mkSteps_ok ⟨Nat.le_refl _, Nat.le_refl _, Nat.le_refl _, fun _ h => (by cases h), fun _ h => (by cases h), fun _ h => (by cases h), fun _ h => (by cases h)⟩
theorem mkSteps_names : ∀ {os : Pg} {s : Mk × List (Str × Nat)}, (os.foldl mkStep s).2.map (·.1) = s.2.map (·.1) ++ os.map (·.name)
  | [], _ => by simp
  | o :: t, s => by rw [List.foldl_cons, mkSteps_names]; unfold mkStep; simp
theorem mkAll_names {a : Pg} : (mkAll a).2.map (·.1) = a.map (·.name) := by rw [mkAll_eq, mkSteps_names]; rfl
def begD (bs : List (Str × Nat)) : List (Key × D) := bs.foldl (fun kvs b => putM kvs (.inr b.1) (natD b.2)) []
theorem begD_one {bs : List (Str × Nat)} {b : Str × Nat} : begD (bs ++ [b]) = putM (begD bs) (.inr b.1) (natD b.2) := by unfold begD; rw [List.foldl_append]; rfl
theorem begD_lenS : ∀ {bs : List (Str × Nat)} {kvs : List (Key × D)}, (bs.foldl (fun kvs b => putM kvs (.inr b.1) (natD b.2)) kvs).length ≤ kvs.length + bs.length
  | [], kvs => Nat.le_refl _
  | b :: t, kvs => by
    rw [List.foldl_cons]
    have h1 := begD_lenS (bs := t) (kvs := putM kvs (.inr b.1) (natD b.2))
    have h2 := putM_len kvs (.inr b.1) (natD b.2)
    rw [List.length_cons]
    omega
theorem begD_len {bs : List (Str × Nat)} : (begD bs).length ≤ bs.length := by have := begD_lenS (bs := bs) (kvs := []); rw [List.length_nil, Nat.zero_add] at this; exact this
theorem begin_one {bs : List (Str × Nat)} {b : Str × Nat} {f : Str} : beginOf (bs ++ [b]) f = if b.1 = f then (b.2 : Int) else beginOf bs f := by
  unfold beginOf
  rw [List.reverse_append, List.reverse_singleton, List.singleton_append, List.find?_cons]
  by_cases e : b.1 = f
  · rw [if_pos e, decide_eq_true e]; rfl
  · rw [if_neg e, decide_eq_false e]
theorem begD_val {f : Str} : ∀ {bs : List (Str × Nat)}, f ∈ bs.map (·.1) → valD (begD bs) (.inr f) = some (.int (beginOf bs f)) := by
  intro bs
  induction hn : bs.length generalizing bs with
  | zero => intro h; rw [List.length_eq_zero_iff.mp hn] at h; cases h
  | succ n ih =>
    intro h
    rcases List.eq_nil_or_concat bs with rfl | ⟨bs', b, rfl⟩
    · cases h
    rw [List.concat_eq_append] at *
    rw [begD_one, valD_put, begin_one]
    by_cases e : b.1 = f
    · rw [if_pos (by rw [e]), if_pos e]; rfl
    · rw [if_neg (fun q => e (Sum.inr.inj q)), if_neg e]
      refine ih (by simpa using hn) ?_
      rw [List.map_append, List.mem_append] at h
      rcases h with h | h
      · exact h
      · rw [List.map_singleton, List.mem_singleton] at h; exact absurd h.symm e
end Tl
namespace Tl
open PySem PySem.Spec PyProof.Rows L2
/-! ### what a program must be for its rows to be made -/
structure okRow (o : Df) : Prop where
  deep : deeps o.body < 10
  many : (allBd o.body).length ≤ 100000
  exs : ∀ s ∈ allBd o.body, s.exprs.length ≤ 1000 ∧ ∀ e ∈ s.exprs, e.deep < 12
  slots : (slotsF o).length < 10000000
structure okRows (pg : Pg) : Prop where
  df : ∀ o ∈ pg, okRow o ∧ inLps False o.body
  few : pg.length ≤ 1000
  len : (mkAll (mainFirst pg)).1.rows.length < 16777215
  fnd : ∀ c ∈ (mkAll (mainFirst pg)).1.calls, c.2 ∈ (mainFirst pg).map (·.name)
/-! rows of expressions, how many -/
theorem deep_pos : ∀ e : Ex, 1 ≤ e.deep
  | .num _ => Nat.le_refl _ | .nam _ => Nat.le_refl _ | .lane => Nat.le_refl _ | .lanes => Nat.le_refl _ | .mine => Nat.le_refl _
  | .box _ => Nat.le_add_left _ _ | .op _ _ _ => Nat.le_add_left _ _
theorem two_le {a b : Nat} (h : a ≤ b) : 2 ^ a ≤ 2 ^ b := Nat.pow_le_pow_right (by decide) h
theorem exRows_len {ss : List Str} {l : Int} : ∀ {e : Ex} {a : Int}, (exRows ss l e a).length + 1 ≤ 2 ^ e.deep
  | .num _, _ => Nat.le_refl _ | .nam _, _ => Nat.le_refl _ | .lane, _ => Nat.le_refl _ | .lanes, _ => Nat.le_refl _ | .mine, _ => Nat.le_refl _
  | .box e, a => by
    have h := exRows_len (ss := ss) (l := l) (e := e) (a := a)
    have h1 : 2 ≤ 2 ^ e.deep := Nat.le_trans (show 2 ≤ 2 ^ 1 from Nat.le_refl _) (two_le (deep_pos e))
    unfold exRows Ex.deep
    rw [List.length_append, Nat.pow_succ]
    simp only [List.length_cons, List.length_nil]
    omega
  | .op w x y, a => by
    have h := exRows_len (ss := ss) (l := l) (e := x) (a := a)
    have h2 := exRows_len (ss := ss) (l := l) (e := y) (a := a + 1)
    have h3 : 2 ^ x.deep ≤ 2 ^ max x.deep y.deep := two_le (Nat.le_max_left _ _)
    have h4 : 2 ^ y.deep ≤ 2 ^ max x.deep y.deep := two_le (Nat.le_max_right _ _)
    unfold exRows Ex.deep
    rw [List.length_append, List.length_append, Nat.pow_succ]
    simp only [List.length_cons, List.length_nil]
    omega
theorem exsRows_len {ss : List Str} {l : Int} {d : Nat} : ∀ {es : List Ex} {a : Int}, (∀ e ∈ es, e.deep ≤ d) → (exsRows ss l es a).length ≤ es.length * 2 ^ d
  | [], _, _ => Nat.zero_le _
  | e :: es, a, h => by
    have h1 := exRows_len (ss := ss) (l := l) (e := e) (a := a)
    have h2 := two_le (h e (List.mem_cons_self ..))
    have h3 := exsRows_len (ss := ss) (l := l) (es := es) (a := a + 1) fun x hx => h x (List.mem_cons_of_mem _ hx)
    unfold exsRows
    rw [List.length_append, List.length_cons, Nat.succ_mul]
    omega
/-! rows of statements, how many: C for each -/
def smallS (k d : Nat) (s : Sm) : Prop := s.exprs.length ≤ k ∧ ∀ e ∈ s.exprs, e.deep ≤ d
theorem add_rows {m : Mk} {rs : List Rw} : (m.add rs).rows.length = m.rows.length + rs.length := by unfold Mk.add; rw [List.length_append]
theorem one_rows {ss : List Str} {l : Int} {fr : Int} {k d : Nat} {s : Sm} {e : Ex} (h : smallS k d s) (he : e ∈ s.exprs) : (exRows ss l e fr).length ≤ k * 2 ^ d := by
  have h1 := exRows_len (ss := ss) (l := l) (e := e) (a := fr)
  have h2 := two_le (h.2 e he)
  have h3 : 1 ≤ k := Nat.le_trans (List.length_pos_of_mem he) h.1
  have h4 : 1 * 2 ^ d ≤ k * 2 ^ d := Nat.mul_le_mul_right _ h3
  omega
theorem some_rows {ss : List Str} {l : Int} {fr : Int} {k d : Nat} {s : Sm} (h : smallS k d s) : (exsRows ss l s.exprs fr).length ≤ k * 2 ^ d :=
  Nat.le_trans (exsRows_len h.2) (Nat.mul_le_mul_right _ h.1)
mutual
theorem mkS_len (ss : List Str) (fr : Int) (k d : Nat) : ∀ (s : Sm) (m : Mk), (∀ t ∈ allSt s, smallS k d t) → (mkS ss fr m s).rows.length + 1 ≤ m.rows.length + (allSt s).length * (k * 2 ^ d + 4)
  | .if1 l e b, m, h => by
    have h0 := one_rows (ss := ss) (l := l) (fr := fr) (e := e) (h (.if1 l e b) (by unfold allSt; simp)) (by simp [Sm.exprs])
    have h1 := mkB_len ss fr k d b (m.add (exRows ss l e fr ++ [.split l fr 0])) fun t ht => h t (by unfold allSt; exact List.mem_cons_of_mem _ ht)
    unfold mkS allSt
    dsimp only
    rw [lead_len, List.length_cons, Nat.succ_mul]
    rw [add_rows, List.length_append] at h1
    simp only [List.length_cons, List.length_nil] at h1
    omega
  | .if2 l e b c, m, h => by
    have h0 := one_rows (ss := ss) (l := l) (fr := fr) (e := e) (h (.if2 l e b c) (by unfold allSt; simp)) (by simp [Sm.exprs])
    have h1 := mkB_len ss fr k d b (m.add (exRows ss l e fr ++ [.split l fr 0])) fun t ht => h t (by unfold allSt; exact List.mem_cons_of_mem _ (List.mem_append_left _ ht))
    have h2 := mkB_len ss fr k d c (((mkB ss fr (m.add (exRows ss l e fr ++ [.split l fr 0])) b).add [.jump l 0]).lead ((m.add (exRows ss l e fr ++ [.split l fr 0])).rows.length - 1)) fun t ht => h t (by unfold allSt; exact List.mem_cons_of_mem _ (List.mem_append_right _ ht))
    unfold mkS allSt
    dsimp only
    rw [lead_len, List.length_cons, List.length_append, Nat.succ_mul, Nat.add_mul]
    have hX : (((mkB ss fr (m.add (exRows ss l e fr ++ [.split l fr 0])) b).add [.jump l 0]).lead ((m.add (exRows ss l e fr ++ [.split l fr 0])).rows.length - 1)).rows.length = (mkB ss fr (m.add (exRows ss l e fr ++ [.split l fr 0])) b).rows.length + 1 := by rw [lead_len]; exact add_rows
    rw [hX] at h2
    rw [add_rows (m := m), List.length_append] at h1
    simp only [List.length_cons, List.length_nil] at h1
    omega
  | .whl l e b, m, h => by
    have h0 := one_rows (ss := ss) (l := l) (fr := fr) (e := e) (h (.whl l e b) (by unfold allSt; simp)) (by simp [Sm.exprs])
    have h1 := mkB_len ss fr k d b { m.add (exRows ss l e fr ++ [.split l fr 0]) with loops := (m.rows.length - 1, [(m.add (exRows ss l e fr ++ [.split l fr 0])).rows.length - 1]) :: (m.add (exRows ss l e fr ++ [.split l fr 0])).loops } fun t ht => h t (by unfold allSt; exact List.mem_cons_of_mem _ ht)
    dsimp only at h1
    rw [add_rows, List.length_append] at h1
    simp only [List.length_cons, List.length_nil] at h1
    unfold mkS allSt
    dsimp only
    rw [List.length_cons, Nat.succ_mul]
    split
    · rw [add_rows]
      simp only [List.length_cons, List.length_nil]
      rw [add_rows, List.length_append]
      simp only [List.length_cons, List.length_nil]
      omega
    · rw [leads_len]
      dsimp only
      rw [add_rows]
      simp only [List.length_cons, List.length_nil]
      rw [add_rows, List.length_append]
      simp only [List.length_cons, List.length_nil]
      omega
  | .brk l, m, h => by
    unfold mkS allSt
    split
    · simp only [List.length_cons, List.length_nil]; omega
    · simp only [List.length_cons, List.length_nil, List.length_append]; omega
  | .agn l, m, h => by
    unfold mkS allSt
    split
    · simp only [List.length_cons, List.length_nil]; omega
    · rw [add_rows]; simp only [List.length_cons, List.length_nil]; omega
  | .ret l e, m, h => by
    have h0 := one_rows (ss := ss) (l := l) (fr := fr) (e := e) (h (.ret l e) (by unfold allSt; simp)) (by simp [Sm.exprs])
    unfold mkS allSt
    dsimp only
    rw [add_rows, List.length_append]; simp only [List.length_cons, List.length_nil]; omega
  | .call l x f es, m, h => by
    have h0 := some_rows (ss := ss) (l := l) (fr := fr) (h (.call l x f es) (by unfold allSt; simp))
    have h0 : (exsRows ss l es fr).length ≤ k * 2 ^ d := h0
    unfold mkS allSt
    dsimp only
    rw [add_rows, List.length_append]; simp only [List.length_cons, List.length_nil]; omega
  | .set l x e, m, h => by
    have h0 := some_rows (ss := ss) (l := l) (fr := fr) (h (.set l x e) (by unfold allSt; simp))
    unfold mkS allSt
    rw [add_rows, List.length_append]; simp only [List.length_cons, List.length_nil, Sm.line] at h0 ⊢; omega
  | .put l x e, m, h => by
    have h0 := some_rows (ss := ss) (l := l) (fr := fr) (h (.put l x e) (by unfold allSt; simp))
    unfold mkS allSt
    rw [add_rows, List.length_append]; simp only [List.length_cons, List.length_nil, Sm.line] at h0 ⊢; omega
  | .tell l e, m, h => by
    have h0 := some_rows (ss := ss) (l := l) (fr := fr) (h (.tell l e) (by unfold allSt; simp))
    unfold mkS allSt
    rw [add_rows, List.length_append]; simp only [List.length_cons, List.length_nil, Sm.line] at h0 ⊢; omega
  | .join l x w e, m, h => by
    have h0 := some_rows (ss := ss) (l := l) (fr := fr) (h (.join l x w e) (by unfold allSt; simp))
    unfold mkS allSt
    rw [add_rows, List.length_append]; simp only [List.length_cons, List.length_nil, Sm.line] at h0 ⊢; omega
  | .meet l, m, h => by
    have h0 := some_rows (ss := ss) (l := l) (fr := fr) (h (.meet l) (by unfold allSt; simp))
    unfold mkS allSt
    rw [add_rows, List.length_append]; simp only [List.length_cons, List.length_nil, Sm.line] at h0 ⊢; omega
  | .stop l, m, h => by
    have h0 := some_rows (ss := ss) (l := l) (fr := fr) (h (.stop l) (by unfold allSt; simp))
    unfold mkS allSt
    rw [add_rows, List.length_append]; simp only [List.length_cons, List.length_nil, Sm.line] at h0 ⊢; omega
theorem mkB_len (ss : List Str) (fr : Int) (k d : Nat) : ∀ (b : List Sm) (m : Mk), (∀ t ∈ allBd b, smallS k d t) → (mkB ss fr m b).rows.length ≤ m.rows.length + (allBd b).length * (k * 2 ^ d + 4)
  | [], m, _ => by unfold mkB; omega
  | s :: t, m, h => by
    have h1 := mkS_len ss fr k d s (m.add [.tick s.line]) fun x hx => h x (by unfold allBd; exact List.mem_append_left _ hx)
    have h2 := mkB_len ss fr k d t (mkS ss fr (m.add [.tick s.line]) s) fun x hx => h x (by unfold allBd; exact List.mem_append_right _ hx)
    rw [add_rows] at h1
    simp only [List.length_cons, List.length_nil] at h1
    unfold mkB allBd
    rw [List.length_append, Nat.add_mul]
    omega
end
end Tl
namespace Tl
open PySem PySem.Spec PyProof.Rows L2
/-- one of a written row -/
theorem pickX {α : Type} {f : α → D} {ds : List D} {k : Int} {F : D → Prop} (es : List α) (d : α) (he : ds = es.map f) (h0 : 0 ≤ k) (h : k < es.length) (q : F (f (es.getD k.toNat d))) : oSome (atI ds k) F := by
  subst he
  rw [atI_mapD d h0 h]
  exact q
/-! ### mirrors of the builder of the laws k31 .. k37 -/
/-! what is drawn keeps -/
/-! deeds -/
end Tl
namespace Tl
open PySem PySem.Spec PyProof.Rows L2
/-! ### a drawn program's rows can be made -/
/-! how many slots -/
theorem noteN_le {ss : List Str} {x : Str} : (noteN ss x).length ≤ ss.length + 1 := by
  unfold noteN; split
  · omega
  · simp
theorem noteE_le : ∀ {e : Ex} {ss : List Str}, (noteE ss e).length + 1 ≤ ss.length + 2 ^ e.deep
  | .num _, ss => by show ss.length + 1 ≤ _; exact Nat.add_le_add_left (by decide : 1 ≤ 2 ^ 1) _
  | .lane, ss => by show ss.length + 1 ≤ _; exact Nat.add_le_add_left (by decide : 1 ≤ 2 ^ 1) _
  | .lanes, ss => by show ss.length + 1 ≤ _; exact Nat.add_le_add_left (by decide : 1 ≤ 2 ^ 1) _
  | .mine, ss => by show ss.length + 1 ≤ _; exact Nat.add_le_add_left (by decide : 1 ≤ 2 ^ 1) _
  | .nam x, ss => by
    have := noteN_le (ss := ss) (x := x)
    show (noteN ss x).length + 1 ≤ ss.length + 2
    omega
  | .box e, ss => by
    have := noteE_le (e := e) (ss := ss)
    unfold noteE Ex.deep
    rw [Nat.pow_succ]
    omega
  | .op _ a b, ss => by
    have h := noteE_le (e := a) (ss := ss)
    have h2 := noteE_le (e := b) (ss := noteE ss a)
    have h3 : 2 ^ a.deep ≤ 2 ^ max a.deep b.deep := two_le (Nat.le_max_left _ _)
    have h4 : 2 ^ b.deep ≤ 2 ^ max a.deep b.deep := two_le (Nat.le_max_right _ _)
    unfold noteE Ex.deep
    rw [Nat.pow_succ]
    omega
theorem notes_le {α : Type} {f : List Str → α → List Str} {k : Nat} : ∀ {l : List α} {ss : List Str}, (∀ x ∈ l, ∀ ss, (f ss x).length ≤ ss.length + k) → (l.foldl f ss).length ≤ ss.length + k * l.length
  | [], _, _ => Nat.le_add_right _ _
  | x :: t, ss, h => by
    have h1 := h x (List.mem_cons_self ..) ss
    have h2 := notes_le (f := f) (l := t) (ss := f ss x) fun y hy => h y (List.mem_cons_of_mem _ hy)
    rw [List.foldl_cons, List.length_cons, Nat.mul_succ]
    omega
theorem noteS_le {s : Sm} {k d : Nat} (h : smallS k d s) (ss : List Str) : (noteS ss s).length ≤ ss.length + (2 ^ d * k + 1) := by
  have h1 : ∀ ss : List Str, (s.exprs.foldl noteE ss).length ≤ ss.length + 2 ^ d * s.exprs.length := fun ss => notes_le (f := noteE) fun e he ss => by
    have := noteE_le (e := e) (ss := ss)
    have := two_le (h.2 e he)
    omega
  have h2 : 2 ^ d * s.exprs.length ≤ 2 ^ d * k := Nat.mul_le_mul_left _ h.1
  unfold noteS
  cases s.given with
  | none => have := h1 ss; dsimp only; omega
  | some x => have := h1 (noteN ss x); have := noteN_le (ss := ss) (x := x); dsimp only; omega
theorem slots_le {o : Df} {k d : Nat} (h : ∀ s ∈ allBd o.body, smallS k d s) : (slotsF o).length ≤ o.ps.length + (2 ^ d * k + 1) * (allBd o.body).length := by
  unfold slotsF
  have h1 := notes_le (f := noteS) (l := allBd o.body) (ss := o.ps.foldl noteN []) (k := 2 ^ d * k + 1) fun s hs ss => noteS_le (h s hs) ss
  have h2 := notes_le (f := noteN) (l := o.ps) (ss := []) (k := 1) fun s hs ss => noteN_le
  simp only [List.length_nil] at h2
  omega
/-! how many rows -/
theorem mkDef_len {m : Mk} {o : Df} {k d : Nat} (h : ∀ s ∈ allBd o.body, smallS k d s) : (mkDef m o).rows.length ≤ m.rows.length + (allBd o.body).length * (k * 2 ^ d + 4) + 1 := by
  rw [mkDef_eq, add_rows, leads_len]
  have := mkB_len (slotsF o) ((slotsF o).length + 1) k d o.body ⟨m.rows, m.calls, [], m.loops⟩ h
  simp only [List.length_cons, List.length_nil] at this ⊢
  omega
theorem mkAll_len {k d n : Nat} : ∀ {os : Pg} {s : Mk × List (Str × Nat)}, (∀ o ∈ os, (allBd o.body).length ≤ n ∧ ∀ t ∈ allBd o.body, smallS k d t) → (os.foldl mkStep s).1.rows.length ≤ s.1.rows.length + os.length * (n * (k * 2 ^ d + 4) + 1)
  | [], s, _ => Nat.le_add_right _ _
  | o :: os, s, h => by
    have h1 := h o (List.mem_cons_self ..)
    have h2 := mkAll_len (k := k) (d := d) (n := n) (os := os) (s := mkStep s o) fun x hx => h x (List.mem_cons_of_mem _ hx)
    have h3 : (mkStep s o).1.rows.length ≤ _ := mkDef_len (m := s.1) h1.2
    have h4 : (allBd o.body).length * (k * 2 ^ d + 4) ≤ n * (k * 2 ^ d + 4) := Nat.mul_le_mul_right _ h1.1
    rw [List.foldl_cons, List.length_cons, Nat.succ_mul]
    omega
/-! what is called -/
def calledIn (b : List Sm) (f : Str) : Prop := ∃ l x es, Sm.call l x f es ∈ b
theorem called_mono {b c : List Sm} {f : Str} (h : calledIn b f) (hs : ∀ s ∈ b, s ∈ c) : calledIn c f := by
  obtain ⟨l, x, es, h⟩ := h
  exact ⟨l, x, es, hs _ h⟩
mutual
theorem mkS_calls (ss : List Str) (fr : Int) : ∀ (s : Sm) (m : Mk), ∀ c ∈ (mkS ss fr m s).calls, c ∈ m.calls ∨ calledIn (allSt s) c.2
  | .if1 l e b, m, c, h => by
    unfold mkS at h
    dsimp only at h
    rcases mkB_calls ss fr b _ c h with h | h
    · exact .inl h
    · exact .inr (called_mono h fun s hs => by unfold allSt; exact List.mem_cons_of_mem _ hs)
  | .if2 l e b d, m, c, h => by
    unfold mkS at h
    dsimp only at h
    rcases mkB_calls ss fr d _ c h with h | h
    · rcases mkB_calls ss fr b _ c h with h | h
      · exact .inl h
      · exact .inr (called_mono h fun s hs => by unfold allSt; exact List.mem_cons_of_mem _ (List.mem_append_left _ hs))
    · exact .inr (called_mono h fun s hs => by unfold allSt; exact List.mem_cons_of_mem _ (List.mem_append_right _ hs))
  | .whl l e b, m, c, h => by
    unfold mkS at h
    dsimp only at h
    have h : c ∈ (mkB ss fr { m.add (exRows ss l e fr ++ [.split l fr 0]) with loops := (m.rows.length - 1, [(m.add (exRows ss l e fr ++ [.split l fr 0])).rows.length - 1]) :: (m.add (exRows ss l e fr ++ [.split l fr 0])).loops } b).calls := by
      split at h
      · exact h
      · rw [leads_rest.1] at h; exact h
    rcases mkB_calls ss fr b _ c h with h | h
    · exact .inl h
    · exact .inr (called_mono h fun s hs => by unfold allSt; exact List.mem_cons_of_mem _ hs)
  | .brk l, m, c, h => by
    unfold mkS at h
    split at h
    · exact .inl h
    · exact .inl h
  | .agn l, m, c, h => by
    unfold mkS at h
    split at h
    · exact .inl h
    · exact .inl h
  | .ret l e, m, c, h => by unfold mkS at h; exact .inl h
  | .call l x f es, m, c, h => by
    unfold mkS at h
    dsimp only at h
    rcases List.mem_append.mp h with h | h
    · exact .inl h
    · rw [List.mem_singleton.mp h]
      exact .inr ⟨l, x, es, by unfold allSt; simp⟩
  | .set .., m, c, h => by unfold mkS at h; exact .inl h
  | .put .., m, c, h => by unfold mkS at h; exact .inl h
  | .tell .., m, c, h => by unfold mkS at h; exact .inl h
  | .join .., m, c, h => by unfold mkS at h; exact .inl h
  | .meet .., m, c, h => by unfold mkS at h; exact .inl h
  | .stop .., m, c, h => by unfold mkS at h; exact .inl h
theorem mkB_calls (ss : List Str) (fr : Int) : ∀ (b : List Sm) (m : Mk), ∀ c ∈ (mkB ss fr m b).calls, c ∈ m.calls ∨ calledIn (allBd b) c.2
  | [], m, c, h => by unfold mkB at h; exact .inl h
  | s :: t, m, c, h => by
    unfold mkB at h
    rcases mkB_calls ss fr t _ c h with h | h
    · rcases mkS_calls ss fr s _ c h with h | h
      · exact .inl h
      · exact .inr (called_mono h fun s hs => by unfold allBd; exact List.mem_append_left _ hs)
    · exact .inr (called_mono h fun s hs => by unfold allBd; exact List.mem_append_right _ hs)
end
theorem mkSteps_calls : ∀ {os : Pg} {s : Mk × List (Str × Nat)}, ∀ c ∈ (os.foldl mkStep s).1.calls, c ∈ s.1.calls ∨ ∃ o ∈ os, calledIn (allBd o.body) c.2
  | [], _, c, h => .inl h
  | o :: os, s, c, h => by
    rw [List.foldl_cons] at h
    rcases mkSteps_calls (os := os) (s := mkStep s o) c h with h | ⟨o', ho, h⟩
    · have h : c ∈ (mkDef s.1 o).calls := h
      rw [mkDef_eq] at h
      have h : c ∈ ((mkB (slotsF o) ((slotsF o).length + 1) ⟨s.1.rows, s.1.calls, [], s.1.loops⟩ o.body).leads (mkB (slotsF o) ((slotsF o).length + 1) ⟨s.1.rows, s.1.calls, [], s.1.loops⟩ o.body).leaves).calls := h
      rw [leads_rest.1] at h
      rcases mkB_calls _ _ _ _ c h with h | h
      · exact .inl h
      · exact .inr ⟨o, List.mem_cons_self .., h⟩
    · exact .inr ⟨o', List.mem_cons_of_mem _ ho, h⟩
theorem first_mem {pg : Pg} {o : Df} : o ∈ mainFirst pg ↔ o ∈ pg := by
  unfold mainFirst
  rw [List.mem_append, List.mem_filter, List.mem_filter]
  constructor
  · rintro (h | h) <;> exact h.1
  · intro h
    cases e : isMain o.name with
    | true => exact .inl ⟨h, rfl⟩
    | false => exact .inr ⟨h, rfl⟩
theorem first_len {pg : Pg} : (mainFirst pg).length = pg.length := by
  unfold mainFirst
  rw [List.length_append]
  induction pg with
  | nil => rfl
  | cons o t ih =>
    rw [List.filter_cons, List.filter_cons]
    cases isMain o.name <;> simp at ih ⊢ <;> omega
/-- what is asked of a program whose rows are to be made, all told -/
structure Small (n k d : Nat) (pg : Pg) : Prop where
  few : pg.length ≤ 1000
  bd : ∀ o ∈ pg, deeps o.body < 10 ∧ (allBd o.body).length ≤ n ∧ (∀ t ∈ allBd o.body, smallS k d t) ∧ o.ps.length ≤ 1000 ∧ inLps False o.body
  calls : ∀ o ∈ pg, ∀ f, calledIn (allBd o.body) f → f ∈ pg.map (·.name)
theorem small_rows {n k d : Nat} {pg : Pg} (h : Small n k d pg) (hn : n ≤ 100000) (hk : k ≤ 1000) (hd : d < 12) (hs : 1000 + (2 ^ d * k + 1) * n < 10000000) (hr : pg.length * (n * (k * 2 ^ d + 4) + 1) < 16777215) : okRows pg := by
  refine ⟨fun o ho => ?_, h.few, ?_, fun c hc => ?_⟩
  · obtain ⟨h1, h2, h3, h4, h5⟩ := h.bd o ho
    refine ⟨⟨h1, by omega, fun s hs => ?_, ?_⟩, h5⟩
    · obtain ⟨q1, q2⟩ := h3 s hs
      exact ⟨by omega, fun e he => by have := q2 e he; omega⟩
    · have h6 := slots_le h3
      have h7 : (2 ^ d * k + 1) * (allBd o.body).length ≤ (2 ^ d * k + 1) * n := Nat.mul_le_mul_left _ h2
      omega
  · have := mkAll_len (k := k) (d := d) (n := n) (os := mainFirst pg) (s := (⟨[], [], [], []⟩, [])) fun o ho => ⟨(h.bd o (first_mem.mp ho)).2.1, (h.bd o (first_mem.mp ho)).2.2.1⟩
    rw [first_len] at this
    rw [mkAll_eq]
    simp only [List.length_nil] at this
    omega
  · rw [mkAll_eq] at hc
    rcases mkSteps_calls c hc with h1 | ⟨o, ho, h1⟩
    · cases h1
    · have h2 := h.calls o (first_mem.mp ho) _ h1
      obtain ⟨o', h3, h4⟩ := List.mem_map.mp h2
      exact List.mem_map.mpr ⟨o', first_mem.mpr h3, h4⟩
end Tl
namespace Tl
open PySem PySem.Spec PyProof.Rows L2
/-! ### sorted(xs) of whole numbers -/
/-! ### rows next to a row -/
def nextF (r : Rw) (k : Int) : List Int := match r with
  | .back _ => []
  | .jump _ t => [t]
  | .split _ _ t => if t = k + 1 then [k + 1] else if t < k + 1 then [t, k + 1] else [k + 1, t]
  | _ => [k + 1]
/-! ### the words of joins, among the rows -/
def Rw.jw (q : Str → Prop) : Rw → Prop
  | .join _ _ w _ => q w
  | _ => True
def Sm.jw (q : Str → Prop) : Sm → Prop
  | .join _ _ w _ => q w
  | _ => True
def allJ (q : Str → Prop) (rs : List Rw) : Prop := ∀ r ∈ rs, r.jw q
section
variable {q : Str → Prop}
theorem allJ_app {a b : List Rw} (h : allJ q a) (h2 : allJ q b) : allJ q (a ++ b) := fun r hr => (List.mem_append.mp hr).elim (h r) (h2 r)
theorem allJ_one {r : Rw} (h : r.jw q) : allJ q [r] := fun x hx => by rw [List.mem_singleton.mp hx]; exact h
theorem lead_jw {r : Rw} {t : Int} (h : r.jw q) : (r.lead t).jw q := by cases r <;> exact h
theorem allJ_lead {rs : List Rw} {k : Nat} {t : Int} (h : allJ q rs) : allJ q (leadAt rs k t) := fun r hr => by
  unfold leadAt at hr
  obtain ⟨j, hj, e⟩ := List.mem_iff_getElem.mp hr
  rw [List.length_modify] at hj
  rw [List.getElem_modify] at e
  split at e
  · subst e; exact lead_jw (h _ (List.getElem_mem hj))
  · subst e; exact h _ (List.getElem_mem hj)
theorem allJ_ex {ss : List Str} {l : Int} : ∀ {e : Ex} {a : Int}, allJ q (exRows ss l e a)
  | .num _, _ => allJ_one trivial | .nam _, _ => allJ_one trivial | .lane, _ => allJ_one trivial | .lanes, _ => allJ_one trivial | .mine, _ => allJ_one trivial
  | .box e, a => by unfold exRows; exact allJ_app (allJ_ex (e := e)) (allJ_one trivial)
  | .op _ x y, a => by unfold exRows; exact allJ_app (allJ_app (allJ_ex (e := x)) (allJ_ex (e := y))) (allJ_one trivial)
theorem allJ_exs {ss : List Str} {l : Int} : ∀ {es : List Ex} {a : Int}, allJ q (exsRows ss l es a)
  | [], _ => fun _ h => by cases h
  | e :: es, a => by unfold exsRows; exact allJ_app allJ_ex (allJ_exs (es := es))
theorem allJ_mlead {m : Mk} {k : Nat} (h : allJ q m.rows) : allJ q (m.lead k).rows := allJ_lead h
theorem allJ_leads : ∀ {ks : List Nat} {m : Mk}, allJ q m.rows → allJ q (m.leads ks).rows
  | [], _, h => h
  | k :: ks, m, h => allJ_leads (ks := ks) (m := m.lead k) (allJ_mlead h)
theorem allJ_add {m : Mk} {rs : List Rw} (h : allJ q m.rows) (h2 : allJ q rs) : allJ q (m.add rs).rows := allJ_app h h2
mutual
theorem mkS_jw (ss : List Str) (fr : Int) : ∀ (s : Sm) (m : Mk), (∀ t ∈ allSt s, t.jw q) → allJ q m.rows → allJ q (mkS ss fr m s).rows
  | .if1 l e b, m, h, hm => by
    unfold mkS
    exact allJ_mlead (mkB_jw ss fr b _ (fun t ht => h t (by unfold allSt; exact List.mem_cons_of_mem _ ht)) (allJ_add hm (allJ_app allJ_ex (allJ_one trivial))))
  | .if2 l e b c, m, h, hm => by
    unfold mkS
    exact allJ_mlead (mkB_jw ss fr c _ (fun t ht => h t (by unfold allSt; exact List.mem_cons_of_mem _ (List.mem_append_right _ ht)))
      (allJ_mlead (allJ_add (mkB_jw ss fr b _ (fun t ht => h t (by unfold allSt; exact List.mem_cons_of_mem _ (List.mem_append_left _ ht))) (allJ_add hm (allJ_app allJ_ex (allJ_one trivial)))) (allJ_one trivial))))
  | .whl l e b, m, h, hm => by
    have h1 := mkB_jw ss fr b { m.add (exRows ss l e fr ++ [.split l fr 0]) with loops := (m.rows.length - 1, [(m.add (exRows ss l e fr ++ [.split l fr 0])).rows.length - 1]) :: (m.add (exRows ss l e fr ++ [.split l fr 0])).loops } (fun t ht => h t (by unfold allSt; exact List.mem_cons_of_mem _ ht)) (show allJ q (m.add (exRows ss l e fr ++ [.split l fr 0])).rows from allJ_add hm (allJ_app allJ_ex (allJ_one trivial)))
    unfold mkS
    dsimp only
    split
    · exact allJ_add h1 (allJ_one trivial)
    · refine allJ_leads ?_
      exact allJ_add h1 (allJ_one trivial)
  | .brk l, m, h, hm => by
    unfold mkS
    split
    · exact hm
    · exact allJ_app hm (allJ_one trivial)
  | .agn l, m, h, hm => by
    unfold mkS
    split
    · exact hm
    · exact allJ_app hm (allJ_one trivial)
  | .ret l e, m, h, hm => by
    unfold mkS
    exact allJ_add hm (allJ_app allJ_ex (fun r hr => by
      simp only [List.mem_cons, List.not_mem_nil, or_false] at hr
      rcases hr with rfl | rfl <;> trivial))
  | .call l x f es, m, h, hm => by
    unfold mkS
    exact allJ_add hm (allJ_app allJ_exs (allJ_one trivial))
  | .set .., m, h, hm => by unfold mkS; exact allJ_add hm (allJ_app allJ_exs (allJ_one trivial))
  | .put .., m, h, hm => by unfold mkS; exact allJ_add hm (allJ_app allJ_exs (allJ_one trivial))
  | .tell .., m, h, hm => by unfold mkS; exact allJ_add hm (allJ_app allJ_exs (allJ_one trivial))
  | .meet .., m, h, hm => by unfold mkS; exact allJ_add hm (allJ_app allJ_exs (allJ_one trivial))
  | .stop .., m, h, hm => by unfold mkS; exact allJ_add hm (allJ_app allJ_exs (allJ_one trivial))
  | .join l x w e, m, h, hm => by
    have h1 := h (.join l x w e) (by unfold allSt; simp)
    unfold mkS; exact allJ_add hm (allJ_app allJ_exs (allJ_one h1))
theorem mkB_jw (ss : List Str) (fr : Int) : ∀ (b : List Sm) (m : Mk), (∀ t ∈ allBd b, t.jw q) → allJ q m.rows → allJ q (mkB ss fr m b).rows
  | [], m, _, hm => by unfold mkB; exact hm
  | s :: t, m, h, hm => by
    unfold mkB
    exact mkB_jw ss fr t _ (fun x hx => h x (by unfold allBd; exact List.mem_append_right _ hx)) (mkS_jw ss fr s _ (fun x hx => h x (by unfold allBd; exact List.mem_append_left _ hx)) (allJ_add hm (allJ_one trivial)))
end
theorem mkSteps_jw : ∀ {os : Pg} {s : Mk × List (Str × Nat)}, (∀ o ∈ os, ∀ t ∈ allBd o.body, t.jw q) → allJ q s.1.rows → allJ q (os.foldl mkStep s).1.rows
  | [], _, _, h => h
  | o :: os, s, h, hs => by
    rw [List.foldl_cons]
    refine mkSteps_jw (os := os) (fun x hx => h x (List.mem_cons_of_mem _ hx)) ?_
    show allJ q (mkDef s.1 o).rows
    rw [mkDef_eq]
    exact allJ_add (allJ_leads (mkB_jw _ _ _ _ (h o (List.mem_cons_self ..)) hs)) (allJ_one trivial)
theorem rows_jw {pg : Pg} (h : ∀ o ∈ pg, ∀ t ∈ allBd o.body, t.jw q) : allJ q (rowsF pg) := by
  have h1 : allJ q (mkAll (mainFirst pg)).1.rows := by
    rw [mkAll_eq]
    exact mkSteps_jw (fun o ho => h o (first_mem.mp ho)) fun r hr => by cases hr
  show allJ q ((mkAll (mainFirst pg)).1.calls.foldl (fun rows c => leadAt rows c.1 (beginOf (mkAll (mainFirst pg)).2 c.2)) (mkAll (mainFirst pg)).1.rows)
  generalize (mkAll (mainFirst pg)).1.calls = cs
  generalize (mkAll (mainFirst pg)).1.rows = rs at h1 ⊢
  induction cs generalizing rs with
  | nil => exact h1
  | cons c t ih => exact ih _ (allJ_lead h1)
end
theorem rows_len {pg : Pg} (h : okRows pg) : (rowsF pg).length < 16777215 := by
  have h1 := h.len
  have h2 : ∀ (cs : List (Nat × Str)) (f : Nat × Str → Int) (rs : List Rw), (cs.foldl (fun rows c => leadAt rows c.1 (f c)) rs).length = rs.length := by
    intro cs f
    induction cs with
    | nil => intro rs; rfl
    | cons c t ih => intro rs; rw [List.foldl_cons, ih, leadAt_len]
  show ((mkAll (mainFirst pg)).1.calls.foldl (fun rows c => leadAt rows c.1 (beginOf (mkAll (mainFirst pg)).2 c.2)) (mkAll (mainFirst pg)).1.rows).length < _
  rw [h2]
  exact h1
/-- rows whose texts are texts -/
theorem rw_okD {r : Rw} (h : r.jw fun w => PyData.strOk w = true) : okD 1 r.d := by
  have hs : ∀ s : Sn, PyData.strOk s.s = true := fun s => by cases s <;> decide +kernel
  have ho : ∀ s : Op7, PyData.strOk s.s = true := fun s => by cases s <;> decide +kernel
  cases r <;> unfold Rw.d okD <;> simp only [okDs, okD, and_true, true_and] <;> first | decide +kernel | exact ⟨by decide +kernel, h⟩ | exact ⟨by decide +kernel, hs _⟩ | exact ⟨by decide +kernel, ho _⟩
end Tl
namespace Tl
/-! ### ways in a graph of numbers -/
/-- a way of n steps from a to b, all of whose places keep p -/
inductive WayN (nx : Nat → List Nat) (p : Nat → Prop) : Nat → Nat → Nat → Prop
  | here {a : Nat} : p a → WayN nx p 0 a a
  | step {n a j b : Nat} : p a → j ∈ nx a → WayN nx p n j b → WayN nx p (n + 1) a b
def Way (nx : Nat → List Nat) (p : Nat → Prop) (a b : Nat) : Prop := ∃ n, WayN nx p n a b
section
variable {nx : Nat → List Nat} {p q : Nat → Prop}
theorem WayN.head {n a b : Nat} (h : WayN nx p n a b) : p a := by cases h <;> assumption
theorem WayN.last {n a b : Nat} (h : WayN nx p n a b) : p b := by
  induction h with
  | here h => exact h
  | step _ _ _ ih => exact ih
theorem WayN.app {n m a b c : Nat} (h : WayN nx p n a b) (g : WayN nx p m b c) : WayN nx p (n + m) a c := by
  induction h with
  | here _ => rw [Nat.zero_add]; exact g
  | step h1 h2 _ ih => rw [Nat.add_right_comm]; exact .step h1 h2 (ih g)
theorem Way.app {a b c : Nat} (h : Way nx p a b) (g : Way nx p b c) : Way nx p a c := by
  obtain ⟨n, h⟩ := h; obtain ⟨m, g⟩ := g
  exact ⟨_, h.app g⟩
theorem WayN.imp (hi : ∀ x, p x → q x) {n a b : Nat} (h : WayN nx p n a b) : WayN nx q n a b := by
  induction h with
  | here h => exact .here (hi _ h)
  | step h1 h2 _ ih => exact .step (hi _ h1) h2 ih
theorem Way.imp (hi : ∀ x, p x → q x) {a b : Nat} (h : Way nx p a b) : Way nx q a b := by
  obtain ⟨n, h⟩ := h; exact ⟨n, h.imp hi⟩
/-- a way passes j, or keeps off it -/
theorem WayN.cut {n a b : Nat} (h : WayN nx p n a b) (j : Nat) : (∃ k, k ≤ n ∧ WayN nx p k a j ∧ WayN nx p (n - k) j b) ∨ WayN nx (fun x => p x ∧ x ≠ j) n a b := by
  induction h with
  | @here a h =>
    by_cases e : a = j
    · subst e; exact .inl ⟨0, Nat.le_refl _, .here h, .here h⟩
    · exact .inr (.here ⟨h, e⟩)
  | @step n a c b h1 h2 h3 ih =>
    by_cases e : a = j
    · subst e; exact .inl ⟨0, Nat.zero_le _, .here h1, .step h1 h2 h3⟩
    · rcases ih with ⟨k, hk, g1, g2⟩ | g
      · exact .inl ⟨k + 1, by omega, .step h1 h2 g1, by rw [show n + 1 - (k + 1) = n - k from by omega]; exact g2⟩
      · exact .inr (.step ⟨h1, e⟩ h2 g)
theorem WayN.snoc {n a b c : Nat} (h : WayN nx p n a b) (hc : c ∈ nx b) (pc : p c) : WayN nx p (n + 1) a c := h.app (.step h.last hc (.here pc))
/-- what holds ahead and is kept by each step holds along the way -/
theorem WayN.keep (S : Nat → Prop) (hs : ∀ x, S x → ∀ y ∈ nx x, S y) {n a b : Nat} (h : WayN nx p n a b) (ha : S a) : S b := by
  induction h with
  | here _ => exact ha
  | step _ h2 _ ih => exact ih (hs _ ha _ h2)
theorem Way.keep (S : Nat → Prop) (hs : ∀ x, S x → ∀ y ∈ nx x, S y) {a b : Nat} (h : Way nx p a b) (ha : S a) : S b := by
  obtain ⟨n, h⟩ := h; exact h.keep S hs ha
/-- the same, along the places that keep p -/
theorem WayN.keepP (S : Nat → Prop) (hs : ∀ x, S x → p x → ∀ y ∈ nx x, p y → S y) {n a b : Nat} (h : WayN nx p n a b) (ha : S a) : S b := by
  induction h with
  | here _ => exact ha
  | step h1 h2 h3 ih => exact ih (hs _ ha h1 _ h2 h3.head)
end
/-! ### what each way to a back row passes -/
section
variable (nx : Nat → List Nat) (bk : Nat → Prop)
/-- each way from k to a back row passes j -/
def Dom (k j : Nat) : Prop := ¬ ∃ b, bk b ∧ Way nx (fun x => x ≠ j) k b
def Ends (k : Nat) : Prop := ∃ b, bk b ∧ Way nx (fun _ => True) k b
end
section
variable {nx : Nat → List Nat} {bk : Nat → Prop}
theorem Dom.next {k j y : Nat} (h : Dom nx bk k j) (e : k ≠ j) (hy : y ∈ nx k) : Dom nx bk y j := fun ⟨b, hb, _, g⟩ => h ⟨b, hb, _, .step e hy g⟩
theorem Dom.back {k j : Nat} (h : Dom nx bk k j) (hb : bk k) : k = j := Classical.byContradiction fun e => h ⟨k, hb, 0, .here e⟩
theorem Dom.of {k j : Nat} (hb : ¬ bk k) (h : ∀ y ∈ nx k, Dom nx bk y j) : Dom nx bk k j := by
  rintro ⟨b, hb', n, g⟩
  cases g with
  | here _ => exact hb hb'
  | step _ h2 h3 => exact h _ h2 ⟨b, hb', _, h3⟩
theorem Dom.way {k j b n : Nat} (h : Dom nx bk k j) (hb : bk b) (g : WayN nx (fun _ => True) n k b) : ∃ i, i ≤ n ∧ WayN nx (fun _ => True) i k j ∧ WayN nx (fun _ => True) (n - i) j b := by
  rcases g.cut j with h1 | h1
  · exact h1
  · exact (h ⟨b, hb, _, h1.imp fun _ h => h.2⟩).elim
theorem Dom.trans {k m j : Nat} (h : Dom nx bk k m) (g : Dom nx bk m j) : Dom nx bk k j := by
  rintro ⟨b, hb, n, w⟩
  rcases w.cut m with ⟨i, _, w1, w2⟩ | w1
  · exact g ⟨b, hb, _, w2⟩
  · exact h ⟨b, hb, _, w1.imp fun _ h => h.2⟩
end
end Tl
namespace Tl
/-! ### rows as bits -/
theorem sum_set : ∀ {l : List Nat} {k v : Nat} (h : k < l.length), (l.set k v).sum + l[k] = l.sum + v
  | a :: l, 0, v, _ => by simp; omega
  | a :: l, k + 1, v, h => by
    simp only [List.set_cons_succ, List.sum_cons, List.getElem_cons_succ]
    have := sum_set (l := l) (k := k) (v := v) (Nat.lt_of_succ_lt_succ h)
    omega
theorem sub_le_and {a b : Nat} (h : ∀ j, a.testBit j = true → b.testBit j = true) : a ≤ b := by
  have : a &&& b = a := by
    apply Nat.eq_of_testBit_eq
    intro j
    rw [Nat.testBit_and]
    cases e : a.testBit j with
    | false => rfl
    | true => rw [h j e]; rfl
  rw [← this]
  exact Nat.and_le_right
def gB (f : List Nat) (k j : Nat) : Bool := (f[k]?.getD 0).testBit j
section
variable (nx : Nat → List Nat) (bk : Nat → Bool) (n : Nat)
/-- what a round sets at k -/
def stepF (f : List Nat) (k : Nat) : Nat := (nx k).foldl (fun c a => c &&& f[a]?.getD 0) (if bk k then 0 else 2 ^ n - 1) ||| 2 ^ k
end
section
variable {nx : Nat → List Nat} {bk : Nat → Bool} {n : Nat}
theorem foldl_and {f : List Nat} {j : Nat} : ∀ {as : List Nat} {c : Nat}, (as.foldl (fun c a => c &&& f[a]?.getD 0) c).testBit j = (c.testBit j && as.all fun a => gB f a j)
  | [], c => by simp
  | a :: as, c => by
    rw [List.foldl_cons, foldl_and (as := as), Nat.testBit_and, List.all_cons, Bool.and_assoc]; rfl
theorem stepF_bit {f : List Nat} {k j : Nat} : (stepF nx bk n f k).testBit j = true ↔ j = k ∨ (j < n ∧ bk k = false ∧ ∀ a ∈ nx k, gB f a j = true) := by
  unfold stepF
  rw [Nat.testBit_or, foldl_and, Nat.testBit_two_pow, Bool.or_eq_true, Bool.and_eq_true, List.all_eq_true]
  have : (if bk k = true then 0 else 2 ^ n - 1).testBit j = true ↔ j < n ∧ bk k = false := by
    cases bk k <;> simp [Nat.testBit_two_pow_sub_one]
  rw [this]
  simp only [decide_eq_true_eq]
  constructor
  · rintro (⟨⟨a, b⟩, c⟩ | e)
    · exact .inr ⟨a, b, c⟩
    · exact .inl e.symm
  · rintro (e | ⟨a, b, c⟩)
    · exact .inr e.symm
    · exact .inl ⟨⟨a, b⟩, c⟩
/-- what stands between the rounds -/
structure InvB (nx : Nat → List Nat) (bk : Nat → Bool) (n : Nat) (f : List Nat) : Prop where
  len : f.length = n
  dom : ∀ k j, k < n → j < n → Dom nx (fun x => bk x = true) k j → gB f k j = true
  pre : ∀ k j, k < n → (stepF nx bk n f k).testBit j = true → gB f k j = true
  low : ∀ k j, gB f k j = true → j < n
theorem gB_set {f : List Nat} {k v a j : Nat} (h : k < f.length) : gB (f.set k v) a j = if a = k then v.testBit j else gB f a j := by
  unfold gB
  rw [List.getElem?_set]
  by_cases e : k = a
  · subst e; simp [h]
  · simp [e, Ne.symm e]
theorem stepF_low {f : List Nat} {k j : Nat} (hk : k < n) (h : (stepF nx bk n f k).testBit j = true) : j < n := by
  rcases stepF_bit.mp h with rfl | ⟨a, _⟩
  · exact hk
  · exact a
theorem InvB.start (hs : ∀ k, k < n → ∀ a ∈ nx k, a < n) : InvB nx bk n (List.replicate n (2 ^ n - 1)) := by
  have hg : ∀ k j, k < n → j < n → gB (List.replicate n (2 ^ n - 1)) k j = true := by
    intro k j hk hj
    unfold gB
    rw [List.getElem?_replicate_of_lt hk]
    simp [Nat.testBit_two_pow_sub_one, hj]
  refine ⟨by simp, fun k j hk hj _ => hg k j hk hj, fun k j hk h => hg k j hk (stepF_low hk h), fun k j h => ?_⟩
  unfold gB at h
  by_cases e : k < n
  · rw [List.getElem?_replicate_of_lt e] at h
    simpa [Nat.testBit_two_pow_sub_one] using h
  · rw [List.getElem?_eq_none (by simp; omega)] at h
    simp at h
theorem InvB.set {f : List Nat} (h : InvB nx bk n f) (hs : ∀ k, k < n → ∀ a ∈ nx k, a < n) {k : Nat} (hk : k < n) : InvB nx bk n (f.set k (stepF nx bk n f k)) ∧ (stepF nx bk n f k ≠ f[k]?.getD 0 → (f.set k (stepF nx bk n f k)).sum < f.sum) := by
  have hl : k < f.length := by rw [h.len]; exact hk
  have hle : ∀ a j, gB (f.set k (stepF nx bk n f k)) a j = true → gB f a j = true := by
    intro a j
    rw [gB_set hl]
    split
    · rename_i e; subst e; exact h.pre _ j hk
    · exact id
  refine ⟨⟨by rw [List.length_set]; exact h.len, fun a j ha hj hd => ?_, fun a j ha hb => ?_, fun a j g => h.low a j (hle a j g)⟩, fun hne => ?_⟩
  · rw [gB_set hl]
    split
    · rename_i e
      subst e
      rw [stepF_bit]
      by_cases e : j = a
      · exact .inl e
      · refine .inr ⟨hj, ?_, fun y hy => h.dom y j (hs a ha y hy) hj (hd.next (fun z => e z.symm) hy)⟩
        cases eb : bk a with
        | false => rfl
        | true => exact (e (hd.back eb).symm).elim
    · exact h.dom a j ha hj hd
  · have hb' : (stepF nx bk n f a).testBit j = true := by
      rw [stepF_bit] at hb ⊢
      rcases hb with e | ⟨h1, h2, h3⟩
      · exact .inl e
      · exact .inr ⟨h1, h2, fun y hy => hle y j (h3 y hy)⟩
    rw [gB_set hl]
    split
    · rename_i e; subst e; exact hb'
    · exact h.pre a j ha hb'
  · have h1 := sum_set (l := f) (k := k) (v := stepF nx bk n f k) hl
    have h2 : stepF nx bk n f k ≤ f[k] := sub_le_and fun j hj => by
      have := h.pre k j hk hj
      unfold gB at this
      rwa [List.getElem?_eq_getElem hl] at this
    rw [List.getElem?_eq_getElem hl] at hne
    have : stepF nx bk n f k ≠ f[k] := hne
    omega
end
end Tl
namespace Tl
open PySem PySem.Spec PyProof.Rows L2
/-! ### where the rows of a program lead -/
inductive Shp where
  | pl | bck | jmp (t : Int) | spl (t : Int)
def Rw.shp : Rw → Shp
  | .split _ _ t => .spl t | .jump _ t => .jmp t | .back _ => .bck | _ => .pl
def Rw.kd : Rw → Nat
  | .split _ _ _ => 2 | .jump _ _ => 1 | .back _ => 3 | .call _ _ _ _ _ => 4 | _ => 0
def kdAt (rows : List Rw) (z k : Nat) : Prop := rows[z]?.map Rw.kd = some k
theorem kdAt.lt {rows : List Rw} {z k : Nat} (h : kdAt rows z k) : z < rows.length := by
  unfold kdAt at h
  obtain ⟨r, hr, _⟩ := Option.map_eq_some_iff.mp h
  exact (List.getElem?_eq_some_iff.mp hr).1
theorem lead_get {rows : List Rw} {k j : Nat} {t : Int} : (leadAt rows k t)[j]? = if k = j then rows[j]?.map (·.lead t) else rows[j]? := by
  unfold leadAt
  rw [List.getElem?_modify]
  split
  · rename_i e; subst e; rfl
  · rename_i e; simp
theorem lead_kd (r : Rw) (t : Int) : (r.lead t).kd = r.kd := by cases r <;> rfl
theorem kdAt.lead {rows : List Rw} {z k j : Nat} {t : Int} (h : kdAt rows z k) : kdAt (leadAt rows j t) z k := by
  unfold kdAt at *
  rw [lead_get]
  split
  · rw [Option.map_map]
    rw [show (Rw.kd ∘ fun x => x.lead t) = Rw.kd from funext fun r => lead_kd r t]; exact h
  · exact h
/-- what a maker lays behind -/
structure Grow (m m' : Mk) : Prop where
  len : m.rows.length ≤ m'.rows.length
  old : ∀ i, i < m.rows.length → m'.rows[i]? = m.rows[i]?
  lv : ∃ Z, m'.leaves = m.leaves ++ Z ∧ ∀ z ∈ Z, m.rows.length ≤ z ∧ kdAt m'.rows z 1
  cs : ∃ Z, m'.calls = m.calls ++ Z ∧ ∀ z ∈ Z, m.rows.length ≤ z.1 ∧ kdAt m'.rows z.1 4
  lp : (m.loops = [] ∧ m'.loops = []) ∨ ∃ b l r Z, m.loops = (b, l) :: r ∧ m'.loops = (b, l ++ Z) :: r ∧ ∀ z ∈ Z, m.rows.length ≤ z ∧ kdAt m'.rows z 1
theorem lpsame {m : Mk} {P : Nat → Prop} : (m.loops = [] ∧ m.loops = []) ∨ ∃ b l r Z, m.loops = (b, l) :: r ∧ m.loops = (b, l ++ Z) :: r ∧ ∀ z ∈ Z, P z := by
  cases e : m.loops with
  | nil => exact .inl ⟨rfl, rfl⟩
  | cons p r => exact .inr ⟨p.1, p.2, r, [], rfl, by rw [List.append_nil], fun _ h => by cases h⟩
theorem Grow.refl {m : Mk} : Grow m m := ⟨Nat.le_refl _, fun _ _ => rfl, ⟨[], by simp, fun _ h => by cases h⟩, ⟨[], by simp, fun _ h => by cases h⟩, lpsame⟩
theorem kdAt.old {m m' : Mk} {z k : Nat} (g : ∀ i, i < m.rows.length → m'.rows[i]? = m.rows[i]?) (h : kdAt m.rows z k) : kdAt m'.rows z k := by
  have := h.lt
  unfold kdAt at *
  rw [g z this]; exact h
theorem Grow.trans {a b c : Mk} (h : Grow a b) (g : Grow b c) : Grow a c := by
  refine ⟨Nat.le_trans h.len g.len, fun i hi => (g.old i (Nat.lt_of_lt_of_le hi h.len)).trans (h.old i hi), ?_, ?_, ?_⟩
  · obtain ⟨Z, e, hz⟩ := h.lv
    obtain ⟨Z', e', hz'⟩ := g.lv
    refine ⟨Z ++ Z', by rw [e', e, List.append_assoc], fun z hm => ?_⟩
    rcases List.mem_append.mp hm with hm | hm
    · exact ⟨(hz z hm).1, (hz z hm).2.old g.old⟩
    · exact ⟨Nat.le_trans h.len (hz' z hm).1, (hz' z hm).2⟩
  · obtain ⟨Z, e, hz⟩ := h.cs
    obtain ⟨Z', e', hz'⟩ := g.cs
    refine ⟨Z ++ Z', by rw [e', e, List.append_assoc], fun z hm => ?_⟩
    rcases List.mem_append.mp hm with hm | hm
    · exact ⟨(hz z hm).1, (hz z hm).2.old g.old⟩
    · exact ⟨Nat.le_trans h.len (hz' z hm).1, (hz' z hm).2⟩
  · rcases h.lp with ⟨e1, e2⟩ | ⟨b1, l, r, Z, e1, e2, hz⟩
    · rcases g.lp with ⟨e3, e4⟩ | ⟨b1, l, r, Z, e3, e4, hz⟩
      · exact .inl ⟨e1, e4⟩
      · rw [e2] at e3; cases e3
    · rcases g.lp with ⟨e3, e4⟩ | ⟨b2, l2, r2, Z', e3, e4, hz'⟩
      · rw [e2] at e3; cases e3
      · rw [e2] at e3
        cases e3
        refine .inr ⟨b1, l, r, Z ++ Z', e1, by rw [e4, List.append_assoc], fun z hm => ?_⟩
        rcases List.mem_append.mp hm with hm | hm
        · exact ⟨(hz z hm).1, (hz z hm).2.old g.old⟩
        · exact ⟨Nat.le_trans h.len (hz' z hm).1, (hz' z hm).2⟩
theorem Grow.add {m : Mk} {rs : List Rw} : Grow m (m.add rs) := by
  refine ⟨by unfold Mk.add; simp, fun i hi => by unfold Mk.add; exact List.getElem?_append_left hi, ⟨[], by unfold Mk.add; simp, fun _ h => by cases h⟩, ⟨[], by unfold Mk.add; simp, fun _ h => by cases h⟩, ?_⟩
  exact lpsame (m := m)
theorem Grow.lead {m m' : Mk} {k : Nat} (h : Grow m m') (hk : m.rows.length ≤ k) : Grow m (m'.lead k) := by
  have hl : (m'.lead k).rows.length = m'.rows.length := lead_len
  refine ⟨by rw [hl]; exact h.len, fun i hi => ?_, ?_, ?_, ?_⟩
  · rw [← h.old i hi]
    show (leadAt m'.rows k _)[i]? = _
    rw [lead_get, if_neg (by omega)]
  · obtain ⟨Z, e, hz⟩ := h.lv
    exact ⟨Z, e, fun z hm => ⟨(hz z hm).1, (hz z hm).2.lead⟩⟩
  · obtain ⟨Z, e, hz⟩ := h.cs
    exact ⟨Z, e, fun z hm => ⟨(hz z hm).1, (hz z hm).2.lead⟩⟩
  · rcases h.lp with h1 | ⟨b, l, r, Z, e1, e2, hz⟩
    · exact .inl h1
    · exact .inr ⟨b, l, r, Z, e1, e2, fun z hm => ⟨(hz z hm).1, (hz z hm).2.lead⟩⟩
theorem Grow.leads {m : Mk} : ∀ {ks : List Nat} {m' : Mk}, Grow m m' → (∀ k ∈ ks, m.rows.length ≤ k) → Grow m (m'.leads ks)
  | [], _, h, _ => h
  | k :: ks, m', h, hk => Grow.leads (ks := ks) (h.lead (hk k (List.mem_cons_self ..))) fun j hj => hk j (List.mem_cons_of_mem _ hj)
theorem add_len {m : Mk} {rs : List Rw} : (m.add rs).rows.length = m.rows.length + rs.length := by unfold Mk.add; simp
theorem Grow.pop {m m1 m2 : Mk} {p : Nat × List Nat} (h : Grow { m1 with loops := p :: m1.loops } m2) (g : Grow m m1) (hp : ∀ z ∈ p.2, m.rows.length ≤ z) (e : m1.loops = m.loops) {Q : Prop}
    (k : ∀ Z, m2.loops = (p.1, p.2 ++ Z) :: m.loops → (∀ z ∈ Z, m1.rows.length ≤ z ∧ kdAt m2.rows z 1) → Grow m (({ m2 with loops := m.loops }).leads (p.2 ++ Z)) → Q) : Q := by
  rcases h.lp with ⟨e1, _⟩ | ⟨b, l, r, Z, e1, e2, hz⟩
  · cases e1
  · cases e1
    rw [e] at e2
    refine k Z e2 hz ?_
    have h2 : Grow m { m2 with loops := m.loops } := by
      refine ⟨Nat.le_trans g.len h.len, fun i hi => (h.old i (Nat.lt_of_lt_of_le hi g.len)).trans (g.old i hi), ?_, ?_, lpsame (m := m)⟩
      · obtain ⟨Z, e, hz⟩ := g.lv
        obtain ⟨Z', e', hz'⟩ := h.lv
        refine ⟨Z ++ Z', by show m2.leaves = _; rw [e', show ({ m1 with loops := (b, l) :: m1.loops } : Mk).leaves = m1.leaves from rfl, e, List.append_assoc], fun z hm => ?_⟩
        rcases List.mem_append.mp hm with hm | hm
        · exact ⟨(hz z hm).1, (hz z hm).2.old h.old⟩
        · exact ⟨Nat.le_trans g.len (hz' z hm).1, (hz' z hm).2⟩
      · obtain ⟨Z, e, hz⟩ := g.cs
        obtain ⟨Z', e', hz'⟩ := h.cs
        refine ⟨Z ++ Z', by show m2.calls = _; rw [e', show ({ m1 with loops := (b, l) :: m1.loops } : Mk).calls = m1.calls from rfl, e, List.append_assoc], fun z hm => ?_⟩
        rcases List.mem_append.mp hm with hm | hm
        · exact ⟨(hz z hm).1, (hz z hm).2.old h.old⟩
        · exact ⟨Nat.le_trans g.len (hz' z hm).1, (hz' z hm).2⟩
    refine h2.leads fun k hk => ?_
    rcases List.mem_append.mp hk with hk | hk
    · exact hp k hk
    · exact Nat.le_trans g.len (hz k hk).1
end Tl
namespace Tl
open PySem PySem.Spec PyProof.Rows L2
/-- behind the row i, by a row that goes back to t: the loop's split leads beyond i -/
def ExitR (R : List Shp) (E i t : Nat) : Prop := ∃ s u : Nat, t ≤ s ∧ s < i ∧ (∀ p, t ≤ p → p < s → R[p]? = some .pl) ∧ R[s]? = some (.spl u) ∧ i < u ∧ u ≤ E
def GoodR (R : List Shp) (a E i : Nat) : Prop := R[i]? = some .pl ∨ ∃ t : Nat, (R[i]? = some (.jmp t) ∨ R[i]? = some (.spl t)) ∧ a ≤ t ∧ t ≤ E ∧ (i < t ∨ ExitR R E i t)
def pend (m : Mk) (i : Nat) : Prop := i ∈ m.leaves ∨ ∃ b l r, m.loops = (b, l) :: r ∧ i ∈ l
structure wfm (m : Mk) : Prop where
  lv : ∀ z ∈ m.leaves, z < m.rows.length
  lp : ∀ q ∈ m.loops, ∀ z ∈ q.2, z < m.rows.length
theorem wfm.grow {m m' : Mk} (h : wfm m) (g : Grow m m') : wfm m' := by
  refine ⟨fun z hz => ?_, fun q hq z hz => ?_⟩
  · obtain ⟨Z, e, hZ⟩ := g.lv
    rw [e] at hz
    rcases List.mem_append.mp hz with hz | hz
    · exact Nat.lt_of_lt_of_le (h.lv z hz) g.len
    · exact (hZ z hz).2.lt
  · rcases g.lp with ⟨_, e⟩ | ⟨b, l, r, Z, e1, e2, hZ⟩
    · rw [e] at hq; cases hq
    · rw [e2] at hq
      rcases List.mem_cons.mp hq with rfl | hq
      · rcases List.mem_append.mp hz with hz | hz
        · exact Nat.lt_of_lt_of_le (h.lp (b, l) (by rw [e1]; exact List.mem_cons_self ..) z hz) g.len
        · exact (hZ z hz).2.lt
      · exact Nat.lt_of_lt_of_le (h.lp q (by rw [e1]; exact List.mem_cons_of_mem _ hq) z hz) g.len
theorem wfm.pend {m : Mk} (h : wfm m) {i : Nat} (p : pend m i) : i < m.rows.length := by
  rcases p with p | ⟨b, l, r, e, p⟩
  · exact h.lv i p
  · exact h.lp (b, l) (by rw [e]; exact List.mem_cons_self ..) i p
/-- the last rows R stand as the block from m to m' made them, but what waits in it -/
structure Fits (R : List Shp) (a E : Nat) (m m' : Mk) : Prop where
  own : ∀ i, m.rows.length ≤ i → i < m'.rows.length → ¬ pend m' i → R[i]? = m'.rows[i]?.map Rw.shp
  wait : ∀ i, m.rows.length ≤ i → i < m'.rows.length → pend m' i → ∃ t : Nat, R[i]? = some (.jmp t) ∧ i < t ∧ a ≤ t ∧ t ≤ E
  loop : ∀ b l r, m.loops = (b, l) :: r → a ≤ b ∧ ∃ s u : Nat, b ≤ s ∧ s < m.rows.length ∧ (∀ p, b ≤ p → p < s → R[p]? = some .pl) ∧ R[s]? = some (.spl u) ∧ m'.rows.length ≤ u ∧ u ≤ E
  fin : m'.rows.length ≤ E
theorem Fits.sub {R : List Shp} {a E : Nat} {m m' n n' : Mk} (h : Fits R a E m m') (h1 : m.rows.length ≤ n.rows.length) (h2 : n'.rows.length ≤ m'.rows.length)
    (hr : ∀ i, n.rows.length ≤ i → i < n'.rows.length → m'.rows[i]? = n'.rows[i]?) (hp : ∀ i, n.rows.length ≤ i → i < n'.rows.length → (pend m' i ↔ pend n' i))
    (hl : ∀ b l r, n.loops = (b, l) :: r → ∃ l0, m.loops = (b, l0) :: r) : Fits R a E n n' := by
  refine ⟨fun i hi hi2 hn => ?_, fun i hi hi2 hn => h.wait i (by omega) (by omega) ((hp i hi hi2).mpr hn), fun b l r e => ?_, Nat.le_trans h2 h.fin⟩
  · rw [← hr i hi hi2]
    exact h.own i (by omega) (by omega) fun z => hn ((hp i hi hi2).mp z)
  · obtain ⟨l0, e0⟩ := hl b l r e
    obtain ⟨g1, s, u, g2, g3, g4, g5, g6, g7⟩ := h.loop b l0 r e0
    exact ⟨g1, s, u, g2, by omega, g4, g5, by omega, g7⟩
/-- rows of its own -/
theorem Fits.row {R : List Shp} {a E : Nat} {m m' : Mk} (h : Fits R a E m m') (w : wfm m) {rs : List Rw} (hr : ∀ i, i < rs.length → m'.rows[m.rows.length + i]? = rs[i]?) (hl : m.rows.length + rs.length ≤ m'.rows.length) {i : Nat} (hi : i < rs.length)
    (hp : ¬ pend m' (m.rows.length + i)) : R[m.rows.length + i]? = rs[i]?.map Rw.shp := by
  rw [← hr i hi]
  exact h.own _ (by omega) (by omega) hp
theorem all_pl {rs : List Rw} (h : ∀ r ∈ rs, r.shp = .pl) {i : Nat} (hi : i < rs.length) : rs[i]?.map Rw.shp = some .pl := by
  rw [List.getElem?_eq_getElem hi, Option.map_some, h _ (List.getElem_mem hi)]
theorem add_get {m : Mk} {rs : List Rw} {i : Nat} : (m.add rs).rows[m.rows.length + i]? = rs[i]? := by
  unfold Mk.add
  dsimp only
  rw [List.getElem?_append_right (by omega), Nat.add_sub_cancel_left]
theorem wfm.add {m : Mk} (h : wfm m) {rs : List Rw} : wfm (m.add rs) := h.grow Grow.add
theorem npend_add {m : Mk} (h : wfm m) {rs : List Rw} {i : Nat} : ¬ pend (m.add rs) (m.rows.length + i) := fun p => by
  have : pend m (m.rows.length + i) := p
  have := h.pend this
  omega
/-- behind plain rows that are added -/
theorem Fits.adds {R : List Shp} {a E : Nat} {m : Mk} {rs : List Rw} (h : Fits R a E m (m.add rs)) (w : wfm m) {i : Nat} (hi : i < rs.length) : R[m.rows.length + i]? = rs[i]?.map Rw.shp :=
  h.row w (fun i _ => add_get) (by rw [add_len]; exact Nat.le_refl _) hi (npend_add w)
theorem Fits.plain {R : List Shp} {a E : Nat} {m : Mk} {rs : List Rw} (h : Fits R a E m (m.add rs)) (w : wfm m) (hp : ∀ r ∈ rs, r.shp = .pl) : ∀ i, m.rows.length ≤ i → i < (m.add rs).rows.length → GoodR R a E i := by
  intro i hi hi2
  rw [add_len] at hi2
  obtain ⟨j, rfl⟩ : ∃ j, i = m.rows.length + j := ⟨i - m.rows.length, by omega⟩
  refine .inl ?_
  rw [h.adds w (by omega), all_pl hp (by omega)]
end Tl
namespace Tl
open PySem PySem.Spec PyProof.Rows L2
/-- the head of an if or a while: its expression's rows and its split -/
structure Head (m m1 : Mk) (ex : List Rw) (x : Rw) : Prop where
  len : m1.rows.length = m.rows.length + ex.length + 1
  row : ∀ i, i < ex.length → m1.rows[m.rows.length + i]? = ex[i]?
  spl : m1.rows[m1.rows.length - 1]? = some x
  g : Grow m m1
  lp : m1.loops = m.loops
  pd : ∀ i, pend m1 i ↔ pend m i
theorem Head.ex {R : List Shp} {a E : Nat} {m m1 m' : Mk} {ex : List Rw} {x : Rw} (H : Head m m1 ex x) (h : Fits R a E m m') (he : ∀ r ∈ ex, r.shp = .pl) (hl : m1.rows.length ≤ m'.rows.length)
    (hr : ∀ i, i < m1.rows.length - 1 → m'.rows[i]? = m1.rows[i]?) (hp : ∀ i, m.rows.length ≤ i → i < m1.rows.length → ¬ pend m' i) : ∀ i, m.rows.length ≤ i → i < m1.rows.length - 1 → R[i]? = some .pl := by
  intro i h1 h2
  have := H.len
  rw [h.own i h1 (by omega) (hp i h1 (by omega)), hr i h2]
  obtain ⟨j, rfl⟩ : ∃ j, i = m.rows.length + j := ⟨i - m.rows.length, by omega⟩
  rw [H.row j (by omega)]
  exact all_pl he (by omega)
end Tl
namespace Tl
open PySem PySem.Spec PyProof.Rows L2
/-! ### the ways of a program's rows -/
def nxR (rows : List Rw) (k : Nat) : List Nat := match rows[k]? with
  | some r => (nextF r k).map Int.toNat
  | none => []
def bkR (rows : List Rw) (k : Nat) : Bool := match rows[k]? with
  | some (.back _) => true
  | _ => false
/-- what the rows of a program keep, as a graph -/
structure GraphR (rows : List Rw) : Prop where
  next : ∀ (k : Nat) r, rows[k]? = some r → nextF r k = (nxR rows k).map (fun n : Nat => (n : Int))
  low : ∀ k, k < rows.length → ∀ a ∈ nxR rows k, a < rows.length
  ends : ∀ k, k < rows.length → Ends (nxR rows) (fun x => bkR rows x = true) k
  dom : ∀ k, k < rows.length → bkR rows k = false → ∃ j, j ≠ k ∧ Dom (nxR rows) (fun x => bkR rows x = true) k j
end Tl
namespace Tl
open PySem PySem.Spec PyProof.Rows L2
/-! ### bits -/
/-! ### the words of rows -/
def Rw.word : Rw → Str
  | .tick _ => "tick" | .num _ _ _ => "num" | .copy _ _ _ => "copy" | .sign _ _ _ => "sign" | .op _ _ _ _ _ => "op" | .get _ _ _ => "get" | .put _ _ _ => "put" | .tell _ _ => "tell"
  | .split _ _ _ => "split" | .jump _ _ => "jump" | .call _ _ _ _ _ => "call" | .back _ => "back" | .join _ _ _ _ => "join" | .meet _ => "meet" | .stop _ => "stop"
/-! ### the nearest -/
end Tl
namespace Tl
open PySem PySem.Spec PyProof.Rows L2
/-! ### a search through a graph -/
def Rch (nx : Nat → List Nat) (shut : Option Nat) (bs : List Nat) (x : Nat) : Prop := ∃ b ∈ bs, Way nx (fun y => some y ≠ shut) b x
structure InvC (nx : Nat → List Nat) (shut : Option Nat) (bs : List Nat) (n : Nat) (seen wt : List Nat) : Prop where
  nd : seen.Nodup
  sn : ∀ x ∈ seen, x < n
  wn : ∀ x ∈ wt, x < n
  snd : ∀ x, x ∈ seen ∨ x ∈ wt → Rch nx shut bs x
  bg : ∀ b ∈ bs, some b ≠ shut → b ∈ seen ∨ b ∈ wt
  cl : ∀ x ∈ seen, ∀ y ∈ nx x, some y ≠ shut → y ∈ seen ∨ y ∈ wt
def offS (shut : Option Nat) (y : Nat) : Bool := decide (some y ≠ shut)
theorem offS_t {shut : Option Nat} {y : Nat} : offS shut y = true ↔ some y ≠ shut := by unfold offS; exact decide_eq_true_iff
section
variable {nx : Nat → List Nat} {shut : Option Nat} {bs seen ws ns : List Nat} {n x : Nat}
theorem InvC.start (hb : ∀ b ∈ bs, b < n) : InvC nx shut bs n [] (bs.filter (offS shut)) := by
  refine ⟨List.nodup_nil, fun _ h => (by cases h), fun y hy => hb y (List.mem_filter.mp hy).1, fun y hy => ?_, fun b h1 h2 => .inr (List.mem_filter.mpr ⟨h1, offS_t.mpr h2⟩), fun _ h => (by cases h)⟩
  rcases hy with h | h
  · cases h
  · obtain ⟨h1, h2⟩ := List.mem_filter.mp h
    exact ⟨y, h1, 0, .here (offS_t.mp h2)⟩
theorem InvC.add (h : InvC nx shut bs n seen (ws ++ [x])) (hx : x ∉ seen) (hn : ∀ y, y ∈ ns ↔ y ∈ nx x) (hl : ∀ y ∈ nx x, y < n) : InvC nx shut bs n (seen ++ [x]) (ws ++ ns.filter (offS shut)) := by
  have rx := h.snd x (.inr (by simp))
  have mem : ∀ y, y ∈ seen ∨ y ∈ ws ++ [x] → y ∈ seen ++ [x] ∨ y ∈ ws ++ ns.filter (offS shut) := fun y hy => by
    rcases hy with hy | hy
    · exact .inl (List.mem_append_left _ hy)
    · rcases List.mem_append.mp hy with hy | hy
      · exact .inr (List.mem_append_left _ hy)
      · exact .inl (List.mem_append_right _ hy)
  have xn := h.wn x (by simp)
  refine ⟨?_, fun y hy => ?_, fun y hy => ?_, fun y hy => ?_, fun b h1 h2 => mem _ (h.bg b h1 h2), fun y hy z hz hs => ?_⟩
  · rw [List.nodup_append]
    exact ⟨h.nd, by simp, fun a ha b hb e => by rw [List.mem_singleton.mp hb] at e; exact hx (e ▸ ha)⟩
  · rcases List.mem_append.mp hy with hy | hy
    · exact h.sn y hy
    · rw [List.mem_singleton.mp hy]; exact xn
  · rcases List.mem_append.mp hy with hy | hy
    · exact h.wn y (List.mem_append_left _ hy)
    · exact hl y ((hn y).mp (List.mem_filter.mp hy).1)
  · rcases hy with hy | hy
    · rcases List.mem_append.mp hy with hy | hy
      · exact h.snd y (.inl hy)
      · rw [List.mem_singleton.mp hy]; exact rx
    · rcases List.mem_append.mp hy with hy | hy
      · exact h.snd y (.inr (List.mem_append_left _ hy))
      · obtain ⟨h1, h2⟩ := List.mem_filter.mp hy
        obtain ⟨b, hb, i, w⟩ := rx
        exact ⟨b, hb, _, w.snoc ((hn y).mp h1) (offS_t.mp h2)⟩
  · rcases List.mem_append.mp hy with hy | hy
    · exact mem _ (h.cl y hy z hz hs)
    · rw [List.mem_singleton.mp hy] at hz
      exact .inr (List.mem_append_right _ (List.mem_filter.mpr ⟨(hn z).mpr hz, offS_t.mpr hs⟩))
theorem InvC.fin (h : InvC nx shut bs n seen []) : x ∈ seen ↔ Rch nx shut bs x := by
  refine ⟨fun hx => h.snd x (.inl hx), ?_⟩
  rintro ⟨b, hb, i, w⟩
  have none_ : ∀ y, y ∈ seen ∨ y ∈ ([] : List Nat) → y ∈ seen := fun y hy => hy.elim id fun z => (by cases z)
  exact w.keepP (fun y => y ∈ seen) (fun y hy _ z hz pz => none_ _ (h.cl y hy z hz pz)) (none_ _ (h.bg b hb w.head))
theorem nodup_low {l : List Nat} {n : Nat} (h : l.Nodup) (hl : ∀ x ∈ l, x < n) : l.length ≤ n := by
  have := List.Nodup.length_le_of_subset h (l₂ := List.range n) (fun x hx => List.mem_range.mpr (hl x hx))
  rwa [List.length_range] at this
theorem InvC.len (h : InvC nx shut bs n seen ws) : seen.length ≤ n := nodup_low h.nd h.sn
end
/-! ### the rows behind a row, as the laws tell them -/
/-! ### what was seen, as a dict -/
end Tl
namespace Tl
open PySem PySem.Spec PyProof.Rows L2
/-! ### a search level by level, each row with the row that it was come to from -/
structure InvP (nx : Nat → List Nat) (bs : List Nat) (goal n : Nat) (cs : List (Nat × Option Nat)) : Prop where
  nd : (cs.map (·.1)).Nodup
  cn : ∀ x ∈ cs.map (·.1), x < n
  fr : ∀ (i : Nat) (c : Nat × Option Nat), cs[i]? = some c → (c.2 = none ∧ c.1 ∈ bs) ∨ ∃ (o j : Nat) (c' : Nat × Option Nat), c.2 = some o ∧ o ≠ goal ∧ c.1 ∈ nx o ∧ j < i ∧ cs[j]? = some c' ∧ c'.1 = o
  bg : ∀ b ∈ bs, b ∈ cs.map (·.1)
section
variable {nx : Nat → List Nat} {bs : List Nat} {goal n : Nat} {cs : List (Nat × Option Nat)}
theorem InvP.len (h : InvP nx bs goal n cs) : cs.length ≤ n := by
  have := nodup_low h.nd h.cn
  rwa [List.length_map] at this
theorem InvP.add (h : InvP nx bs goal n cs) {x y : Nat} (hx : x ∈ cs.map (·.1)) (hg : x ≠ goal) (hy : y ∈ nx x) (hn : y < n) (hs : y ∉ cs.map (·.1)) : InvP nx bs goal n (cs ++ [(y, some x)]) := by
  refine ⟨?_, fun z hz => ?_, fun i c hc => ?_, fun b hb => ?_⟩
  · rw [List.map_append, List.nodup_append]
    exact ⟨h.nd, by simp, fun a ha b hb e => by
      rw [show b = y by simpa using hb] at e
      exact hs (e ▸ ha)⟩
  · rw [List.map_append] at hz
    rcases List.mem_append.mp hz with hz | hz
    · exact h.cn z hz
    · rw [show z = y by simpa using hz]; exact hn
  · rcases Nat.lt_or_ge i cs.length with hi | hi
    · rw [List.getElem?_append_left hi] at hc
      rcases h.fr i c hc with h1 | ⟨o, j, c', h1, h2, h3, h4, h5, h6⟩
      · exact .inl h1
      · exact .inr ⟨o, j, c', h1, h2, h3, h4, by rw [List.getElem?_append_left (by omega)]; exact h5, h6⟩
    · rw [List.getElem?_append_right hi] at hc
      have hz : i - cs.length = 0 := by
        rcases Nat.eq_zero_or_pos (i - cs.length) with z | z
        · exact z
        · rw [List.getElem?_eq_none (by simp; omega)] at hc; cases hc
      rw [hz] at hc
      cases hc
      obtain ⟨c', hc', rfl⟩ := List.mem_map.mp hx
      obtain ⟨j, hj⟩ := List.mem_iff_getElem?.mp hc'
      have hjl := (List.getElem?_eq_some_iff.mp hj).1
      exact .inr ⟨c'.1, j, c', rfl, hg, hy, by omega, by rw [List.getElem?_append_left hjl]; exact hj, rfl⟩
  · rw [List.map_append]; exact List.mem_append_left _ (h.bg b hb)
/-- where nothing more is come to, all is -/
theorem InvP.all (h : InvP nx bs goal n cs) (hc : ∀ x ∈ cs.map (·.1), ∀ y ∈ nx x, y ∈ cs.map (·.1)) {x : Nat} (r : Rch nx none bs x) : x ∈ cs.map (·.1) := by
  obtain ⟨b, hb, m, w⟩ := r
  exact w.keep (fun y => y ∈ cs.map (·.1)) hc (h.bg b hb)
end
end Tl
namespace Tl
open PySem PySem.Spec PyProof.Rows L2
/-! ### sorted(d) of a dict by pairs of whole numbers -/
end Tl
namespace Tl
open PySem PySem.Spec PyProof.Rows L2
/-! ### the rows of a program without their targets -/
/-! calls are led -/
def Cov (m : Mk) : Prop := ∀ i, kdAt m.rows i 4 → ∃ f, (i, f) ∈ m.calls
theorem kdAt_add {m : Mk} {rs : List Rw} {i k : Nat} (h : kdAt (m.add rs).rows i k) : kdAt m.rows i k ∨ ∃ r, rs[i - m.rows.length]? = some r ∧ r.kd = k ∧ m.rows.length ≤ i := by
  unfold kdAt at *
  rcases Nat.lt_or_ge i m.rows.length with c | c
  · left
    rw [show (m.add rs).rows = m.rows ++ rs from rfl, List.getElem?_append_left c] at h
    exact h
  · right
    rw [show (m.add rs).rows = m.rows ++ rs from rfl, List.getElem?_append_right c] at h
    obtain ⟨r, hr, e⟩ := Option.map_eq_some_iff.mp h
    exact ⟨r, hr, e, c⟩
theorem kdAt_lead {rows : List Rw} {z k j : Nat} {t : Int} (h : kdAt (leadAt rows j t) z k) : kdAt rows z k := by
  unfold kdAt at *
  rw [lead_get] at h
  split at h
  · rw [Option.map_map, show (Rw.kd ∘ fun x => x.lead t) = Rw.kd from funext fun r => lead_kd r t] at h; exact h
  · exact h
theorem Cov.add {m : Mk} {rs : List Rw} (h : Cov m) (hr : ∀ r ∈ rs, r.kd ≠ 4) : Cov (m.add rs) := fun i hi => by
  rcases kdAt_add hi with c | ⟨r, h1, h2, _⟩
  · exact h i c
  · exact (hr r (List.mem_of_getElem? h1) h2).elim
theorem Cov.lead {m : Mk} {k : Nat} (h : Cov m) : Cov (m.lead k) := fun i hi => h i (kdAt_lead hi)
theorem Cov.leads : ∀ {ks : List Nat} {m : Mk}, Cov m → Cov (m.leads ks)
  | [], _, h => h
  | k :: ks, m, h => Cov.leads (ks := ks) (m := m.lead k) h.lead
/-- a call goes to a row that is there -/
def CallsIn (rows : List Rw) : Prop := ∀ (k : Nat) (l a f m t : Int), rows[k]? = some (.call l a f m t) → ∃ n : Nat, t = n ∧ n < rows.length
end Tl
namespace Tl
open PySem PySem.Spec PyProof.Rows L2
/-! ### could: mirrors -/
def Rw.isPut : Rw → Bool
  | .put _ _ _ => true | _ => false
def Rw.isTch : Rw → Bool
  | .get _ _ _ => true | .put _ _ _ => true | _ => false
def Rw.isMt : Rw → Bool
  | .join _ _ _ _ => true | .meet _ => true | _ => false
def Rw.line : Rw → Int
  | .tick l => l | .num l _ _ => l | .copy l _ _ => l | .sign l _ _ => l | .op l _ _ _ _ => l | .get l _ _ => l | .put l _ _ => l | .tell l _ => l
  | .split l _ _ => l | .jump l _ => l | .call l _ _ _ _ => l | .back l => l | .join l _ _ _ => l | .meet l => l | .stop l => l
structure Tc where
  put : Bool
  ln : Int
  fo : Fo
def Tc.w (t : Tc) : Str := if t.put = true then "put" else "get"
def Tc.d (t : Tc) : D := .tup [.str t.w, .int t.ln, t.fo.d]
/-! ### where a phase goes on -/
def callTo (rows : List Rw) (b j : Nat) : Bool := match rows[j]? with
  | some (.call _ _ _ _ t) => decide (t = (b : Int))
  | _ => false
def bhUp (rows : List Rw) (i b : Nat) : List Nat := ((List.range i).filter (callTo rows b)).map (· + 1)
def bhN (rows : List Rw) (b : Nat) : List Nat := bhUp rows rows.length b
def fstR (rows : List Rw) : Nat → Nat
  | 0 => 0
  | i + 1 => if bkR rows i = true then i + 1 else fstR rows i
def onR (rows : List Rw) (k : Nat) : List Nat := match rows[k]? with
  | some (.join _ _ _ _) => []
  | some (.meet _) => []
  | some (.call _ _ _ _ t) => [t.toNat]
  | some (.back _) => bhN rows (fstR rows k)
  | some _ => nxR rows k
  | none => []
structure GraphC (rows : List Rw) : Prop where
  g : GraphR rows
  c : CallsIn rows
theorem call_next {rows : List Rw} {k : Nat} {l a f m t : Int} (h : rows[k]? = some (.call l a f m t)) : nxR rows k = [k + 1] := by
  unfold nxR; rw [h]; dsimp only [nextF]; simp
theorem GraphC.low {rows : List Rw} (h : GraphC rows) {k : Nat} (hk : k < rows.length) : ∀ a ∈ onR rows k, a < rows.length := by
  intro a ha
  have hl := h.g.low k hk a
  unfold onR at ha
  cases e : rows[k]? with
  | none => rw [e] at ha; cases ha
  | some r =>
    rw [e] at ha
    cases r with
    | join => cases ha
    | meet => cases ha
    | call l at_ f m t =>
      obtain ⟨n, rfl, hn⟩ := h.c k l at_ f m t e
      have : a = n := by simpa using ha
      rw [this]; exact hn
    | back l =>
      have ha : a ∈ bhN rows (fstR rows k) := ha
      unfold bhN bhUp at ha
      obtain ⟨j, hj, rfl⟩ := List.mem_map.mp ha
      obtain ⟨hj1, hj2⟩ := List.mem_filter.mp hj
      have hjn := List.mem_range.mp hj1
      unfold callTo at hj2
      cases e2 : rows[j]? with
      | none => rw [e2] at hj2; cases hj2
      | some r2 =>
        rw [e2] at hj2
        cases r2 <;> first | (cases hj2; done) | exact h.g.low j hjn _ (by rw [call_next e2]; simp)
    | _ => exact hl ha
/-! ### a search with bits -/
structure InvD (nx : Nat → List Nat) (start n : Nat) (seen wt : List Nat) (x : Option Nat) : Prop where
  nd : seen.Nodup
  sn : ∀ y ∈ seen, y < n
  wd : wt.Nodup
  ws : ∀ y ∈ wt, y ∈ seen
  snd : ∀ y ∈ seen, Way nx (fun _ => True) start y
  bg : start ∈ seen
  cl : ∀ y ∈ seen, y ∉ wt → some y ≠ x → ∀ z ∈ nx y, z ∈ seen
section
variable {nx : Nat → List Nat} {start n x y : Nat} {seen wt ws : List Nat}
theorem InvD.init (h : start < n) : InvD nx start n [start] [start] none := by
  refine ⟨by simp, fun y hy => ?_, by simp, fun _ h => h, fun y hy => ?_, by simp, fun y h1 h2 => (h2 h1).elim⟩
  · rw [List.mem_singleton.mp hy]; exact h
  · rw [List.mem_singleton.mp hy]; exact ⟨0, .here trivial⟩
theorem InvD.pop (h : InvD nx start n seen (ws ++ [x]) none) : InvD nx start n seen ws (some x) ∧ x ∈ seen := by
  have hx := h.ws x (by simp)
  refine ⟨⟨h.nd, h.sn, (List.nodup_append.mp h.wd).1, fun y hy => h.ws y (List.mem_append_left _ hy), h.snd, h.bg, fun y h1 h2 h3 z hz => h.cl y h1 ?_ (by simp) z hz⟩, hx⟩
  intro hm
  rcases List.mem_append.mp hm with hm | hm
  · exact h2 hm
  · exact h3 (by rw [List.mem_singleton.mp hm])
theorem InvD.add (h : InvD nx start n seen wt (some x)) (hx : x ∈ seen) (hy : y ∈ nx x) (hn : y < n) (hs : y ∉ seen) : InvD nx start n (seen ++ [y]) (wt ++ [y]) (some x) := by
  have nd1 : ∀ {l : List Nat}, l.Nodup → y ∉ l → (l ++ [y]).Nodup := fun hl hy => by
    rw [List.nodup_append]
    exact ⟨hl, by simp, fun a ha b hb e => by rw [List.mem_singleton.mp hb] at e; exact hy (e ▸ ha)⟩
  refine ⟨nd1 h.nd hs, fun z hz => ?_, nd1 h.wd (fun q => hs (h.ws y q)), fun z hz => ?_, fun z hz => ?_, List.mem_append_left _ h.bg, fun z h1 h2 h3 u hu => ?_⟩
  · rcases List.mem_append.mp hz with hz | hz
    · exact h.sn z hz
    · rw [List.mem_singleton.mp hz]; exact hn
  · rcases List.mem_append.mp hz with hz | hz
    · exact List.mem_append_left _ (h.ws z hz)
    · exact List.mem_append_right _ hz
  · rcases List.mem_append.mp hz with hz | hz
    · exact h.snd z hz
    · rw [List.mem_singleton.mp hz]
      obtain ⟨i, w⟩ := h.snd x hx
      exact ⟨_, w.snoc hy trivial⟩
  · rcases List.mem_append.mp h1 with h1 | h1
    · exact List.mem_append_left _ (h.cl z h1 (fun q => h2 (List.mem_append_left _ q)) h3 u hu)
    · exact (h2 (List.mem_append_right _ h1)).elim
theorem InvD.done (h : InvD nx start n seen wt (some x)) (hx : ∀ z ∈ nx x, z ∈ seen) : InvD nx start n seen wt none := by
  refine ⟨h.nd, h.sn, h.wd, h.ws, h.snd, h.bg, fun y h1 h2 _ z hz => ?_⟩
  by_cases e : y = x
  · subst e; exact hx z hz
  · exact h.cl y h1 h2 (fun q => e (Option.some.inj q)) z hz
theorem InvD.fin (h : InvD nx start n seen [] none) : y ∈ seen ↔ Way nx (fun _ => True) start y :=
  ⟨h.snd y, fun w => w.keep (fun z => z ∈ seen) (fun z hz u hu => h.cl z hz (by simp) (by simp) u hu) h.bg⟩
theorem InvD.len {o : Option Nat} (h : InvD nx start n seen wt o) : seen.length ≤ n ∧ wt.length ≤ n :=
  ⟨nodup_low h.nd h.sn, nodup_low h.wd fun y hy => h.sn y (h.ws y hy)⟩
end
/-! ### what could tells -/
end Tl
namespace Tl
open PySem PySem.Spec PyProof.Rows L2
theorem enumD_range {α : Type} {f : α → D} {xs : List α} (d : α) : enumD (xs.map f) = (List.range xs.length).map fun k => .tup [.int (k : Nat), f (xs.getD k d)] := by
  apply List.ext_getElem?
  intro i
  unfold enumD
  rw [List.getElem?_mapIdx, List.getElem?_map, List.getElem?_map]
  by_cases h : i < xs.length
  · rw [List.getElem?_eq_getElem h, List.getElem?_range h]
    simp only [Option.map_some, List.getD_eq_getElem?_getD, List.getElem?_eq_getElem h, Option.getD_some]
  · rw [List.getElem?_eq_none (by omega), List.getElem?_eq_none (by rw [List.length_range]; omega)]
    rfl
theorem cut_drop {xs : List D} (n : Nat) : cutD xs (some (n : Int)) none = xs.drop n := by
  unfold cutD
  rw [HT.sIx_nat, HT.sIx_none]
  by_cases h : n ≤ xs.length
  · rw [Nat.min_eq_left h, List.take_of_length_le (by rw [List.length_drop]; omega)]
  · rw [Nat.min_eq_right (by omega), List.drop_of_length_le (Nat.le_refl _), List.drop_of_length_le (by omega), List.take_nil]
end Tl
namespace Tl
open PySem PySem.Spec PyProof.Rows L2
/-! ### how many boxes -/
/-! ### touches, row by row -/
abbrev Ev := Bool × Option Tc
def evR : List Rw → List Fo → List Ev
  | [], _ => []
  | r :: rs, fs => if r.isTch = true then (match fs with
      | f :: fs' => (r.isMt, some ⟨r.isPut, r.line, f⟩) :: evR rs fs'
      | [] => (r.isMt, none) :: evR rs [])
    else (r.isMt, none) :: evR rs fs
theorem evR_cons {r : Rw} {rs : List Rw} {fs : List Fo} : evR (r :: rs) fs = if r.isTch = true then (match fs with
      | f :: fs' => (r.isMt, some ⟨r.isPut, r.line, f⟩) :: evR rs fs'
      | [] => (r.isMt, none) :: evR rs [])
    else (r.isMt, none) :: evR rs fs := by
  cases fs <;> rfl
def tcnt (rows : List Rw) : Nat := (rows.filter Rw.isTch).length
theorem tcnt_app {a b : List Rw} : tcnt (a ++ b) = tcnt a + tcnt b := by unfold tcnt; rw [List.filter_append, List.length_append]
theorem evR_app : ∀ {a b : List Rw} {fs gs : List Fo}, fs.length = tcnt a → evR (a ++ b) (fs ++ gs) = evR a fs ++ evR b gs
  | [], b, fs, gs, h => by
    have : fs = [] := List.eq_nil_of_length_eq_zero h
    subst this; rfl
  | r :: a, b, fs, gs, h => by
    rw [List.cons_append]
    unfold tcnt at h
    rw [List.filter_cons] at h
    rw [evR_cons, evR_cons (r := r) (rs := a)]
    by_cases e : r.isTch = true
    · rw [if_pos e] at h
      rw [if_pos e, if_pos e]
      cases fs with
      | nil => cases h
      | cons f fs =>
        rw [List.cons_append]
        dsimp only
        rw [evR_app (a := a) (fs := fs) (Nat.succ.inj h)]; rfl
    · rw [if_neg e] at h
      rw [if_neg e, if_neg e]
      rw [evR_app (a := a) (fs := fs) h]; rfl
/-! ### stretches -/
end Tl
namespace Tl
open PySem PySem.Spec PyProof.Rows L2
/-! ### touches of expressions and statements -/
def getT (l : Int) (f : Fo) : Tc := ⟨false, l, f⟩
/-- rows that touch so, and meet nowhere -/
structure Evs (rows : List Rw) (fs : List Fo) (ts : List Tc) : Prop where
  n : fs.length = tcnt rows
  t : (evR rows fs).filterMap (·.2) = ts
  m : ∀ x ∈ evR rows fs, x.1 = false
theorem Evs.app {a b : List Rw} {fs gs : List Fo} {ts us : List Tc} (h : Evs a fs ts) (g : Evs b gs us) : Evs (a ++ b) (fs ++ gs) (ts ++ us) := by
  refine ⟨by rw [List.length_append, tcnt_app, h.n, g.n], ?_, ?_⟩
  · rw [evR_app h.n, List.filterMap_append, h.t, g.t]
  · intro x hx
    rw [evR_app h.n] at hx
    exact (List.mem_append.mp hx).elim (h.m x) (g.m x)
def Sm.isMt : Sm → Bool
  | .join _ _ _ _ => true | .meet _ => true | _ => false
/-! ### the rows of straight lines -/
/-! the program of straight lines -/
end Tl
namespace Tl
open PySem PySem.Spec PyProof.Rows L2
/-! ### the body of k35 -/
/-! the stretches, with a meeting at last -/
end Tl
namespace Tl
open PySem PySem.Spec PyProof.Rows L2
/-! ### sorted(d) of a dict by whole numbers, any number of them -/
/-! ### the form of a place, found back from its row -/
def Rw.wr : Rw → Option Int
  | .num _ a _ => some a | .copy _ a _ => some a | .sign _ a _ => some a | .op _ a _ _ _ => some a | .get _ a _ => some a | _ => none
def Rw.sl : Rw → Int
  | .get _ _ p => p | .put _ p _ => p | _ => 0
def isLn : Rw → Bool
  | .sign _ _ .lane => true | _ => false
def numOf : Rw → Option Int
  | .num _ _ n => some n | _ => none
def leafR : Rw → Bool
  | .num _ _ _ => true | .sign _ _ _ => true | _ => false
/-- what the row r shows, behind the rows rest (backward) -/
def showF (r : Rw) (rest : List Rw) : Option Fo := match r with
  | .num _ _ n => some (.fixed n)
  | .sign _ _ .lane => some (.lane 0)
  | .op _ _ .add _ _ => match rest with
    | r1 :: r2 :: _ => some (match isLn r2, numOf r1, leafR r1, isLn r1, numOf r2 with
      | true, some n, true, _, _ => .lane n
      | _, _, true, true, some n => .lane n
      | _, _, _, _, _ => .any)
    | _ => none
  | _ => some .any
def backF : List Rw → Int → Option Fo
  | [], _ => none
  | r :: rest, s => if r.wr = some s then showF r rest else backF rest s
/-- each touching row of rs, behind the rows pre (backward), shows the forms fs, in their order -/
inductive Shows : List Rw → List Rw → List Fo → Prop
  | nil (pre : List Rw) : Shows pre [] []
  | no {pre rs : List Rw} {r : Rw} {fs : List Fo} (h : r.isTch = false) (t : Shows (r :: pre) rs fs) : Shows pre (r :: rs) fs
  | yes {pre rs : List Rw} {r : Rw} {f : Fo} {fs : List Fo} (h : r.isTch = true) (hf : backF pre r.sl = some f) (t : Shows (r :: pre) rs fs) : Shows pre (r :: rs) (f :: fs)
theorem Shows.app {pre a b : List Rw} {fs gs : List Fo} (h : Shows pre a fs) (g : Shows (a.reverse ++ pre) b gs) : Shows pre (a ++ b) (fs ++ gs) := by
  induction h with
  | nil pre => exact g
  | no h t ih =>
    refine .no h (ih ?_)
    rw [List.reverse_cons, List.append_assoc] at g
    exact g
  | yes h hf t ih =>
    refine .yes h hf (ih ?_)
    rw [List.reverse_cons, List.append_assoc] at g
    exact g
theorem Shows.cons {pre rs : List Rw} {r : Rw} {fs : List Fo} (h : r.isTch = false) (t : Shows (r :: pre) rs fs) : Shows pre (r :: rs) fs := .no h t
/-! the targets do not matter -/
end Tl
namespace Tl
open PySem PySem.Spec PyProof.Rows L2
/-! ### what is asked of lines holds of the body that is laid of them -/
/-! ### few boxes -/
end Tl
namespace Tl
open PySem PySem.Spec PyProof.Rows L2
/-! ### a search along a list of ways -/
/-! ### few back rows -/
/-! ### the touches of the rows, each found back -/
/-! ### the dict of them -/
end Tl
namespace Tl
open PySem PySem.Spec PyProof.Rows L2
/-! ### texts: split, join, startswith, str(int), int(text) -/
abbrev RSt := Str → D → MH → VD → Prop
def mSplit : RSt := fun a y M Q => match y with
  | .str b => (b.length == 0) = false ∧ a.length + 2 ≤ sizeLine ∧ Q (.lst ((Txt.split a b).map .str)) M
  | _ => False
def mStarts : RSt := fun a y M Q => match y with
  | .str b => Q (.bl (Txt.startswith a b)) M
  | _ => False
def mJoin : RSt := fun a y M Q => ∃ ys : List Str, lstOf M y = some (ys.map D.str) ∧ (ys.map (·.length)).sum + ys.length * a.length ≤ 16777216 ∧ Q (.str (Txt.join a ys)) M
theorem rps_strs {K : PySem.W.Frag} {F : Hp} : ∀ ys : List Str, Rps K F (ys.map V.str) (ys.map D.str)
  | [] => .nil
  | y :: ys => .cons (.str y) (rps_strs ys)
theorem strs_of_rps2 {K : PySem.W.Frag} {F : Hp} : ∀ {ys : List Str} {vs : List V}, Rps K F vs (ys.map D.str) → vs = ys.map V.str
  | [], _, h => by cases h; rfl
  | y :: ys, _, h => by
    cases h with
    | cons h t =>
      cases h
      rw [strs_of_rps2 t]
      rfl
/-- a method of a text, one argument -/
def tSm (r : RSt) (to te : TEt) : TEt := fun τ M Q => to τ M fun x M1 => match x with
  | .str a => te τ M1 fun y M2 => r a y M2 Q
  | _ => False
theorem lv_sm {X : Cx} {E : XK} {Et : XT} {r : RSt} {to te : TEt} {rr : V → List V → Hp → VK → Prop} (hi : ∀ (a : Str) (y : V) (H : Hp) (Q : VK) (G F : Hp) (M : MH) (dy : D) (Qt : VD), Rel X.K G F H M → Rp X.K F y dy → r a dy M Qt →
    (∀ v F' H' M' d, Same F F' → Rel X.K G F' H' M' → Rp X.K F' v d → Qt d M' → Q v H') → rr (.str a) [y] H Q) : ∀ σ H Q, liftE X.K E Et (tSm r to te) σ H Q → tM1 rr (liftE X.K E Et to) (liftE X.K E Et te) σ H Q := by
  rintro σ H Q ⟨G, F, M, τ, Qt, a, h, k⟩
  refine ⟨G, F, M, τ, _, a, h, fun v F1 H1 M1 d s1 r1 p1 q1 => ?_⟩
  cases d with
  | str z =>
    cases p1
    refine ⟨⟨z, rfl⟩, G, F1, M1, τ, _, a.step s1 r1, q1, fun y F2 H2 M2 dy s2 r2 p2 q2 => ?_⟩
    exact hi z y H2 Q G F2 M2 dy Qt r2 p2 q2 fun v F' H' M' d s => k v F' H' M' d ((s1.trans s2).trans s)
  | _ => exact q1.elim
section
variable {X : Cx} {E : XK} {Et : XT} {o e : Expr} {to te : TEt} {apos pos : Pos}
theorem q_split (ho : QE X E Et o to) (he : QE X E Et e te) (hs : starEach [e] X.env = [(false, eval e X.env)] := by rfl) (hbase : attributeBase o "split" X.env (eval o X.env) = eval o X.env := by rfl) (hline : (apos.endLine == pos.line) = true := by rfl) :
    QE X E Et (.Call (.Attribute o "split" apos) [e] [] pos) (tSm mSplit to te) :=
  PEimp (pe_split ho he hs hbase hline) (lv_sm fun a y H Q G F M dy Qt R p h k => by
    cases dy with
    | str b =>
      cases p
      refine ⟨a, b, rfl, rfl, h.1, h.2.1, fun q nq => ?_⟩
      obtain ⟨s2, R2⟩ := R.newF (o := .lst ((Txt.split a b).map V.str)) nq
      exact k _ _ _ M _ s2 R2 (.lst upd_same (rps_strs _)) h.2.2
    | _ => exact h.elim)
theorem q_join (ho : QE X E Et o to) (he : QE X E Et e te) (hs : starEach [e] X.env = [(false, eval e X.env)] := by rfl) (hbase : attributeBase o "join" X.env (eval o X.env) = eval o X.env := by rfl) (hline : (apos.endLine == pos.line) = true := by rfl) :
    QE X E Et (.Call (.Attribute o "join" apos) [e] [] pos) (tSm mJoin to te) :=
  PEimp (pe_join ho he hs hbase hline) (lv_sm fun a y H Q G F M dy Qt R p h k => by
    obtain ⟨ys, e1, hz, h⟩ := h
    obtain ⟨b, vs, rfl, hs, r⟩ := lst_of R p e1
    have hvs := strs_of_rps2 r
    subst hvs
    exact ⟨a, b, ys, rfl, rfl, .inl hs, hz, k _ F H M _ (Same.refl _) R (.str _) h⟩)
theorem q_startswith (ho : QE X E Et o to) (he : QE X E Et e te) (hs : starEach [e] X.env = [(false, eval e X.env)] := by rfl) (hbase : attributeBase o "startswith" X.env (eval o X.env) = eval o X.env := by rfl) (hline : (apos.endLine == pos.line) = true := by rfl) :
    QE X E Et (.Call (.Attribute o "startswith" apos) [e] [] pos) (tSm mStarts to te) :=
  PEimp (pe_m1 PySem.F.slot_str_startswith PySem.F.type_str_startswith mt_startswith ho he hs hbase hline) (lv_sm fun a y H Q G F M dy Qt R p h k => by
    cases dy with
    | str b =>
      cases p
      exact ⟨a, b, rfl, rfl, k _ F H M _ (Same.refl _) R (.bl _) h⟩
    | _ => exact h.elim)
def cStr : RLt := fun ds M Q => match ds with
  | [.int i] => i.natAbs.log2 < 1920 ∧ Q (.str (toString i : String)) M
  | _ => False
def cIntS : RLt := fun ds M Q => match ds with
  | [.str a] => ∃ n, PySem.intText? a = some n ∧ a.length ≤ 640 ∧ Q (.int n) M
  | _ => False
theorem cq_intS : CallQ X (.type "int") cIntS := CallRimp call_int_str (by
  rintro xs H Q ⟨G, F, M, ds, Qt, R, r, h, k⟩
  match ds, r, h with
  | [.str a], .cons (.str _) .nil, h =>
    obtain ⟨n, h1, h2, h3⟩ := h
    exact ⟨a, n, rfl, h1, h2, k _ F H M _ (Same.refl _) R (.int _) h3⟩)
/-- * where one factor is short -/
theorem oq_mulS : OpQ X (binaryOp .Mult) (bInt CMul fun i j => .int (i * j)) := OpRimp op_mul (lr2_int (fun _ _ _ => .int _) bInt_inv)
theorem ms_r {i j : Int} (h : -(2 ^ 64) < j ∧ j < 2 ^ 64) : CMul i j := .inr h
/-- a sign in a text -/
def bInS : R2t := fun x y M Q => match x, y with
  | .str a, .str z => ∃ c, a = ⟨#[c]⟩ ∧ Q (.bl (decide (c ∈ z.cps.toList))) M
  | _, _ => False
theorem oq_inS : OpQ X (compareOp .In) bInS := OpRimp op_in_sign (by
  rintro x y H Q ⟨G, F, M, dx, dy, Qt, R, px, py, h, k⟩
  match dx, px, dy, py, h with
  | .str a, .str _, .str z, .str _, h =>
    obtain ⟨c, rfl, h⟩ := h
    exact ⟨c, z, rfl, rfl, k _ F H M _ (Same.refl _) R (.bl _) h⟩)
end
/-! ### zip of two tuples -/
def iZiT (ta : TAt) : TIt := fun τ M Q => ta τ M fun ds M1 => match ds with
  | [d, d2] => match tupOf d, tupOf d2 with
    | some xs, some ys => Q ⟨zipD xs ys, fun _ => True⟩ M1
    | _, _ => False
  | _ => False
/-! readings -/
theorem uZiT {ta : TAt} {τ : Sg} {M : MH} {Q : Its → MH → Prop} : iZiT ta τ M Q = ta τ M fun ds M1 => oL2 ds fun d d2 => oSome (tupOf d) fun xs => oSome (tupOf d2) fun ys => Q ⟨zipD xs ys, fun _ => True⟩ M1 := by
  unfold iZiT
  congr 1
  funext ds M1
  match ds with
  | [] => rfl
  | [_] => rfl
  | [d, d2] =>
    show (match tupOf d, tupOf d2 with | some xs, some ys => Q ⟨zipD xs ys, fun _ => True⟩ M1 | _, _ => False) = oSome (tupOf d) fun xs => oSome (tupOf d2) fun ys => Q ⟨zipD xs ys, fun _ => True⟩ M1
    cases tupOf d with
    | none => rfl
    | some xs => cases tupOf d2 <;> rfl
  | _ :: _ :: _ :: _ => rfl
section
variable {τ : Sg} {M : MH} {Q : VD} {a b : Str} {i : Int} {y : D} {r : RSt} {to te : TEt}
theorem utSm : tSm r to te τ M Q = to τ M fun x M1 => oStr x fun a => te τ M1 fun y M2 => r a y M2 Q := propext Iff.rfl
theorem umSplit : mSplit a (.str b) M Q = ((b.length == 0) = false ∧ a.length + 2 ≤ 16777216 ∧ Q (.lst ((Txt.split a b).map .str)) M) := by rw [← sizeLine_eq]; rfl
theorem umStarts : mStarts a (.str b) M Q = Q (.bl (Txt.startswith a b)) M := propext Iff.rfl
theorem umJoin : mJoin a y M Q = ∃ ys : List Str, lstOf M y = some (ys.map D.str) ∧ (ys.map (·.length)).sum + ys.length * a.length ≤ 16777216 ∧ Q (.str (Txt.join a ys)) M := propext Iff.rfl
theorem ucStr : cStr [.int i] M Q = (i.natAbs.log2 < 1920 ∧ Q (.str (toString i : String)) M) := propext Iff.rfl
theorem ucIntS : cIntS [.str a] M Q = ∃ n, PySem.intText? a = some n ∧ a.length ≤ 640 ∧ Q (.int n) M := propext Iff.rfl
theorem ubInS : bInS (.str a) (.str b) M Q = ∃ c, a = ⟨#[c]⟩ ∧ Q (.bl (decide (c ∈ b.cps.toList))) M := propext Iff.rfl
end
end Tl
namespace Tl
open PySem PySem.Spec PyProof.Rows L2
/-! ### names, numbers and expressions as words -/
def okName (x : Str) : Prop := (1 ≤ x.length ∧ x.length ≤ 8 ∧ (cds x).all (fun c => decide (97 ≤ c) && decide (c ≤ 122)) = true) ∧ x ∉ keptL
instance (x : Str) : Decidable (okName x) := by unfold okName; infer_instance
def numT (i : Int) : Str := (toString i : String)
def okW : Ex → Prop
  | .num i => -999999999 ≤ i ∧ i ≤ 999999999
  | .nam x => okName x
  | .box e => okW e
  | .op _ a b => okW a ∧ okW b
  | _ => True
def wordsE : Ex → List Str
  | .num i => [numT i]
  | .nam x => [x]
  | .lane => ["lane"]
  | .lanes => ["lanes"]
  | .mine => ["mine"]
  | .box e => "box" :: wordsE e
  | .op w a b => w.s :: (wordsE a ++ wordsE b)
def blank : Str := " "
def txtE (e : Ex) : Str := Txt.join blank (wordsE e)
theorem words_ne : ∀ e : Ex, wordsE e ≠ []
  | .num _ | .nam _ | .lane | .lanes | .mine | .box _ | .op _ _ _ => by simp [wordsE]
/-! signs of a number -/
theorem cds_pos {n : Nat} : cds (numT (n : Int)) = TL.numL n := TL.tl_num n
theorem cds_ofS (a b : String) : cds (Str.ofString (a ++ b)) = cds (Str.ofString a) ++ cds (Str.ofString b) := by
  unfold cds
  rw [Str.ofString_eq_toList, Str.ofString_eq_toList, Str.ofString_eq_toList]
  simp
theorem cds_neg {n : Nat} : cds (numT (-((n + 1 : Nat) : Int))) = 45 :: TL.numL (n + 1) := by
  have e : (toString (-((n + 1 : Nat) : Int)) : String) = "-" ++ (toString ((n + 1 : Nat) : Int) : String) := rfl
  unfold numT
  rw [e, cds_ofS]
  show [45] ++ _ = _
  rw [show cds (Str.ofString (toString ((n + 1 : Nat) : Int))) = TL.numL (n + 1) from TL.tl_num (n + 1)]
  rfl
theorem num_cases (i : Int) : (∃ n : Nat, i = (n : Int) ∧ cds (numT i) = TL.numL n) ∨ ∃ n : Nat, i = -((n + 1 : Nat) : Int) ∧ cds (numT i) = 45 :: TL.numL (n + 1) := by
  by_cases h : 0 ≤ i
  · obtain ⟨n, rfl⟩ := Int.eq_ofNat_of_zero_le h
    exact .inl ⟨n, rfl, cds_pos⟩
  · refine .inr ⟨(-i).toNat - 1, by omega, ?_⟩
    have : i = -((((-i).toNat - 1) + 1 : Nat) : Int) := by omega
    rw [this]
    have e2 : (-(-((((-i).toNat - 1) + 1 : Nat) : Int))).toNat - 1 = (-i).toNat - 1 := by omega
    rw [e2]
    exact cds_neg
theorem dig_mem {n c : Nat} (h : c ∈ TL.numL n) : 48 ≤ c ∧ c ≤ 57 := TL.numL_digits n c h
theorem num_head : ∀ {n : Nat}, 0 < n → (TL.numL n).head? ≠ some 48 := by
  intro n
  induction n using Nat.strongRecOn with
  | _ n ih =>
    intro h
    by_cases h10 : n < 10
    · rw [TL.numL_lt h10]
      intro e
      cases n with
      | zero => omega
      | succ n => simp at e
    · rw [TL.numL_step (by omega), List.head?_append]
      have h2 := ih (n / 10) (by omega) (by omega)
      have h3 := TL.numL_ne (n / 10)
      cases hc : TL.numL (n / 10) with
      | nil => exact absurd hc h3
      | cons c t => rw [hc] at h2; exact h2
theorem num_int (i : Int) (h : -999999999 ≤ i ∧ i ≤ 999999999) : PySem.intText? (numT i) = some i ∧ (numT i).length ≤ 10 := by
  rcases num_cases i with ⟨n, rfl, e⟩ | ⟨n, rfl, e⟩
  · have hl := TL.numL_len (n := n) (k := 9) (by decide) (by omega)
    refine ⟨TL.int_num (by omega), ?_⟩
    rw [← cds_len, e]; omega
  · have hl := TL.numL_len (n := n + 1) (k := 9) (by decide) (by omega)
    have hl2 : (numT (-((n + 1 : Nat) : Int))).length ≤ 10 := by rw [← cds_len, e, List.length_cons]; omega
    refine ⟨?_, hl2⟩
    have := intText_neg (x := numT (-((n + 1 : Nat) : Int))) (cs := TL.numL (n + 1)) e (TL.numL_digits _) (TL.numL_ne _) (by omega)
    rw [this, TL.numL_val]
/-- whether a text writes a number -/
def figsF (x : Str) : List Nat := if (cds x).head? = some 45 then (cds x).tail else cds x
def isNumF (x : Str) : Bool := !((cds x).head? == some 45 && figsF x == [48]) && decide ((figsF x).length ≤ 9) && !(figsF x).isEmpty && (figsF x).all (fun c => decide (48 ≤ c) && decide (c ≤ 57)) && (figsF x == [48] || !((figsF x).head? == some 48))
theorem num_is {i : Int} (h : -999999999 ≤ i ∧ i ≤ 999999999) : isNumF (numT i) = true := by
  have hall : ∀ n, (TL.numL n).all (fun c => decide (48 ≤ c) && decide (c ≤ 57)) = true := fun n => List.all_eq_true.mpr fun c hc => by
    have := dig_mem hc
    simp [this.1, this.2]
  have hne : ∀ n, (TL.numL n).isEmpty = false := fun n => by
    have := TL.numL_ne n
    cases hc : TL.numL n with
    | nil => exact absurd hc this
    | cons => rfl
  rcases num_cases i with ⟨n, rfl, e⟩ | ⟨n, rfl, e⟩
  · have hl := TL.numL_len (n := n) (k := 9) (by decide) (by omega)
    have hh : (TL.numL n).head? ≠ some 45 := fun hc => by
      have := dig_mem (List.mem_of_mem_head? hc)
      omega
    unfold isNumF figsF
    rw [e, if_neg hh, hall, hne, decide_eq_true hl]
    have h1 : ((TL.numL n).head? == some 45) = false := by simpa using hh
    rw [h1]
    by_cases hn : n = 0
    · subst hn; decide +kernel
    · have h2 : ((TL.numL n).head? == some 48) = false := by simpa using num_head (n := n) (by omega)
      rw [h2]; simp
  · have hl := TL.numL_len (n := n + 1) (k := 9) (by decide) (by omega)
    have h3 : (TL.numL (n + 1) == [48]) = false := by
      have := num_head (n := n + 1) (by omega)
      cases hc : TL.numL (n + 1) with
      | nil => rfl
      | cons c t =>
        rw [hc] at this
        have hcc : c ≠ 48 := by simpa using this
        simp [hcc]
    have h2 : ((TL.numL (n + 1)).head? == some 48) = false := by simpa using num_head (n := n + 1) (by omega)
    have hf : figsF (numT (-((n + 1 : Nat) : Int))) = TL.numL (n + 1) := by unfold figsF; rw [e]; rfl
    unfold isNumF
    rw [hf, e, hall, hne, decide_eq_true hl, h2, h3]
    simp
/-- a name is no number, a number is no name -/
theorem num_notName (i : Int) : ¬ okName (numT i) := fun h => by
  have h1 := h.1.2.2
  have h2 := List.all_eq_true.mp h1
  rcases num_cases i with ⟨n, rfl, e⟩ | ⟨n, rfl, e⟩
  · rw [e] at h2
    cases hc : TL.numL n with
    | nil => exact TL.numL_ne n hc
    | cons c t =>
      have := h2 c (by rw [hc]; exact List.mem_cons_self ..)
      have hd := dig_mem (n := n) (c := c) (by rw [hc]; exact List.mem_cons_self ..)
      simp only [Bool.and_eq_true, decide_eq_true_eq] at this
      omega
  · rw [e] at h2
    have := h2 45 (List.mem_cons_self ..)
    simp at this
theorem num_not {i : Int} {x : Str} {c : Nat} (hx : (cds x).head? = some c) (hc : c ≠ 45 ∧ (c < 48 ∨ 57 < c)) : numT i ≠ x := fun h => by
  subst h
  rcases num_cases i with ⟨n, rfl, e⟩ | ⟨n, rfl, e⟩
  · rw [e] at hx
    have := dig_mem (List.mem_of_mem_head? hx)
    omega
  · rw [e] at hx
    exact hc.1 (Option.some.inj hx).symm
theorem num_notMinus (i : Int) : numT i ≠ "-" := fun h => by
  have h2 := congrArg cds h
  rcases num_cases i with ⟨n, rfl, e⟩ | ⟨n, rfl, e⟩
  · rw [e] at h2
    have : TL.numL n = [45] := h2
    have h3 := dig_mem (n := n) (c := 45) (by rw [this]; exact List.mem_cons_self ..)
    omega
  · rw [e] at h2
    have : 45 :: TL.numL (n + 1) = [45] := h2
    exact TL.numL_ne (n + 1) (List.cons.inj this).2
/-! split -/
theorem word_free : ∀ {e : Ex}, okW e → ∀ w ∈ wordsE e, 32 ∉ cds w
  | .num i, _, w, h => by
    rw [List.mem_singleton.mp h]
    rcases num_cases i with ⟨n, rfl, e⟩ | ⟨n, rfl, e⟩
    · rw [e]; intro hm; have := dig_mem hm; omega
    · rw [e]; intro hm
      rcases List.mem_cons.mp hm with hm | hm
      · omega
      · have := dig_mem hm; omega
  | .nam x, hx, w, h => by
    rw [List.mem_singleton.mp h]
    intro hm
    have := List.all_eq_true.mp hx.1.2.2 32 hm
    simp at this
  | .lane, _, w, h => by rw [List.mem_singleton.mp h]; decide +kernel
  | .lanes, _, w, h => by rw [List.mem_singleton.mp h]; decide +kernel
  | .mine, _, w, h => by rw [List.mem_singleton.mp h]; decide +kernel
  | .box e, hx, w, h => by
    rcases List.mem_cons.mp h with rfl | h
    · decide +kernel
    · exact word_free (e := e) hx w h
  | .op o a b, hx, w, h => by
    rcases List.mem_cons.mp h with rfl | h
    · cases o <;> decide +kernel
    · rcases List.mem_append.mp h with h | h
      · exact word_free hx.1 w h
      · exact word_free hx.2 w h
/-! join -/
theorem join_eq (ws : List Str) : Txt.join blank ws = Str.join blank ws := TL.join_eq blank ws
theorem tjoin_one (w : Str) : Txt.join blank [w] = w := by rw [join_eq]; rfl
theorem join_cons {w : Str} {ws : List Str} (h : ws ≠ []) : Txt.join blank (w :: ws) = w ++ blank ++ Txt.join blank ws := by
  rw [join_eq, join_eq]
  cases ws with
  | nil => exact absurd rfl h
  | cons x t => rfl
theorem str_assoc (a b c : Str) : a ++ b ++ c = a ++ (b ++ c) := cds_inj (by rw [cds_app, cds_app, cds_app, cds_app, List.append_assoc])
theorem join_app {bs : List Str} (hb : bs ≠ []) : ∀ {as : List Str}, as ≠ [] → Txt.join blank (as ++ bs) = Txt.join blank as ++ blank ++ Txt.join blank bs
  | [], h => absurd rfl h
  | [a], _ => by rw [List.singleton_append, join_cons hb, tjoin_one]
  | a :: a2 :: t, _ => by
    rw [List.cons_append, join_cons (by simp), join_app hb (as := a2 :: t) (by simp), join_cons (w := a) (ws := a2 :: t) (by simp)]
    simp only [str_assoc]
theorem txt_box (e : Ex) : txtE (.box e) = "box" ++ blank ++ txtE e := join_cons (words_ne e)
theorem txt_op (w : Op7) (a b : Ex) : txtE (.op w a b) = w.s ++ blank ++ txtE a ++ blank ++ txtE b := by
  unfold txtE
  show Txt.join blank (w.s :: (wordsE a ++ wordsE b)) = _
  rw [join_cons (by simp [words_ne]), join_app (words_ne b) (words_ne a)]
  simp only [str_assoc]
/-! lengths -/
theorem words_len : ∀ {e : Ex}, (wordsE e).length + 1 ≤ 2 ^ e.deep
  | .num _ | .nam _ | .lane | .lanes | .mine => by show 1 + 1 ≤ 2 ^ 1; decide
  | .box e => by
    have := words_len (e := e)
    show (wordsE e).length + 1 + 1 ≤ 2 ^ (e.deep + 1)
    rw [Nat.pow_succ]; omega
  | .op _ a b => by
    have h1 := words_len (e := a)
    have h2 := words_len (e := b)
    have h3 : 2 ^ a.deep ≤ 2 ^ max a.deep b.deep := Nat.pow_le_pow_right (by decide) (Nat.le_max_left ..)
    have h4 : 2 ^ b.deep ≤ 2 ^ max a.deep b.deep := Nat.pow_le_pow_right (by decide) (Nat.le_max_right ..)
    show (wordsE a ++ wordsE b).length + 1 + 1 ≤ 2 ^ (max a.deep b.deep + 1)
    rw [List.length_append, Nat.pow_succ]; omega
theorem word_len : ∀ {e : Ex}, okW e → ∀ w ∈ wordsE e, w.length ≤ 10
  | .num i, hi, w, h => by rw [List.mem_singleton.mp h]; exact (num_int i hi).2
  | .nam x, hx, w, h => by rw [List.mem_singleton.mp h]; have := hx.1.2.1; omega
  | .lane, _, w, h => by rw [List.mem_singleton.mp h]; decide +kernel
  | .lanes, _, w, h => by rw [List.mem_singleton.mp h]; decide +kernel
  | .mine, _, w, h => by rw [List.mem_singleton.mp h]; decide +kernel
  | .box e, hx, w, h => by
    rcases List.mem_cons.mp h with rfl | h
    · decide +kernel
    · exact word_len (e := e) hx w h
  | .op o a b, hx, w, h => by
    rcases List.mem_cons.mp h with rfl | h
    · cases o <;> decide +kernel
    · rcases List.mem_append.mp h with h | h
      · exact word_len hx.1 w h
      · exact word_len hx.2 w h
theorem sum_le_mul {k : Nat} : ∀ {ws : List Str}, (∀ w ∈ ws, w.length ≤ k) → (ws.map (·.length)).sum ≤ k * ws.length
  | [], _ => Nat.zero_le _
  | w :: t, h => by
    have h1 := h w (List.mem_cons_self ..)
    have h2 := sum_le_mul fun x hx => h x (List.mem_cons_of_mem _ hx)
    rw [List.map_cons, List.sum_cons, List.length_cons, Nat.mul_succ]; omega
theorem join_len : ∀ ws : List Str, (Txt.join blank ws).length ≤ (ws.map (·.length)).sum + ws.length := fun ws => by
  rw [join_eq]
  have := StrLaws.join_length_le blank ws
  have h1 : blank.length = 1 := by decide +kernel
  rw [h1] at this
  omega
theorem txt_len {e : Ex} (h : okW e) : (txtE e).length ≤ 11 * 2 ^ e.deep := by
  have h1 := join_len (wordsE e)
  have h2 := sum_le_mul (word_len h)
  have h3 := words_len (e := e)
  unfold txtE
  omega
/-! signs -/
theorem starts_one {x : Str} {c : Nat} : Txt.startswith x ⟨#[c]⟩ = ((cds x).head? == some c) := by
  have h := StrLaws.subAt_one x c 0
  unfold Txt.startswith
  rw [Bool.eq_iff_iff, Bool.and_eq_true, decide_eq_true_eq, h, beq_iff_eq, List.head?_eq_getElem?]
  rfl
theorem cds_cut1 (x : Str) : cds (cutS x (some 1) none) = (cds x).drop 1 := by
  rw [C8.cutS_slice, ← SX.S_tl x, SX.slice_from (by decide)]
  rfl
theorem mem_letters {c : Nat} : c ∈ cds letters ↔ 97 ≤ c ∧ c ≤ 122 := by
  have e : cds letters = (List.range 26).map (97 + ·) := by decide +kernel
  rw [e, List.mem_map]
  constructor
  · rintro ⟨k, hk, rfl⟩
    have := List.mem_range.mp hk
    omega
  · intro h
    exact ⟨c - 97, List.mem_range.mpr (by omega), by omega⟩
def figures : Str := "0123456789"
theorem mem_figures {c : Nat} : c ∈ cds figures ↔ 48 ≤ c ∧ c ≤ 57 := by
  have e : cds figures = (List.range 10).map (48 + ·) := by decide +kernel
  rw [e, List.mem_map]
  constructor
  · rintro ⟨k, hk, rfl⟩
    have := List.mem_range.mp hk
    omega
  · intro h
    exact ⟨c - 48, List.mem_range.mpr (by omega), by omega⟩
/-- a text has signs, and these alone -/
def allIn (x z : Str) : Bool := !(cds x).isEmpty && (cds x).all fun c => decide (c ∈ cds z)
theorem allIn_letters (x : Str) : allIn x letters = (!(cds x).isEmpty && (cds x).all fun c => decide (97 ≤ c) && decide (c ≤ 122)) := by
  unfold allIn
  congr 2
  funext c
  rw [Bool.eq_iff_iff, decide_eq_true_eq, mem_letters, Bool.and_eq_true, decide_eq_true_eq, decide_eq_true_eq]
theorem allIn_figures (x : Str) : allIn x figures = (!(cds x).isEmpty && (cds x).all fun c => decide (48 ≤ c) && decide (c ≤ 57)) := by
  unfold allIn
  congr 2
  funext c
  rw [Bool.eq_iff_iff, decide_eq_true_eq, mem_figures, Bool.and_eq_true, decide_eq_true_eq, decide_eq_true_eq]
theorem empty_iff {x : Str} : x = "" ↔ cds x = [] := ⟨fun h => by rw [h]; decide +kernel, fun h => cds_inj (by rw [h]; decide +kernel)⟩
theorem name_iff {x : Str} : okName x ↔ x.length ≤ 8 ∧ x ∉ keptL ∧ allIn x letters = true := by
  unfold okName
  rw [allIn_letters, Bool.and_eq_true]
  have h0 : (!(cds x).isEmpty) = true ↔ 1 ≤ x.length := by
    rw [← cds_len]
    cases cds x <;> simp
  rw [h0]
  constructor
  · rintro ⟨⟨h1, h2, h3⟩, h4⟩; exact ⟨h2, h4, h1, h3⟩
  · rintro ⟨h2, h4, h1, h3⟩; exact ⟨⟨h1, h2, h3⟩, h4⟩
theorem zero_iff {x : Str} : x = "0" ↔ cds x = [48] := ⟨fun h => by rw [h]; decide +kernel, fun h => cds_inj (by rw [h]; decide +kernel)⟩
theorem any_ws {ss : List Str} {x : Str} : (ss.map D.str).any (fun d => eqD d (.str x)) = decide (x ∈ ss) := by
  rw [List.any_map, Bool.eq_iff_iff, List.any_eq_true, decide_eq_true_eq]
  exact ⟨fun ⟨y, hy, e⟩ => by rw [← eq_of_beq (show (y == x) = true from e)]; exact hy, fun h => ⟨x, h, beq_self_eq_true x⟩⟩
theorem all_ws : ∀ {ss : List Str}, (ss.map D.str).all flatD = true
  | [] => rfl
  | _ :: t => by rw [List.map_cons, List.all_cons, all_ws (ss := t)]; rfl
theorem len_s {M : MH} {x : Str} (h : x.length ≤ 100000) : lenOf M (.str x) = some x.length := by
  show (if x.length ≤ sizeLine then some x.length else none) = _
  rw [if_pos (by rw [sizeLine_eq]; omega)]
def isPlainE : Ex → Prop
  | .box _ => False
  | .op .. => False
  | _ => True
def opsL : List Str := ["+", "-", "*", "div", "rem", "<", "="]
theorem plain_word {e : Ex} {x : Str} (hp : isPlainE e) (hw : okW e) (hx : wordsE e = [x]) : x ≠ "box" ∧ x ∉ opsL := by
  cases e with
  | num i =>
    have hx : numT i = x := by simpa [wordsE] using hx
    subst hx
    refine ⟨num_not (c := 98) (by decide +kernel) (by decide), fun z => ?_⟩
    simp only [opsL, List.mem_cons, List.not_mem_nil, or_false] at z
    rcases z with z | z | z | z | z | z | z
    · exact num_not (c := 43) (by decide +kernel) (by decide) z
    · exact num_notMinus i z
    · exact num_not (c := 42) (by decide +kernel) (by decide) z
    · exact num_not (c := 100) (by decide +kernel) (by decide) z
    · exact num_not (c := 114) (by decide +kernel) (by decide) z
    · exact num_not (c := 60) (by decide +kernel) (by decide) z
    · exact num_not (c := 61) (by decide +kernel) (by decide) z
  | nam y =>
    have hx : y = x := by simpa [wordsE] using hx
    subst hx
    have hw : okName y := hw
    have key : ∀ (z : Str) (c : Nat), (cds z).head? = some c → ¬ (97 ≤ c ∧ c ≤ 122) → y ≠ z := fun z c hz hc e => by
      subst e
      have := List.all_eq_true.mp hw.1.2.2 c (List.mem_of_mem_head? hz)
      simp only [Bool.and_eq_true, decide_eq_true_eq] at this
      exact hc this
    refine ⟨fun z => hw.2 (by rw [z]; decide +kernel), fun z => ?_⟩
    simp only [opsL, List.mem_cons, List.not_mem_nil, or_false] at z
    rcases z with z | z | z | z | z | z | z
    · exact key _ 43 (by decide +kernel) (by decide) z
    · exact key _ 45 (by decide +kernel) (by decide) z
    · exact key _ 42 (by decide +kernel) (by decide) z
    · exact hw.2 (by rw [z]; decide +kernel)
    · exact hw.2 (by rw [z]; decide +kernel)
    · exact key _ 60 (by decide +kernel) (by decide) z
    · exact key _ 61 (by decide +kernel) (by decide) z
  | lane => have hx : ("lane" : Str) = x := by simpa [wordsE] using hx
            subst hx; decide +kernel
  | lanes => have hx : ("lanes" : Str) = x := by simpa [wordsE] using hx
             subst hx; decide +kernel
  | mine => have hx : ("mine" : Str) = x := by simpa [wordsE] using hx
            subst hx; decide +kernel
  | box _ => exact hp.elim
  | op _ _ _ => exact hp.elim
end Tl
namespace Tl
open PySem PySem.Spec PyProof.Rows L2
/-! ### a, b = a list -/
def gLs (n : Nat) (t : TGst) : TGt := fun d τ M Q => match lstOf M d with
  | some ds => ds.length = n ∧ t ds τ M Q
  | none => False
theorem qg_lst {X : Cx} {E : XK} {Et : XT} {pos : Pos} {es : List Expr} {k : Nat} {t : TGst} {n : Nat} (hc : X.calm = true) (h : QGs X E Et es t)
    (hn : (assignEach es X.env).length = n := by rfl) (hst : (assignEach es X.env).findIdx? (·.1) = none := by rfl) : QG X E Et (.Tuple es k pos) (gLs n t) := by
  refine ⟨fun pins s σ H v u Q I r hw => ?_⟩
  obtain ⟨G, F, M, τ, d, Qt, a, p, hw, kk⟩ := hw
  unfold gLs at hw
  cases e : lstOf M d with
  | none => rw [e] at hw; exact hw.elim
  | some ds =>
    rw [e] at hw
    obtain ⟨b, vs, rfl, hs, rs⟩ := lst_of a.rel p e
    exact (pg_lst hc h hn hst).run pins s σ H _ u Q I r ⟨b, vs, rfl, hs, by rw [rs.length]; exact hw.1, G, F, M, τ, _, Qt, a, rs, hw.2, kk⟩
theorem ugLs {n : Nat} {t : TGst} {d : D} {τ : Sg} {M : MH} {Q : Sg → MH → Prop} : gLs n t d τ M Q = oSome (lstOf M d) fun ds => ds.length = n ∧ t ds τ M Q := by
  unfold gLs oSome
  cases lstOf M d <;> rfl
/-! ### enumerate(a list, start=k) -/
def EnTurn (k : Int) (a e it : Addr) : Nat → Heap → Prop := fun i h => (∃ old, IsEnum h e it (k + (i : Nat)) old) ∧ h.IsListIter it a i ∧ e ≠ it ∧ a ≠ it ∧ a ≠ e
def IteS (K : PySem.W.Frag) (k : Int) (a : Addr) : It where
  go := fun i H => ∃ (xs : List V) (x : V), SqL K H a xs ∧ xs[i]? = some x
  yld := fun i H v H' => ∃ T x, v = .ref T ∧ H T = none ∧ H' = upd H T (.tup [.int (k + (i : Nat)), x]) ∧ ∀ xs, SqL K H a xs → xs[i]? = some x
  stop := fun i H => ∃ xs : List V, SqL K H a xs ∧ xs.length ≤ i
/-- where the items end, whatever the count -/
theorem draws_end {prog : Program} {w : World} {A : Around} (hh : A.handled = none) (it l : Addr) {items : Array Value} {i : Nat} (hx : items[i]? = none) :
    Draws prog w A it [it, l] i (fun _ _ => False) (fun j h => j = i ∧ h.IsListIter it l i ∧ h.IsList l items) where
  live := fun _ _ ⟨_, ⟨o, ho, _⟩, _⟩ => ⟨o, ho⟩
  frame := fun _ _ _ ⟨e, h1, h2⟩ hk => ⟨e, h1.at fun o q => hk it (by simp) o q, h2.at fun o q => hk l (by simp) o q⟩
  item := fun j s Q E hj ⟨e, _⟩ _ => absurd hj (by omega)
  done := fun s Q E ⟨_, h1, h2⟩ hE => wpAny_nextOf_list_end hh h1 h2 hx hE
theorem turn_enumS {P : Program} {w : World} {K : PySem.W.Frag} {elts : List Expr} {kk : Nat} {tpos : Pos} (k : Int) (a e it : Addr) :
    Turn P w K (.Tuple elts kk tpos) (IteS K k a) [e, it] e (EnTurn k a e it) where
  mem := by simp
  obj := fun i h ⟨⟨old, he⟩, ⟨o, ho, hc, hd⟩, _⟩ b hb => by
    rcases List.mem_cons.mp hb with rfl | hb
    · exact ⟨_, he, fun v q => nomatch q⟩
    · rw [List.mem_singleton.mp hb]; exact ⟨o, ho, fun v q => by rw [hd] at q; cases q⟩
  keep := fun i h h' ⟨⟨old, he⟩, hi, hne⟩ kp => ⟨⟨old, kp e (by simp) _ he⟩, hi.at fun o q => kp it (by simp) o q, hne⟩
  item := by
    intro X hP hw hK hc i pins s σ H E I hf st hg
    subst hP hw hK
    obtain ⟨⟨old, he⟩, hit, hne, hai, hae⟩ := st
    obtain ⟨xs, x, hq, hx⟩ := hg
    obtain ⟨its, rv, pl, hz⟩ := I.list hq
    obtain ⟨u, hu, ru⟩ := rv.get hx
    have hel : e < s.heap.objs.size := Heap.lt_size he
    have hil : it < s.heap.objs.size := by obtain ⟨_, q, _⟩ := hit; exact Heap.lt_size q
    have hsz : i < its.toArray.size := by
      have := (List.getElem?_eq_some_iff.mp hu).1
      simpa using this
    have hh : X.A.in1.handled = none := I.ok.hd hc
    refine wpAny_pyNext_enum_itemC (Draws.list hh it a hai its.toArray) he ⟨hit, pl.isList⟩ hsz hne (by simp only [List.mem_cons, List.not_mem_nil, or_false, not_or]; exact ⟨hne, Ne.symm hae⟩) fun y h' tk hy ho hit' hT hsz' hk => ?_
    have eu : y = u := by
      have h1 : its[i]? = some y := by simpa using hy
      exact Option.some.inj (h1.symm.trans hu)
    subst eu
    refine ⟨_, rfl, wpAny_letOwnedTupleGo_enum (s := { s with heap := h', toks := tk + 1 }) ho fun h'' he' sb => ?_⟩
    have hT2 : h''.get? s.heap.objs.size = some { cls := .type "tuple", data := .seq #[.int (k + (i : Nat)) tk, y] } := (sb.2 _ (Nat.ne_of_gt hel)).trans hT
    have new : ObjOk X.prog X.w (upd H s.heap.objs.size (.tup [.int (k + (i : Nat)), x])) h'' s.heap.objs.size (.tup [.int (k + (i : Nat)), x]) :=
      ⟨by show 2 ≤ sizeLine; decide, [.int (k + (i : Nat)) tk, y], .cons ⟨_, rfl⟩ (.cons ru .nil), ⟨_, hT2, rfl, _, rfl⟩⟩
    have I1 : Inv X pins σ (upd H s.heap.objs.size (.tup [.int (k + (i : Nat)), x])) { s with heap := h'', toks := tk + 1 } :=
      I.turnedNew (ch := [e, it]) (fun b ob hb q => (sb.2 b (fun z => hb (by simp [z]))).trans (hk b ob (fun z => hb (by simp [z])) (fun z => hb (by simp [z])) q)) hf (Nat.le_refl _) new
    refine ⟨.ref s.heap.objs.size, _, I1, rfl, ⟨_, x, rfl, I.hok.fresh (Nat.le_refl _), rfl, fun ys hy => by rw [I.list_inj hy hq]; exact hx⟩, ⟨⟨y, ?_⟩, hit'.1.at fun o q => (sb.2 it (Ne.symm hne)).trans q, hne, hai, hae⟩, fun b hb => ?_⟩
    · have e1 : k + ((i + 1 : Nat) : Int) = k + (i : Int) + 1 := by omega
      rw [e1]
      exact he'
    · have hb' : b < s.heap.objs.size := by
        rcases List.mem_cons.mp hb with rfl | hb
        · exact hel
        · rw [List.mem_singleton.mp hb]; exact hil
      rw [upd_ne (Nat.ne_of_lt hb')]
      exact (hf b hb).1
  done := by
    intro X hP hw hK hc i pins s σ H E I hf st hg
    subst hP hw hK
    obtain ⟨⟨old, he⟩, hit, hne, hai, hae⟩ := st
    obtain ⟨xs, hq, hx⟩ := hg
    obtain ⟨its, rv, pl, hz⟩ := I.list hq
    obtain ⟨f0, f1, f2, f3, f4, f5⟩ := hf it (by simp)
    have hl := rv.length
    have hh : X.A.in1.handled = none := I.ok.hd hc
    exact wpAny_pyNext_enum_endD (draws_end hh it a (items := its.toArray) (i := i) (by simp; omega)) he ⟨rfl, hit, pl.isList⟩ fun h' eb => ⟨rfl, I.turned (t' := s.toks) (fun b o hb q => eb b o hb q) f0 f1 f3 f4 f5⟩
  self := fun A i s Q E st h => by
    obtain ⟨⟨_, he⟩, _⟩ := st
    exact wpAny_pyIter_enum he h
def iEnumS (K : PySem.W.Frag) (k : Int) (ta : TA) : TI := fun σ H R => ta σ H fun vs H1 => ∃ a xs, vs = [.ref a] ∧ SqL K H1 a xs ∧ R (IteS K k a) H1
theorem pi_enumS {X : Cx} {e : Expr} {k : Int} {j : Nat} {ta : TA} {p p2 p3 pos tpos : Pos} {elts : List Expr} {kk : Nat} (hg : Gl X "enumerate") (hm : X.mg "enumerate" = none) (ha : PA X [e] ta) (hk : -(2 ^ 63) ≤ k ∧ k < 2 ^ 63)
    (hs : starEach [e] X.env = [(false, eval e X.env)] := by rfl) :
    L2.PI X (.Tuple elts kk tpos) (.Call (.Name "enumerate" p) [e] [⟨some "start", .Constant (.int k) j p2, p3⟩] pos) (iEnumS X.K k ta) := by
  refine ⟨fun pins s σ H R I h => ?_⟩
  refine wpAny_Call_Name_kw (ld_blt I hg hm boot_enumerate ?_)
  refine PySem.W.callWith_of (P := fun _ => True) (by rw [hs]; rfl) (fun _ _ => ⟨.machine, .inr (.inl rfl), PySem.W.Looks.of_pure rfl⟩) (evalArgs_kw2 rfl ?_ hs)
  refine thn (ha.run pos pins s σ H _ I h) fun us s1 ⟨vs, H1, I1, r1, q1⟩ => ?_
  refine kwAll_cons (thn ((pe_int (X := X) (i := k) (j := j) (pos := p2)).run pins s1 σ H1 (fun v H2 => v = .int k ∧ H2 = H1) I1 ⟨rfl, rfl⟩) fun u s2 ⟨v, H2, I2, r2, ev, eH⟩ => kwAll_nil ⟨trivial, ?_⟩)
  subst ev eH
  obtain ⟨t, rfl⟩ := r2
  obtain ⟨a, xs, ex, hq, q⟩ := q1
  subst ex
  cases r1 with
  | cons r rr =>
    cases rr
    cases r
    obtain ⟨its, rv, pl, hz⟩ := I2.list hq
    refine enum_begins_start (begins_list a its.toArray) pl.isList hk.1 hk.2 fun h' he ho hsz kp => ?_
    refine wpAny_pyIter_enum he ?_
    have I3 : Inv X pins σ H2 { s2 with heap := h' } := I2.kept (t' := s2.toks) kp
    have hal : a < s2.heap.objs.size := by obtain ⟨o, ho, _⟩ := pl.isList; exact Heap.lt_size ho
    refine ⟨s2.heap.objs.size + 1, [s2.heap.objs.size + 1, s2.heap.objs.size], _, _, H2, rfl, I3, turn_enumS k a (s2.heap.objs.size + 1) s2.heap.objs.size, ⟨⟨.none, by rw [show k + ((0 : Nat) : Int) = k by omega]; exact he⟩, ⟨_, ho, rfl, rfl⟩, Nat.succ_ne_self _, Nat.ne_of_lt hal, Nat.ne_of_lt (Nat.lt_succ_of_lt hal)⟩, fun b hb => ?_, q⟩
    have hle : s2.heap.objs.size ≤ b := by
      rcases List.mem_cons.mp hb with rfl | hb
      · exact Nat.le_add_right _ _
      · rw [List.mem_singleton.mp hb]; exact Nat.le_refl _
    exact I2.fpOk hle (I2.hok.fresh hle)
def enumS (k : Int) (xs : List D) : List D := xs.mapIdx fun i d => .tup [.int (k + (i : Nat)), d]
def iEnS (k : Int) (ta : TAt) : TIt := fun τ M Q => ta τ M fun ds M1 => match ds with
  | [d] => (match lstOf M1 d with
    | some xs => Q ⟨enumS k xs, fun M => lstOf M d = some xs⟩ M1
    | none => False)
  | _ => False
theorem enumS_get {k : Int} {xs : List D} {i : Nat} {x : D} (h : (enumS k xs)[i]? = some x) : ∃ y, xs[i]? = some y ∧ x = .tup [.int (k + (i : Nat)), y] := by
  unfold enumS at h
  rw [List.getElem?_mapIdx] at h
  obtain ⟨y, h1, h2⟩ := Option.map_eq_some_iff.mp h
  exact ⟨y, h1, h2.symm⟩
theorem itOk_enumS {K : PySem.W.Frag} {F0 : Hp} {k : Int} {a : Addr} {d : D} {ds : List D} (p : Rp K F0 (.ref a) d) : ItOk K F0 (IteS K k a) ⟨enumS k ds, fun M => lstOf M d = some ds⟩ where
  go := fun i G F H M x s R h hx => by
    obtain ⟨b, vs, e, hs, r⟩ := lst_of R (p.mono s) h
    cases e
    obtain ⟨y, hy, _⟩ := enumS_get hx
    obtain ⟨v, hv, _⟩ := r.getD hy
    exact ⟨vs, v, hs, hv⟩
  yld := fun i G F H M x v H' s R h hx y => by
    obtain ⟨b, vs, e, hs, r⟩ := lst_of R (p.mono s) h
    cases e
    obtain ⟨z, hz, rfl⟩ := enumS_get hx
    obtain ⟨v', hv, rv⟩ := r.getD hz
    obtain ⟨T, w, rfl, nT, rfl, f⟩ := y
    have := SqL_get hs hv f
    subst this
    obtain ⟨s2, r2⟩ := R.newF (o := .tup [.int (k + (i : Nat)), w]) nT
    exact ⟨_, s2, r2, .tup upd_same (.cons (.int _) (.cons (rv.mono s2) .nil))⟩
  stop := fun i G F H M s R h hl => by
    obtain ⟨b, vs, e, hs, r⟩ := lst_of R (p.mono s) h
    cases e
    have hl : (enumS k ds).length ≤ i := hl
    unfold enumS at hl
    rw [List.length_mapIdx] at hl
    exact ⟨vs, hs, by rw [r.length]; exact hl⟩
theorem qi_enumS {X : Cx} {E : XK} {Et : XT} {e : Expr} {k : Int} {j : Nat} {ta : TAt} {p p2 p3 pos tpos : Pos} {elts : List Expr} {kk : Nat} (hm : X.mg "enumerate" = none) (ha : QA X E Et [e] ta) (hk : -(2 ^ 63) ≤ k ∧ k < 2 ^ 63) (hg : Gl X "enumerate" := by rfl) (hs : starEach [e] X.env = [(false, eval e X.env)] := by rfl) :
    QI X E Et (.Tuple elts kk tpos) (.Call (.Name "enumerate" p) [e] [⟨some "start", .Constant (.int k) j p2, p3⟩] pos) (iEnS k ta) := by
  refine ⟨fun pins s σ H R I h => (pi_enumS hg hm ha hk hs).run pins s σ H R I ?_⟩
  obtain ⟨G, F, M, τ, Qt, a, h, kk⟩ := h
  refine ⟨G, F, M, τ, _, a, h, fun vs F1 H1 M1 ds s1 r1 p1 q1 => ?_⟩
  match ds, p1, q1 with
  | [d], .cons h1 .nil, q1 =>
    have q1 : (match lstOf M1 d with | some xs => Qt ⟨enumS k xs, fun M => lstOf M d = some xs⟩ M1 | none => False) := q1
    cases q : lstOf M1 d with
    | none => rw [q] at q1; exact q1.elim
    | some xs =>
      rw [q] at q1
      obtain ⟨b, vs, rfl, hs, r⟩ := lst_of r1 h1 q
      exact ⟨b, vs, rfl, hs, kk _ _ F1 H1 M1 s1 r1 (itOk_enumS h1) q1⟩
theorem uEnS {k : Int} {tA : TAt} {τ : Sg} {M : MH} {Q : Its → MH → Prop} : iEnS k tA τ M Q = tA τ M fun ds M1 => oL1 ds fun d => oSome (lstOf M1 d) fun xs => Q ⟨enumS k xs, fun M => lstOf M d = some xs⟩ M1 := by
  unfold iEnS
  congr 1
  funext ds M1
  unfold oL1 oSome
  match ds with
  | [] => rfl
  | [d] => cases h : lstOf M1 d <;> simp only [h]
  | _ :: _ :: _ => rfl
end Tl
namespace Tl
open PySem PySem.Spec PyProof.Rows L2
/-! ### min and max of two pairs whose first numbers are unlike -/
/-! ### xs.clear() -/
/-! ### a, b = a list, in a comprehension -/
/-! ### x.m(..) in a comprehension -/
/-! ### == of a list of changing lists -/
end Tl
set_option maxHeartbeats 2000000
namespace Tl
open PySem PySem.Spec PyProof.Rows L2
/-! ### cells apart and together -/
section
variable {M0 M1 M2 M M' : MH} {cs ds : List (Addr × MO)}
theorem Cel.glue (h : Cel M0 M1 cs) (g : Cel M1 M2 ds) : Cel M0 M2 (ds ++ cs) := by
  refine ⟨?_, fun c hc => ?_, fun a o e => g.old a o (h.old a o e), fun c hc => ?_⟩
  · rw [List.map_append, List.nodup_append]
    refine ⟨g.nd, h.nd, fun a ha b hb e => ?_⟩
    obtain ⟨c, hc, rfl⟩ := List.mem_map.mp ha
    obtain ⟨d, hd, e2⟩ := List.mem_map.mp hb
    have h1 := g.new c hc
    have h2 := h.at_ d hd
    rw [← show c.1 = d.1 from e.trans e2.symm, h1] at h2
    cases h2
  · rcases List.mem_append.mp hc with hc | hc
    · exact g.at_ c hc
    · exact g.old _ _ (h.at_ c hc)
  · rcases List.mem_append.mp hc with hc | hc
    · cases e : M0 c.1 with
      | none => rfl
      | some o => have := h.old _ _ e; rw [g.new c hc] at this; cases this
    · exact h.new c hc
/-- M without some cells -/
def without (M : MH) (as : List Addr) : MH := fun a => if a ∈ as then none else M a
theorem Cel.part (h : Cel M0 M (ds ++ cs)) : Cel M0 (without M (ds.map (·.1))) cs ∧ Cel (without M (ds.map (·.1))) M ds := by
  have nd := h.nd
  rw [List.map_append, List.nodup_append] at nd
  obtain ⟨n1, n2, n3⟩ := nd
  refine ⟨⟨n2, fun c hc => ?_, fun a o e => ?_, fun c hc => h.new c (List.mem_append_right _ hc)⟩, ⟨n1, fun c hc => h.at_ c (List.mem_append_left _ hc), fun a o e => ?_, fun c hc => ?_⟩⟩
  · unfold without
    rw [if_neg fun q => n3 _ q _ (List.mem_map_of_mem hc) rfl]
    exact h.at_ c (List.mem_append_right _ hc)
  · unfold without
    rw [if_neg fun q => ?_]
    · exact h.old a o e
    · obtain ⟨d, hd, rfl⟩ := List.mem_map.mp q
      rw [h.new d (List.mem_append_left _ hd)] at e
      cases e
  · unfold without at e
    split at e
    · cases e
    · exact e
  · unfold without
    rw [if_pos (List.mem_map_of_mem hc)]
end
/-! ### shared boxes -/
structure Tch where
  put : Bool
  lane : Int
  place : Int
  line : Int
def wS : Bool → Str
  | true => "put"
  | false => "get"
abbrev C5 := Int × Int × Int × Int × Int
def c5D (c : C5) : List D := [.int c.1, .int c.2.1, .int c.2.2.1, .int c.2.2.2.1, .int c.2.2.2.2]
def clD : Option C5 → D
  | none => .non
  | some c => .tup (c5D c)
def Tch.d (t : Tch) : D := .tup [.int t.lane, .int t.line, .str (wS t.put)]
def Tch.deed (t : Tch) : D := .lst [.str (wS t.put), .int t.lane, .int t.place, .int t.line]
structure Sh where
  s : Addr
  n : Addr
  k : Addr
  dx : Addr
abbrev Kvs := List (Key × D)
def Sh.cells (C : Addr) (fl : List Str) (A : Sh) (ns : List Int) (kvs : Kvs) (cl : Option C5) : List (Addr × MO) := [(A.s, .obj C A.dx fl [.ref A.n, .ref A.k, clD cl]), (A.n, .lst (ns.map .int)), (A.k, .dK kvs)]
section
variable {C : Addr} {fl : List Str} {A : Sh} {M0 M : MH} {ns : List Int} {kvs : Kvs} {cl : Option C5}
theorem Sh.s_ (h : Cel M0 M (A.cells C fl ns kvs cl)) : M A.s = some (.obj C A.dx fl [.ref A.n, .ref A.k, clD cl]) := h.at_ (A.s, _) (by unfold Sh.cells; simp)
end
end Tl
namespace Tl
open PySem PySem.Spec PyProof.Rows L2
/-! ### set(texts), all unlike, and how many they are -/
section
variable {P : Program} {w : World} {A : Around} {R : Result → PySem.Shared → Prop} {I : Addr} {fp wr : List Addr} {G : Array GenState → Array GenState → Prop} {n : Nat} {Pv : Nat → Value → Prop} {St : Nat → PySem.Shared → Prop}
def texIn (xs : List Str) (i : Nat) : Str → Bool := fun x => (xs.take i).any (· == x)
theorem texIn_more {xs : List Str} {i : Nat} (hi : i < xs.length) (nd : xs.Nodup) : texIn xs i (xs.getD i Str.empty) = false ∧ ∀ x, (texIn xs i x || decide (x = xs.getD i Str.empty)) = texIn xs (i + 1) x := by
  have eg : xs.getD i Str.empty = xs[i] := by rw [List.getD_eq_getElem?_getD, List.getElem?_eq_getElem hi]; rfl
  have et : xs.take (i + 1) = xs.take i ++ [xs[i]] := by rw [List.take_add_one, List.getElem?_eq_getElem hi]; rfl
  refine ⟨?_, fun x => ?_⟩
  · unfold texIn
    rw [eg, List.any_eq_false]
    intro y hy q
    have e : y = xs[i] := by simpa using q
    obtain ⟨j, hj, e2⟩ := List.mem_take_iff_getElem.mp hy
    have hj2 : j < i := by omega
    have := (List.nodup_iff_pairwise_ne.mp nd)
    rw [List.pairwise_iff_getElem] at this
    exact this j i (by omega) hi hj2 (e2.trans e)
  · unfold texIn
    rw [et, List.any_append, eg]
    congr 1
    by_cases e : x = xs[i]
    · rw [decide_eq_true e, e]; simp
    · rw [decide_eq_false e]
      symm
      rw [List.any_eq_false]
      intro y hy q
      rw [List.mem_singleton.mp hy] at q
      exact e (by simpa using q : xs[i] = x).symm
theorem setOf_at {h h' : Heap} {D : Addr} {S : Str → Bool} {m : Nat} (k : ∀ o, h.get? D = some o → h'.get? D = some o) (x : h.SetOf (PySem.strKind P w) D S m) : h'.SetOf (PySem.strKind P w) D S m := by
  obtain ⟨o, es, ep, t, ho, r⟩ := x
  exact ⟨o, es, ep, t, k o ho, r⟩
theorem loopTx (W : WalksS P w A.in1 I fp wr G n Pv St) (D : Addr) (hD : D ∉ fp) (xs : List Str) (hn : xs.length = n) (nd : xs.Nodup) (few : n < 4000) (val : ∀ i v, Pv i v → ∃ t, v = .str (xs.getD i Str.empty) t) :
    ∀ (m i : Nat) (s : PySem.Shared), n - i = m → i ≤ n → St i s → s.heap.SetOf (PySem.strKind P w) D (texIn xs i) i →
      (∀ s', Moved (D :: wr) G s s' → s'.heap.SetOf (PySem.strKind P w) D (texIn xs n) n → R (.ok (.ret .none)) s') → codeAny (model P w) A (.builtin "set.update.loop" ⟨[.ref D, .ref I], []⟩) R s := by
  have out : D ∉ wr := fun q => hD (W.sub _ q)
  have up : ∀ b ∈ wr, b ∈ D :: wr := fun b q => List.mem_cons_of_mem _ q
  intro m
  induction m with
  | zero =>
    intro i s hm hi st hS fin
    obtain rfl : i = n := by omega
    refine codeAny_builtin PyProof.Rows.F.entry_set_update_loop ?_; rw [Around.under_plainId PyProof.Rows.F.plain_set_update_loop _]
    exact wpAny_bind (m := pyNext (.ref I)) (W.done s _ _ st fun s' mv => wpAny_pure (fin s' (mv.mono up) (setOf_at (fun o q => mv.heap D o out q) hS)))
  | succ m ih =>
    intro i s hm hi st hS fin
    have lt : i < n := by omega
    refine codeAny_builtin PyProof.Rows.F.entry_set_update_loop ?_; rw [Around.under_plainId PyProof.Rows.F.plain_set_update_loop _]
    refine wpAny_bind (m := pyNext (.ref I)) (W.item i s _ _ lt st fun v s' hv st' mv => ?_)
    obtain ⟨t, rfl⟩ := val i v hv
    have hS' := setOf_at (fun o q => mv.heap D o out q) hS
    obtain ⟨new, more⟩ := texIn_more (i := i) (by omega) nd
    refine wpAny_bind (m := holding [Value.str (xs.getD i Str.empty) t] (setAdd D (.str (xs.getD i Str.empty) t))) (wpAny_holding ?_); unfold setAdd
    refine wpAny_holding (wpAny_bind ((PySem.strKind P w).pyHash (k := xs.getD i Str.empty) (strKind_is _ _ _ _) ?_))
    refine wpAny_setAddHashed_of (knd := PySem.strKind P w) (s := { s' with toks := s'.toks + 1 }) (strKind_is _ _ _ _) rfl hS' (by unfold scanBound; omega) fun h' sb hS2 => ?_
    have hS3 : h'.SetOf (PySem.strKind P w) D (texIn xs (i + 1)) (i + 1) := SetOf_congr hS2 more (by rw [new]; rfl)
    have old : ∀ b, b ≠ D → ∀ o, s'.heap.get? b = some o → h'.get? b = some o := fun b ne o q => (sb.2 b ne).trans q
    refine wpAny_pure ⟨plainId_quiet PyProof.Rows.F.plain_set_update_loop _, ih (i + 1) _ (by omega) lt (W.frame _ s' _ _ st' (Nat.le_succ _) fun b hb o q => old b (fun z => hD (z ▸ hb)) o q) hS3 fun s2 mv2 hS4 => ?_⟩
    exact fin s2 (Moved.trans W.gtrans ((mv.mono up).then_heap (Nat.le_succ _) fun b o hb q => old b (fun z => hb (z ▸ List.mem_cons_self)) o q) mv2) hS4
end
section
variable {P : Program} {w : World} {A : Around} {E : Value → PySem.Shared → Prop} {s : PySem.Shared}
set_option maxHeartbeats 3200000 in
theorem set_texts {l : Addr} {items : Array Value} {xs : List Str} {Q : Value → PySem.Shared → Prop} (free : A.handled = none) (hl : s.heap.IsList l items) (hi : PyProof.Rows.StrsAre items.toList xs) (nd : xs.Nodup) (few : xs.length < 4000)
    (fin : ∀ (h' : Heap) (tk : Nat), h'.SetOf (PySem.strKind P w) s.heap.objs.size (texIn xs items.size) items.size → (∀ b o, b < s.heap.objs.size → s.heap.get? b = some o → h'.get? b = some o) → Q (.ref s.heap.objs.size) { s with heap := h', toks := tk }) :
    wpAny (model P w) A (call (.type "set") [.ref l]) Q E s := by
  obtain ⟨ca, tl, mro⟩ := PySem.F.called_set.mro; have made := PySem.F.called_set.made; have sub := PySem.F.called_set.sub
  refine wpAny_call (codeAny_of_tree (show wpAny _ _ (callAny (.type "set") _) _ _ _ from wpAny_pure ⟨Code.quiet_builtin _ (by decide +kernel), codeAny_builtin PySem.F.entry_type_call ?_⟩))
  rw [Around.under_plain (weight_type_call_type "set" [.ref l] []) rfl]; have g1 := PySem.F.called_set.notType; have g2 := PySem.F.called_set.canCreate; have g3 := PySem.F.typeCall_set_1 (.ref l)
  repeat (any_goals (first | assumption | wp_step))
  refine codeAny_mono (code_set_new_1 (.ref l) (E := E) (Q₁ := fun ob u => ∃ led : Bool, ob = .ref s.heap.objs.size ∧ u = { s with heap := s.heap.push { cls := .type "set", dict := none, data := .set #[] 0 (.fresh 0 0 led) } }) fun led => ⟨led, rfl, rfl⟩) fun re u hu => ?_
  match re, hu with
  | .error e, hu => exact hu
  | .ok (.ret ob), hu =>
    obtain ⟨led, rfl, rfl⟩ := hu
    have gS : (s.heap.push { cls := .type "set", dict := none, data := .set #[] 0 (.fresh 0 0 led) }).get? s.heap.objs.size = some { cls := .type "set", dict := none, data := .set #[] 0 (.fresh 0 0 led) } := Heap.get?_push_size _ rfl
    have gT : Shared.TypeIs { s with heap := s.heap.push { cls := .type "set", dict := none, data := .set #[] 0 (.fresh 0 0 led) } } (.ref s.heap.objs.size) "set" := ⟨_, gS, rfl⟩
    have g4 := PySem.F.called_set.init.lookup; have g5 := PySem.F.called_set.init.bind (.ref s.heap.objs.size)
    repeat (any_goals (first | assumption | wp_step))
    refine codeAny_mono (codeAny_call_builtin (R := wants (fun r u2 => r = .none ∧ ∃ h' tk, u2 = { s with heap := h', toks := tk } ∧ h'.SetOf (PySem.strKind P w) s.heap.objs.size (texIn xs items.size) items.size ∧ (∀ b o, b < s.heap.objs.size → s.heap.get? b = some o → h'.get? b = some o)) E) PySem.F.called_set.init.plain PySem.F.entry_set_init (check_set_init_1 gT ?_)) fun re2 u2 hu2 => ?_
    · obtain ⟨⟨lc, ld, la, ls⟩, ho, hc, nl, hd⟩ := hl
      simp only at hc hd; subst hc hd
      have ho' : (s.heap.push { cls := .type "set", dict := none, data := .set #[] 0 (.fresh 0 0 led) }).get? l = some { cls := .type "list", dict := ld, data := .seq items nl, slots := ls } := Heap.get?_push_of_some _ ho
      have g6 := PySem.F.sub_list_set; have g7 := PySem.F.sub_list_frozenset; have g8 : (Value.type "list" == Value.type "dict") = false := by decide
      have il : (s.heap.push { cls := .type "set", dict := none, data := .set #[] 0 (.fresh 0 0 led) }).IsList l items := ⟨_, ho', rfl, nl, rfl⟩
      unfold Builtin.«set.__init__» noKeywords Builtin.Frozenset.updateFrom; generalize gi : pyIter = PI
      wp_walk
      subst gi
      refine wpAny_pyIter_list il (wpAny_bind (wpAny_runValue ?_))
      have lS : l < s.heap.objs.size := Heap.lt_size ho
      have f3 : A.in1.in1.in1.handled = none := by simp [free]
      have neI : l ≠ (s.heap.push { cls := .type "set", dict := none, data := .set #[] 0 (.fresh 0 0 led) }).objs.size := by rw [Heap.size_push]; exact Nat.ne_of_lt (Nat.lt_succ_of_lt lS)
      have nf : s.heap.objs.size ∉ [(s.heap.push { cls := .type "set", dict := none, data := .set #[] 0 (.fresh 0 0 led) }).objs.size, l] := by
        rw [Heap.size_push]; simp only [List.mem_cons, List.mem_singleton, List.not_mem_nil, or_false, not_or]; exact ⟨Nat.ne_of_lt (Nat.lt_succ_self _), Nat.ne_of_gt lS⟩
      have len : xs.length = items.size := by rw [← StrsAre.len_eq hi, Array.length_toList]
      refine loopTx ((Walks.list f3 _ l neI items).toS) s.heap.objs.size nf xs len nd (by rw [← len]; exact few) (fun i v hv => SS.strs_at hi i v (by rw [Array.getElem?_toList]; exact hv)) (items.size - 0) 0 _ (by omega) (Nat.zero_le _) ⟨⟨_, Heap.get?_push_size _ rfl, rfl, rfl⟩, (il.push _)⟩ ?first ?last
      case first =>
        have gS2 : ((s.heap.push { cls := .type "set", dict := none, data := .set #[] 0 (.fresh 0 0 led) }).push { cls := .type "list_iterator", data := .fields #[.ref l, .int 0 0] }).get? s.heap.objs.size = some { cls := .type "set", dict := none, data := .set #[] 0 (.fresh 0 0 led) } := Heap.get?_push_of_some _ gS
        exact SetOf_congr ((setObjOf_fresh (knd := PySem.strKind P w) led).setOf gS2 (by decide)) (fun _ => rfl) rfl
      case last =>
        rintro ⟨h', g', d', tk', os'⟩ mv hS'
        obtain rfl : g' = s.gens := mv.gens
        obtain rfl : d' = s.drawn := mv.drawn
        obtain rfl : os' = s.os := mv.os
        refine wpAny_pure (show wpAny _ _ (ret Value.none) _ _ _ from wpAny_pure ⟨rfl, h', tk', rfl, hS', fun b o hb q => mv.heap b o ?_ (Heap.get?_push_of_some _ (Heap.get?_push_of_some _ q))⟩)
        simp only [List.mem_cons, List.mem_singleton, List.not_mem_nil, or_false, not_or, Heap.size_push]; exact ⟨Nat.ne_of_lt hb, Nat.ne_of_lt (Nat.lt_succ_of_lt hb)⟩
    · match re2, hu2 with
      | .error e, hu2 => exact hu2
      | .ok (.ret r), hu2 =>
        obtain ⟨rfl, h', tk, rfl, hS', old⟩ := hu2
        repeat (any_goals (first | assumption | wp_step))
        exact fin _ _ hS' old
      | .ok .next, hu2 => exact hu2.elim
      | .ok .brk, hu2 => exact hu2.elim
      | .ok .cont, hu2 => exact hu2.elim
  | .ok .next, hu => exact hu.elim
  | .ok .brk, hu => exact hu.elim
  | .ok .cont, hu => exact hu.elim
end
/-- len(set(texts)), all unlike -/
def tLnX (K : PySem.W.Frag) (ta : TE) : TE := fun σ H Q => ta σ H fun x H1 => ∃ l, ∃ xs : List Str, x = .ref l ∧ SqL K H1 l (xs.map V.str) ∧ xs.Nodup ∧ xs.length < 4000 ∧ Q (.int xs.length) H1
theorem pe_lnX {X : Cx} {a : Expr} {ta : TE} {p p2 q pos : Pos} (hc : X.calm = true) (hg : Gl X "len") (hm : X.mg "len" = none) (hg2 : Gl X "set") (hm2 : X.mg "set" = none) (ha : PE X a ta) (na : starEach [a] X.env = (false, eval a X.env) :: starEach [] X.env := by rfl) :
    PE X (.Call (.Name "len" p) [.Call (.Name "set" p2) [a] [] q] [] pos) (tLnX X.K ta) := ⟨fun pins s σ H Q I h => by
  refine Call_ (ld_blt I hg hm boot_len (PyProof.Rows.callWith_builtin1 (PyProof.Rows.args_cons (Call_ (ld_blt I hg2 hm2 boot_set ?_)) rfl) rfl rfl))
  refine PyProof.Rows.callWith_type1 (PyProof.Rows.args_cons (thn (ha.run pins s σ H _ I h) fun v s1 z => PyProof.Rows.args_nil ?_) na) na rfl
  obtain ⟨x, H1, I1, rv, l, xs, rfl, hq, nd, few, q1⟩ := z
  cases rv
  obtain ⟨its, r, pl, hz⟩ := I1.list hq
  refine set_texts (I1.ok.hd hc) pl.isList (by simpa using strsAre_of r) nd few fun h' tk hS hk => PyProof.Rows.args_nil ?_
  have hl : its.toArray.size = xs.length := by rw [List.size_toArray, ← r.length, List.length_map]
  rw [hl] at hS
  obtain ⟨o, es, ep, t, ho, hex, hd, _, _, _, hf, hn⟩ := hS
  have I2 : L2.Inv X pins σ H1 { s1 with heap := h', toks := tk } := I1.kept fun b o e => hk b o (Heap.lt_size e) e
  exact call_len_set ho hex hd hf (by rw [hn]; omega) ⟨.int xs.length, H1, I2.tok _, ⟨_, by rw [hn]⟩, q1⟩⟩
def tLnT (ta : TEt) : TEt := fun τ M Q => ta τ M fun x M1 => oSome (lstOf M1 x) fun ds => ∃ xs : List Str, ds = xs.map D.str ∧ xs.Nodup ∧ xs.length < 4000 ∧ Q (.int xs.length) M1
theorem rps_str {K : PySem.W.Frag} {F : Hp} : ∀ {xs : List Str} {vs : List V}, Rps K F vs (xs.map D.str) → vs = xs.map V.str
  | [], _, .nil => rfl
  | x :: t, _, .cons (.str _) r => by rw [rps_str r]; rfl
theorem q_lenSet {X : Cx} {E : XK} {Et : XT} {a : Expr} {ta : TEt} {p p2 q pos : Pos} (hc : X.calm = true) (hm : X.mg "len" = none) (hm2 : X.mg "set" = none) (ha : QE X E Et a ta) (hg : Gl X "len" := by rfl) (hg2 : Gl X "set" := by rfl) (na : starEach [a] X.env = (false, eval a X.env) :: starEach [] X.env := by rfl) :
    QE X E Et (.Call (.Name "len" p) [.Call (.Name "set" p2) [a] [] q] [] pos) (tLnT ta) := PEimp (pe_lnX hc hg hm hg2 hm2 ha na) (by
  rintro σ H Q ⟨G, F, M, τ, Qt, a, h, k⟩
  refine ⟨G, F, M, τ, _, a, h, fun v F1 H1 M1 d s1 r1 p1 q1 => ?_⟩
  cases e : lstOf M1 d with
  | none => rw [e] at q1; exact q1.elim
  | some ds =>
    rw [e] at q1
    obtain ⟨xs, rfl, nd, few, q2⟩ := q1
    obtain ⟨b, vs, rfl, hs, rs⟩ := lst_of r1 p1 e
    rw [rps_str rs] at hs
    exact ⟨b, xs, rfl, hs, nd, few, k _ F1 H1 M1 _ s1 r1 (.int _) q2⟩)
theorem utLnT {ta : TEt} {τ : Sg} {M : MH} {Q : VD} : tLnT ta τ M Q = ta τ M fun x M1 => oSome (lstOf M1 x) fun ds => ∃ xs : List Str, ds = xs.map D.str ∧ xs.Nodup ∧ xs.length < 4000 ∧ Q (.int xs.length) M1 := propext Iff.rfl
end Tl
set_option maxHeartbeats 2000000
namespace Tl
open PySem PySem.Spec PyProof.Rows L2
/-! ### lines of a program's text -/
def okXp (e : Ex) : Prop := okW e ∧ e.deep ≤ 7
inductive Lin where
  | dff (x : Str) (ps : List Str) | iff (e : Ex) | whl (e : Ex) | els | fin | pln (s : Sm)
/-- what stands behind the word of a statement that is no block -/
def Sm.wrds : Sm → List Str
  | .set _ x e => x :: wordsE e | .put _ a b => wordsE a ++ wordsE b | .tell _ e => wordsE e | .ret _ e => wordsE e | .join _ x w e => x :: w :: wordsE e | .call _ x f es => x :: f :: es.flatMap wordsE | _ => []
def Sm.at_ (l : Int) : Sm → Sm
  | .set _ x e => .set l x e | .put _ a b => .put l a b | .tell _ e => .tell l e | .ret _ e => .ret l e | .stop _ => .stop l | .brk _ => .brk l | .agn _ => .agn l | .meet _ => .meet l
  | .join _ x w e => .join l x w e | .call _ x f es => .call l x f es | .if1 _ e b => .if1 l e b | .if2 _ e b c => .if2 l e b c | .whl _ e b => .whl l e b
theorem at_d (l : Int) (s : Sm) : (s.at_ l).d = .tup (.str s.word :: .int l :: s.rest) := by cases s <;> (unfold Sm.at_ Sm.d; rfl)
def Lin.words : Lin → List Str
  | .dff x ps => "def" :: x :: ps | .iff e => "if" :: wordsE e | .whl e => "while" :: wordsE e | .els => ["else"] | .fin => ["end"] | .pln s => s.word :: s.wrds
def Lin.word : Lin → Str
  | .dff _ _ => "def" | .iff _ => "if" | .whl _ => "while" | .els => "else" | .fin => "end" | .pln s => s.word
def Lin.rest : Lin → List D
  | .dff x ps => [.str x, .lst (ps.map .str)] | .iff e => [e.d] | .whl e => [e.d] | .pln s => s.rest | _ => []
def Lin.d (l : Lin) : D := .tup (.str l.word :: l.rest)
def Lin.txt (l : Lin) : Str := Txt.join blank l.words
def joinL : List Str := ["sum", "most", "least", "ahead"]
def okStm : Sm → Prop
  | .set _ x e => okName x ∧ okXp e | .put _ a b => okXp a ∧ okXp b | .tell _ e => okXp e | .ret _ e => okXp e | .join _ x w e => okName x ∧ w ∈ joinL ∧ okXp e
  | .call _ x f es => okName x ∧ okName f ∧ es.length ≤ 6 ∧ ∀ e ∈ es, okXp e | .if1 .. => False | .if2 .. => False | .whl .. => False | _ => True
def Lin.ok : Lin → Prop
  | .dff x ps => okName x ∧ ps.length ≤ 6 ∧ ∀ p ∈ ps, okName p | .iff e => okXp e | .whl e => okXp e | .pln s => okStm s | _ => True
/-- a line that begins with a word and a name -/
def Lin.named : Lin → Prop
  | .dff .. => True
  | .pln (.set ..) => True
  | .pln (.join ..) => True
  | .pln (.call ..) => True
  | _ => False
theorem range_getD {α : Type} (d : α) : ∀ ps : List α, (List.range ps.length).map (fun k => ps.getD k d) = ps := fun ps => by
  apply List.ext_getElem
  · rw [List.length_map, List.length_range]
  · intro i h1 h2
    rw [List.getElem_map, List.getElem_range, List.getD_eq_getElem?_getD, List.getElem?_eq_getElem h2]
    rfl
def okWd (w : Str) : Prop := 32 ∉ cds w ∧ w.length ≤ 10 ∧ 10 ∉ cds w
theorem name_free {x : Str} (h : okName x) : okWd x := by
  obtain ⟨⟨h1, h2, h3⟩, _⟩ := h
  refine ⟨fun q => ?_, by omega, fun q => ?_⟩
  · have := List.all_eq_true.mp h3 32 q
    exact absurd this (by decide)
  · have := List.all_eq_true.mp h3 10 q
    exact absurd this (by decide)
theorem word_free10 : ∀ {e : Ex}, okW e → ∀ w ∈ wordsE e, 10 ∉ cds w
  | .num i, _, w, h => by
    rw [List.mem_singleton.mp h]
    rcases num_cases i with ⟨n, rfl, e⟩ | ⟨n, rfl, e⟩
    · rw [e]; intro hm; have := dig_mem hm; omega
    · rw [e]; intro hm
      rcases List.mem_cons.mp hm with hm | hm
      · omega
      · have := dig_mem hm; omega
  | .nam x, hx, w, h => by
    rw [List.mem_singleton.mp h]
    intro hm
    have := List.all_eq_true.mp hx.1.2.2 10 hm
    simp at this
  | .lane, _, w, h => by rw [List.mem_singleton.mp h]; decide +kernel
  | .lanes, _, w, h => by rw [List.mem_singleton.mp h]; decide +kernel
  | .mine, _, w, h => by rw [List.mem_singleton.mp h]; decide +kernel
  | .box e, hx, w, h => by
    rcases List.mem_cons.mp h with rfl | h
    · decide +kernel
    · exact word_free10 (e := e) hx w h
  | .op o a b, hx, w, h => by
    rcases List.mem_cons.mp h with rfl | h
    · cases o <;> decide +kernel
    · rcases List.mem_append.mp h with h | h
      · exact word_free10 hx.1 w h
      · exact word_free10 hx.2 w h
theorem okXp_wd {e : Ex} (h : okXp e) : ∀ w ∈ wordsE e, okWd w := fun w hw => ⟨word_free h.1 w hw, word_len h.1 w hw, word_free10 h.1 w hw⟩
theorem okXp_len {e : Ex} (h : okXp e) : (wordsE e).length ≤ 127 := by
  have := words_len (e := e)
  have h2 : 2 ^ e.deep ≤ 2 ^ 7 := Nat.pow_le_pow_right (by decide) h.2
  omega
theorem kept_wd : ∀ w ∈ (["def", "if", "while", "else", "end", "set", "put", "tell", "return", "stop", "break", "again", "meet", "join", "call", "sum", "most", "least", "ahead"] : List Str), okWd w := by
  unfold okWd
  decide +kernel
theorem flat_wd : ∀ {es : List Ex}, (∀ e ∈ es, okXp e) → (∀ w ∈ es.flatMap wordsE, okWd w) ∧ (es.flatMap wordsE).length ≤ 127 * es.length
  | [], _ => ⟨fun w hw => by simp at hw, by simp⟩
  | e :: t, h => by
    obtain ⟨i1, i2⟩ := flat_wd (es := t) fun x hx => h x (List.mem_cons_of_mem _ hx)
    have h1 := h e (List.mem_cons_self ..)
    refine ⟨fun w hw => ?_, ?_⟩
    · rw [List.flatMap_cons] at hw
      rcases List.mem_append.mp hw with hw | hw
      · exact okXp_wd h1 w hw
      · exact i1 w hw
    · rw [List.flatMap_cons, List.length_append, List.length_cons]
      have := okXp_len h1
      omega
theorem sm_wd {s : Sm} (h : okStm s) : (∀ w ∈ s.word :: s.wrds, okWd w) ∧ (s.word :: s.wrds).length ≤ 800 := by
  have nw : ∀ {x : Str}, okName x → okWd x := fun q => name_free q
  have kw : ∀ {x : Str}, x ∈ (["def", "if", "while", "else", "end", "set", "put", "tell", "return", "stop", "break", "again", "meet", "join", "call", "sum", "most", "least", "ahead"] : List Str) → okWd x := fun q => kept_wd _ q
  cases s with
  | set l x e =>
    have := okXp_len h.2
    refine ⟨fun w hw => ?_, by simp only [Sm.wrds, List.length_cons]; omega⟩
    simp only [Sm.wrds, Sm.word, List.mem_cons] at hw
    rcases hw with rfl | rfl | hw
    · exact kw (by decide)
    · exact nw h.1
    · exact okXp_wd h.2 w hw
  | put l a b =>
    have h1 := okXp_len h.1
    have h2 := okXp_len h.2
    refine ⟨fun w hw => ?_, by simp only [Sm.wrds, List.length_cons, List.length_append]; omega⟩
    simp only [Sm.wrds, Sm.word, List.mem_cons, List.mem_append] at hw
    rcases hw with rfl | hw | hw
    · exact kw (by decide)
    · exact okXp_wd h.1 w hw
    · exact okXp_wd h.2 w hw
  | tell l e =>
    have := okXp_len h
    refine ⟨fun w hw => ?_, by simp only [Sm.wrds, List.length_cons]; omega⟩
    simp only [Sm.wrds, Sm.word, List.mem_cons] at hw
    rcases hw with rfl | hw
    · exact kw (by decide)
    · exact okXp_wd h w hw
  | ret l e =>
    have := okXp_len h
    refine ⟨fun w hw => ?_, by simp only [Sm.wrds, List.length_cons]; omega⟩
    simp only [Sm.wrds, Sm.word, List.mem_cons] at hw
    rcases hw with rfl | hw
    · exact kw (by decide)
    · exact okXp_wd h w hw
  | join l x w e =>
    have := okXp_len h.2.2
    refine ⟨fun v hw => ?_, by simp only [Sm.wrds, List.length_cons]; omega⟩
    simp only [Sm.wrds, Sm.word, List.mem_cons] at hw
    rcases hw with rfl | rfl | rfl | hw
    · exact kw (by decide)
    · exact nw h.1
    · have hj := h.2.1
      unfold joinL at hj
      simp only [List.mem_cons, List.not_mem_nil, or_false] at hj
      rcases hj with rfl | rfl | rfl | rfl <;> exact kw (by decide)
    · exact okXp_wd h.2.2 v hw
  | call l x f es =>
    obtain ⟨f1, f2⟩ := flat_wd h.2.2.2
    have := h.2.2.1
    refine ⟨fun w hw => ?_, by simp only [Sm.wrds, List.length_cons]; omega⟩
    simp only [Sm.wrds, Sm.word, List.mem_cons] at hw
    rcases hw with rfl | rfl | rfl | hw
    · exact kw (by decide)
    · exact nw h.1
    · exact nw h.2.1
    · exact f1 w hw
  | stop l => exact ⟨fun w hw => by simp only [Sm.wrds, Sm.word, List.mem_cons, List.not_mem_nil, or_false] at hw; rw [hw]; exact kw (by decide), by simp [Sm.wrds]⟩
  | brk l => exact ⟨fun w hw => by simp only [Sm.wrds, Sm.word, List.mem_cons, List.not_mem_nil, or_false] at hw; rw [hw]; exact kw (by decide), by simp [Sm.wrds]⟩
  | agn l => exact ⟨fun w hw => by simp only [Sm.wrds, Sm.word, List.mem_cons, List.not_mem_nil, or_false] at hw; rw [hw]; exact kw (by decide), by simp [Sm.wrds]⟩
  | meet l => exact ⟨fun w hw => by simp only [Sm.wrds, Sm.word, List.mem_cons, List.not_mem_nil, or_false] at hw; rw [hw]; exact kw (by decide), by simp [Sm.wrds]⟩
  | if1 l e b => exact h.elim
  | if2 l e b c => exact h.elim
  | whl l e b => exact h.elim
theorem lin_wd {l : Lin} (h : l.ok) : (∀ w ∈ l.words, okWd w) ∧ l.words.length ≤ 800 := by
  have kw : ∀ {x : Str}, x ∈ (["def", "if", "while", "else", "end", "set", "put", "tell", "return", "stop", "break", "again", "meet", "join", "call", "sum", "most", "least", "ahead"] : List Str) → okWd x := fun q => kept_wd _ q
  cases l with
  | dff x ps =>
    have := h.2.1
    refine ⟨fun w hw => ?_, by simp only [Lin.words, List.length_cons]; omega⟩
    simp only [Lin.words, List.mem_cons] at hw
    rcases hw with rfl | rfl | hw
    · exact kw (by decide)
    · exact name_free h.1
    · exact name_free (h.2.2 w hw)
  | iff e =>
    have := okXp_len h
    refine ⟨fun w hw => ?_, by simp only [Lin.words, List.length_cons]; omega⟩
    simp only [Lin.words, List.mem_cons] at hw
    rcases hw with rfl | hw
    · exact kw (by decide)
    · exact okXp_wd h w hw
  | whl e =>
    have := okXp_len h
    refine ⟨fun w hw => ?_, by simp only [Lin.words, List.length_cons]; omega⟩
    simp only [Lin.words, List.mem_cons] at hw
    rcases hw with rfl | hw
    · exact kw (by decide)
    · exact okXp_wd h w hw
  | els => exact ⟨fun w hw => by simp only [Lin.words, List.mem_cons, List.not_mem_nil, or_false] at hw; rw [hw]; exact kw (by decide), by simp [Lin.words]⟩
  | fin => exact ⟨fun w hw => by simp only [Lin.words, List.mem_cons, List.not_mem_nil, or_false] at hw; rw [hw]; exact kw (by decide), by simp [Lin.words]⟩
  | pln s => exact sm_wd h
theorem lin_split {l : Lin} (h : l.ok) : Txt.split l.txt blank = l.words := TL.split_join (y := blank) (s := 32) (S := []) (by decide +kernel) (by decide +kernel) (by cases l <;> simp [Lin.words]) fun p hp => ((lin_wd h).1 p hp).1
theorem lin_len {l : Lin} (h : l.ok) : l.txt.length ≤ 10000 := by
  obtain ⟨h1, h2⟩ := lin_wd h
  have h3 := sum_le_mul (k := 10) (ws := l.words) fun w hw => (h1 w hw).2.1
  have h4 := join_len l.words
  unfold Lin.txt
  omega
end Tl
set_option maxHeartbeats 2000000
namespace Tl
open PySem PySem.Spec PyProof.Rows L2
/-! ### lines that stand in one another -/
structure Opn where
  line : Int
  l : Lin
  b : List Sm
  c : Option (List Sm)
def Lin.isIf : Lin → Bool
  | .iff _ => true
  | _ => false
def Lin.isWhl : Lin → Bool
  | .whl _ => true
  | _ => false
def Lin.isDef : Lin → Bool
  | .dff .. => true
  | _ => false
def Lin.plain : Lin → Prop
  | .pln (.if1 ..) => False
  | .pln (.if2 ..) => False
  | .pln (.whl ..) => False
  | _ => True
theorem plain_ok {l : Lin} (h : l.ok) : l.plain := by
  cases l with
  | pln s => cases s <;> first | exact trivial | exact h
  | _ => exact trivial
def stWords : List Str := ["set", "put", "tell", "return", "stop", "break", "again", "meet", "join", "call", "if", "while"]
theorem word_in (s : Sm) : s.word ∈ stWords := by
  unfold stWords
  cases s <;> simp [Sm.word]
theorem plain_wd {s : Sm} : ¬ s.word = Str.ofString "def" ∧ ¬ s.word = Str.ofString "else" ∧ ¬ s.word = Str.ofString "end" := by
  have key : ∀ w ∈ stWords, ¬ w = Str.ofString "def" ∧ ¬ w = Str.ofString "else" ∧ ¬ w = Str.ofString "end" := by decide +kernel
  exact key _ (word_in s)
theorem plain_wd2 {s : Sm} (h : (Lin.pln s).plain) : ¬ s.word = Str.ofString "if" ∧ ¬ s.word = Str.ofString "while" := by
  cases s with
  | set l x e => exact ⟨(by decide +kernel : ¬ Str.ofString "set" = Str.ofString "if"), (by decide +kernel : ¬ Str.ofString "set" = Str.ofString "while")⟩
  | put l a b => exact ⟨(by decide +kernel : ¬ Str.ofString "put" = Str.ofString "if"), (by decide +kernel : ¬ Str.ofString "put" = Str.ofString "while")⟩
  | tell l e => exact ⟨(by decide +kernel : ¬ Str.ofString "tell" = Str.ofString "if"), (by decide +kernel : ¬ Str.ofString "tell" = Str.ofString "while")⟩
  | ret l e => exact ⟨(by decide +kernel : ¬ Str.ofString "return" = Str.ofString "if"), (by decide +kernel : ¬ Str.ofString "return" = Str.ofString "while")⟩
  | stop l => exact ⟨(by decide +kernel : ¬ Str.ofString "stop" = Str.ofString "if"), (by decide +kernel : ¬ Str.ofString "stop" = Str.ofString "while")⟩
  | brk l => exact ⟨(by decide +kernel : ¬ Str.ofString "break" = Str.ofString "if"), (by decide +kernel : ¬ Str.ofString "break" = Str.ofString "while")⟩
  | agn l => exact ⟨(by decide +kernel : ¬ Str.ofString "again" = Str.ofString "if"), (by decide +kernel : ¬ Str.ofString "again" = Str.ofString "while")⟩
  | meet l => exact ⟨(by decide +kernel : ¬ Str.ofString "meet" = Str.ofString "if"), (by decide +kernel : ¬ Str.ofString "meet" = Str.ofString "while")⟩
  | join l x w e => exact ⟨(by decide +kernel : ¬ Str.ofString "join" = Str.ofString "if"), (by decide +kernel : ¬ Str.ofString "join" = Str.ofString "while")⟩
  | call l x f es => exact ⟨(by decide +kernel : ¬ Str.ofString "call" = Str.ofString "if"), (by decide +kernel : ¬ Str.ofString "call" = Str.ofString "while")⟩
  | if1 l e b => exact h.elim
  | if2 l e b c => exact h.elim
  | whl l e b => exact h.elim
theorem rest_few (s : Sm) : s.rest.length ≤ 3 := by cases s <;> simp [Sm.rest]
def Lin.name : Lin → Str
  | .dff x _ => x
  | _ => ""
def Opn.add (o : Opn) (s : Sm) : Opn := match o.c with
  | none => { o with b := o.b ++ [s] }
  | some c => { o with c := some (c ++ [s]) }
def Opn.st (o : Opn) : Sm := match o.l with
  | .iff e => (match o.c with
    | none => .if1 o.line e o.b
    | some c => .if2 o.line e o.b c)
  | .whl e => .whl o.line e o.b
  | _ => .stop 0
def Opn.df (o : Opn) (last : Int) : Df := match o.l with
  | .dff x ps => ⟨x, ps, o.b, o.line, last⟩
  | _ => ⟨"", [], [], 0, 0⟩
/-- what may be open: a def alone lowest, ifs and whiles in it; an else in an if alone -/
def Opn.ok (o : Opn) : Prop := (o.l.isIf = true ∨ o.l.isWhl = true ∨ o.l.isDef = true) ∧ (o.c.isSome = true → o.l.isIf = true)
def pileOk : List Opn → Prop
  | [] => True
  | [o] => o.ok ∧ o.l.isDef = true
  | o :: p :: t => o.ok ∧ o.l.isDef = false ∧ pileOk (p :: t)
/-- whether a line may stand in what is open -/
def mayLn (p : List Opn) (l : Lin) : Bool := match l with
  | .dff .. => p.isEmpty
  | l => match p with
    | [] => false
    | i :: r => match l with
      | .els => i.l.isIf && i.c.isNone
      | .pln (.brk _) => (i :: r).any fun o => o.l.isWhl
      | .pln (.agn _) => (i :: r).any fun o => o.l.isWhl
      | .pln (.ret ..) => decide (((i :: r).getLast (List.cons_ne_nil _ _)).l.name ≠ "main")
      | .iff _ => decide ((i :: r).length ≤ 5)
      | .whl _ => decide ((i :: r).length ≤ 5)
      | _ => true
def nestStep (k : Int) (st : Pg × List Opn) (l : Lin) : Pg × List Opn := match l, st.2 with
  | .dff x ps, p => (st.1, ⟨k, .dff x ps, [], none⟩ :: p)
  | .iff e, p => (st.1, ⟨k, .iff e, [], none⟩ :: p)
  | .whl e, p => (st.1, ⟨k, .whl e, [], none⟩ :: p)
  | .els, i :: p => (st.1, { i with c := some [] } :: p)
  | .fin, [i] => (st.1 ++ [i.df k], [])
  | .fin, i :: j :: p => (st.1, j.add i.st :: p)
  | .pln s, i :: p => (st.1, i.add (s.at_ k) :: p)
  | _, [] => st
def nestGo : Int → Pg × List Opn → List Lin → Option (Pg × List Opn)
  | _, st, [] => some st
  | k, st, l :: t => if mayLn st.2 l = true then nestGo (k + 1) (nestStep k st l) t else none
theorem add_l {o : Opn} {s : Sm} : (o.add s).l = o.l ∧ (o.add s).line = o.line ∧ (o.add s).c.isSome = o.c.isSome := by
  unfold Opn.add
  cases h : o.c <;> simp [h]
theorem add_ok {o : Opn} {s : Sm} (h : o.ok) : (o.add s).ok := by
  unfold Opn.ok at *
  rw [add_l.1, add_l.2.2]
  exact h
theorem pile_hd {i j : Opn} {p : List Opn} (h : pileOk (i :: p)) (hl : j.l.isDef = i.l.isDef) (ok : j.ok) : pileOk (j :: p) := by
  cases p with
  | nil => exact ⟨ok, hl.trans h.2⟩
  | cons a t => exact ⟨ok, hl.trans h.2.1, h.2.2⟩
theorem pile_tl {i : Opn} {p : List Opn} (h : pileOk (i :: p)) : pileOk p := by
  cases p with
  | nil => trivial
  | cons a t => exact h.2.2
theorem pile_at {i : Opn} {p : List Opn} (h : pileOk (i :: p)) : i.ok := by
  cases p with
  | nil => exact h.1
  | cons a t => exact h.1
theorem step_ok {k : Int} {st : Pg × List Opn} {l : Lin} (h : pileOk st.2) (m : mayLn st.2 l = true) : pileOk (nestStep k st l).2 := by
  obtain ⟨pg, p⟩ := st
  cases l with
  | dff x ps =>
    cases p with
    | nil => exact ⟨⟨.inr (.inr rfl), fun q => by cases q⟩, rfl⟩
    | cons a t => exact absurd m (by unfold mayLn; simp)
  | iff e =>
    cases p with
    | nil => exact absurd m (by unfold mayLn; simp)
    | cons a t => exact ⟨⟨.inl rfl, fun q => by cases q⟩, rfl, h⟩
  | whl e =>
    cases p with
    | nil => exact absurd m (by unfold mayLn; simp)
    | cons a t => exact ⟨⟨.inr (.inl rfl), fun q => by cases q⟩, rfl, h⟩
  | els =>
    cases p with
    | nil => exact absurd m (by unfold mayLn; simp)
    | cons a t =>
      have m : (a.l.isIf && a.c.isNone) = true := m
      rw [Bool.and_eq_true] at m
      exact pile_hd (j := { a with c := some [] }) h rfl ⟨.inl m.1, fun _ => m.1⟩
  | fin =>
    cases p with
    | nil => exact h
    | cons a t =>
      cases t with
      | nil => exact trivial
      | cons b t => exact pile_hd (pile_tl h) (by rw [add_l.1]) (add_ok (pile_at (pile_tl h)))
  | pln s =>
    cases p with
    | nil => exact h
    | cons a t => exact pile_hd h (by rw [add_l.1]) (add_ok (pile_at h))
/-- short enough -/
structure smallP (n : Nat) (pg : Pg) (p : List Opn) : Prop where
  pg_ : pg.length ≤ n
  p_ : p.length ≤ n
  b_ : ∀ o ∈ p, o.b.length ≤ n
  c_ : ∀ o ∈ p, ∀ c, o.c = some c → c.length ≤ n
theorem small_add {n : Nat} {o : Opn} {s : Sm} (h1 : o.b.length ≤ n) (h2 : ∀ c, o.c = some c → c.length ≤ n) : (o.add s).b.length ≤ n + 1 ∧ ∀ c, (o.add s).c = some c → c.length ≤ n + 1 := by
  unfold Opn.add
  cases h : o.c with
  | none => exact ⟨by simp only [List.length_append, List.length_singleton]; omega, fun c q => by simp at q⟩
  | some c0 =>
    refine ⟨by show o.b.length ≤ n + 1; omega, fun c q => ?_⟩
    have q : some (c0 ++ [s]) = some c := q
    cases q
    have := h2 c0 h
    rw [List.length_append, List.length_singleton]
    omega
theorem step_small {k : Int} {n : Nat} {st : Pg × List Opn} {l : Lin} (h : smallP n st.1 st.2) : smallP (n + 1) (nestStep k st l).1 (nestStep k st l).2 := by
  obtain ⟨pg, p⟩ := st
  obtain ⟨h1, h2, h3, h4⟩ := h
  have old : smallP (n + 1) pg p := ⟨Nat.le_succ_of_le h1, Nat.le_succ_of_le h2, fun o ho => Nat.le_succ_of_le (h3 o ho), fun o ho c hc => Nat.le_succ_of_le (h4 o ho c hc)⟩
  have new : ∀ l : Lin, smallP (n + 1) pg (⟨k, l, [], none⟩ :: p) := fun l => by
    refine ⟨old.pg_, by simp only [List.length_cons]; exact Nat.succ_le_succ h2, fun o ho => ?_, fun o ho c hc => ?_⟩
    · rcases List.mem_cons.mp ho with rfl | ho
      · exact Nat.zero_le _
      · exact old.b_ o ho
    · rcases List.mem_cons.mp ho with rfl | ho
      · cases hc
      · exact old.c_ o ho c hc
  have hd : ∀ (i j : Opn) (t : List Opn), (∀ o ∈ t, o ∈ p) → t.length + 1 ≤ n + 1 → j.b.length ≤ n + 1 → (∀ c, j.c = some c → c.length ≤ n + 1) → smallP (n + 1) pg (j :: t) := fun i j t ht hl q1 q2 => by
    refine ⟨old.pg_, hl, fun o ho => ?_, fun o ho c hc => ?_⟩
    · rcases List.mem_cons.mp ho with rfl | ho
      · exact q1
      · exact old.b_ o (ht o ho)
    · rcases List.mem_cons.mp ho with rfl | ho
      · exact q2 c hc
      · exact old.c_ o (ht o ho) c hc
  cases l with
  | dff x ps => exact new _
  | iff e => exact new _
  | whl e => exact new _
  | els =>
    cases p with
    | nil => exact old
    | cons a t => exact hd a { a with c := some [] } t (fun o ho => List.mem_cons_of_mem _ ho) (by simp only [List.length_cons] at h2; omega) (old.b_ a (List.mem_cons_self ..)) (fun c q => by cases q; exact Nat.zero_le _)
  | fin =>
    cases p with
    | nil => exact old
    | cons a t =>
      cases t with
      | nil => exact ⟨by show (pg ++ [a.df k]).length ≤ n + 1; rw [List.length_append, List.length_singleton]; exact Nat.succ_le_succ h1, Nat.zero_le _, (fun o ho => by cases ho), (fun o ho => by cases ho)⟩
      | cons b t =>
        have sb := small_add (s := a.st) (h3 b (by simp)) (h4 b (by simp))
        exact hd b (b.add a.st) t (fun o ho => List.mem_cons_of_mem _ (List.mem_cons_of_mem _ ho)) (by simp only [List.length_cons] at h2; omega) sb.1 sb.2
  | pln s =>
    cases p with
    | nil => exact old
    | cons a t =>
      have sb := small_add (s := s.at_ k) (h3 a (by simp)) (h4 a (by simp))
      exact hd a (a.add (s.at_ k)) t (fun o ho => List.mem_cons_of_mem _ ho) (by simp only [List.length_cons] at h2; omega) sb.1 sb.2
/-! what is open, as cells -/
structure OA where
  s : Addr
  f : Addr
  g : Addr
  dx : Addr
  o : Opn
section
variable (C : Addr) (fl : List Str)
def OA.obj (a : OA) : MO := .obj C a.dx fl [.int a.o.line, a.o.l.d, .ref a.f, if a.o.c.isSome = true then .ref a.g else .non]
def OA.more (a : OA) : List (Addr × MO) := match a.o.c with
  | none => []
  | some c => [(a.g, .lst (stD c))]
def OA.cells (a : OA) : List (Addr × MO) := (a.s, a.obj C fl) :: (a.f, .lst (stD a.o.b)) :: a.more
end
def pileD (p : List OA) : List D := (p.map fun a => D.ref a.s).reverse
section
variable {C : Addr} {fl : List Str} {M0 M : MH}
theorem OA.init_ {a dx p : Addr} {k : Int} {l : Lin} (h : Cel M0 M [(a, .obj C dx fl [])]) (hp : mup M a (.obj C dx fl [.int k, l.d]) p = none) :
    Cel M0 (mup (mup (mup M a (.obj C dx fl [.int k, l.d])) p (.lst [])) a (.obj C dx fl [.int k, l.d, .ref p, .non])) (OA.cells C fl ⟨a, p, p, dx, ⟨k, l, [], none⟩⟩) := by
  have h1 : Cel M0 (mup M a (.obj C dx fl [.int k, l.d])) [(a, .obj C dx fl [.int k, l.d])] := Cel.put (pre := []) h
  have h2 := h1.fresh (o := .lst []) hp
  have h3 := Cel.put (o' := .obj C dx fl [.int k, l.d, .ref p, .non]) (pre := [(p, .lst [])]) (post := []) h2
  exact h3.perm (List.Perm.swap _ _ _)
end
theorem iff_d (e : Ex) : (Lin.iff e).d = .tup [.str "if", e.d] := rfl
theorem whl_d (e : Ex) : (Lin.whl e).d = .tup [.str "while", e.d] := rfl
theorem dff_d (x : Str) (ps : List Str) : (Lin.dff x ps).d = .tup [.str "def", .str x, .lst (ps.map .str)] := rfl
theorem pileD_len (p : List OA) : (pileD p).length = p.length := by unfold pileD; rw [List.length_reverse, List.length_map]
theorem pileD_in {a : OA} {p : List OA} : atI (pileD (a :: p)) (-1) = some (.ref a.s) := by
  unfold atI ixN
  rw [pileD_len, if_neg (by omega), if_pos (by rw [List.length_cons]; omega)]
  show (pileD (a :: p))[((-1 : Int) + ((a :: p).length : Nat)).toNat]? = _
  rw [show ((-1 : Int) + ((a :: p).length : Nat)).toNat = p.length by rw [List.length_cons]; omega]
  unfold pileD
  rw [List.map_cons, List.reverse_cons, List.getElem?_append_right (by rw [List.length_reverse, List.length_map]; exact Nat.le_refl _)]
  simp
theorem pileD_out {a : OA} {p : List OA} : atI (pileD (a :: p)) 0 = some (.ref ((a :: p).getLast (List.cons_ne_nil _ _)).s) := by
  have e : (pileD (a :: p))[0]? = some (.ref ((a :: p).getLast (List.cons_ne_nil _ _)).s) := by
    unfold pileD
    rw [← List.head?_eq_getElem?, List.head?_reverse, List.getLast?_map, List.getLast?_eq_some_getLast (List.cons_ne_nil _ _)]
    rfl
  exact atI_nat e
theorem pile_lowest : ∀ {p : List Opn} (h : p ≠ []), pileOk p → (p.getLast h).ok ∧ (p.getLast h).l.isDef = true
  | [o], _, k => k
  | o :: q :: t, _, k => by
    rw [List.getLast_cons (List.cons_ne_nil q t)]
    exact pile_lowest (List.cons_ne_nil q t) k.2.2
theorem pile_all : ∀ {p : List Opn}, pileOk p → ∀ o ∈ p, o.ok
  | [], _, o, ho => by cases ho
  | a :: t, k, o, ho => by
    rcases List.mem_cons.mp ho with rfl | ho
    · exact pile_at k
    · exact pile_all (pile_tl k) o ho
theorem getLast_o : ∀ {p : List OA} (h : p ≠ []), (p.getLast h).o = ((p.map (·.o)).getLast (by simpa using h))
  | [a], _ => rfl
  | a :: b :: t, _ => by
    rw [List.getLast_cons (List.cons_ne_nil b t)]
    exact getLast_o (List.cons_ne_nil b t)
/-- the word that a def, if or while begins with -/
theorem head_word {o : Opn} (h : o.ok) : ∃ w r, o.l.d = .tup (.str w :: r) ∧ decide (w = ("while" : Str)) = o.l.isWhl ∧ decide (w = ("if" : Str)) = o.l.isIf := by
  obtain ⟨k, l, b, c⟩ := o
  cases l with
  | dff x ps => exact ⟨"def", _, rfl, (show decide (("def" : Str) = "while") = false by decide +kernel), (show decide (("def" : Str) = "if") = false by decide +kernel)⟩
  | iff e => exact ⟨"if", _, rfl, (show decide (("if" : Str) = "while") = false by decide +kernel), (show decide (("if" : Str) = "if") = true by decide +kernel)⟩
  | whl e => exact ⟨"while", _, rfl, (show decide (("while" : Str) = "while") = true by decide +kernel), (show decide (("while" : Str) = "if") = false by decide +kernel)⟩
  | els => rcases h.1 with q | q | q <;> cases q
  | fin => rcases h.1 with q | q | q <;> cases q
  | pln s => rcases h.1 with q | q | q <;> cases q
theorem def_name {l : Lin} (h : l.isDef = true) : ∃ ps : List Str, l.d = .tup [.str "def", .str l.name, .lst (ps.map .str)] := by
  cases l with
  | dff x ps => exact ⟨ps, rfl⟩
  | _ => cases h
/-! the pile and the program, as cells -/
def nestC (C : Addr) (fl : List Str) (pr q : Addr) (done : Pg) (p : List OA) : List (Addr × MO) := (pr, .lst (pgD done)) :: (q, .lst (pileD p)) :: p.flatMap (OA.cells C fl)
def Opn.cur (o : Opn) : List Sm := match o.c with
  | none => o.b
  | some c => c
def OA.top (a : OA) : Addr := if a.o.c.isSome = true then a.g else a.f
section
variable {C : Addr} {fl : List Str} {M0 M : MH} {pre post : List (Addr × MO)} {a : OA}
theorem OA.s_ (h : Cel M0 M (pre ++ (a.cells C fl ++ post))) : M a.s = some (a.obj C fl) := h.at_ (a.s, a.obj C fl) (by unfold OA.cells; simp)
theorem OA.top_ (h : Cel M0 M (pre ++ (a.cells C fl ++ post))) : M a.top = some (.lst (stD a.o.cur)) := by
  refine h.at_ (a.top, .lst (stD a.o.cur)) (List.mem_append_right _ (List.mem_append_left _ ?_))
  unfold OA.cells OA.more OA.top Opn.cur
  cases a.o.c with
  | none => simp
  | some c => simp
theorem OA.put_ {s : Sm} (h : Cel M0 M (pre ++ (a.cells C fl ++ post))) : Cel M0 (mup M a.top (.lst (stD a.o.cur ++ [s.d]))) (pre ++ (({ a with o := a.o.add s } : OA).cells C fl ++ post)) := by
  obtain ⟨s0, f, g, dx, ⟨k, l, b, c⟩⟩ := a
  have e : ∀ x : List Sm, stD x ++ [s.d] = stD (x ++ [s]) := fun x => by rw [stD_app]; rfl
  cases c with
  | none =>
    have h1 : Cel M0 M ((pre ++ [(s0, .obj C dx fl [.int k, l.d, .ref f, .non])]) ++ (f, .lst (stD b)) :: post) := by
      rw [List.append_assoc]; exact h
    have h2 := Cel.put (o' := .lst (stD b ++ [s.d])) h1
    rw [List.append_assoc, e] at h2
    show Cel M0 (mup M f (.lst (stD b ++ [s.d]))) _
    rw [e]
    exact h2
  | some c =>
    have h1 : Cel M0 M ((pre ++ [(s0, .obj C dx fl [.int k, l.d, .ref f, .ref g]), (f, .lst (stD b))]) ++ (g, .lst (stD c)) :: post) := by
      rw [List.append_assoc]; exact h
    have h2 := Cel.put (o' := .lst (stD c ++ [s.d])) h1
    rw [List.append_assoc, e] at h2
    show Cel M0 (mup M g (.lst (stD c ++ [s.d]))) _
    rw [e]
    exact h2
end
theorem pileD_cons (a : OA) (p : List OA) : pileD (a :: p) = pileD p ++ [.ref a.s] := by unfold pileD; rw [List.map_cons, List.reverse_cons]
theorem nestGo_cons {k : Int} {st : Pg × List Opn} {l : Lin} {t : List Lin} : nestGo k st (l :: t) = if mayLn st.2 l = true then nestGo (k + 1) (nestStep k st l) t else none := rfl
theorem nestGo_app : ∀ {ys : List Lin} {k : Int} {st : Pg × List Opn} {l : Lin}, nestGo k st (ys ++ [l]) = (nestGo k st ys).bind fun st1 => if mayLn st1.2 l = true then some (nestStep (k + (ys.length : Nat)) st1 l) else none
  | [], k, st, l => by
    show (if mayLn st.2 l = true then nestGo (k + 1) (nestStep k st l) [] else none) = _
    simp only [nestGo, Option.bind_some, List.length_nil]
    rw [show k + ((0 : Nat) : Int) = k by omega]
  | y :: t, k, st, l => by
    rw [List.cons_append]
    unfold nestGo
    split
    · rw [nestGo_app (ys := t), List.length_cons, show k + ((t.length + 1 : Nat) : Int) = k + 1 + (t.length : Int) by omega]
    · rfl
theorem nestGo_pre : ∀ {ys zs : List Lin} {k : Int} {st r : Pg × List Opn}, nestGo k st (ys ++ zs) = some r → ∃ st1, nestGo k st ys = some st1 ∧ nestGo (k + (ys.length : Nat)) st1 zs = some r
  | [], zs, k, st, r, h => ⟨st, rfl, by rw [show k + (([] : List Lin).length : Int) = k by simp]; exact h⟩
  | y :: t, zs, k, st, r, h => by
    rw [List.cons_append, nestGo_cons] at h
    rw [nestGo_cons]
    split at h
    · rename_i hm
      rw [if_pos hm]
      obtain ⟨st1, h1, h2⟩ := nestGo_pre (ys := t) h
      exact ⟨st1, h1, by rw [List.length_cons, show k + ((t.length + 1 : Nat) : Int) = k + 1 + (t.length : Int) by omega]; exact h2⟩
    · cases h
theorem nest_turn {ls : List Lin} {i : Nat} {l : Lin} {r : Pg × List Opn} (h : nestGo 1 ([], []) ls = some r) (hi : ls[i]? = some l) {st : Pg × List Opn} (hs : nestGo 1 ([], []) (ls.take i) = some st) :
    mayLn st.2 l = true ∧ nestGo 1 ([], []) (ls.take (i + 1)) = some (nestStep (1 + (i : Nat)) st l) := by
  have hlt : i < ls.length := (List.getElem?_eq_some_iff.mp hi).1
  have et : ls.take (i + 1) = ls.take i ++ [l] := by rw [List.take_add_one, hi]; rfl
  have h2 := h
  rw [← List.take_append_drop (i + 1) ls] at h2
  obtain ⟨st1, h3, _⟩ := nestGo_pre h2
  rw [et, nestGo_app, hs] at h3 ⊢
  simp only [Option.bind_some] at h3 ⊢
  split at h3
  · rename_i hm
    refine ⟨hm, ?_⟩
    rw [if_pos hm, List.length_take, Nat.min_eq_left (Nat.le_of_lt hlt)]
  · cases h3
end Tl
set_option maxHeartbeats 2000000
namespace Tl
open PySem PySem.Spec PyProof.Rows L2
/-! ### names of defs and their calls -/
def roomsD (pg : Pg) : List (Key × D) := pg.map fun o => ((.inr o.name : Key), D.int (o.ps.length : Nat))
def roomOf (pg : Pg) (f : Str) : Option Nat := (pg.find? fun o => decide (o.name = f)).map fun o => o.ps.length
structure namesOk (pg : Pg) : Prop where
  nd : (pg.map (·.name)).Nodup
  ps_ : ∀ o ∈ pg, o.ps.Nodup ∧ o.ps.length ≤ 100
  main : roomOf pg "main" = some 0
  calls : ∀ o ∈ pg, ∀ l x f es, Sm.call l x f es ∈ allBd o.body → f ≠ "main" ∧ roomOf pg f = some es.length
theorem rooms_val : ∀ {pg : Pg} {f : Str}, valD (roomsD pg) (.inr f) = (roomOf pg f).map fun n => D.int (n : Nat)
  | [], f => rfl
  | o :: t, f => by
    unfold roomsD roomOf
    rw [List.map_cons, List.find?_cons]
    by_cases e : o.name = f
    · rw [valD_pos (by rw [e]), decide_eq_true e]
      rfl
    · rw [valD_neg (fun q => e (Sum.inr.inj q)), decide_eq_false e]
      exact rooms_val (pg := t)
theorem room_none {pg : Pg} {f : Str} (h : f ∉ pg.map (·.name)) : roomOf pg f = none := by
  unfold roomOf
  rw [Option.map_eq_none_iff, List.find?_eq_none]
  intro o ho q
  exact h (List.mem_map.mpr ⟨o, ho, by simpa using q⟩)
theorem rooms_put {pg : Pg} {o : Df} (h : o.name ∉ pg.map (·.name)) : putM (roomsD pg) (.inr o.name) (.int (o.ps.length : Nat)) = roomsD (pg ++ [o]) := by
  have hv : valD (roomsD pg) (.inr o.name) = none := by rw [rooms_val, room_none h]; rfl
  unfold putM
  rw [if_neg]
  · unfold roomsD
    rw [List.map_append]
    rfl
  · rw [Bool.not_eq_true, List.any_eq_false]
    unfold valD at hv
    rw [Option.map_eq_none_iff, List.find?_eq_none] at hv
    exact hv
end Tl
set_option maxHeartbeats 2000000
namespace Tl
open PySem PySem.Spec PyProof.Rows L2
/-! ### lines of a text -/
def lineEnd : Str := "\n"
theorem join_free {s : Nat} (hs : s ∉ cds blank) : ∀ {ws : List Str}, (∀ w ∈ ws, s ∉ cds w) → s ∉ cds (Txt.join blank ws)
  | [], _ => by rw [join_eq]; exact fun q => by cases q
  | w :: t, h => by
    have i1 := join_free hs (ws := t) fun x hx => h x (List.mem_cons_of_mem _ hx)
    by_cases ht : t = []
    · subst ht
      rw [tjoin_one]
      exact h w (List.mem_cons_self ..)
    · rw [join_cons ht, cds_app, cds_app]
      intro q
      rcases List.mem_append.mp q with q | q
      · rcases List.mem_append.mp q with q | q
        · exact h w (List.mem_cons_self ..) q
        · exact hs q
      · exact i1 q
theorem line_free {l : Lin} (h : l.ok) : 10 ∉ cds l.txt := join_free (by decide +kernel) fun w hw => ((lin_wd h).1 w hw).2.2
theorem split_lines {ls : List Lin} (hne : ls ≠ []) (h : ∀ l ∈ ls, l.ok) : Txt.split (Txt.join lineEnd (ls.map Lin.txt)) lineEnd = ls.map Lin.txt :=
  TL.split_join (y := lineEnd) (s := 10) (S := []) (by decide +kernel) (by decide +kernel) (by simpa using hne) fun p hp => by
    obtain ⟨l, hl, rfl⟩ := List.mem_map.mp hp
    exact line_free (h l hl)
theorem joinL_len (ws : List Str) : (Txt.join lineEnd ws).length ≤ (ws.map (·.length)).sum + ws.length := by
  rw [TL.join_eq]
  have := StrLaws.join_length_le lineEnd ws
  have h1 : lineEnd.length = 1 := by decide +kernel
  rw [h1] at this
  omega
theorem text_len {ls : List Lin} (h : ∀ l ∈ ls, l.ok) : (Txt.join lineEnd (ls.map Lin.txt)).length ≤ 10001 * ls.length := by
  have h1 := joinL_len (ls.map Lin.txt)
  have h2 := sum_le_mul (k := 10000) (ws := ls.map Lin.txt) fun w hw => by
    obtain ⟨l, hl, rfl⟩ := List.mem_map.mp hw
    exact lin_len (h l hl)
  rw [List.length_map] at h1 h2
  omega
end Tl
set_option maxHeartbeats 2000000
namespace Tl
open PySem PySem.Spec PyProof.Rows L2
/-! ### {"a": 1, ..} -/
def tDispC (kvs : List (Str × Int)) : TEt := fun _ M Q => ∀ p, M p = none → Q (.ref p) (mup M p (.dK (kvs.map fun q => ((.inr q.1 : Key), D.int q.2))))
section
variable {X : Cx} {E : XK} {Et : XT} {pos : Pos}
theorem uDispC {kvs : List (Str × Int)} {τ : Sg} {M : MH} {Q : VD} : tDispC kvs τ M Q = ∀ p, M p = none → Q (.ref p) (mup M p (.dK (kvs.map fun q => ((.inr q.1 : Key), D.int q.2)))) := propext Iff.rfl
end
/-! ### mirrors of the builder of the law k24 -/
def mixG (c : Int) (k : Nat) : Int := (c * 48271 + (k : Int) * k * 7919 + 101) % 2147483647 * ((c * 48271 + (k : Int) * k * 7919 + 101) % 2147483647) % 2147483629
/-! the rows by its own hand -/
section
variable (ss : List Str) (bg : Str → Int) (last : Int)
def Lin.exs : Lin → List Ex
  | .iff e => [e]
  | .whl e => [e]
  | .pln s => s.exprs
  | _ => []
variable (begin_ line : Int)
end
end Tl
set_option maxHeartbeats 2000000
namespace Tl
open PySem PySem.Spec PyProof.Rows L2
/-! ### rows with all their targets -/
def exN : Ex → Nat
  | .box e => exN e + 1
  | .op _ a b => exN a + exN b + 1
  | _ => 1
def exsN : List Ex → Nat
  | [] => 0
  | e :: t => exN e + exsN t
theorem exRows_n {ss : List Str} {l : Int} : ∀ {e : Ex} {a : Int}, (exRows ss l e a).length = exN e
  | .num _, _ => rfl | .nam _, _ => rfl | .lane, _ => rfl | .lanes, _ => rfl | .mine, _ => rfl
  | .box e, a => by unfold exRows exN; rw [List.length_append, exRows_n]; rfl
  | .op w x y, a => by unfold exRows exN; rw [List.length_append, List.length_append, exRows_n, exRows_n]; rfl
theorem exsRows_n {ss : List Str} {l : Int} : ∀ {es : List Ex} {a : Int}, (exsRows ss l es a).length = exsN es
  | [], _ => rfl
  | e :: t, a => by unfold exsRows exsN; rw [List.length_append, exRows_n, exsRows_n]
mutual
def szS : Sm → Nat
  | .if1 _ e b => exN e + 1 + szB b
  | .if2 _ e b c => exN e + 1 + szB b + 1 + szB c
  | .whl _ e b => exN e + 1 + szB b + 1
  | .brk _ => 1
  | .agn _ => 1
  | .ret _ e => exN e + 2
  | .call _ _ _ es => exsN es + 1
  | s => exsN s.exprs + 1
def szB : List Sm → Nat
  | [] => 0
  | s :: t => 1 + szS s + szB t
end
section
variable (ss : List Str) (fr : Int) (bg : Str → Int) (last : Int)
mutual
def rS (lb : Nat) (le : Int) (pos : Nat) : Sm → List Rw
  | .if1 l e b => exRows ss l e fr ++ [.split l fr (pos + exN e + 1 + szB b : Nat)] ++ rB lb le (pos + exN e + 1) b
  | .if2 l e b c => exRows ss l e fr ++ [.split l fr (pos + exN e + 1 + szB b + 1 : Nat)] ++ rB lb le (pos + exN e + 1) b ++ [.jump l (pos + exN e + 1 + szB b + 1 + szB c : Nat)] ++ rB lb le (pos + exN e + 1 + szB b + 1) c
  | .whl l e b => exRows ss l e fr ++ [.split l fr (pos + exN e + 1 + szB b + 1 : Nat)] ++ rB (pos - 1) (pos + exN e + 1 + szB b + 1 : Nat) (pos + exN e + 1) b ++ [.jump l (pos - 1 : Nat)]
  | .brk l => [.jump l le]
  | .agn l => [.jump l (lb : Nat)]
  | .ret l e => exRows ss l e fr ++ [.copy l 0 fr, .jump l last]
  | .call l x f es => exsRows ss l es fr ++ [.call l (slotOf ss x) fr es.length (bg f)]
  | s => exsRows ss s.line s.exprs fr ++ [lastRow ss fr s]
def rB (lb : Nat) (le : Int) (pos : Nat) : List Sm → List Rw
  | [] => []
  | s :: t => .tick s.line :: rS lb le (pos + 1) s ++ rB lb le (pos + 1 + szS s) t
end
mutual
theorem rS_len (lb : Nat) (le : Int) (pos : Nat) : ∀ s : Sm, (rS ss fr bg last lb le pos s).length = szS s
  | .if1 l e b => by
    unfold rS szS
    simp only [List.length_append, List.length_cons, List.length_nil, exRows_n, rB_len _ _ _ b]
  | .if2 l e b c => by
    unfold rS szS
    simp only [List.length_append, List.length_cons, List.length_nil, exRows_n, rB_len _ _ _ b, rB_len _ _ _ c]
  | .whl l e b => by
    unfold rS szS
    simp only [List.length_append, List.length_cons, List.length_nil, exRows_n, rB_len _ _ _ b]
  | .brk l => by unfold rS szS; rfl
  | .agn l => by unfold rS szS; rfl
  | .ret l e => by unfold rS szS; simp only [List.length_append, List.length_cons, List.length_nil, exRows_n]
  | .call l x f es => by unfold rS szS; simp only [List.length_append, List.length_cons, List.length_nil, exsRows_n]
  | .set l x e => by unfold rS szS; simp only [List.length_append, List.length_cons, List.length_nil, exsRows_n]
  | .put l a b => by unfold rS szS; simp only [List.length_append, List.length_cons, List.length_nil, exsRows_n]
  | .tell l e => by unfold rS szS; simp only [List.length_append, List.length_cons, List.length_nil, exsRows_n]
  | .join l x w e => by unfold rS szS; simp only [List.length_append, List.length_cons, List.length_nil, exsRows_n]
  | .meet l => by unfold rS szS; simp only [List.length_append, List.length_cons, List.length_nil, exsRows_n]
  | .stop l => by unfold rS szS; simp only [List.length_append, List.length_cons, List.length_nil, exsRows_n]
theorem rB_len (lb : Nat) (le : Int) (pos : Nat) : ∀ b : List Sm, (rB ss fr bg last lb le pos b).length = szB b
  | [] => by unfold rB szB; rfl
  | s :: t => by
    unfold rB szB
    rw [List.length_append, List.length_cons, rS_len _ _ _ s, rB_len _ _ _ t]
    omega
end
end
/-! rows whose targets are put later -/
theorem lead_lead {r : Rw} {t u : Int} : (r.lead t).lead u = r.lead u := by cases r <;> rfl
theorem leadAt_get {rows : List Rw} {k j : Nat} {t : Int} : (leadAt rows k t)[j]? = if k = j then (rows[j]?).map (Rw.lead t) else rows[j]? := by
  unfold leadAt
  rw [List.getElem?_modify]
  by_cases e : k = j
  · simp [e]
  · simp [e]
structure FinR (rows R : List Rw) (ps : List (Nat × Int)) : Prop where
  len : R.length = rows.length
  yes : ∀ k t, (k, t) ∈ ps → k < rows.length ∧ ∀ r, rows[k]? = some r → R[k]? = some (r.lead t)
  no : ∀ k, (∀ t, (k, t) ∉ ps) → R[k]? = rows[k]?
namespace FinR
variable {rows R : List Rw} {ps qs : List (Nat × Int)}
theorem add (h : FinR rows R ps) (rs : List Rw) : FinR (rows ++ rs) (R ++ rs) ps := by
  refine ⟨by rw [List.length_append, List.length_append, h.len], fun k t hk => ?_, fun k hk => ?_⟩
  · obtain ⟨h1, h2⟩ := h.yes k t hk
    refine ⟨by rw [List.length_append]; omega, fun r hr => ?_⟩
    rw [List.getElem?_append_left h1] at hr
    rw [List.getElem?_append_left (by rw [h.len]; exact h1)]
    exact h2 r hr
  · by_cases hl : k < rows.length
    · rw [List.getElem?_append_left hl, List.getElem?_append_left (by rw [h.len]; exact hl)]
      exact h.no k hk
    · rw [List.getElem?_append_right (by rw [h.len]; omega), List.getElem?_append_right (by omega), h.len]
theorem mem (h : FinR rows R ps) (e : ∀ x, x ∈ qs ↔ x ∈ ps) : FinR rows R qs := ⟨h.len, fun k t hk => h.yes k t ((e _).mp hk), fun k hk => h.no k fun t ht => hk t ((e _).mpr ht)⟩
theorem more (h : FinR rows R ps) (r : Rw) (t : Int) : FinR (rows ++ [r]) (R ++ [r.lead t]) (ps ++ [(rows.length, t)]) := by
  refine ⟨by rw [List.length_append, List.length_append, h.len]; rfl, fun k u hk => ?_, fun k hk => ?_⟩
  · rcases List.mem_append.mp hk with hk | hk
    · obtain ⟨h1, h2⟩ := h.yes k u hk
      refine ⟨by rw [List.length_append]; omega, fun r hr => ?_⟩
      rw [List.getElem?_append_left h1] at hr
      rw [List.getElem?_append_left (by rw [h.len]; exact h1)]
      exact h2 r hr
    · obtain ⟨rfl, rfl⟩ := Prod.mk.inj (List.mem_singleton.mp hk)
      refine ⟨by rw [List.length_append]; exact Nat.lt_succ_self _, fun r2 hr => ?_⟩
      rw [List.getElem?_concat_length] at hr
      rw [← h.len, List.getElem?_concat_length]
      cases hr
      rfl
  · have hne : k ≠ rows.length := fun e => hk t (by rw [e]; simp)
    by_cases hl : k < rows.length
    · rw [List.getElem?_append_left hl, List.getElem?_append_left (by rw [h.len]; exact hl)]
      exact h.no k fun u hu => hk u (List.mem_append_left _ hu)
    · rw [List.getElem?_eq_none (by rw [List.length_append, List.length_singleton, h.len]; omega), List.getElem?_eq_none (by rw [List.length_append, List.length_singleton]; omega)]
theorem lead (h : FinR rows R ps) {k : Nat} {T : Int} (hk : ∀ t, (k, t) ∉ ps) : FinR (leadAt rows k T) (leadAt R k T) ps := by
  refine ⟨by rw [leadAt_len, leadAt_len, h.len], fun j u hj => ?_, fun j hj => ?_⟩
  · have hne : ¬ k = j := fun e => hk u (by rw [e]; exact hj)
    obtain ⟨h1, h2⟩ := h.yes j u hj
    refine ⟨by rw [leadAt_len]; exact h1, fun r hr => ?_⟩
    rw [leadAt_get, if_neg hne] at hr ⊢
    exact h2 r hr
  · rw [leadAt_get, leadAt_get, h.no j hj]
theorem done1 {k : Nat} {t : Int} (h : FinR rows R ((k, t) :: ps)) : FinR (leadAt rows k t) R ps := by
  refine ⟨by rw [leadAt_len, h.len], fun j u hj => ?_, fun j hj => ?_⟩
  · obtain ⟨h1, h2⟩ := h.yes j u (List.mem_cons_of_mem _ hj)
    refine ⟨by rw [leadAt_len]; exact h1, fun r hr => ?_⟩
    rw [leadAt_get] at hr
    by_cases e : k = j
    · rw [if_pos e] at hr
      obtain ⟨r0, hr0, rfl⟩ := Option.map_eq_some_iff.mp hr
      rw [lead_lead]
      exact h2 r0 hr0
    · rw [if_neg e] at hr
      exact h2 r hr
  · rw [leadAt_get]
    by_cases e : k = j
    · subst e
      rw [if_pos rfl]
      obtain ⟨h1, h2⟩ := h.yes k t (List.mem_cons_self ..)
      rw [h2 _ (List.getElem?_eq_getElem h1), List.getElem?_eq_getElem h1]
      rfl
    · rw [if_neg e]
      exact h.no j fun u hu => by
        rcases List.mem_cons.mp hu with hu | hu
        · exact e (Prod.mk.inj hu).1.symm
        · exact hj u hu
theorem dones : ∀ {qs : List (Nat × Int)} {rows : List Rw}, FinR rows R (qs ++ ps) → FinR (qs.foldl (fun r p => leadAt r p.1 p.2) rows) R ps
  | [], _, h => h
  | (k, t) :: qs, _, h => dones (qs := qs) (done1 h)
theorem eq (h : FinR rows R []) : R = rows := List.ext_getElem? fun k => h.no k fun t ht => by cases ht
end FinR
theorem leadsT : ∀ {ks : List Nat} {rows : List Rw}, ks.foldl (fun rs k => leadAt rs k rs.length) rows = (ks.map fun k => (k, (rows.length : Int))).foldl (fun r p => leadAt r p.1 p.2) rows
  | [], _ => rfl
  | k :: t, rows => by
    rw [List.foldl_cons, List.map_cons, List.foldl_cons, leadsT]
    dsimp only
    rw [leadAt_len]
/-! what waits, with what it will be led to -/
def zl : List (Nat × List Nat) → List Int → List (Nat × Int)
  | (_, lv) :: r, e :: es => (lv.map fun k => (k, e)) ++ zl r es
  | _, _ => []
theorem zl_cons {b : Nat} {lv : List Nat} {r : List (Nat × List Nat)} {e : Int} {es : List Int} : zl ((b, lv) :: r) (e :: es) = (lv.map fun k => (k, e)) ++ zl r es := rfl
def pnd (bg : Str → Int) (last : Int) (m : Mk) (ends : List Int) : List (Nat × Int) := (m.calls.map fun c => (c.1, bg c.2)) ++ (m.leaves.map fun k => (k, last)) ++ zl m.loops ends
section
variable (ss : List Str) (fr : Int) (bg : Str → Int) (last : Int)
/-- what a statement or block makes of a maker -/
structure FinM (m m' : Mk) (ends : List Int) (R' : List Rw) : Prop where
  fin : FinR m'.rows R' (pnd bg last m' ends)
  old : ∀ x ∈ pnd bg last m' ends, x ∈ pnd bg last m ends ∨ m.rows.length ≤ x.1
  lps : m'.loops.map (·.1) = m.loops.map (·.1)
theorem pnd_lt {m : Mk} {ends : List Int} {R : List Rw} (h : FinR m.rows R (pnd bg last m ends)) {k : Nat} (hk : m.rows.length ≤ k) (t : Int) : (k, t) ∉ pnd bg last m ends := fun q => by
  have := (h.yes k t q).1
  omega
theorem lps_len {m m' : Mk} (h : m'.loops.map (·.1) = m.loops.map (·.1)) : m'.loops.length = m.loops.length := by
  rw [← List.length_map (f := (·.1)), h, List.length_map]
theorem lps_hd {m m' : Mk} {b : Nat} {lv : List Nat} {r : List (Nat × List Nat)} (h : m'.loops.map (·.1) = m.loops.map (·.1)) (e : m.loops = (b, lv) :: r) : ∃ lv' r', m'.loops = (b, lv') :: r' := by
  rw [e] at h
  cases hm : m'.loops with
  | nil => rw [hm] at h; cases h
  | cons p r' =>
    obtain ⟨b', lv'⟩ := p
    rw [hm] at h
    obtain ⟨h1, _⟩ := List.cons.inj h
    exact ⟨lv', r', by rw [show b' = b from h1]⟩
theorem FinM.trans {a b c : Mk} {ends : List Int} {R' R'' : List Rw} (hl : a.rows.length ≤ b.rows.length) (h : FinM bg last a b ends R') (g : FinM bg last b c ends R'') : FinM bg last a c ends R'' :=
  ⟨g.fin, fun x hx => (g.old x hx).elim (fun q => h.old x q) fun q => .inr (Nat.le_trans hl q), g.lps.trans h.lps⟩
theorem FinM.add {m : Mk} {ends : List Int} {R : List Rw} (h : FinR m.rows R (pnd bg last m ends)) (rs : List Rw) : FinM bg last m (m.add rs) ends (R ++ rs) := ⟨h.add rs, fun x hx => .inl hx, rfl⟩
theorem FinM.one {m : Mk} {ends : List Int} {R : List Rw} {s : Sm} (h : FinR m.rows R (pnd bg last m ends)) (e : mkS ss fr m s = m.add (exsRows ss s.line s.exprs fr ++ [lastRow ss fr s])) (e2 : ∀ lb le pos, rS ss fr bg last lb le pos s = exsRows ss s.line s.exprs fr ++ [lastRow ss fr s]) {lb : Nat} {le : Int} :
    FinM bg last m (mkS ss fr m s) ends (R ++ rS ss fr bg last lb le m.rows.length s) := by
  rw [e, e2]
  exact FinM.add bg last h _
theorem leadAt_mid {A B : List Rw} {x : Rw} {k : Nat} {t : Int} (h : k = A.length) : leadAt (A ++ x :: B) k t = A ++ x.lead t :: B := by
  subst h
  apply List.ext_getElem?
  intro j
  rw [leadAt_get]
  by_cases e : A.length = j
  · subst e
    rw [if_pos rfl, List.getElem?_append_right (Nat.le_refl _), List.getElem?_append_right (Nat.le_refl _), Nat.sub_self]
    rfl
  · rw [if_neg e]
    by_cases hl : j < A.length
    · rw [List.getElem?_append_left hl, List.getElem?_append_left hl]
    · obtain ⟨d, hd⟩ : ∃ d, j - A.length = d + 1 := ⟨j - A.length - 1, by omega⟩
      rw [List.getElem?_append_right (by omega), List.getElem?_append_right (by omega), hd]
      rfl
theorem FinM.lead {m m' : Mk} {ends : List Int} {R' : List Rw} {k : Nat} (h : FinM bg last m m' ends R') (hk : ∀ t, (k, t) ∉ pnd bg last m' ends) : FinM bg last m (m'.lead k) ends (leadAt R' k m'.rows.length) := ⟨h.fin.lead hk, h.old, h.lps⟩
mutual
theorem fin_S {lp : Prop} : ∀ (s : Sm) {m : Mk} {ends : List Int} {R : List Rw} {lb : Nat} {le : Int}, FinR m.rows R (pnd bg last m ends) → m.loops.length = ends.length → inLp lp s → (lp → (∃ lv r, m.loops = (lb, lv) :: r) ∧ ∃ es, ends = le :: es) →
    FinM bg last m (mkS ss fr m s) ends (R ++ rS ss fr bg last lb le m.rows.length s)
  | .if1 l e b, m, ends, R, lb, le, h, hl, hi, hp => by
    unfold mkS rS
    dsimp only
    have h1 := FinM.add bg last h (exRows ss l e fr ++ [.split l fr 0])
    have hlen : (m.add (exRows ss l e fr ++ [.split l fr 0])).rows.length = m.rows.length + exN e + 1 := by rw [add_rows, List.length_append, exRows_n]; rfl
    have hlp : (m.add (exRows ss l e fr ++ [.split l fr 0])).loops = m.loops := rfl
    have hpn : pnd bg last (m.add (exRows ss l e fr ++ [.split l fr 0])) ends = pnd bg last m ends := rfl
    generalize m.add (exRows ss l e fr ++ [.split l fr 0]) = m1 at h1 hlen hlp hpn ⊢
    have h2 := fin_B (lp := lp) b (m := m1) (lb := lb) (le := le) h1.fin (by rw [hlp]; exact hl) (by unfold inLp at hi; exact hi) (fun q => by rw [hlp]; exact hp q)
    have hl2 := (mkB_keeps ss fr b m1).ext.len
    have hb := h2.fin.len
    rw [List.length_append, rB_len, h1.fin.len] at hb
    generalize mkB ss fr m1 b = m2 at h2 hl2 hb ⊢
    have hk : ∀ t, (m1.rows.length - 1, t) ∉ pnd bg last m2 ends := fun t q => by
      rcases h2.old _ q with q | q
      · rw [hpn] at q
        exact pnd_lt bg last h (k := m1.rows.length - 1) (by omega) t q
      · dsimp only at q
        omega
    have h3 := FinM.lead bg last (FinM.trans bg last (by omega) h1 h2) hk
    have e : leadAt (R ++ (exRows ss l e fr ++ [Rw.split l fr 0]) ++ rB ss fr bg last lb le m1.rows.length b) (m1.rows.length - 1) m2.rows.length = R ++ (exRows ss l e fr ++ [Rw.split l fr (m.rows.length + exN e + 1 + szB b : Nat)] ++ rB ss fr bg last lb le (m.rows.length + exN e + 1) b) := by
      rw [show R ++ (exRows ss l e fr ++ [Rw.split l fr 0]) ++ rB ss fr bg last lb le m1.rows.length b = (R ++ exRows ss l e fr) ++ Rw.split l fr 0 :: rB ss fr bg last lb le m1.rows.length b by simp only [List.append_assoc, List.cons_append, List.nil_append],
        leadAt_mid (by rw [List.length_append, exRows_n, h.len]; omega), ← hb, hlen]
      simp only [List.append_assoc, List.cons_append, List.nil_append]
      rfl
    rw [e] at h3
    exact h3
  | .if2 l e b c, m, ends, R, lb, le, h, hl, hi, hp => by
    unfold mkS rS
    dsimp only
    unfold inLp at hi
    have h1 := FinM.add bg last h (exRows ss l e fr ++ [.split l fr 0])
    have hlen : (m.add (exRows ss l e fr ++ [.split l fr 0])).rows.length = m.rows.length + exN e + 1 := by rw [add_rows, List.length_append, exRows_n]; rfl
    have hlp : (m.add (exRows ss l e fr ++ [.split l fr 0])).loops = m.loops := rfl
    have hpn : pnd bg last (m.add (exRows ss l e fr ++ [.split l fr 0])) ends = pnd bg last m ends := rfl
    generalize m.add (exRows ss l e fr ++ [.split l fr 0]) = m1 at h1 hlen hlp hpn ⊢
    have h2 := fin_B (lp := lp) b (m := m1) (lb := lb) (le := le) h1.fin (by rw [hlp]; exact hl) hi.1 (fun q => by rw [hlp]; exact hp q)
    have hl2 := (mkB_keeps ss fr b m1).ext.len
    have hb := h2.fin.len
    rw [List.length_append, rB_len, h1.fin.len] at hb
    generalize mkB ss fr m1 b = m2 at h2 hl2 hb ⊢
    have hk : ∀ t, (m1.rows.length - 1, t) ∉ pnd bg last m2 ends := fun t q => by
      rcases h2.old _ q with q | q
      · rw [hpn] at q
        exact pnd_lt bg last h (k := m1.rows.length - 1) (by omega) t q
      · dsimp only at q
        omega
    have h12 := FinM.trans bg last (by omega) h1 h2
    have h3 := FinM.trans bg last (by omega) h12 (FinM.add bg last h12.fin [.jump l 0])
    have hlen3 : (m2.add [.jump l 0]).rows.length = m2.rows.length + 1 := by rw [add_rows]; rfl
    have hpn3 : pnd bg last (m2.add [.jump l 0]) ends = pnd bg last m2 ends := rfl
    generalize m2.add [.jump l 0] = m3 at h3 hlen3 hpn3 ⊢
    have h4 := FinM.lead bg last h3 (k := m1.rows.length - 1) (by rw [hpn3]; exact hk)
    have hlen4 : (m3.lead (m1.rows.length - 1)).rows.length = m3.rows.length := lead_len
    have hpn4 : pnd bg last (m3.lead (m1.rows.length - 1)) ends = pnd bg last m3 ends := rfl
    generalize m3.lead (m1.rows.length - 1) = m4 at h4 hlen4 hpn4 ⊢
    have h5 := fin_B (lp := lp) c (m := m4) (lb := lb) (le := le) h4.fin (by rw [lps_len h4.lps]; exact hl) hi.2 (fun q => by
      obtain ⟨⟨lv, r, e1⟩, e2⟩ := hp q
      exact ⟨lps_hd h4.lps e1, e2⟩)
    have hl5 := (mkB_keeps ss fr c m4).ext.len
    have hb5 := h5.fin.len
    rw [List.length_append, rB_len, h4.fin.len] at hb5
    generalize mkB ss fr m4 c = m5 at h5 hl5 hb5 ⊢
    have hk5 : ∀ t, (m3.rows.length - 1, t) ∉ pnd bg last m5 ends := fun t q => by
      rcases h5.old _ q with q | q
      · rw [hpn4, hpn3] at q
        exact pnd_lt bg last h2.fin (k := m3.rows.length - 1) (by omega) t q
      · dsimp only at q
        omega
    have h6 := FinM.lead bg last (FinM.trans bg last (by omega) h4 h5) hk5
    have e6 : leadAt (leadAt (R ++ (exRows ss l e fr ++ [Rw.split l fr 0]) ++ rB ss fr bg last lb le m1.rows.length b ++ [.jump l 0]) (m1.rows.length - 1) m3.rows.length ++ rB ss fr bg last lb le m4.rows.length c) (m3.rows.length - 1) m5.rows.length = R ++ (exRows ss l e fr ++ [Rw.split l fr (m.rows.length + exN e + 1 + szB b + 1 : Nat)] ++ rB ss fr bg last lb le (m.rows.length + exN e + 1) b ++ [.jump l (m.rows.length + exN e + 1 + szB b + 1 + szB c : Nat)] ++ rB ss fr bg last lb le (m.rows.length + exN e + 1 + szB b + 1) c) := by
      rw [show R ++ (exRows ss l e fr ++ [Rw.split l fr 0]) ++ rB ss fr bg last lb le m1.rows.length b ++ [Rw.jump l 0] = (R ++ exRows ss l e fr) ++ Rw.split l fr 0 :: (rB ss fr bg last lb le m1.rows.length b ++ [Rw.jump l 0]) by simp only [List.append_assoc, List.cons_append, List.nil_append],
        leadAt_mid (by rw [List.length_append, exRows_n, h.len]; omega),
        show (R ++ exRows ss l e fr ++ (Rw.split l fr 0).lead (m3.rows.length : Nat) :: (rB ss fr bg last lb le m1.rows.length b ++ [Rw.jump l 0])) ++ rB ss fr bg last lb le m4.rows.length c = (R ++ exRows ss l e fr ++ (Rw.split l fr 0).lead (m3.rows.length : Nat) :: rB ss fr bg last lb le m1.rows.length b) ++ Rw.jump l 0 :: rB ss fr bg last lb le m4.rows.length c by simp only [List.append_assoc, List.cons_append, List.nil_append],
        leadAt_mid (by simp only [List.length_append, List.length_cons, exRows_n, h.len, rB_len]; omega), ← hb5, hlen4, hlen3, ← hb, hlen]
      simp only [List.append_assoc, List.cons_append, List.nil_append]
      rfl
    rw [e6] at h6
    exact h6
  | .whl l e b, m, ends, R, lb, le, h, hl, hi, hp => by
    unfold inLp at hi
    unfold mkS rS
    dsimp only
    have h1 := (h.add (exRows ss l e fr)).more (.split l fr 0) (m.rows.length + exN e + 1 + szB b + 1 : Nat)
    have e1 : m.rows ++ exRows ss l e fr ++ [.split l fr 0] = (m.add (exRows ss l e fr ++ [.split l fr 0])).rows := by unfold Mk.add; simp only [List.append_assoc]
    have e2 : (m.rows ++ exRows ss l e fr).length = (m.add (exRows ss l e fr ++ [.split l fr 0])).rows.length - 1 := by rw [← e1, List.length_append (bs := [Rw.split l fr 0])]; rfl
    have hlen : (m.add (exRows ss l e fr ++ [.split l fr 0])).rows.length = m.rows.length + exN e + 1 := by rw [add_rows, List.length_append, exRows_n]; rfl
    rw [e1, e2] at h1
    have hlv : (m.add (exRows ss l e fr ++ [.split l fr 0])).leaves = m.leaves := rfl
    have hcl : (m.add (exRows ss l e fr ++ [.split l fr 0])).calls = m.calls := rfl
    have hlp : (m.add (exRows ss l e fr ++ [.split l fr 0])).loops = m.loops := rfl
    generalize m.add (exRows ss l e fr ++ [.split l fr 0]) = m1 at *
    have key : ∀ x, x ∈ pnd bg last ⟨m1.rows, m1.calls, m1.leaves, (m.rows.length - 1, [m1.rows.length - 1]) :: m1.loops⟩ ((m.rows.length + exN e + 1 + szB b + 1 : Nat) :: ends) ↔ x ∈ pnd bg last m ends ++ [(m1.rows.length - 1, ((m.rows.length + exN e + 1 + szB b + 1 : Nat) : Int))] := fun x => by
      unfold pnd
      dsimp only
      rw [hlv, hcl, hlp, zl_cons]
      simp only [List.mem_append, List.map_cons, List.map_nil]
      grind
    have h2 := fin_B (lp := True) b (m := ⟨m1.rows, m1.calls, m1.leaves, (m.rows.length - 1, [m1.rows.length - 1]) :: m1.loops⟩) (ends := (m.rows.length + exN e + 1 + szB b + 1 : Nat) :: ends) (lb := m.rows.length - 1) (le := (m.rows.length + exN e + 1 + szB b + 1 : Nat)) (h1.mem key) (by rw [List.length_cons, List.length_cons, hlp, hl]) hi (fun _ => ⟨⟨_, _, rfl⟩, _, rfl⟩)
    have hb := h2.fin.len
    rw [List.length_append, rB_len, h1.len] at hb
    generalize mkB ss fr ⟨m1.rows, m1.calls, m1.leaves, (m.rows.length - 1, [m1.rows.length - 1]) :: m1.loops⟩ b = m2 at h2 hb ⊢
    dsimp only at h2
    have h3 := h2.fin.add [.jump l (m.rows.length - 1 : Nat)]
    have hold := h2.old
    have hlps := h2.lps
    have e3 : m2.rows ++ [.jump l (m.rows.length - 1 : Nat)] = (m2.add [.jump l (m.rows.length - 1 : Nat)]).rows := rfl
    have e4 : pnd bg last m2 ((m.rows.length + exN e + 1 + szB b + 1 : Nat) :: ends) = pnd bg last (m2.add [.jump l (m.rows.length - 1 : Nat)]) ((m.rows.length + exN e + 1 + szB b + 1 : Nat) :: ends) := rfl
    have e5 : m2.loops = (m2.add [.jump l (m.rows.length - 1 : Nat)]).loops := rfl
    have hlen3 : (m2.add [.jump l (m.rows.length - 1 : Nat)]).rows.length = m2.rows.length + 1 := by rw [add_rows]; rfl
    rw [e3, e4] at h3
    rw [e4] at hold
    rw [e5] at hlps
    clear h2 e3 e4 e5
    generalize m2.add [.jump l (m.rows.length - 1 : Nat)] = m3 at *
    obtain ⟨rows3, calls3, leaves3, loops3⟩ := m3
    cases loops3 with
    | nil => cases hlps
    | cons p r =>
      obtain ⟨b3, lv⟩ := p
      dsimp only at hlps hlen3 ⊢
      obtain ⟨_, hr⟩ := List.cons.inj hlps
      have hE : ((m.rows.length + exN e + 1 + szB b + 1 : Nat) : Int) = (rows3.length : Int) := by rw [hlen3, ← hb, hlen]
      have hrest := leads_rest (ks := lv) (m := ⟨rows3, calls3, leaves3, r⟩)
      have hrows := leads_rows (ks := lv) (m := ⟨rows3, calls3, leaves3, r⟩)
      rw [leadsT] at hrows
      dsimp only at hrest hrows
      have hpe : pnd bg last (Mk.leads ⟨rows3, calls3, leaves3, r⟩ lv) ends = pnd bg last ⟨rows3, calls3, leaves3, r⟩ ends := by unfold pnd; rw [hrest.1, hrest.2.1, hrest.2.2]
      have hmem : ∀ x, x ∈ (lv.map fun k => (k, (rows3.length : Int))) ++ pnd bg last ⟨rows3, calls3, leaves3, r⟩ ends ↔ x ∈ pnd bg last ⟨rows3, calls3, leaves3, (b3, lv) :: r⟩ ((m.rows.length + exN e + 1 + szB b + 1 : Nat) :: ends) := fun x => by
        rw [hE]
        unfold pnd
        dsimp only
        rw [zl_cons]
        simp only [List.mem_append]
        grind
      refine ⟨?_, fun x hx => ?_, by rw [hrest.2.2, hr]; exact congrArg (List.map (·.1)) hlp⟩
      · rw [hpe, hrows]
        have h4 := (h3.mem hmem).dones
        rw [show R ++ (exRows ss l e fr ++ [Rw.split l fr (m.rows.length + exN e + 1 + szB b + 1 : Nat)] ++ rB ss fr bg last (m.rows.length - 1) (m.rows.length + exN e + 1 + szB b + 1 : Nat) (m.rows.length + exN e + 1) b ++ [Rw.jump l (m.rows.length - 1 : Nat)]) = R ++ exRows ss l e fr ++ [(Rw.split l fr 0).lead (m.rows.length + exN e + 1 + szB b + 1 : Nat)] ++ rB ss fr bg last (m.rows.length - 1) (m.rows.length + exN e + 1 + szB b + 1 : Nat) m1.rows.length b ++ [Rw.jump l (m.rows.length - 1 : Nat)] by rw [hlen]; simp only [List.append_assoc]; rfl]
        exact h4
      · rw [hpe] at hx
        rcases hold x ((hmem x).mp (List.mem_append_right _ hx)) with q | q
        · rcases List.mem_append.mp ((key x).mp q) with q | q
          · exact .inl q
          · rw [List.mem_singleton.mp q]
            refine .inr ?_
            dsimp only
            omega
        · refine .inr ?_
          dsimp only at q
          omega
  | .brk l, m, ends, R, lb, le, h, hl, hi, hp => by
    unfold inLp at hi
    obtain ⟨⟨lv, r, e1⟩, es, e2⟩ := hp hi
    unfold mkS rS
    rw [e1]
    dsimp only
    have h1 := h.more (.jump l lb) le
    refine ⟨h1.mem fun x => ?_, fun x hx => ?_, by rw [e1]; rfl⟩
    · unfold pnd
      rw [e1, e2, zl_cons, zl_cons, List.map_append]
      simp only [List.mem_append, List.map_cons, List.map_nil]
      grind
    · unfold pnd at hx ⊢
      rw [e2] at hx ⊢
      rw [e1]
      rw [zl_cons, List.map_append] at hx
      rw [zl_cons]
      simp only [List.mem_append, List.map_cons, List.map_nil, List.mem_singleton] at hx ⊢
      rcases hx with (hx | hx) | (hx | rfl) | hx
      · exact .inl (.inl (.inl hx))
      · exact .inl (.inl (.inr hx))
      · exact .inl (.inr (.inl hx))
      · exact .inr (Nat.le_refl _)
      · exact .inl (.inr (.inr hx))
  | .agn l, m, ends, R, lb, le, h, hl, hi, hp => by
    unfold inLp at hi
    obtain ⟨⟨lv, r, e1⟩, es, e2⟩ := hp hi
    unfold mkS rS
    rw [e1]
    exact FinM.add bg last h _
  | .ret l e, m, ends, R, lb, le, h, hl, hi, hp => by
    unfold mkS rS
    dsimp only
    have h1 := (h.add (exRows ss l e fr ++ [Rw.copy l 0 fr])).more (.jump l 0) last
    have e1 : m.rows ++ (exRows ss l e fr ++ [Rw.copy l 0 fr]) ++ [Rw.jump l 0] = (m.add (exRows ss l e fr ++ [.copy l 0 fr, .jump l 0])).rows := by unfold Mk.add; simp only [List.append_assoc, List.cons_append, List.nil_append]
    have e2 : (m.rows ++ (exRows ss l e fr ++ [Rw.copy l 0 fr])).length = (m.add (exRows ss l e fr ++ [.copy l 0 fr, .jump l 0])).rows.length - 1 := by rw [← e1, List.length_append (bs := [Rw.jump l 0])]; rfl
    have hlen : m.rows.length ≤ (m.rows ++ (exRows ss l e fr ++ [Rw.copy l 0 fr])).length := by rw [List.length_append]; omega
    rw [e1] at h1
    rw [e2] at hlen h1
    have hlv : (m.add (exRows ss l e fr ++ [.copy l 0 fr, .jump l 0])).leaves = m.leaves := rfl
    have hcl : (m.add (exRows ss l e fr ++ [.copy l 0 fr, .jump l 0])).calls = m.calls := rfl
    have hlp : (m.add (exRows ss l e fr ++ [.copy l 0 fr, .jump l 0])).loops = m.loops := rfl
    generalize m.add (exRows ss l e fr ++ [.copy l 0 fr, .jump l 0]) = m1 at *
    have key : ∀ x, x ∈ pnd bg last ⟨m1.rows, m1.calls, m1.leaves ++ [m1.rows.length - 1], m1.loops⟩ ends ↔ x ∈ pnd bg last m ends ++ [(m1.rows.length - 1, last)] := fun x => by
      unfold pnd
      dsimp only
      rw [hlv, hcl, hlp, List.map_append]
      simp only [List.mem_append, List.map_cons, List.map_nil]
      grind
    refine ⟨?_, fun x hx => ?_, by show m1.loops.map (·.1) = _; rw [hlp]⟩
    · rw [show R ++ (exRows ss l e fr ++ [Rw.copy l 0 fr, Rw.jump l last]) = R ++ (exRows ss l e fr ++ [Rw.copy l 0 fr]) ++ [(Rw.jump l 0).lead last] by simp only [List.append_assoc, List.cons_append, List.nil_append]; rfl]
      exact h1.mem key
    · rcases List.mem_append.mp ((key x).mp hx) with q | q
      · exact .inl q
      · rw [List.mem_singleton.mp q]; exact .inr hlen
  | .call l x f es, m, ends, R, lb, le, h, hl, hi, hp => by
    unfold mkS rS
    dsimp only
    have h1 := (h.add (exsRows ss l es fr)).more (.call l (slotOf ss x) fr es.length 0) (bg f)
    have e1 : m.rows ++ exsRows ss l es fr ++ [.call l (slotOf ss x) fr es.length 0] = (m.add (exsRows ss l es fr ++ [.call l (slotOf ss x) fr es.length 0])).rows := by unfold Mk.add; simp only [List.append_assoc]
    have e2 : (m.rows ++ exsRows ss l es fr).length = (m.add (exsRows ss l es fr ++ [.call l (slotOf ss x) fr es.length 0])).rows.length - 1 := by rw [← e1, List.length_append (bs := [Rw.call l (slotOf ss x) fr es.length 0])]; rfl
    have hlen : m.rows.length ≤ (m.rows ++ exsRows ss l es fr).length := by rw [List.length_append]; omega
    rw [e1] at h1
    rw [e2] at hlen h1
    have hlv : (m.add (exsRows ss l es fr ++ [.call l (slotOf ss x) fr es.length 0])).leaves = m.leaves := rfl
    have hcl : (m.add (exsRows ss l es fr ++ [.call l (slotOf ss x) fr es.length 0])).calls = m.calls := rfl
    have hlp : (m.add (exsRows ss l es fr ++ [.call l (slotOf ss x) fr es.length 0])).loops = m.loops := rfl
    generalize m.add (exsRows ss l es fr ++ [.call l (slotOf ss x) fr es.length 0]) = m1 at *
    have key : ∀ y, y ∈ pnd bg last ⟨m1.rows, m1.calls ++ [(m1.rows.length - 1, f)], m1.leaves, m1.loops⟩ ends ↔ y ∈ pnd bg last m ends ++ [(m1.rows.length - 1, bg f)] := fun y => by
      unfold pnd
      dsimp only
      rw [hlv, hcl, hlp, List.map_append]
      simp only [List.mem_append, List.map_cons, List.map_nil]
      grind
    refine ⟨?_, fun y hx => ?_, by show m1.loops.map (·.1) = _; rw [hlp]⟩
    · rw [show R ++ (exsRows ss l es fr ++ [Rw.call l (slotOf ss x) fr es.length (bg f)]) = R ++ exsRows ss l es fr ++ [(Rw.call l (slotOf ss x) fr es.length 0).lead (bg f)] by simp only [List.append_assoc]; rfl]
      exact h1.mem key
    · rcases List.mem_append.mp ((key y).mp hx) with q | q
      · exact .inl q
      · rw [List.mem_singleton.mp q]; exact .inr hlen
  | .set l x e, m, ends, R, lb, le, h, hl, hi, hp => FinM.one ss fr bg last h (by unfold mkS; rfl) (fun _ _ _ => by unfold rS; rfl)
  | .put l a b, m, ends, R, lb, le, h, hl, hi, hp => FinM.one ss fr bg last h (by unfold mkS; rfl) (fun _ _ _ => by unfold rS; rfl)
  | .tell l e, m, ends, R, lb, le, h, hl, hi, hp => FinM.one ss fr bg last h (by unfold mkS; rfl) (fun _ _ _ => by unfold rS; rfl)
  | .join l x w e, m, ends, R, lb, le, h, hl, hi, hp => FinM.one ss fr bg last h (by unfold mkS; rfl) (fun _ _ _ => by unfold rS; rfl)
  | .meet l, m, ends, R, lb, le, h, hl, hi, hp => FinM.one ss fr bg last h (by unfold mkS; rfl) (fun _ _ _ => by unfold rS; rfl)
  | .stop l, m, ends, R, lb, le, h, hl, hi, hp => FinM.one ss fr bg last h (by unfold mkS; rfl) (fun _ _ _ => by unfold rS; rfl)
theorem fin_B {lp : Prop} : ∀ (b : List Sm) {m : Mk} {ends : List Int} {R : List Rw} {lb : Nat} {le : Int}, FinR m.rows R (pnd bg last m ends) → m.loops.length = ends.length → inLps lp b → (lp → (∃ lv r, m.loops = (lb, lv) :: r) ∧ ∃ es, ends = le :: es) →
    FinM bg last m (mkB ss fr m b) ends (R ++ rB ss fr bg last lb le m.rows.length b)
  | [], m, ends, R, lb, le, h, hl, hi, hp => by
    unfold mkB rB
    rw [List.append_nil]
    exact ⟨h, fun x hx => .inl hx, rfl⟩
  | s :: t, m, ends, R, lb, le, h, hl, hi, hp => by
    unfold mkB rB
    unfold inLps at hi
    have h1 := FinM.add bg last h [.tick s.line]
    have hlen : (m.add [.tick s.line]).rows.length = m.rows.length + 1 := by rw [add_rows]; rfl
    have hlp : (m.add [.tick s.line]).loops = m.loops := rfl
    generalize m.add [.tick s.line] = m1 at h1 hlen hlp ⊢
    have h2 := fin_S (lp := lp) s (m := m1) (lb := lb) (le := le) h1.fin (by rw [hlp]; exact hl) hi.1 (fun q => by rw [hlp]; exact hp q)
    have hl2 := (mkS_keeps ss fr s m1).ext.len
    have hb := h2.fin.len
    rw [List.length_append, rS_len, h1.fin.len] at hb
    generalize mkS ss fr m1 s = m2 at h2 hl2 hb ⊢
    have h3 := fin_B (lp := lp) t (m := m2) (lb := lb) (le := le) h2.fin (by rw [lps_len h2.lps, hlp]; exact hl) hi.2 (fun q => by
      obtain ⟨⟨lv, r, e1⟩, e2⟩ := hp q
      exact ⟨lps_hd h2.lps (by rw [hlp]; exact e1), e2⟩)
    have h12 := FinM.trans bg last (by omega) h1 h2
    have h123 := FinM.trans bg last (by omega) h12 h3
    rw [← hb, hlen] at h123
    rw [show R ++ (Rw.tick s.line :: rS ss fr bg last lb le (m.rows.length + 1) s ++ rB ss fr bg last lb le (m.rows.length + 1 + szS s) t) = R ++ [Rw.tick s.line] ++ rS ss fr bg last lb le (m.rows.length + 1) s ++ rB ss fr bg last lb le (m.rows.length + 1 + szS s) t by simp only [List.append_assoc, List.cons_append, List.nil_append]]
    exact h123
end
end
/-! a def's rows, a program's rows -/
def defR (bg : Str → Int) (pos : Nat) (o : Df) : List Rw := rB (slotsF o) ((slotsF o).length + 1) bg (pos + szB o.body : Nat) 0 0 pos o.body ++ [.back o.last]
def allR (bg : Str → Int) : Nat → Pg → List Rw
  | _, [] => []
  | pos, o :: t => defR bg pos o ++ allR bg (pos + szB o.body + 1) t
def begs : Nat → Pg → List (Str × Nat)
  | _, [] => []
  | pos, o :: t => (o.name, pos) :: begs (pos + szB o.body + 1) t
def callP (bg : Str → Int) (m : Mk) : List (Nat × Int) := m.calls.map fun c => (c.1, bg c.2)
theorem fin_def {bg : Str → Int} {m : Mk} {R : List Rw} {o : Df} (h : FinR m.rows R (callP bg m)) (hl : m.loops = []) (ho : inLps False o.body) :
    FinR (mkDef m o).rows (R ++ defR bg m.rows.length o) (callP bg (mkDef m o)) ∧ (mkDef m o).loops = [] ∧ (mkDef m o).rows.length = m.rows.length + (szB o.body + 1) := by
  rw [mkDef_eq]
  have h1 := fin_B (slotsF o) ((slotsF o).length + 1) bg (m.rows.length + szB o.body : Nat) (lp := False) o.body (m := ⟨m.rows, m.calls, [], m.loops⟩) (ends := []) (R := R) (lb := 0) (le := 0) (h.mem fun x => by
    unfold pnd callP
    dsimp only
    rw [hl]
    simp [zl]) (by rw [hl]; rfl) ho (fun q => q.elim)
  have hb := h1.fin.len
  rw [List.length_append, rB_len, h.len] at hb
  generalize mkB (slotsF o) ((slotsF o).length + 1) ⟨m.rows, m.calls, [], m.loops⟩ o.body = m1 at h1 hb ⊢
  have hl1 : m1.loops = [] := by
    have := h1.lps
    rw [show (⟨m.rows, m.calls, [], m.loops⟩ : Mk).loops = m.loops from rfl, hl] at this
    exact List.map_eq_nil_iff.mp this
  have hrest := leads_rest (ks := m1.leaves) (m := m1)
  have hrows := leads_rows (ks := m1.leaves) (m := m1)
  rw [leadsT] at hrows
  refine ⟨?_, hrest.2.2.trans hl1, by rw [add_rows, leads_len, ← hb]; rfl⟩
  have h2 := (h1.fin.mem (qs := (m1.leaves.map fun k => (k, (m1.rows.length : Int))) ++ callP bg m1) fun x => by
    unfold pnd callP
    rw [hl1, show ((m.rows.length + szB o.body : Nat) : Int) = (m1.rows.length : Int) by rw [← hb]]
    simp only [List.mem_append, zl]
    grind).dones.add [.back o.last]
  rw [← hrows, List.append_assoc] at h2
  have e : callP bg ((m1.leads m1.leaves).add [.back o.last]) = callP bg m1 := by
    show ((m1.leads m1.leaves).calls.map _) = _
    rw [hrest.1]; rfl
  rw [e]
  exact h2
theorem fin_all {bg : Str → Int} : ∀ {os : Pg} {s : Mk × List (Str × Nat)} {R : List Rw}, FinR s.1.rows R (callP bg s.1) → s.1.loops = [] → (∀ o ∈ os, inLps False o.body) →
    FinR (os.foldl mkStep s).1.rows (R ++ allR bg s.1.rows.length os) (callP bg (os.foldl mkStep s).1) ∧ (os.foldl mkStep s).2 = s.2 ++ begs s.1.rows.length os
  | [], s, R, h, hl, ho => by
    unfold allR begs
    rw [List.append_nil, List.append_nil]
    exact ⟨h, rfl⟩
  | o :: t, s, R, h, hl, ho => by
    obtain ⟨h1, h2, h3⟩ := fin_def h hl (ho o (List.mem_cons_self ..))
    obtain ⟨h4, h5⟩ := fin_all (os := t) (s := mkStep s o) h1 h2 fun x hx => ho x (List.mem_cons_of_mem _ hx)
    rw [List.foldl_cons]
    unfold allR begs
    rw [show (mkStep s o).1.rows.length = s.1.rows.length + szB o.body + 1 from h3] at h4 h5
    rw [List.append_assoc] at h4
    refine ⟨h4, ?_⟩
    rw [h5]
    show s.2 ++ [_] ++ _ = _
    rw [List.append_assoc]
    rfl
theorem rows_all {pg : Pg} (h : ∀ o ∈ pg, inLps False o.body) : rowsF pg = allR (beginOf (begs 0 (mainFirst pg))) 0 (mainFirst pg) := by
  have h0 : ∀ bg, FinR ([] : List Rw) [] (callP bg ⟨[], [], [], []⟩) := fun bg => ⟨rfl, fun k t hk => (by cases hk), fun k hk => rfl⟩
  have h1 := fun bg => fin_all (bg := bg) (os := mainFirst pg) (s := (⟨[], [], [], []⟩, [])) (h0 bg) rfl fun o ho => h o (first_mem.mp ho)
  have e2 : (mkAll (mainFirst pg)).2 = begs 0 (mainFirst pg) := (h1 fun _ => 0).2
  obtain ⟨h2, _⟩ := h1 (beginOf (begs 0 (mainFirst pg)))
  rw [List.nil_append] at h2
  have h3 := (h2.mem (qs := callP (beginOf (begs 0 (mainFirst pg))) ((mainFirst pg).foldl mkStep (⟨[], [], [], []⟩, [])).1 ++ []) fun x => by rw [List.append_nil]).dones.eq
  have e3 : allR (beginOf (begs 0 (mainFirst pg))) 0 (mainFirst pg) = _ := h3
  rw [e3]
  unfold rowsF
  dsimp only
  rw [e2]
  unfold callP
  rw [List.foldl_map]
  rfl
end Tl
set_option maxHeartbeats 2000000
namespace Tl
open PySem PySem.Spec PyProof.Rows L2
/-! ### k24: the program that the lines write, its rows -/
def Lin.isFin : Lin → Bool
  | .fin => true
  | _ => false
def stepP (k : Int) (p : List Opn) (l : Lin) : List Opn := (nestStep k ([], p) l).2
def runP : Int → List Opn → List Lin → List Opn
  | _, p, [] => p
  | k, p, l :: t => runP (k + 1) (stepP k p l) t
variable {x : Str} {ps : List Str} {k0 : Int}
/-- what one line of these does with what is open -/
theorem stepP_iff {k : Int} {p : List Opn} {e : Ex} : stepP k p (.iff e) = ⟨k, .iff e, [], none⟩ :: p := rfl
theorem stepP_pln {k : Int} {i : Opn} {r : List Opn} {s : Sm} : stepP k (i :: r) (.pln s) = i.add (s.at_ k) :: r := rfl
theorem stepP_fin {k : Int} {i j : Opn} {r : List Opn} : stepP k (i :: j :: r) .fin = j.add i.st :: r := rfl
theorem step_pair {k : Int} {st : Pg × List Opn} {l : Lin} (h : l.isFin = true → 2 ≤ st.2.length) : nestStep k st l = (st.1, stepP k st.2 l) := by
  obtain ⟨pg, p⟩ := st
  cases l with
  | fin =>
    cases p with
    | nil => rfl
    | cons i r =>
      cases r with
      | nil => exact absurd (h rfl) (by simp)
      | cons j t => rfl
  | dff => cases p <;> rfl
  | iff => cases p <;> rfl
  | whl => cases p <;> rfl
  | els => cases p <;> rfl
  | pln => cases p <;> rfl
/-! the statements, in the order of the lines -/
def shp : Sm → Sm
  | .if1 l e _ => .if1 l e []
  | s => s
theorem add_c {i : Opn} {s : Sm} (h : i.c = none) : i.add s = { i with b := i.b ++ [s] } := by unfold Opn.add; rw [h]
/-! how deep -/
/-! their rows -/
end Tl
set_option maxHeartbeats 2000000
namespace Tl
open PySem PySem.Spec PyProof.Rows L2
/-! ### k24: the lines that the law builds may stand so -/
variable {ns : List Int} {k : Nat} {names : List Str}
def headP (k0 : Int) (x : Str) (ps : List Str) : List Opn := [⟨k0, .dff x ps, [], none⟩]
end Tl
set_option maxHeartbeats 2000000
namespace Tl
open PySem PySem.Spec PyProof.Rows L2
/-! ### k24: the defs that the parts write -/
variable {x : Str} {ps : List Str} {ys : List Lin}
theorem all_self (s : Sm) : s ∈ allSt s := by rw [allSt_eq]; exact List.mem_cons_self ..
/-! slots -/
/-! sizes -/
end Tl
set_option maxHeartbeats 2000000
namespace Tl
open PySem PySem.Spec PyProof.Rows L2
/-! ### k24: the whole program -/
/-! the lines are good -/
/-! how many -/
/-! the program is one that may be read and made into rows -/
/-! the rows, def by def -/
end Tl
namespace Tl
open PySem PySem.Spec PyProof.Rows L2
/-! ### l.index(x), texts -/
def mIndex : RMt := fun x xs M Q => match xs with
  | [.str z] => ∃ ys : List Str, lstOf M x = some (ys.map D.str) ∧ z ∈ ys ∧ Q (.int (ys.idxOf z : Nat)) M
  | _ => False
theorem strs_of_rps {K : PySem.W.Frag} {F : Hp} : ∀ {ys : List Str} {vs : List V}, Rps K F vs (ys.map D.str) → vs = ys.map V.str
  | [], _, h => by cases h; rfl
  | y :: ys, _, h => by
    cases h with
    | cons h t =>
      cases h
      rw [strs_of_rps t]
      rfl
theorem flat_strs : ∀ ys : List Str, (ys.map V.str).all flatV = true
  | [] => rfl
  | _ :: t => by rw [List.map_cons, List.all_cons, flat_strs t]; rfl
theorem q_index (ho : QE X E Et o to) (ha : QA X E Et (e :: es) t)
    (hbase : attributeBase o "index" X.env (eval o X.env) = eval o X.env := by rfl)
    (hfew : ((backTo cpos (starEach (e :: es) X.env)).all (fun x => !x.1) && (backToKw cpos (keywordEach [] X.env)).all (fun x => x.1.isSome)
      && decide ((e :: es).length + ([] : List Keyword).length + (if ([] : List Keyword).isEmpty then 0 else 1) < 30)) = true := by rfl)
    (hline : (apos.endLine == cpos.line) = true := by rfl) (hs : starEach (e :: es) X.env = (false, eval e X.env) :: starEach es X.env := by rfl) (hplain : (backTo cpos (starEach es X.env)).any (·.1) = false := by rfl) :
    QE X E Et (.Call (.Attribute o "index" apos) (e :: es) [] cpos) (tMt mIndex to t) :=
  PEimp (pe_bm PySem.F.plainAttrs_list PySem.F.slot_list_index PySem.F.type_list_index mt_index ho ha hbase hfew hline hs hplain) (lv_bm (by
    rintro x xs H Q ⟨G, F, M, dx, ds, Qt, R, p, ps, h, k⟩
    match ds, ps, h with
    | [.str z], .cons (.str _) .nil, h =>
      obtain ⟨ys, e1, hz, h⟩ := h
      obtain ⟨a, vs, rfl, hs, r⟩ := lst_of R p e1
      have hvs := strs_of_rps r
      subst hvs
      have hj : ys.idxOf z < ys.length := List.idxOf_lt_length_of_mem hz
      refine ⟨a, ys.map V.str, .str z, ys.idxOf z, .str z, rfl, rfl, hs, rfl, flat_strs ys, ?_, ?_, fun m z' hm he => ?_, ?_⟩
      · rw [List.getElem?_map, List.getElem?_eq_getElem hj, List.getElem_idxOf hj]; rfl
      · simp [eqV]
      · rw [List.getElem?_map] at he
        cases e2 : ys[m]? with
        | none => rw [e2] at he; cases he
        | some y =>
          rw [e2] at he
          cases he
          have hne : y ≠ z := by
            rintro rfl
            obtain ⟨h1, h2⟩ := List.getElem?_eq_some_iff.mp e2
            have := List.not_of_lt_findIdx (p := (· == y)) (xs := ys) (show m < ys.findIdx (· == y) from hm)
            rw [h2] at this
            simp at this
          simp [eqV, hne]
      · exact k (.int (ys.idxOf z : Nat)) F _ _ (.int (ys.idxOf z : Nat)) (Same.refl _) R (.int _) h))
end Tl
set_option maxHeartbeats 2000000
namespace Tl
open PySem PySem.Spec PyProof.Rows L2
/-! ### programs as plain data -/
def okNmS : Sm → Prop
  | .set _ x _ => PyData.strOk x = true
  | .call _ x f _ => PyData.strOk x = true ∧ PyData.strOk f = true
  | .join _ x w _ => PyData.strOk x = true ∧ PyData.strOk w = true
  | _ => True
/-! ### k24: its program as plain data -/
variable {ns : List Int} {names : List Str}
end Tl
set_option maxHeartbeats 2000000
namespace Tl
open PySem PySem.Spec PyProof.Rows L2
/-! ### k23: lines of all kinds but calls, gone along with the rows -/
inductive Kw where
  | iff | whl | els | fin | brk | agn | ret | tell | set | put | join | meet | stop
deriving DecidableEq
def Kw.s : Kw → Str
  | .iff => "if" | .whl => "while" | .els => "else" | .fin => "end" | .brk => "break" | .agn => "again" | .ret => "return" | .tell => "tell" | .set => "set" | .put => "put" | .join => "join" | .meet => "meet" | .stop => "stop"
structure Lw where
  k : Kw
  nm : Str
  jt : Str
  e1 : Ex
  e2 : Ex
def Lw.d (x : Lw) : D := .tup [.str x.k.s, .str x.nm, .str x.jt, x.e1.d, x.e2.d]
/-- the statement of a line that is no block -/
def Lw.sm (x : Lw) (l : Int) : Sm := match x.k with
  | .brk => .brk l | .agn => .agn l | .ret => .ret l x.e1 | .tell => .tell l x.e1 | .set => .set l x.nm x.e1 | .put => .put l x.e1 x.e2 | .join => .join l x.nm x.jt x.e1 | .meet => .meet l | _ => .stop l
def Lw.lin (x : Lw) : Lin := match x.k with
  | .iff => .iff x.e1
  | .whl => .whl x.e1
  | .els => .els
  | .fin => .fin
  | _ => .pln (x.sm 0)
def Lw.exs (x : Lw) : List Ex := match x.k with
  | .put => [x.e1, x.e2]
  | .set => [x.e1] | .join => [x.e1] | .iff => [x.e1] | .whl => [x.e1] | .tell => [x.e1] | .ret => [x.e1]
  | _ => []
mutual
def linesS : Sm → List Lin
  | .if1 _ e b => .iff e :: linesB b ++ [.fin]
  | .if2 _ e b c => .iff e :: linesB b ++ .els :: linesB c ++ [.fin]
  | .whl _ e b => .whl e :: linesB b ++ [.fin]
  | s => [.pln (s.at_ 0)]
def linesB : List Sm → List Lin
  | [] => []
  | s :: t => linesS s ++ linesB t
end
mutual
/-- a statement that stands at the line n, and what is in it -/
def numS (n : Int) : Sm → Prop
  | .if1 l e b => l = n ∧ numB (n + 1) b
  | .if2 l e b c => l = n ∧ numB (n + 1) b ∧ numB (n + 1 + (linesB b).length + 1) c
  | .whl l e b => l = n ∧ numB (n + 1) b
  | s => s.line = n
def numB (n : Int) : List Sm → Prop
  | [] => True
  | s :: t => numS n s ∧ numB (n + (linesS s).length) t
end
theorem linesB_nil : linesB [] = [] := by unfold linesB; rfl
theorem linesB_app : ∀ {a b : List Sm}, linesB (a ++ b) = linesB a ++ linesB b
  | [], b => by rw [linesB_nil]; rfl
  | s :: t, b => by rw [List.cons_append, linesB, linesB, linesB_app, List.append_assoc]
theorem linesB_one {s : Sm} : linesB [s] = linesS s := by rw [linesB, linesB_nil, List.append_nil]
theorem numB_nil {n : Int} : numB n [] := by unfold numB; trivial
theorem numB_app : ∀ {a b : List Sm} {n : Int}, numB n (a ++ b) ↔ numB n a ∧ numB (n + (linesB a).length) b
  | [], b, n => by rw [linesB_nil]; simp [numB_nil]
  | s :: t, b, n => by
    rw [List.cons_append, numB, numB, numB_app, linesB, List.length_append, show n + ((linesS s).length : Int) + ((linesB t).length : Int) = n + (((linesS s).length + (linesB t).length : Nat) : Int) by omega, and_assoc]
theorem numB_one {s : Sm} {n : Int} : numB n [s] ↔ numS n s := by rw [numB]; exact ⟨fun h => h.1, fun h => ⟨h, numB_nil⟩⟩
/-! what the law keeps for each open line -/
structure EntW where
  wh : Bool
  line : Int
  beg : Nat
  wait : List Nat
def Rw.endV : Rw → Option Int
  | .split _ _ t => some t
  | .jump _ t => some t
  | _ => none
def addWs : List EntW → List Nat → List EntW
  | [], _ => []
  | e :: r, js => if e.wh = true then { e with wait := e.wait ++ js } :: r else e :: addWs r js
theorem addWs_nil : ∀ es : List EntW, addWs es [] = es
  | [] => rfl
  | e :: r => by
    unfold addWs
    split
    · rw [List.append_nil]
    · rw [addWs_nil r]
theorem addWs_app : ∀ {es : List EntW} {js ks : List Nat}, addWs (addWs es js) ks = addWs es (js ++ ks)
  | [], _, _ => rfl
  | e :: r, js, ks => by
    by_cases h : e.wh = true
    · rw [addWs, if_pos h, addWs, if_pos h, addWs, if_pos h, List.append_assoc]
    · rw [addWs, if_neg h, addWs, if_neg h, addWs, if_neg h, addWs_app]
def firstW : List EntW → Option EntW
  | [] => none
  | e :: r => if e.wh = true then some e else firstW r
theorem firstW_add : ∀ {es : List EntW} {js : List Nat} {b : Nat}, (∃ e, firstW es = some e ∧ e.beg = b) → ∃ e, firstW (addWs es js) = some e ∧ e.beg = b
  | [], _, _, ⟨e, h, _⟩ => by cases h
  | a :: r, js, b, ⟨e, h, h2⟩ => by
    unfold firstW at h
    unfold addWs
    by_cases q : a.wh = true
    · rw [if_pos q] at h ⊢
      cases h
      exact ⟨{ a with wait := a.wait ++ js }, by unfold firstW; rw [if_pos q], h2⟩
    · rw [if_neg q] at h ⊢
      obtain ⟨e', h3, h4⟩ := firstW_add (js := js) ⟨e, h, h2⟩
      exact ⟨e', by unfold firstW; rw [if_neg q]; exact h3, h4⟩
section
variable (F : List Rw) (ss : List Str) (line : Int)
def subAt (F : List Rw) (at_ : Nat) (rs : List Rw) : Prop := (F.drop at_).take rs.length = rs
def begW (l : Int) (x : Lw) : List Rw := .tick l :: (exsRows ss l x.exs ((ss.length : Int) + 1) ++ (if x.k = .ret then [.copy l 0 ((ss.length : Int) + 1)] else []))
def endW (l : Int) (x : Lw) : Rw := match x.k with
  | .tell => .tell l ((ss.length : Int) + 1)
  | .set => .copy l (slotOf ss x.nm) ((ss.length : Int) + 1)
  | .put => .put l ((ss.length : Int) + 1) ((ss.length : Int) + 1 + 1)
  | .join => .join l (slotOf ss x.nm) x.jt ((ss.length : Int) + 1)
  | .ret => .jump l ((F.length : Int) - 1)
  | .meet => .meet l
  | _ => .stop l
/-- how the last row of a line must be, and what comes of the open ones -/
def lastW (l : Int) (a0 : Nat) (x : Lw) (j : Nat) (r : Rw) (es es' : List EntW) : Prop := match x.k with
  | .iff => (∃ t, r = .split l ((ss.length : Int) + 1) t) ∧ es' = ⟨false, l, a0, [j]⟩ :: es
  | .whl => (∃ t, r = .split l ((ss.length : Int) + 1) t) ∧ es' = ⟨true, l, a0, [j]⟩ :: es
  | .agn => (∃ e, firstW es = some e ∧ r = .jump l (e.beg : Nat)) ∧ es' = es
  | .brk => (∃ t, r = .jump l t) ∧ (∃ e, firstW es = some e) ∧ es' = addWs es [j]
  | _ => r = endW F ss l x ∧ es' = es
def GoS (st : Nat × List EntW) (k : Nat) (x : Lw) (st' : Nat × List EntW) : Prop := match x.k with
  | .fin => ∃ e r, st.2 = e :: r ∧ (e.wh = true → F[st.1]? = some (.jump e.line (e.beg : Nat)) ∧ st'.1 = st.1 + 1) ∧ (e.wh = false → st'.1 = st.1) ∧ (∀ j ∈ e.wait, (F[j]?).bind Rw.endV = some (st'.1 : Int)) ∧ st'.2 = r
  | .els => ∃ e r w j, st.2 = e :: r ∧ e.wait = w ++ [j] ∧ (∃ t, F[st.1]? = some (.jump e.line t)) ∧ (F[j]?).bind Rw.endV = some ((st.1 + 1 : Nat) : Int) ∧ st'.1 = st.1 + 1 ∧ st'.2 = { e with wait := w ++ [st.1] } :: r
  | _ => subAt F st.1 (begW ss (line + k) x) ∧ ∃ r, F[st.1 + (begW ss (line + k) x).length]? = some r ∧ lastW F ss (line + k) st.1 x (st.1 + (begW ss (line + k) x).length) r st.2 st'.2 ∧ st'.1 = st.1 + (begW ss (line + k) x).length + 1
def goR : Nat × List EntW → Nat → List Lw → Nat × List EntW → Prop
  | st, _, [], st' => st' = st
  | st, k, x :: t, st' => ∃ st1, GoS F ss line st k x st1 ∧ goR st1 (k + 1) t st'
variable {F ss line}
theorem goR_app : ∀ {as bs : List Lw} {st st1 st2 : Nat × List EntW} {k : Nat}, goR F ss line st k as st1 → goR F ss line st1 (k + as.length) bs st2 → goR F ss line st k (as ++ bs) st2
  | [], bs, st, st1, st2, k, h, g => by
    have h : st1 = st := h
    subst h
    exact g
  | a :: t, bs, st, st1, st2, k, ⟨s, h1, h2⟩, g => ⟨s, h1, goR_app h2 (by rw [List.length_cons] at g; rw [show k + 1 + t.length = k + (t.length + 1) by omega]; exact g)⟩
theorem goR_one {st st1 : Nat × List EntW} {k : Nat} {x : Lw} (h : GoS F ss line st k x st1) : goR F ss line st k [x] st1 := ⟨st1, h, rfl⟩
end
/-! a statement's rows where they stand -/
mutual
def brkS (pos : Nat) : Sm → List Nat
  | .if1 _ e b => brkB (pos + exN e + 1) b
  | .if2 _ e b c => brkB (pos + exN e + 1) b ++ brkB (pos + exN e + 1 + szB b + 1) c
  | .brk _ => [pos]
  | _ => []
/-- where the breaks of the loop around stand -/
def brkB (pos : Nat) : List Sm → List Nat
  | [] => []
  | s :: t => brkS (pos + 1) s ++ brkB (pos + 1 + szS s) t
end
theorem subAt_get {F rs : List Rw} {at_ i : Nat} (h : subAt F at_ rs) (hi : i < rs.length) : F[at_ + i]? = rs[i]? := by
  unfold subAt at h
  rw [← h] at hi ⊢
  rw [List.getElem?_take_of_lt (by rw [List.length_take] at hi; omega), List.getElem?_drop]
theorem subAt_app {F a b : List Rw} {at_ : Nat} (h : subAt F at_ (a ++ b)) : subAt F at_ a ∧ subAt F (at_ + a.length) b := by
  unfold subAt at *
  rw [List.length_append, List.take_add] at h
  have hl : ((F.drop at_).take a.length).length = a.length := by
    have h2 := congrArg List.length h
    simp only [List.length_append, List.length_take, List.length_drop] at h2 ⊢
    omega
  obtain ⟨h1, h2⟩ := List.append_inj h hl
  rw [List.drop_drop] at h2
  exact ⟨h1, h2⟩
theorem subAt_one {F : List Rw} {r : Rw} {at_ : Nat} (h : subAt F at_ [r]) : F[at_]? = some r := by
  have := subAt_get (i := 0) h (by simp)
  simpa using this
theorem subAt_last {F A : List Rw} {r : Rw} {at_ : Nat} (h : subAt F at_ (A ++ [r])) : subAt F at_ A ∧ F[at_ + A.length]? = some r := by
  obtain ⟨h1, h2⟩ := subAt_app h
  exact ⟨h1, subAt_one h2⟩
def Sm.isCall : Sm → Bool
  | .call .. => true
  | _ => false
section
variable {F : List Rw} {ss : List Str} {line : Int} {bg : Str → Int} {last : Int}
theorem beg_len {l : Int} {x : Lw} (h : x.k ≠ .ret) : (begW ss l x).length = 1 + exsN x.exs := by
  unfold begW
  rw [if_neg h, List.append_nil, List.length_cons, exsRows_n, Nat.add_comm]
theorem go_plain {s : Sm} {x : Lw} {pos k : Nat} {es : List EntW} {lb : Nat} {le : Int} (hx : x.lin = .pln (s.at_ 0)) (hc : s.isCall = false) (hl : s.line = line + k) (hlast : last = (F.length : Int) - 1)
    (hsub : subAt F pos (.tick s.line :: rS ss ((ss.length : Int) + 1) bg last lb le (pos + 1) s)) (hp : (∃ l, s = .brk l) ∨ (∃ l, s = .agn l) → ∃ e, firstW es = some e ∧ e.beg = lb) :
    GoS F ss line (pos, es) k x (pos + 1 + szS s, addWs es (brkS (pos + 1) s)) ∧ ∀ j ∈ brkS (pos + 1) s, (F[j]?).bind Rw.endV = some le := by
  rw [hl] at hsub
  have plainCase : ∀ (r : Rw), x.k ≠ .ret → rS ss ((ss.length : Int) + 1) bg last lb le (pos + 1) s = exsRows ss (line + k) x.exs ((ss.length : Int) + 1) ++ [r] → szS s = exsN x.exs + 1 →
      subAt F pos (begW ss (line + k) x) ∧ F[pos + (begW ss (line + k) x).length]? = some r ∧ pos + 1 + szS s = pos + (begW ss (line + k) x).length + 1 := fun r hk h1 h2 => by
    rw [h1, ← List.cons_append] at hsub
    have e : begW ss (line + k) x = .tick (line + k) :: exsRows ss (line + k) x.exs ((ss.length : Int) + 1) := by unfold begW; rw [if_neg hk, List.append_nil]
    obtain ⟨a, b⟩ := subAt_last hsub
    rw [e]
    refine ⟨a, b, ?_⟩
    rw [List.length_cons, exsRows_n]
    omega
  obtain ⟨kw, nm, jt, e1, e2⟩ := x
  cases kw with
  | iff => cases hx
  | whl => cases hx
  | els => cases hx
  | fin => cases hx
  | brk =>
    have hx : Lin.pln (.brk 0) = .pln (s.at_ 0) := hx
    cases s <;> cases hx
    obtain ⟨e, he1, he2⟩ := hp (.inl ⟨_, rfl⟩)
    obtain ⟨a, b, c⟩ := plainCase (.jump (line + k) le) (by simp) (by unfold rS exsRows; rw [show Sm.line _ = _ from rfl] at hl; subst hl; rfl) (by unfold szS; rfl)
    unfold brkS
    have hb : pos + (begW ss (line + k) ⟨.brk, nm, jt, e1, e2⟩).length = pos + 1 := by rw [beg_len (by simp)]; rfl
    rw [hb] at b c
    refine ⟨⟨a, _, by rw [hb]; exact b, ⟨⟨_, rfl⟩, ⟨e, he1⟩, by rw [hb]⟩, by rw [hb]; exact c⟩, fun j hj => ?_⟩
    rw [List.mem_singleton.mp hj, b]
    rfl
  | agn =>
    have hx : Lin.pln (.agn 0) = .pln (s.at_ 0) := hx
    cases s <;> cases hx
    obtain ⟨e, he1, he2⟩ := hp (.inr ⟨_, rfl⟩)
    obtain ⟨a, b, c⟩ := plainCase (.jump (line + k) (lb : Nat)) (by simp) (by unfold rS exsRows; rw [show Sm.line _ = _ from rfl] at hl; subst hl; rfl) (by unfold szS; rfl)
    unfold brkS
    rw [addWs_nil]
    exact ⟨⟨a, _, b, ⟨⟨e, he1, by rw [he2]⟩, rfl⟩, c⟩, fun j hj => by cases hj⟩
  | ret =>
    have hx : Lin.pln (.ret 0 e1) = .pln (s.at_ 0) := hx
    cases s <;> cases hx
    rw [show Sm.line _ = _ from rfl] at hl
    subst hl
    unfold brkS
    rw [addWs_nil]
    unfold rS at hsub
    rw [show Rw.tick (line + k) :: (exRows ss (line + k) e1 ((ss.length : Int) + 1) ++ [Rw.copy (line + k) 0 ((ss.length : Int) + 1), Rw.jump (line + k) last]) = begW ss (line + k) ⟨.ret, nm, jt, e1, e2⟩ ++ [Rw.jump (line + k) last] by
      unfold begW; rw [if_pos rfl, show (Lw.exs ⟨.ret, nm, jt, e1, e2⟩) = [e1] from rfl, exs_one]; simp] at hsub
    obtain ⟨a, b⟩ := subAt_last hsub
    refine ⟨⟨a, _, b, ⟨by rw [hlast]; rfl, rfl⟩, ?_⟩, fun j hj => by cases hj⟩
    unfold begW
    rw [if_pos rfl, show (Lw.exs ⟨.ret, nm, jt, e1, e2⟩) = [e1] from rfl, exs_one, List.length_cons, List.length_append, exRows_n]
    unfold szS
    show pos + 1 + (exN e1 + 2) = pos + (exN e1 + 1 + 1) + 1
    omega
  | tell =>
    have hx : Lin.pln (.tell 0 e1) = .pln (s.at_ 0) := hx
    cases s <;> cases hx
    obtain ⟨a, b, c⟩ := plainCase (.tell (line + k) ((ss.length : Int) + 1)) (by simp) (by unfold rS; rw [show Sm.line _ = _ from rfl] at hl; subst hl; rfl) (by unfold szS; rfl)
    unfold brkS
    rw [addWs_nil]
    exact ⟨⟨a, _, b, ⟨rfl, rfl⟩, c⟩, fun j hj => by cases hj⟩
  | set =>
    have hx : Lin.pln (.set 0 nm e1) = .pln (s.at_ 0) := hx
    cases s <;> cases hx
    obtain ⟨a, b, c⟩ := plainCase (.copy (line + k) (slotOf ss nm) ((ss.length : Int) + 1)) (by simp) (by unfold rS; rw [show Sm.line _ = _ from rfl] at hl; subst hl; rfl) (by unfold szS; rfl)
    unfold brkS
    rw [addWs_nil]
    exact ⟨⟨a, _, b, ⟨rfl, rfl⟩, c⟩, fun j hj => by cases hj⟩
  | put =>
    have hx : Lin.pln (.put 0 e1 e2) = .pln (s.at_ 0) := hx
    cases s <;> cases hx
    obtain ⟨a, b, c⟩ := plainCase (.put (line + k) ((ss.length : Int) + 1) ((ss.length : Int) + 1 + 1)) (by simp) (by unfold rS; rw [show Sm.line _ = _ from rfl] at hl; subst hl; rfl) (by unfold szS; rfl)
    unfold brkS
    rw [addWs_nil]
    exact ⟨⟨a, _, b, ⟨rfl, rfl⟩, c⟩, fun j hj => by cases hj⟩
  | join =>
    have hx : Lin.pln (.join 0 nm jt e1) = .pln (s.at_ 0) := hx
    cases s <;> cases hx
    obtain ⟨a, b, c⟩ := plainCase (.join (line + k) (slotOf ss nm) jt ((ss.length : Int) + 1)) (by simp) (by unfold rS; rw [show Sm.line _ = _ from rfl] at hl; subst hl; rfl) (by unfold szS; rfl)
    unfold brkS
    rw [addWs_nil]
    exact ⟨⟨a, _, b, ⟨rfl, rfl⟩, c⟩, fun j hj => by cases hj⟩
  | meet =>
    have hx : Lin.pln (.meet 0) = .pln (s.at_ 0) := hx
    cases s <;> cases hx
    obtain ⟨a, b, c⟩ := plainCase (.meet (line + k)) (by simp) (by unfold rS; rw [show Sm.line _ = _ from rfl] at hl; subst hl; rfl) (by unfold szS; rfl)
    unfold brkS
    rw [addWs_nil]
    exact ⟨⟨a, _, b, ⟨rfl, rfl⟩, c⟩, fun j hj => by cases hj⟩
  | stop =>
    have hx : Lin.pln (.stop 0) = .pln (s.at_ 0) := hx
    cases s <;> cases hx
    obtain ⟨a, b, c⟩ := plainCase (.stop (line + k)) (by simp) (by unfold rS; rw [show Sm.line _ = _ from rfl] at hl; subst hl; rfl) (by unfold szS; rfl)
    unfold brkS
    rw [addWs_nil]
    exact ⟨⟨a, _, b, ⟨rfl, rfl⟩, c⟩, fun j hj => by cases hj⟩
theorem lin_iff {x : Lw} {e : Ex} (h : x.lin = .iff e) : x.k = .iff ∧ x.e1 = e := by
  obtain ⟨k, nm, jt, e1, e2⟩ := x
  cases k <;> cases h
  exact ⟨rfl, rfl⟩
theorem lin_whl {x : Lw} {e : Ex} (h : x.lin = .whl e) : x.k = .whl ∧ x.e1 = e := by
  obtain ⟨k, nm, jt, e1, e2⟩ := x
  cases k <;> cases h
  exact ⟨rfl, rfl⟩
theorem lin_els {x : Lw} (h : x.lin = .els) : x.k = .els := by
  obtain ⟨k, nm, jt, e1, e2⟩ := x
  cases k <;> cases h
  rfl
theorem lin_fin {x : Lw} (h : x.lin = .fin) : x.k = .fin := by
  obtain ⟨k, nm, jt, e1, e2⟩ := x
  cases k <;> cases h
  rfl
theorem map_wrap {L : List Lw} {a z : Lin} {B : List Lin} (h : L.map Lw.lin = a :: B ++ [z]) : ∃ x L1 y, L = x :: (L1 ++ [y]) ∧ x.lin = a ∧ L1.map Lw.lin = B ∧ y.lin = z := by
  rw [List.cons_append] at h
  obtain ⟨x, t, rfl, h1, h2⟩ := List.map_eq_cons_iff.mp h
  obtain ⟨L1, L2, rfl, h3, h4⟩ := List.map_eq_append_iff.mp h2
  obtain ⟨y, t2, rfl, h5, h6⟩ := List.map_eq_cons_iff.mp h4
  rw [List.map_eq_nil_iff.mp h6]
  exact ⟨x, L1, y, rfl, h1, h3, h5⟩
/-- the head of an if or while -/
theorem go_head {x : Lw} {e : Ex} {pos k : Nat} {es : List EntW} {R : List Rw} {t : Int} (hx : (x.k = .iff ∨ x.k = .whl) ∧ x.e1 = e)
    (hsub : subAt F pos (.tick (line + k) :: (exRows ss (line + k) e ((ss.length : Int) + 1) ++ [.split (line + k) ((ss.length : Int) + 1) t] ++ R))) :
    GoS F ss line (pos, es) k x (pos + 1 + exN e + 1, ⟨decide (x.k = .whl), line + k, pos, [pos + 1 + exN e]⟩ :: es) ∧ F[pos + 1 + exN e]? = some (.split (line + k) ((ss.length : Int) + 1) t) ∧ subAt F (pos + 1 + exN e + 1) R := by
  obtain ⟨kw, nm, jt, e1, e2⟩ := x
  obtain ⟨hk, he⟩ := hx
  have he : e1 = e := he
  subst he
  rw [show Rw.tick (line + k) :: (exRows ss (line + k) e1 ((ss.length : Int) + 1) ++ [.split (line + k) ((ss.length : Int) + 1) t] ++ R) = ((.tick (line + k) :: exRows ss (line + k) e1 ((ss.length : Int) + 1)) ++ [.split (line + k) ((ss.length : Int) + 1) t]) ++ R by simp] at hsub
  obtain ⟨h1, h2⟩ := subAt_app hsub
  obtain ⟨h3, h4⟩ := subAt_last h1
  have hlen : (Rw.tick (line + k) :: exRows ss (line + k) e1 ((ss.length : Int) + 1)).length = exN e1 + 1 := by rw [List.length_cons, exRows_n]
  rw [List.length_append, hlen, List.length_singleton] at h2
  rw [hlen] at h4
  have e1' : pos + (exN e1 + 1) = pos + 1 + exN e1 := by omega
  have e2' : pos + (exN e1 + 1 + 1) = pos + 1 + exN e1 + 1 := by omega
  rw [e1'] at h4
  rw [e2'] at h2
  refine ⟨?_, h4, h2⟩
  rcases hk with hk | hk
  · have hk : kw = .iff := hk
    subst hk
    have hb : begW ss (line + k) ⟨.iff, nm, jt, e1, e2⟩ = .tick (line + k) :: exRows ss (line + k) e1 ((ss.length : Int) + 1) := by unfold begW; rw [if_neg (by simp), List.append_nil, show (Lw.exs ⟨.iff, nm, jt, e1, e2⟩) = [e1] from rfl, exs_one]
    refine ⟨by rw [hb]; exact h3, _, by rw [hb, hlen, e1']; exact h4, ?_, by rw [hb, hlen]; dsimp only; omega⟩
    rw [hb, hlen]
    exact ⟨⟨t, rfl⟩, by dsimp only; rw [e1']; rfl⟩
  · have hk : kw = .whl := hk
    subst hk
    have hb : begW ss (line + k) ⟨.whl, nm, jt, e1, e2⟩ = .tick (line + k) :: exRows ss (line + k) e1 ((ss.length : Int) + 1) := by unfold begW; rw [if_neg (by simp), List.append_nil, show (Lw.exs ⟨.whl, nm, jt, e1, e2⟩) = [e1] from rfl, exs_one]
    refine ⟨by rw [hb]; exact h3, _, by rw [hb, hlen, e1']; exact h4, ?_, by rw [hb, hlen]; dsimp only; omega⟩
    rw [hb, hlen]
    exact ⟨⟨t, rfl⟩, by dsimp only; rw [e1']; rfl⟩
theorem go_P {s : Sm} {L : List Lw} {pos k : Nat} {es : List EntW} {lb : Nat} {le : Int} (hlast : last = (F.length : Int) - 1) (hL : L.map Lw.lin = linesS s) (hn : numS (line + k) s) (hs : subAt F pos (.tick s.line :: rS ss ((ss.length : Int) + 1) bg last lb le (pos + 1) s))
    (h1 : ∀ l, s ≠ .brk l) (h2 : ∀ l, s ≠ .agn l) (hc : s.isCall = false) (e1 : linesS s = [.pln (s.at_ 0)]) (e2 : numS (line + k) s → s.line = line + k) :
    goR F ss line (pos, es) k L (pos + 1 + szS s, addWs es (brkS (pos + 1) s)) ∧ ∀ j ∈ brkS (pos + 1) s, (F[j]?).bind Rw.endV = some le := by
  rw [e1] at hL
  obtain ⟨x, t, rfl, hx, ht⟩ := List.map_eq_cons_iff.mp hL
  rw [List.map_eq_nil_iff.mp ht]
  obtain ⟨a, b⟩ := go_plain (lb := lb) (le := le) (es := es) hx hc (e2 hn) hlast hs fun q => by
    rcases q with ⟨l, q⟩ | ⟨l, q⟩
    · exact absurd q (h1 l)
    · exact absurd q (h2 l)
  exact ⟨goR_one a, b⟩
theorem len_map {L : List Lw} {B : List Lin} (h : L.map Lw.lin = B) : L.length = B.length := by rw [← h, List.length_map]
mutual
theorem go_S {lp : Prop} (hlast : last = (F.length : Int) - 1) : ∀ (s : Sm) {L : List Lw} {pos k : Nat} {es : List EntW} {lb : Nat} {le : Int}, L.map Lw.lin = linesS s → numS (line + k) s → subAt F pos (.tick s.line :: rS ss ((ss.length : Int) + 1) bg last lb le (pos + 1) s) → inLp lp s → (∀ t ∈ allSt s, t.isCall = false) → (lp → ∃ e, firstW es = some e ∧ e.beg = lb) →
    goR F ss line (pos, es) k L (pos + 1 + szS s, addWs es (brkS (pos + 1) s)) ∧ ∀ j ∈ brkS (pos + 1) s, (F[j]?).bind Rw.endV = some le
  | .if1 l e b, L, pos, k, es, lb, le, hL, hn, hs, hi, hc, hp => by
    unfold linesS at hL
    unfold numS at hn
    unfold rS at hs
    unfold inLp at hi
    obtain ⟨rfl, hn⟩ := hn
    obtain ⟨x, L1, y, rfl, hx, hL1, hy⟩ := map_wrap hL
    obtain ⟨g1, g2, g3⟩ := go_head (es := es) ⟨.inl (lin_iff hx).1, (lin_iff hx).2⟩ hs
    rw [(lin_iff hx).1, show decide (Kw.iff = Kw.whl) = false from rfl] at g1
    obtain ⟨i1, i2⟩ := go_B (lp := lp) hlast b (k := k + 1) (es := ⟨false, line + k, pos, [pos + 1 + exN e]⟩ :: es) (lb := lb) (le := le) hL1 (by rw [show line + ((k + 1 : Nat) : Int) = line + k + 1 by omega]; exact hn) g3 hi (fun t ht => hc t (by rw [allSt]; exact List.mem_cons_of_mem _ ht)) (fun q => by
      obtain ⟨e', h1, h2⟩ := hp q
      exact ⟨e', by unfold firstW; rw [if_neg (by simp)]; exact h1, h2⟩)
    rw [show addWs (⟨false, line + k, pos, [pos + 1 + exN e]⟩ :: es) (brkB (pos + 1 + exN e + 1) b) = ⟨false, line + k, pos, [pos + 1 + exN e]⟩ :: addWs es (brkB (pos + 1 + exN e + 1) b) by rw [addWs, if_neg (by simp)]] at i1
    unfold brkS szS
    refine ⟨⟨_, g1, goR_app i1 (goR_one ?_)⟩, i2⟩
    obtain ⟨kw, nm, jt, e1, e2⟩ := y
    have hk : kw = .fin := lin_fin hy
    subst hk
    refine ⟨_, _, rfl, (fun q => by cases q), fun _ => ?_, fun j hj => ?_, rfl⟩
    · dsimp only; omega
    · rw [List.mem_singleton.mp hj, g2]
      show some _ = some _
      congr 1
      dsimp only
      omega
  | .if2 l e b c, L, pos, k, es, lb, le, hL, hn, hs, hi, hc, hp => by
    unfold linesS at hL
    unfold numS at hn
    unfold rS at hs
    unfold inLp at hi
    obtain ⟨rfl, hn1, hn2⟩ := hn
    rw [show Lin.iff e :: linesB b ++ Lin.els :: linesB c ++ [Lin.fin] = Lin.iff e :: (linesB b ++ Lin.els :: linesB c) ++ [Lin.fin] by simp] at hL
    obtain ⟨x, L0, y, rfl, hx, hL0, hy⟩ := map_wrap hL
    obtain ⟨L1, L2, rfl, hL1, hL2⟩ := List.map_eq_append_iff.mp hL0
    obtain ⟨z, L3, rfl, hz, hL3⟩ := List.map_eq_cons_iff.mp hL2
    rw [show exRows ss (line + k) e ((ss.length : Int) + 1) ++ [Rw.split (line + k) ((ss.length : Int) + 1) ((pos + 1 + exN e + 1 + szB b + 1 : Nat) : Int)] ++ rB ss ((ss.length : Int) + 1) bg last lb le (pos + 1 + exN e + 1) b ++ [Rw.jump (line + k) ((pos + 1 + exN e + 1 + szB b + 1 + szB c : Nat) : Int)] ++ rB ss ((ss.length : Int) + 1) bg last lb le (pos + 1 + exN e + 1 + szB b + 1) c
      = exRows ss (line + k) e ((ss.length : Int) + 1) ++ [Rw.split (line + k) ((ss.length : Int) + 1) ((pos + 1 + exN e + 1 + szB b + 1 : Nat) : Int)] ++ (rB ss ((ss.length : Int) + 1) bg last lb le (pos + 1 + exN e + 1) b ++ ([Rw.jump (line + k) ((pos + 1 + exN e + 1 + szB b + 1 + szB c : Nat) : Int)] ++ rB ss ((ss.length : Int) + 1) bg last lb le (pos + 1 + exN e + 1 + szB b + 1) c)) by simp] at hs
    obtain ⟨g1, g2, g3⟩ := go_head (es := es) ⟨.inl (lin_iff hx).1, (lin_iff hx).2⟩ hs
    rw [(lin_iff hx).1, show decide (Kw.iff = Kw.whl) = false from rfl] at g1
    obtain ⟨s1, s2⟩ := subAt_app g3
    rw [rB_len] at s2
    obtain ⟨s3, s4⟩ := subAt_app s2
    have hj := subAt_one s3
    rw [List.length_singleton] at s4
    have hpE : ∀ (w : List Nat) (ws : List EntW), (lp → ∃ e, firstW ws = some e ∧ e.beg = lb) → lp → ∃ e', firstW (⟨false, line + k, pos, w⟩ :: ws) = some e' ∧ e'.beg = lb := fun w ws hw q => by
      obtain ⟨e', h1, h2⟩ := hw q
      exact ⟨e', by unfold firstW; rw [if_neg (by simp)]; exact h1, h2⟩
    obtain ⟨i1, i2⟩ := go_B (lp := lp) hlast b (k := k + 1) (es := ⟨false, line + k, pos, [pos + 1 + exN e]⟩ :: es) (lb := lb) (le := le) hL1 (by rw [show line + ((k + 1 : Nat) : Int) = line + k + 1 by omega]; exact hn1) s1 hi.1 (fun t ht => hc t (by rw [allSt]; exact List.mem_cons_of_mem _ (List.mem_append_left _ ht))) (hpE _ _ hp)
    rw [show addWs (⟨false, line + k, pos, [pos + 1 + exN e]⟩ :: es) (brkB (pos + 1 + exN e + 1) b) = ⟨false, line + k, pos, [pos + 1 + exN e]⟩ :: addWs es (brkB (pos + 1 + exN e + 1) b) by rw [addWs, if_neg (by simp)]] at i1
    have hl1 := len_map hL1
    obtain ⟨i3, i4⟩ := go_B (lp := lp) hlast c (k := k + 1 + L1.length + 1) (es := ⟨false, line + k, pos, [pos + 1 + exN e + 1 + szB b]⟩ :: addWs es (brkB (pos + 1 + exN e + 1) b)) (lb := lb) (le := le) hL3 (by rw [show line + ((k + 1 + L1.length + 1 : Nat) : Int) = line + k + 1 + (linesB b).length + 1 by omega]; exact hn2) s4 hi.2 (fun t ht => hc t (by rw [allSt]; exact List.mem_cons_of_mem _ (List.mem_append_right _ ht))) (hpE _ _ fun q => firstW_add (hp q))
    rw [show addWs (⟨false, line + k, pos, [pos + 1 + exN e + 1 + szB b]⟩ :: addWs es (brkB (pos + 1 + exN e + 1) b)) (brkB (pos + 1 + exN e + 1 + szB b + 1) c) = ⟨false, line + k, pos, [pos + 1 + exN e + 1 + szB b]⟩ :: addWs es (brkB (pos + 1 + exN e + 1) b ++ brkB (pos + 1 + exN e + 1 + szB b + 1) c) by rw [addWs, if_neg (by simp), addWs_app]] at i3
    unfold brkS szS
    refine ⟨⟨_, g1, ?_⟩, fun j hj2 => (List.mem_append.mp hj2).elim (i2 j) (i4 j)⟩
    rw [show L1 ++ z :: L3 ++ [y] = L1 ++ ([z] ++ (L3 ++ [y])) by simp]
    refine goR_app i1 (goR_app (goR_one (st1 := (pos + 1 + exN e + 1 + szB b + 1, ⟨false, line + k, pos, [pos + 1 + exN e + 1 + szB b]⟩ :: addWs es (brkB (pos + 1 + exN e + 1) b))) ?_) (goR_app (st1 := (pos + 1 + exN e + 1 + szB b + 1 + szB c, ⟨false, line + k, pos, [pos + 1 + exN e + 1 + szB b]⟩ :: addWs es (brkB (pos + 1 + exN e + 1) b ++ brkB (pos + 1 + exN e + 1 + szB b + 1) c))) ?_ (goR_one ?_)))
    · obtain ⟨kw, nm, jt, e1, e2⟩ := z
      have hk : kw = .els := lin_els hz
      subst hk
      refine ⟨_, _, [], _, rfl, rfl, ⟨_, hj⟩, ?_, rfl, rfl⟩
      rw [g2]
      rfl
    · rw [List.length_singleton]
      exact i3
    · obtain ⟨kw, nm, jt, e1, e2⟩ := y
      have hk : kw = .fin := lin_fin hy
      subst hk
      refine ⟨_, _, rfl, (fun q => by cases q), fun _ => ?_, fun j hj2 => ?_, rfl⟩
      · dsimp only; omega
      · rw [List.mem_singleton.mp hj2, hj]
        show some _ = some _
        congr 1
        dsimp only
        omega
  | .whl l e b, L, pos, k, es, lb, le, hL, hn, hs, hi, hc, hp => by
    unfold linesS at hL
    unfold numS at hn
    unfold rS at hs
    unfold inLp at hi
    obtain ⟨rfl, hn⟩ := hn
    obtain ⟨x, L1, y, rfl, hx, hL1, hy⟩ := map_wrap hL
    rw [List.append_assoc (bs := rB _ _ _ _ _ _ _ _)] at hs
    obtain ⟨g1, g2, g3⟩ := go_head (es := es) ⟨.inr (lin_whl hx).1, (lin_whl hx).2⟩ hs
    rw [(lin_whl hx).1, show decide (Kw.whl = Kw.whl) = true from rfl] at g1
    obtain ⟨s1, s2⟩ := subAt_last g3
    rw [rB_len] at s2
    rw [show pos + 1 - 1 = pos by omega] at s1 s2
    obtain ⟨i1, i2⟩ := go_B (lp := True) hlast b (k := k + 1) (es := ⟨true, line + k, pos, [pos + 1 + exN e]⟩ :: es) (lb := pos) (le := ((pos + 1 + exN e + 1 + szB b + 1 : Nat) : Int)) hL1 (by rw [show line + ((k + 1 : Nat) : Int) = line + k + 1 by omega]; exact hn) s1 hi (fun t ht => hc t (by rw [allSt]; exact List.mem_cons_of_mem _ ht)) (fun _ => ⟨_, by unfold firstW; rw [if_pos rfl], rfl⟩)
    rw [show addWs (⟨true, line + k, pos, [pos + 1 + exN e]⟩ :: es) (brkB (pos + 1 + exN e + 1) b) = ⟨true, line + k, pos, [pos + 1 + exN e] ++ brkB (pos + 1 + exN e + 1) b⟩ :: es by rw [addWs, if_pos rfl]] at i1
    unfold brkS szS
    rw [addWs_nil]
    refine ⟨⟨_, g1, goR_app i1 (goR_one ?_)⟩, fun j hj => by cases hj⟩
    obtain ⟨kw, nm, jt, e1, e2⟩ := y
    have hk : kw = .fin := lin_fin hy
    subst hk
    refine ⟨_, _, rfl, fun _ => ⟨s2, ?_⟩, (fun q => by cases q), fun j hj => ?_, rfl⟩
    · dsimp only; omega
    · have e9 : ((pos + 1 + (exN e + 1 + szB b + 1) : Nat) : Int) = ((pos + 1 + exN e + 1 + szB b + 1 : Nat) : Int) := by omega
      rcases List.mem_append.mp hj with hj | hj
      · rw [List.mem_singleton.mp hj, g2]
        show some _ = some _
        dsimp only
        rw [e9]
      · rw [i2 j hj]
        dsimp only
        rw [e9]
  | .call l x f es0, L, pos, k, es, lb, le, hL, hn, hs, hi, hc, hp => by
    have := hc _ (all_self _)
    cases this
  | .brk l, L, pos, k, es, lb, le, hL, hn, hs, hi, hc, hp => by
    unfold linesS at hL
    unfold numS at hn
    unfold inLp at hi
    obtain ⟨x, t, rfl, hx, ht⟩ := List.map_eq_cons_iff.mp hL
    rw [List.map_eq_nil_iff.mp ht]
    obtain ⟨a, b⟩ := go_plain (lb := lb) (le := le) (es := es) hx rfl hn hlast hs fun _ => hp hi
    exact ⟨goR_one a, b⟩
  | .agn l, L, pos, k, es, lb, le, hL, hn, hs, hi, hc, hp => by
    unfold linesS at hL
    unfold numS at hn
    unfold inLp at hi
    obtain ⟨x, t, rfl, hx, ht⟩ := List.map_eq_cons_iff.mp hL
    rw [List.map_eq_nil_iff.mp ht]
    obtain ⟨a, b⟩ := go_plain (lb := lb) (le := le) (es := es) hx rfl hn hlast hs fun _ => hp hi
    exact ⟨goR_one a, b⟩
  | .ret l e, L, pos, k, es, lb, le, hL, hn, hs, hi, hc, hp => go_P hlast hL hn hs (fun l q => by cases q) (fun l q => by cases q) rfl (by unfold linesS; rfl) (by unfold numS; exact id)
  | .set l x e, L, pos, k, es, lb, le, hL, hn, hs, hi, hc, hp => go_P hlast hL hn hs (fun l q => by cases q) (fun l q => by cases q) rfl (by unfold linesS; rfl) (by unfold numS; exact id)
  | .put l a b, L, pos, k, es, lb, le, hL, hn, hs, hi, hc, hp => go_P hlast hL hn hs (fun l q => by cases q) (fun l q => by cases q) rfl (by unfold linesS; rfl) (by unfold numS; exact id)
  | .tell l e, L, pos, k, es, lb, le, hL, hn, hs, hi, hc, hp => go_P hlast hL hn hs (fun l q => by cases q) (fun l q => by cases q) rfl (by unfold linesS; rfl) (by unfold numS; exact id)
  | .join l x w e, L, pos, k, es, lb, le, hL, hn, hs, hi, hc, hp => go_P hlast hL hn hs (fun l q => by cases q) (fun l q => by cases q) rfl (by unfold linesS; rfl) (by unfold numS; exact id)
  | .meet l, L, pos, k, es, lb, le, hL, hn, hs, hi, hc, hp => go_P hlast hL hn hs (fun l q => by cases q) (fun l q => by cases q) rfl (by unfold linesS; rfl) (by unfold numS; exact id)
  | .stop l, L, pos, k, es, lb, le, hL, hn, hs, hi, hc, hp => go_P hlast hL hn hs (fun l q => by cases q) (fun l q => by cases q) rfl (by unfold linesS; rfl) (by unfold numS; exact id)
theorem go_B {lp : Prop} (hlast : last = (F.length : Int) - 1) : ∀ (b : List Sm) {L : List Lw} {pos k : Nat} {es : List EntW} {lb : Nat} {le : Int}, L.map Lw.lin = linesB b → numB (line + k) b → subAt F pos (rB ss ((ss.length : Int) + 1) bg last lb le pos b) → inLps lp b → (∀ t ∈ allBd b, t.isCall = false) → (lp → ∃ e, firstW es = some e ∧ e.beg = lb) →
    goR F ss line (pos, es) k L (pos + szB b, addWs es (brkB pos b)) ∧ ∀ j ∈ brkB pos b, (F[j]?).bind Rw.endV = some le
  | [], L, pos, k, es, lb, le, hL, hn, hs, hi, hc, hp => by
    unfold linesB at hL
    rw [List.map_eq_nil_iff.mp hL]
    unfold brkB szB
    rw [addWs_nil]
    exact ⟨rfl, fun j hj => by cases hj⟩
  | s :: t, L, pos, k, es, lb, le, hL, hn, hs, hi, hc, hp => by
    unfold linesB at hL
    unfold numB at hn
    unfold rB at hs
    unfold inLps at hi
    rw [allBd] at hc
    obtain ⟨L1, L2, rfl, hL1, hL2⟩ := List.map_eq_append_iff.mp hL
    obtain ⟨s1, s2⟩ := subAt_app hs
    rw [List.length_cons, rS_len, show pos + (szS s + 1) = pos + 1 + szS s by omega] at s2
    obtain ⟨i1, i2⟩ := go_S (lp := lp) hlast s (es := es) hL1 hn.1 s1 hi.1 (fun t ht => hc t (List.mem_append_left _ ht)) hp
    have hl1 := len_map hL1
    obtain ⟨i3, i4⟩ := go_B (lp := lp) hlast t (k := k + L1.length) (es := addWs es (brkS (pos + 1) s)) hL2 (by rw [show line + ((k + L1.length : Nat) : Int) = line + k + (linesS s).length by omega]; exact hn.2) s2 hi.2 (fun t ht => hc t (List.mem_append_right _ ht)) (fun q => firstW_add (hp q))
    unfold brkB szB
    rw [addWs_app] at i3
    rw [show pos + (1 + szS s + szB t) = pos + 1 + szS s + szB t by omega]
    exact ⟨goR_app i1 i3, fun j hj => (List.mem_append.mp hj).elim (i2 j) (i4 j)⟩
end
end
end Tl
set_option maxHeartbeats 2000000
namespace Tl
open PySem PySem.Spec PyProof.Rows L2
/-! ### k23: the tree that lines of all kinds but calls write -/
def okLn : Lin → Prop
  | .iff _ => True
  | .whl _ => True
  | .els => True
  | .fin => True
  | .pln s => s.at_ 0 = s ∧ s.isCall = false ∧ isPlL s
  | _ => False
where isPlL : Sm → Prop
  | .if1 .. => False
  | .if2 .. => False
  | .whl .. => False
  | _ => True
def okRunK : Int → List Opn → List Lin → Prop
  | _, _, [] => True
  | k, p, l :: t => okLn l ∧ mayLn p l = true ∧ (l.isFin = true → 2 ≤ p.length) ∧ okRunK (k + 1) (stepP k p l) t
theorem runK_nest {zs : List Lin} : ∀ {ys : List Lin} {k : Int} {pg : Pg} {p : List Opn}, okRunK k p ys → nestGo k (pg, p) (ys ++ zs) = nestGo (k + (ys.length : Nat)) (pg, runP k p ys) zs
  | [], k, pg, p, _ => by rw [show k + (([] : List Lin).length : Int) = k by simp]; rfl
  | l :: t, k, pg, p, ⟨h1, h2, h3, h4⟩ => by
    rw [List.cons_append, nestGo_cons, if_pos h2, step_pair h3, runK_nest (ys := t) h4, List.length_cons, show k + ((t.length + 1 : Nat) : Int) = k + 1 + (t.length : Int) by omega]
    rfl
def kindO (i : Opn) : Prop := (∃ e, i.l = .iff e) ∨ ((∃ e, i.l = .whl e) ∧ i.c = none)
variable {x : Str} {ps : List Str} {k0 : Int}
/-- what is open, the lines so far, the number of the next line -/
def invK (x : Str) (ps : List Str) (k0 : Int) : List Opn → List Lin → Int → Prop
  | [], _, _ => False
  | [d], ys, n => d.l = .dff x ps ∧ d.line = k0 ∧ d.c = none ∧ ys = linesB d.b ∧ numB (k0 + 1) d.b ∧ n = k0 + 1 + ys.length
  | i :: r, ys, n => kindO i ∧ numB (i.line + 1) i.b ∧ ∃ ys0, invK x ps k0 r ys0 i.line ∧ (match i.c with
    | none => ys = ys0 ++ i.l :: linesB i.b ∧ n = i.line + 1 + (linesB i.b).length
    | some c => ys = ys0 ++ i.l :: (linesB i.b ++ .els :: linesB c) ∧ numB (i.line + 1 + (linesB i.b).length + 1) c ∧ n = i.line + 1 + (linesB i.b).length + 1 + (linesB c).length)
theorem invK_cons {i j : Opn} {r : List Opn} {ys : List Lin} {n : Int} : invK x ps k0 (i :: j :: r) ys n ↔ kindO i ∧ numB (i.line + 1) i.b ∧ ∃ ys0, invK x ps k0 (j :: r) ys0 i.line ∧ (match i.c with
    | none => ys = ys0 ++ i.l :: linesB i.b ∧ n = i.line + 1 + (linesB i.b).length
    | some c => ys = ys0 ++ i.l :: (linesB i.b ++ .els :: linesB c) ∧ numB (i.line + 1 + (linesB i.b).length + 1) c ∧ n = i.line + 1 + (linesB i.b).length + 1 + (linesB c).length) := Iff.rfl
theorem invK_add {i : Opn} {r : List Opn} {ys : List Lin} {n : Int} {s : Sm} (h : invK x ps k0 (i :: r) ys n) (hs : numS n s) : invK x ps k0 (i.add s :: r) (ys ++ linesS s) (n + (linesS s).length) := by
  cases r with
  | nil =>
    obtain ⟨h1, h2, h3, h4, h5, h6⟩ := h
    rw [add_c h3]
    have hl : (ys.length : Int) = (linesB i.b).length := by rw [h4]
    refine ⟨h1, h2, h3, by rw [h4, linesB_app, linesB_one], numB_app.mpr ⟨h5, numB_one.mpr ?_⟩, by rw [List.length_append, h6]; omega⟩
    rw [h6, hl] at hs
    exact hs
  | cons j t =>
    obtain ⟨h1, h2, ys0, h3, h4⟩ := invK_cons.mp h
    cases hc : i.c with
    | none =>
      rw [hc] at h4
      obtain ⟨h5, h6⟩ := h4
      rw [add_c hc]
      refine invK_cons.mpr ⟨?_, numB_app.mpr ⟨h2, numB_one.mpr (by rw [← h6]; exact hs)⟩, ys0, h3, ?_⟩
      · rcases h1 with q | q
        · exact .inl q
        · exact .inr ⟨q.1, hc⟩
      · dsimp only
        rw [hc]
        dsimp only
        rw [linesB_app, linesB_one, h5, h6, List.length_append]
        exact ⟨by simp, by omega⟩
    | some c =>
      rw [hc] at h4
      obtain ⟨h5, h6, h7⟩ := h4
      have ea : i.add s = { i with c := some (c ++ [s]) } := by unfold Opn.add; rw [hc]
      rw [ea]
      refine invK_cons.mpr ⟨?_, h2, ys0, h3, ?_⟩
      · rcases h1 with q | q
        · exact .inl q
        · rw [hc] at q; cases q.2
      · dsimp only
        rw [linesB_app, linesB_one, h5, List.length_append]
        refine ⟨by simp, numB_app.mpr ⟨h6, numB_one.mpr (by rw [← h7]; exact hs)⟩, by omega⟩
theorem pln_lines {s : Sm} {n : Int} (h : s.at_ 0 = s) (hp : okLn.isPlL s) : linesS (s.at_ n) = [.pln s] ∧ numS n (s.at_ n) := by
  have h1 : linesS (s.at_ n) = [.pln ((s.at_ n).at_ 0)] := by cases s <;> first | exact hp.elim | (unfold Sm.at_ linesS; rfl)
  have h2 : (s.at_ n).at_ 0 = s.at_ 0 := by cases s <;> rfl
  refine ⟨by rw [h1, h2, h], ?_⟩
  cases s <;> first | exact hp.elim | (unfold Sm.at_ numS; rfl)
theorem st_kind {i : Opn} (h : kindO i) : (∃ e, i.l = .iff e ∧ ((i.c = none ∧ i.st = .if1 i.line e i.b) ∨ ∃ c, i.c = some c ∧ i.st = .if2 i.line e i.b c)) ∨ ∃ e, i.l = .whl e ∧ i.c = none ∧ i.st = .whl i.line e i.b := by
  unfold Opn.st
  rcases h with ⟨e, h⟩ | ⟨⟨e, h⟩, hc⟩
  · refine .inl ⟨e, h, ?_⟩
    rw [h]
    cases hc : i.c with
    | none => exact .inl ⟨rfl, rfl⟩
    | some c => exact .inr ⟨c, rfl, rfl⟩
  · refine .inr ⟨e, h, hc, ?_⟩
    rw [h]
theorem invK_step {p : List Opn} {ys : List Lin} {n : Int} {l : Lin} (h : invK x ps k0 p ys n) (hl : okLn l) (hm : mayLn p l = true) (hf : l.isFin = true → 2 ≤ p.length) : invK x ps k0 (stepP n p l) (ys ++ [l]) (n + 1) := by
  cases p with
  | nil => exact h.elim
  | cons i r =>
    cases l with
    | dff => exact hl.elim
    | iff e =>
      rw [stepP_iff]
      exact invK_cons.mpr ⟨.inl ⟨e, rfl⟩, numB_nil, ys, h, by rw [linesB_nil]; exact ⟨rfl, by simp⟩⟩
    | whl e =>
      show invK x ps k0 (⟨n, .whl e, [], none⟩ :: i :: r) _ _
      exact invK_cons.mpr ⟨.inr ⟨⟨e, rfl⟩, rfl⟩, numB_nil, ys, h, by rw [linesB_nil]; exact ⟨rfl, by simp⟩⟩
    | els =>
      have hq : (i.l.isIf && i.c.isNone) = true := hm
      rw [Bool.and_eq_true] at hq
      show invK x ps k0 ({ i with c := some [] } :: r) _ _
      cases r with
      | nil =>
        have := h.1
        rw [this] at hq
        cases hq.1
      | cons j t =>
        obtain ⟨h1, h2, ys0, h3, h4⟩ := invK_cons.mp h
        cases hc : i.c with
        | some c => rw [hc] at hq; cases hq.2
        | none =>
          rw [hc] at h4
          obtain ⟨h5, h6⟩ := h4
          refine invK_cons.mpr ⟨?_, h2, ys0, h3, ?_⟩
          · rcases h1 with q | ⟨⟨e, q⟩, _⟩
            · exact .inl q
            · rw [q] at hq; cases hq.1
          · dsimp only
            rw [linesB_nil, h5]
            exact ⟨by simp, numB_nil, by rw [h6]; simp⟩
    | pln s =>
      obtain ⟨l1, l2, l3⟩ := hl
      obtain ⟨e1, e2⟩ := pln_lines (n := n) l1 l3
      rw [stepP_pln]
      have := invK_add h e2
      rw [e1] at this
      exact this
    | fin =>
      cases r with
      | nil => exact absurd (hf rfl) (by simp)
      | cons j t =>
        rw [stepP_fin]
        obtain ⟨h1, h2, ys0, h3, h4⟩ := invK_cons.mp h
        rcases st_kind h1 with ⟨e, k1, k2 | ⟨c, k2, k3⟩⟩ | ⟨e, k1, k2, k3⟩
        · obtain ⟨k2, k3⟩ := k2
          rw [k2] at h4
          obtain ⟨h5, h6⟩ := h4
          have := invK_add (s := i.st) h3 (by rw [k3]; unfold numS; exact ⟨rfl, h2⟩)
          rw [k3] at this ⊢
          unfold linesS at this
          rw [h5, h6, k1]
          rw [show ys0 ++ Lin.iff e :: linesB i.b ++ [Lin.fin] = ys0 ++ (Lin.iff e :: linesB i.b ++ [Lin.fin]) by simp]
          rw [show i.line + 1 + ((linesB i.b).length : Int) + 1 = i.line + ((Lin.iff e :: linesB i.b ++ [Lin.fin]).length : Int) by simp only [List.length_append, List.length_cons, List.length_nil]; omega]
          exact this
        · rw [k2] at h4
          obtain ⟨h5, h6, h7⟩ := h4
          have := invK_add (s := i.st) h3 (by rw [k3]; unfold numS; exact ⟨rfl, h2, h6⟩)
          rw [k3] at this ⊢
          unfold linesS at this
          rw [h5, h7, k1]
          rw [show ys0 ++ Lin.iff e :: (linesB i.b ++ Lin.els :: linesB c) ++ [Lin.fin] = ys0 ++ (Lin.iff e :: linesB i.b ++ Lin.els :: linesB c ++ [Lin.fin]) by simp]
          rw [show i.line + 1 + ((linesB i.b).length : Int) + 1 + ((linesB c).length : Int) + 1 = i.line + ((Lin.iff e :: linesB i.b ++ Lin.els :: linesB c ++ [Lin.fin]).length : Int) by simp only [List.length_append, List.length_cons, List.length_nil]; omega]
          exact this
        · rw [k2] at h4
          obtain ⟨h5, h6⟩ := h4
          have := invK_add (s := i.st) h3 (by rw [k3]; unfold numS; exact ⟨rfl, h2⟩)
          rw [k3] at this ⊢
          unfold linesS at this
          rw [h5, h6, k1]
          rw [show ys0 ++ Lin.whl e :: linesB i.b ++ [Lin.fin] = ys0 ++ (Lin.whl e :: linesB i.b ++ [Lin.fin]) by simp]
          rw [show i.line + 1 + ((linesB i.b).length : Int) + 1 = i.line + ((Lin.whl e :: linesB i.b ++ [Lin.fin]).length : Int) by simp only [List.length_append, List.length_cons, List.length_nil]; omega]
          exact this
theorem invK_run : ∀ {zs ys : List Lin} {n : Int} {p : List Opn}, invK x ps k0 p ys n → okRunK n p zs → invK x ps k0 (runP n p zs) (ys ++ zs) (n + zs.length)
  | [], ys, n, p, h, _ => by
    rw [List.append_nil, show n + (([] : List Lin).length : Int) = n by simp]
    exact h
  | l :: t, ys, n, p, h, ⟨h1, h2, h3, h4⟩ => by
    have := invK_run (zs := t) (invK_step h h1 h2 h3) h4
    rw [List.append_assoc] at this
    rw [List.length_cons, show n + ((t.length + 1 : Nat) : Int) = n + 1 + (t.length : Int) by omega]
    exact this
/-! the statements, in the order of the lines -/
def shpK : Sm → Sm
  | .if1 l e _ => .if1 l e []
  | .if2 l e _ _ => .if1 l e []
  | .whl l e _ => .whl l e []
  | s => s
def headK (i : Opn) : Sm := match i.l with
  | .iff e => .if1 i.line e []
  | .whl e => .whl i.line e []
  | _ => .stop 0
def insK (i : Opn) : List Sm := (allBd i.b).map shpK ++ (match i.c with
  | none => []
  | some c => (allBd c).map shpK)
def flatK : List Opn → List Sm
  | [] => []
  | [d] => insK d
  | i :: r => flatK r ++ headK i :: insK i
theorem flatK_cons {i j : Opn} {r : List Opn} : flatK (i :: j :: r) = flatK (j :: r) ++ headK i :: insK i := rfl
def stsK (k : Int) : Lin → List Sm
  | .iff e => [.if1 k e []]
  | .whl e => [.whl k e []]
  | .pln s => [s.at_ k]
  | _ => []
def stsRK : Int → List Lin → List Sm
  | _, [] => []
  | k, l :: t => stsK k l ++ stsRK (k + 1) t
theorem insK_add {i : Opn} {s : Sm} : insK (i.add s) = insK i ++ (allSt s).map shpK := by
  unfold insK Opn.add
  cases i.c with
  | none => dsimp only; rw [allBd_app, allBd_one, List.map_append, List.append_nil, List.append_nil]
  | some c => dsimp only; rw [allBd_app, allBd_one, List.map_append, List.append_assoc]
theorem headK_add {i : Opn} {s : Sm} : headK (i.add s) = headK i := by unfold headK; rw [add_l.1, add_l.2.1]
theorem flatK_add {i : Opn} {r : List Opn} {s : Sm} : flatK (i.add s :: r) = flatK (i :: r) ++ (allSt s).map shpK := by
  cases r with
  | nil => exact insK_add
  | cons j t => rw [flatK_cons, flatK_cons, insK_add, headK_add, List.append_assoc, List.cons_append]
theorem st_flat {i : Opn} (h : kindO i) : (allSt i.st).map shpK = headK i :: insK i := by
  unfold headK insK
  rcases st_kind h with ⟨e, k1, ⟨k2, k3⟩ | ⟨c, k2, k3⟩⟩ | ⟨e, k1, k2, k3⟩
  · rw [k1, k2, k3, allSt, List.append_nil]; rfl
  · rw [k1, k2, k3, allSt, List.map_cons, List.map_append]; rfl
  · rw [k1, k2, k3, allSt, List.append_nil]; rfl
theorem flatK_step {p : List Opn} {ys : List Lin} {n : Int} {l : Lin} (h : invK x ps k0 p ys n) (hl : okLn l) (hm : mayLn p l = true) (hf : l.isFin = true → 2 ≤ p.length) : flatK (stepP n p l) = flatK p ++ stsK n l := by
  cases p with
  | nil => exact h.elim
  | cons i r =>
    cases l with
    | dff => exact hl.elim
    | iff e => rfl
    | whl e => rfl
    | els =>
      have hq : (i.l.isIf && i.c.isNone) = true := hm
      rw [Bool.and_eq_true] at hq
      show flatK ({ i with c := some [] } :: r) = flatK (i :: r) ++ []
      have e : insK { i with c := some [] } = insK i := by
        unfold insK
        cases hc : i.c with
        | none => dsimp only; rw [show allBd [] = [] from by unfold allBd; rfl]; rfl
        | some c => rw [hc] at hq; cases hq.2
      rw [List.append_nil]
      cases r with
      | nil => exact e
      | cons j t => rw [flatK_cons, flatK_cons, e]; rfl
    | pln s =>
      rw [stepP_pln, flatK_add]
      have h3 := hl.2.2
      congr 1
      cases s <;> first | exact h3.elim | rfl
    | fin =>
      cases r with
      | nil => exact absurd (hf rfl) (by simp)
      | cons j t =>
        rw [stepP_fin, flatK_add, st_flat (invK_cons.mp h).1, flatK_cons]
        exact (List.append_nil _).symm
theorem flatK_run : ∀ {zs ys : List Lin} {n : Int} {p : List Opn}, invK x ps k0 p ys n → okRunK n p zs → flatK (runP n p zs) = flatK p ++ stsRK n zs
  | [], _, _, _, _, _ => (List.append_nil _).symm
  | l :: t, ys, n, p, h, ⟨h1, h2, h3, h4⟩ => by
    show flatK (runP (n + 1) (stepP n p l) t) = _
    rw [flatK_run (zs := t) (invK_step h h1 h2 h3) h4, flatK_step h h1 h2 h3, List.append_assoc]
    rfl
/-! how deep; breaks in loops -/
def depK : List Opn → Prop
  | [] => True
  | i :: r => deeps i.b + r.length ≤ 6 ∧ (∀ c, i.c = some c → deeps c + r.length ≤ 6) ∧ depK r
theorem depK_add {i : Opn} {r : List Opn} {s : Sm} (h : depK (i :: r)) (hs : s.deep + r.length ≤ 6) : depK (i.add s :: r) := by
  obtain ⟨h1, h2, h3⟩ := h
  unfold Opn.add
  cases hc : i.c with
  | none =>
    refine ⟨?_, fun c q => ?_, h3⟩
    · dsimp only; rw [deeps_app, deeps_one]; omega
    · dsimp only at q; cases q
  | some c0 =>
    refine ⟨h1, fun c q => ?_, h3⟩
    have q : some (c0 ++ [s]) = some c := q
    cases q
    have := h2 c0 hc
    rw [deeps_app, deeps_one]
    omega
theorem depK_step {p : List Opn} {ys : List Lin} {n : Int} {l : Lin} (h : invK x ps k0 p ys n) (hl : okLn l) (hm : mayLn p l = true) (hf : l.isFin = true → 2 ≤ p.length) (hd : depK p) (hp : p.length ≤ 6) : depK (stepP n p l) ∧ (stepP n p l).length ≤ 6 := by
  have d0 : deeps [] = 0 := by unfold deeps; rfl
  cases p with
  | nil => exact h.elim
  | cons i r =>
    cases l with
    | dff => exact hl.elim
    | iff e =>
      have := of_decide_eq_true (show decide ((i :: r).length ≤ 5) = true from hm)
      rw [stepP_iff]
      refine ⟨⟨by rw [d0]; omega, (fun c q => by cases q), hd⟩, by rw [List.length_cons]; omega⟩
    | whl e =>
      have := of_decide_eq_true (show decide ((i :: r).length ≤ 5) = true from hm)
      show depK (⟨n, .whl e, [], none⟩ :: i :: r) ∧ (_ :: i :: r).length ≤ 6
      refine ⟨⟨by rw [d0]; omega, (fun c q => by cases q), hd⟩, by rw [List.length_cons]; omega⟩
    | els =>
      show depK ({ i with c := some [] } :: r) ∧ _
      refine ⟨⟨hd.1, fun c q => ?_, hd.2.2⟩, hp⟩
      have q : some [] = some c := q
      cases q
      rw [List.length_cons] at hp
      rw [d0]; omega
    | pln s =>
      rw [stepP_pln]
      have h1 : (s.at_ n).deep = 1 := by have := hl.2.2; cases s <;> first | exact this.elim | rfl
      rw [List.length_cons] at hp
      exact ⟨depK_add hd (by omega), hp⟩
    | fin =>
      cases r with
      | nil => exact absurd (hf rfl) (by simp)
      | cons j t =>
        rw [stepP_fin]
        obtain ⟨d1, d2, d3⟩ := hd
        rw [List.length_cons] at d1 d2
        simp only [List.length_cons] at hp ⊢
        refine ⟨depK_add d3 ?_, by omega⟩
        rcases st_kind (invK_cons.mp h).1 with ⟨e, k1, ⟨k2, k3⟩ | ⟨c, k2, k3⟩⟩ | ⟨e, k1, k2, k3⟩
        · rw [k3, Sm.deep]; omega
        · have := d2 c k2
          rw [k3, Sm.deep]; omega
        · rw [k3, Sm.deep]; omega
theorem depK_run : ∀ {zs ys : List Lin} {n : Int} {p : List Opn}, invK x ps k0 p ys n → okRunK n p zs → depK p → p.length ≤ 6 → depK (runP n p zs)
  | [], _, _, _, _, _, h, _ => h
  | l :: t, ys, n, p, h, ⟨h1, h2, h3, h4⟩, hd, hp => by
    obtain ⟨d1, d2⟩ := depK_step h h1 h2 h3 hd hp
    exact depK_run (zs := t) (invK_step h h1 h2 h3) h4 d1 d2
def anyW (p : List Opn) : Prop := (p.any fun o => o.l.isWhl) = true
def lpK : List Opn → Prop
  | [] => True
  | i :: r => inLps (anyW (i :: r)) i.b ∧ (∀ c, i.c = some c → inLps (anyW (i :: r)) c) ∧ lpK r
theorem inLps_app {lp : Prop} : ∀ {a b : List Sm}, inLps lp (a ++ b) ↔ inLps lp a ∧ inLps lp b
  | [], b => by rw [show inLps lp [] = True from by unfold inLps; rfl]; simp
  | s :: t, b => by rw [List.cons_append, inLps, inLps, inLps_app, and_assoc]
theorem inLps_one {lp : Prop} {s : Sm} : inLps lp [s] ↔ inLp lp s := by rw [inLps, show inLps lp [] = True from by unfold inLps; rfl]; simp
theorem anyW_add {i : Opn} {r : List Opn} {s : Sm} : anyW (i.add s :: r) = anyW (i :: r) := by unfold anyW; rw [List.any_cons, List.any_cons, add_l.1]
theorem lpK_add {i : Opn} {r : List Opn} {s : Sm} (h : lpK (i :: r)) (hs : inLp (anyW (i :: r)) s) : lpK (i.add s :: r) := by
  obtain ⟨h1, h2, h3⟩ := h
  have ea := anyW_add (i := i) (r := r) (s := s)
  refine ⟨?_, fun c q => ?_, h3⟩
  · rw [ea]
    unfold Opn.add
    cases hc : i.c with
    | none => exact inLps_app.mpr ⟨h1, inLps_one.mpr hs⟩
    | some c0 => exact h1
  · rw [ea]
    unfold Opn.add at q
    cases hc : i.c with
    | none => rw [hc] at q; cases q
    | some c0 =>
      rw [hc] at q
      have q : some (c0 ++ [s]) = some c := q
      cases q
      exact inLps_app.mpr ⟨h2 c0 hc, inLps_one.mpr hs⟩
theorem lpK_step {p : List Opn} {ys : List Lin} {n : Int} {l : Lin} (h : invK x ps k0 p ys n) (hl : okLn l) (hm : mayLn p l = true) (hf : l.isFin = true → 2 ≤ p.length) (hd : lpK p) : lpK (stepP n p l) := by
  have i0 : ∀ lp, inLps lp [] := fun lp => by unfold inLps; trivial
  cases p with
  | nil => exact h.elim
  | cons i r =>
    cases l with
    | dff => exact hl.elim
    | iff e => exact ⟨i0 _, (fun c q => by cases q), hd⟩
    | whl e => exact ⟨i0 _, (fun c q => by cases q), hd⟩
    | els =>
      show lpK ({ i with c := some [] } :: r)
      refine ⟨hd.1, fun c q => ?_, hd.2.2⟩
      have q : some [] = some c := q
      cases q
      exact i0 _
    | pln s =>
      rw [stepP_pln]
      refine lpK_add hd ?_
      have h3 := hl.2.2
      cases s with
      | brk l => unfold Sm.at_ inLp; exact hm
      | agn l => unfold Sm.at_ inLp; exact hm
      | if1 => exact h3.elim
      | if2 => exact h3.elim
      | whl => exact h3.elim
      | _ => unfold Sm.at_ inLp; trivial
    | fin =>
      cases r with
      | nil => exact absurd (hf rfl) (by simp)
      | cons j t =>
        rw [stepP_fin]
        obtain ⟨d1, d2, d3⟩ := hd
        refine lpK_add d3 ?_
        rcases st_kind (invK_cons.mp h).1 with ⟨e, k1, ⟨k2, k3⟩ | ⟨c, k2, k3⟩⟩ | ⟨e, k1, k2, k3⟩
        · have ea : anyW (i :: j :: t) = anyW (j :: t) := by unfold anyW; rw [List.any_cons, k1]; rfl
          rw [k3]; unfold inLp; rw [← ea]; exact d1
        · have ea : anyW (i :: j :: t) = anyW (j :: t) := by unfold anyW; rw [List.any_cons, k1]; rfl
          rw [k3]; unfold inLp; rw [← ea]; exact ⟨d1, d2 c k2⟩
        · have ea : anyW (i :: j :: t) = True := by unfold anyW; rw [List.any_cons, k1]; simp [Lin.isWhl]
          rw [k3]; unfold inLp; rw [← ea]; exact d1
theorem lpK_run : ∀ {zs ys : List Lin} {n : Int} {p : List Opn}, invK x ps k0 p ys n → okRunK n p zs → lpK p → lpK (runP n p zs)
  | [], _, _, _, _, _, h => h
  | l :: t, ys, n, p, h, ⟨h1, h2, h3, h4⟩, hd => lpK_run (zs := t) (invK_step h h1 h2 h3) h4 (lpK_step h h1 h2 h3 hd)
end Tl
set_option maxHeartbeats 2000000
namespace Tl
open PySem PySem.Spec PyProof.Rows L2
/-! ### k23: mirrors of its builder -/
def fiveK : List Str := ["n", "nn", "x", "t", "z"]
def leafK (c : Int) : Ex := if c % 3 = 0 then .num (c / 3 % 199 - 99) else if c % 3 = 1 then ([Ex.lane, .lanes, .mine]).getD (c / 3 % 3).toNat .lane else .nam (fiveK.getD (c / 3 % 5).toNat "")
def op7K : List Op7 := [.add, .sub, .mul, .div, .rem, .lt, .eq]
def op3K : List Op7 := [.sub, .div, .add]
def innerK (o : Int) : Ex := if o / 3 % 4 = 1 then .op (op3K.getD (o % 3).toNat .add) (leafK o) (leafK (o / 31)) else if o / 3 % 4 = 2 then .box (leafK o) else leafK o
def toldK (c : Int) : Ex := if c % 3 = 0 then .box (leafK (c / 21)) else if c % 3 = 1 then leafK (c / 21) else
  if c / 21 % 2 = 0 then .op (op7K.getD (c / 3 % 7).toNat .add) (innerK (c / 21 * 48271 % 2147483647)) (leafK (c / 21 / 2)) else .op (op7K.getD (c / 3 % 7).toNat .add) (leafK (c / 21 / 2)) (innerK (c / 21 * 48271 % 2147483647))
inductive Pk where
  | pi | pw | pe
deriving DecidableEq
def Pk.s : Pk → Str
  | .pi => "if" | .pw => "while" | .pe => "else"
def othK : List Kw := [.tell, .set, .put, .join, .meet, .stop, .set]
def wordK (c : Int) (p : List Pk) (main : Bool) : Kw :=
  if c % 12 < 2 ∧ p.length < 5 then (if c % 12 = 0 then .iff else .whl)
  else if c % 12 = 2 ∧ p.head? = some .pi then .els
  else if 2 < c % 12 ∧ c % 12 < 5 ∧ 0 < p.length then .fin
  else if 4 < c % 12 ∧ c % 12 < 7 ∧ Pk.pw ∈ p then (if c % 12 = 5 then .brk else .agn)
  else if c % 12 = 7 ∧ main = false then .ret
  else othK.getD (c / 12 % 7).toNat .tell
def pilK (k : Kw) (p : List Pk) : List Pk := match k with
  | .fin => p.tail
  | .els => .pe :: p.tail
  | .iff => .pi :: p
  | .whl => .pw :: p
  | _ => p
def nmK : List Str := ["n", "x", "kk"]
def jtK : List Str := ["sum", "most", "least", "ahead"]
def lineK (c : Int) (k : Nat) (p : List Pk) (main : Bool) : Lw := ⟨wordK c p main, nmK.getD (c / 336 % 3).toNat "", jtK.getD (c / 84 % 4).toNat "", toldK (mixG c (200 + k)), toldK (mixG c (300 + k))⟩
def stepLK (ns : List Int) (main : Bool) (st : List Lw × List Pk) (k : Nat) : List Lw × List Pk :=
  let x := lineK (mixG (((ns.take 91).drop 1).getD k 0) k) k st.2 main
  (st.1 ++ [x], pilK x.k st.2)
def bodyLK (ns : List Int) (main : Bool) (n : Nat) : List Lw × List Pk := (List.range n).foldl (stepLK ns main) ([], [])
def endLw : Lw := ⟨.fin, "", "", .num 0, .num 0⟩
def linesLK (ns : List Int) (main : Bool) : List Lw :=
  let b := bodyLK ns main ((ns.take 91).drop 1).length
  b.1 ++ List.replicate b.2.length endLw
/-! the lines may stand so -/
/-- what is piled, by the law and by the reader -/
def samePl : List Opn → List Pk → Prop
  | [], _ => False
  | [d], q => q = [] ∧ d.l.isDef = true
  | i :: r, q => ∃ k t, q = k :: t ∧ samePl r t ∧ (match k with
    | .pi => (∃ e, i.l = .iff e) ∧ i.c = none
    | .pe => (∃ e, i.l = .iff e) ∧ ∃ c, i.c = some c
    | .pw => (∃ e, i.l = .whl e) ∧ i.c = none)
theorem samePl_cons {i j : Opn} {r : List Opn} {q : List Pk} : samePl (i :: j :: r) q ↔ ∃ k t, q = k :: t ∧ samePl (j :: r) t ∧ (match k with
    | .pi => (∃ e, i.l = .iff e) ∧ i.c = none
    | .pe => (∃ e, i.l = .iff e) ∧ ∃ c, i.c = some c
    | .pw => (∃ e, i.l = .whl e) ∧ i.c = none) := Iff.rfl
theorem samePl_len : ∀ {p : List Opn} {q : List Pk}, samePl p q → p.length = q.length + 1
  | [d], q, h => by rw [h.1]; rfl
  | i :: j :: r, q, h => by
    obtain ⟨k, t, rfl, h2, _⟩ := samePl_cons.mp h
    rw [List.length_cons, samePl_len h2, List.length_cons]
theorem samePl_add {i : Opn} {r : List Opn} {q : List Pk} {s : Sm} (h : samePl (i :: r) q) : samePl (i.add s :: r) q := by
  cases r with
  | nil => exact ⟨h.1, by rw [add_l.1]; exact h.2⟩
  | cons j t =>
    obtain ⟨k, u, e, h2, h3⟩ := samePl_cons.mp h
    refine samePl_cons.mpr ⟨k, u, e, h2, ?_⟩
    have hc : (i.add s).c.isSome = i.c.isSome := add_l.2.2
    cases k with
    | pi =>
      obtain ⟨a, b⟩ := h3
      rw [b] at hc
      refine ⟨by rw [add_l.1]; exact a, ?_⟩
      cases hq : (i.add s).c with
      | none => rfl
      | some c => rw [hq] at hc; cases hc
    | pw =>
      obtain ⟨a, b⟩ := h3
      rw [b] at hc
      refine ⟨by rw [add_l.1]; exact a, ?_⟩
      cases hq : (i.add s).c with
      | none => rfl
      | some c => rw [hq] at hc; cases hc
    | pe =>
      obtain ⟨a, c, b⟩ := h3
      rw [b] at hc
      refine ⟨by rw [add_l.1]; exact a, ?_⟩
      cases hq : (i.add s).c with
      | none => rw [hq] at hc; cases hc
      | some c => exact ⟨c, rfl⟩
theorem samePl_any : ∀ {p : List Opn} {q : List Pk}, samePl p q → Pk.pw ∈ q → (p.any fun o => o.l.isWhl) = true
  | [d], q, h, hq => by rw [h.1] at hq; cases hq
  | i :: j :: r, q, h, hq => by
    obtain ⟨k, t, rfl, h2, h3⟩ := samePl_cons.mp h
    rw [List.any_cons]
    rcases List.mem_cons.mp hq with e | hq
    · subst e
      obtain ⟨⟨e, h4⟩, _⟩ := h3
      rw [h4]; rfl
    · rw [samePl_any h2 hq]; simp
theorem lw_plain {x : Lw} (h : x.k ≠ .iff ∧ x.k ≠ .whl ∧ x.k ≠ .els ∧ x.k ≠ .fin) : x.lin = .pln (x.sm 0) ∧ (x.sm 0).at_ 0 = x.sm 0 ∧ (x.sm 0).isCall = false ∧ okLn.isPlL (x.sm 0) := by
  obtain ⟨k, nm, jt, e1, e2⟩ := x
  obtain ⟨h1, h2, h3, h4⟩ := h
  cases k <;> first | exact ⟨rfl, rfl, rfl, trivial⟩ | exact absurd rfl h1 | exact absurd rfl h2 | exact absurd rfl h3 | exact absurd rfl h4
/-- what is asked of a line that may stand -/
def mayKw (k : Kw) (q : List Pk) (main : Bool) : Prop := match k with
  | .iff => q.length < 5
  | .whl => q.length < 5
  | .els => q.head? = some .pi
  | .fin => 0 < q.length
  | .brk => Pk.pw ∈ q
  | .agn => Pk.pw ∈ q
  | .ret => main = false
  | _ => True
def mayW (x : Lw) (q : List Pk) (main : Bool) : Prop := mayKw x.k q main
theorem oth_may {q : List Pk} {main : Bool} (i : Nat) : mayKw (othK.getD i .tell) q main := by
  rcases (show i = 0 ∨ i = 1 ∨ i = 2 ∨ i = 3 ∨ i = 4 ∨ i = 5 ∨ i = 6 ∨ 7 ≤ i by omega) with rfl | rfl | rfl | rfl | rfl | rfl | rfl | h <;> try exact trivial
  rw [List.getD_eq_getElem?_getD, List.getElem?_eq_none (by exact h)]
  exact trivial
theorem wordK_may {c : Int} {k : Nat} {q : List Pk} {main : Bool} : mayW (lineK c k q main) q main := by
  show mayKw (wordK c q main) q main
  unfold wordK
  split
  · rename_i h
    split <;> exact h.2
  · split
    · rename_i h; exact h.2
    · split
      · rename_i h; exact h.2.2
      · split
        · rename_i h
          split <;> exact h.2.2
        · split
          · rename_i h; exact h.2
          · exact oth_may _
theorem may_lin {x : Lw} {p : List Opn} {q : List Pk} {n : Int} {main : Bool} {nm : Str} (h : samePl p q) (hx : mayW x q main) (hn : ∀ (hp : p ≠ []), (p.getLast hp).l.name = nm) (hm : main = false → nm ≠ "main") :
    okLn x.lin ∧ mayLn p x.lin = true ∧ (x.lin.isFin = true → 2 ≤ p.length) ∧ samePl (stepP n p x.lin) (pilK x.k q) := by
  have hl := samePl_len h
  cases p with
  | nil => exact h.elim
  | cons i r =>
    have plain : (x.k ≠ .iff ∧ x.k ≠ .whl ∧ x.k ≠ .els ∧ x.k ≠ .fin) → mayLn (i :: r) x.lin = true → pilK x.k q = q → okLn x.lin ∧ mayLn (i :: r) x.lin = true ∧ (x.lin.isFin = true → 2 ≤ (i :: r).length) ∧ samePl (stepP n (i :: r) x.lin) (pilK x.k q) := fun hk hm hp => by
      obtain ⟨e1, e2, e3, e4⟩ := lw_plain hk
      rw [e1] at hm ⊢
      exact ⟨⟨e2, e3, e4⟩, hm, (fun q => by cases q), by rw [stepP_pln, hp]; exact samePl_add h⟩
    obtain ⟨k, y, jt, e1, e2⟩ := x
    cases k with
    | iff =>
      have hx : q.length < 5 := hx
      exact ⟨trivial, decide_eq_true (by omega), (fun q => by cases q), samePl_cons.mpr ⟨.pi, q, rfl, h, ⟨_, rfl⟩, rfl⟩⟩
    | whl =>
      have hx : q.length < 5 := hx
      exact ⟨trivial, decide_eq_true (by omega), (fun q => by cases q), samePl_cons.mpr ⟨.pw, q, rfl, h, ⟨_, rfl⟩, rfl⟩⟩
    | els =>
      have hx : q.head? = some .pi := hx
      cases r with
      | nil => rw [h.1] at hx; cases hx
      | cons j t =>
        obtain ⟨k, u, rfl, h2, h3⟩ := samePl_cons.mp h
        cases hx
        obtain ⟨⟨e, a⟩, b⟩ := h3
        refine ⟨trivial, ?_, (fun q => by cases q), ?_⟩
        · show (i.l.isIf && i.c.isNone) = true
          rw [a, b]; rfl
        · exact samePl_cons.mpr ⟨.pe, u, rfl, h2, ⟨e, a⟩, _, rfl⟩
    | fin =>
      have hx : 0 < q.length := hx
      cases r with
      | nil => rw [h.1] at hx; cases hx
      | cons j t =>
        obtain ⟨k, u, rfl, h2, h3⟩ := samePl_cons.mp h
        exact ⟨trivial, rfl, fun _ => by simp, samePl_add h2⟩
    | brk => exact plain (by simp) (samePl_any h hx) rfl
    | agn => exact plain (by simp) (samePl_any h hx) rfl
    | ret =>
      have hx : main = false := hx
      refine plain (by simp) ?_ rfl
      show decide (((i :: r).getLast (List.cons_ne_nil _ _)).l.name ≠ _) = true
      rw [hn]
      exact decide_eq_true (hm hx)
    | tell => exact plain (by simp) rfl rfl
    | set => exact plain (by simp) rfl rfl
    | put => exact plain (by simp) rfl rfl
    | join => exact plain (by simp) rfl rfl
    | meet => exact plain (by simp) rfl rfl
    | stop => exact plain (by simp) rfl rfl
/-- the lowest one keeps its name -/
theorem last_step {p : List Opn} {n : Int} {l : Lin} {nm : Str} {q : List Pk} (h : samePl p q) (hl : okLn l) (hf : l.isFin = true → 2 ≤ p.length) (hn : ∀ (hp : p ≠ []), (p.getLast hp).l.name = nm) : ∀ (hp : stepP n p l ≠ []), ((stepP n p l).getLast hp).l.name = nm := by
  have key : ∀ {i j : Opn} {r : List Opn}, j.l = i.l → (∀ (hp : i :: r ≠ []), ((i :: r).getLast hp).l.name = nm) → ∀ (hp : j :: r ≠ []), ((j :: r).getLast hp).l.name = nm := fun {i j r} e g hp => by
    cases r with
    | nil =>
      have := g (by simp)
      rw [show ([i].getLast (by simp)) = i from rfl] at this
      show j.l.name = nm
      rw [e]; exact this
    | cons a t =>
      have := g (by simp)
      rw [List.getLast_cons (List.cons_ne_nil a t)] at this ⊢
      exact this
  cases p with
  | nil => exact h.elim
  | cons i r =>
    cases l with
    | dff => exact hl.elim
    | iff e =>
      intro hp
      show ((_ :: i :: r).getLast _).l.name = nm
      rw [List.getLast_cons (List.cons_ne_nil i r)]
      exact hn _
    | whl e =>
      intro hp
      show ((_ :: i :: r).getLast _).l.name = nm
      rw [List.getLast_cons (List.cons_ne_nil i r)]
      exact hn _
    | els => exact key (i := i) (j := { i with c := some [] }) rfl hn
    | pln s => rw [stepP_pln]; exact key add_l.1 hn
    | fin =>
      cases r with
      | nil => exact absurd (hf rfl) (by simp)
      | cons j t =>
        rw [stepP_fin]
        refine key (i := j) add_l.1 fun hp => ?_
        have := hn (by simp)
        rw [List.getLast_cons (List.cons_ne_nil j t)] at this
        exact this
def mayAll (main : Bool) : List Pk → List Lw → Prop
  | _, [] => True
  | q, x :: t => mayW x q main ∧ mayAll main (pilK x.k q) t
def pilAll (q : List Pk) (L : List Lw) : List Pk := L.foldl (fun q x => pilK x.k q) q
theorem mayAll_app {main : Bool} : ∀ {as bs : List Lw} {q : List Pk}, mayAll main q (as ++ bs) ↔ mayAll main q as ∧ mayAll main (pilAll q as) bs
  | [], bs, q => by simp [mayAll, pilAll]
  | a :: t, bs, q => by
    rw [List.cons_append, mayAll, mayAll, mayAll_app (as := t), and_assoc]
    rfl
theorem lines_run {main : Bool} {nm : Str} (hm : main = false → nm ≠ "main") : ∀ (L : List Lw) {n : Int} {p : List Opn} {q : List Pk}, samePl p q → (∀ (hp : p ≠ []), (p.getLast hp).l.name = nm) → mayAll main q L →
    okRunK n p (L.map Lw.lin) ∧ samePl (runP n p (L.map Lw.lin)) (pilAll q L)
  | [], n, p, q, h, hn, _ => ⟨trivial, h⟩
  | x :: t, n, p, q, h, hn, ⟨hx, hxs⟩ => by
    obtain ⟨a, b, c, d⟩ := may_lin (n := n) h hx hn hm
    obtain ⟨e, f⟩ := lines_run hm t (n := n + 1) d (last_step h a c hn) hxs
    exact ⟨⟨a, b, c, e⟩, f⟩
theorem bodyLK_may (ns : List Int) (main : Bool) : ∀ n, mayAll main [] (bodyLK ns main n).1 ∧ pilAll [] (bodyLK ns main n).1 = (bodyLK ns main n).2 ∧ (bodyLK ns main n).1.length = n ∧ (bodyLK ns main n).2.length ≤ 5
  | 0 => ⟨trivial, rfl, rfl, Nat.zero_le _⟩
  | n + 1 => by
    have e : bodyLK ns main (n + 1) = stepLK ns main (bodyLK ns main n) n := range_fold ..
    obtain ⟨h1, h2, h3, h4⟩ := bodyLK_may ns main n
    have hm := wordK_may (c := mixG (((ns.take 91).drop 1).getD n 0) n) (k := n) (q := (bodyLK ns main n).2) (main := main)
    rw [e]
    unfold stepLK
    dsimp only
    refine ⟨mayAll_app.mpr ⟨h1, by rw [h2]; exact ⟨hm, trivial⟩⟩, by unfold pilAll; rw [List.foldl_append]; show pilK _ (pilAll [] _) = _; rw [h2], by rw [List.length_append, h3]; rfl, ?_⟩
    generalize lineK (mixG (((ns.take 91).drop 1).getD n 0) n) n (bodyLK ns main n).2 main = x at hm ⊢
    generalize (bodyLK ns main n).2 = q at hm h4 ⊢
    unfold mayW at hm
    unfold pilK
    cases hk : x.k <;> rw [hk] at hm <;> dsimp only
    · have hm : q.length < 5 := hm
      rw [List.length_cons]; omega
    · have hm : q.length < 5 := hm
      rw [List.length_cons]; omega
    · have hm : q.head? = some .pi := hm
      cases q with
      | nil => cases hm
      | cons a t => exact h4
    · rw [List.length_tail]; omega
    all_goals exact h4
theorem ends_may {main : Bool} : ∀ {q : List Pk}, mayAll main q (List.replicate q.length endLw) ∧ pilAll q (List.replicate q.length endLw) = []
  | [] => ⟨trivial, rfl⟩
  | a :: t => by
    obtain ⟨h1, h2⟩ := ends_may (main := main) (q := t)
    rw [List.length_cons, List.replicate_succ]
    exact ⟨⟨Nat.succ_pos _, h1⟩, h2⟩
theorem linesLK_may (ns : List Int) (main : Bool) : mayAll main [] (linesLK ns main) ∧ pilAll [] (linesLK ns main) = [] := by
  obtain ⟨h1, h2, h3, h4⟩ := bodyLK_may ns main ((ns.take 91).drop 1).length
  obtain ⟨e1, e2⟩ := ends_may (main := main) (q := (bodyLK ns main ((ns.take 91).drop 1).length).2)
  unfold linesLK
  dsimp only
  refine ⟨mayAll_app.mpr ⟨h1, by rw [h2]; exact e1⟩, ?_⟩
  unfold pilAll at h2 e2 ⊢
  rw [List.foldl_append, h2, e2]
theorem linesLK_len (ns : List Int) (main : Bool) (hl : ns.length ≤ 63) : (linesLK ns main).length ≤ 67 := by
  obtain ⟨h1, h2, h3, h4⟩ := bodyLK_may ns main ((ns.take 91).drop 1).length
  unfold linesLK
  dsimp only
  have : ((ns.take 91).drop 1).length ≤ 62 := by rw [List.length_drop, List.length_take]; omega
  rw [List.length_append, List.length_replicate]
  omega
end Tl
set_option maxHeartbeats 2000000
namespace Tl
open PySem PySem.Spec PyProof.Rows L2
/-! ### k23: the def that the lines write -/
structure FactK (k0 : Int) (L : List Lw) (body : List Sm) : Prop where
  lines : L.map Lw.lin = linesB body
  num : numB (k0 + 1) body
  sts : (allBd body).map shpK = stsRK (k0 + 1) (L.map Lw.lin)
  deep : deeps body ≤ 6
  lps : inLps False body
theorem headK_inv {k0 : Int} {x : Str} {ps : List Str} : invK x ps k0 (headP k0 x ps) [] (k0 + 1) := ⟨rfl, rfl, rfl, by rw [linesB_nil], numB_nil, by simp⟩
theorem def_K {main : Bool} {x : Str} {ps : List Str} {L : List Lw} (hm : main = false → x ≠ "main") (hL : mayAll main [] L) (hp : pilAll [] L = []) (k0 : Int) (pg : Pg) (zs : List Lin) :
    ∃ body, FactK k0 L body ∧ nestGo k0 (pg, []) (.dff x ps :: L.map Lw.lin ++ .fin :: zs) = nestGo (k0 + (L.length : Nat) + 2) (pg ++ [⟨x, ps, body, k0, k0 + (L.length : Nat) + 1⟩], []) zs := by
  obtain ⟨h1, h2⟩ := lines_run (nm := x) hm L (n := k0 + 1) (p := headP k0 x ps) (q := []) ⟨rfl, rfl⟩ (fun _ => rfl) hL
  rw [hp] at h2
  have hi := invK_run (headK_inv (k0 := k0) (x := x) (ps := ps)) h1
  have hf := flatK_run (headK_inv (k0 := k0) (x := x) (ps := ps)) h1
  have d0 : deeps [] = 0 := by unfold deeps; rfl
  have i0 : ∀ lp, inLps lp [] := fun lp => by unfold inLps; trivial
  have hd := depK_run (headK_inv (k0 := k0) (x := x) (ps := ps)) h1 ⟨by rw [d0]; exact Nat.zero_le _, (fun c q => by cases q), trivial⟩ (show 1 ≤ 6 by decide)
  have hl := lpK_run (headK_inv (k0 := k0) (x := x) (ps := ps)) h1 ⟨i0 _, (fun c q => by cases q), trivial⟩
  have hn := runK_nest (zs := .fin :: zs) (pg := pg) h1
  generalize runP (k0 + 1) (headP k0 x ps) (L.map Lw.lin) = p at *
  have hlen := samePl_len h2
  cases p with
  | nil => cases hlen
  | cons d r =>
    cases r with
    | cons j t => simp at hlen
    | nil =>
      obtain ⟨g1, g2, g3, g4, g5, g6⟩ := hi
      refine ⟨d.b, ⟨g4, g5, ?_, ?_, ?_⟩, ?_⟩
      · have e : flatK (headP k0 x ps) = [] := by show insK _ = []; unfold insK; dsimp only; rw [show allBd [] = [] from by unfold allBd; rfl]; rfl
        rw [e, List.nil_append] at hf
        have e2 : flatK [d] = (allBd d.b).map shpK := by show insK d = _; unfold insK; rw [g3, List.append_nil]
        rw [← e2]; exact hf
      · have := hd.1
        exact this
      · have := hl.1
        have e : anyW [d] = False := by unfold anyW; rw [List.any_cons, g1]; simp [Lin.isWhl]
        rw [e] at this
        exact this
      · rw [List.cons_append, nestGo_cons, if_pos (by rfl)]
        show nestGo (k0 + 1) (pg, headP k0 x ps) (L.map Lw.lin ++ .fin :: zs) = _
        rw [hn, nestGo_cons, if_pos (by rfl)]
        show nestGo _ (pg ++ [d.df _], []) zs = _
        obtain ⟨dk, dl, db, dc⟩ := d
        dsimp only at g1 g2
        subst g1 g2
        rw [List.length_map, show dk + 1 + (L.length : Int) + 1 = dk + (L.length : Nat) + 2 by omega, show dk + 1 + (L.length : Int) = dk + (L.length : Nat) + 1 by omega]
        rfl
/-! main that calls -/
def mainK (k0 : Int) : Df := ⟨"main", [], [.call (k0 + 1) "x" "f" [.num 5, .lane]], k0, k0 + 2⟩
def mainL : List Lin := [.dff "main" [], .pln (.call 0 "x" "f" [.num 5, .lane]), .fin]
theorem main_K (k0 : Int) (pg : Pg) (zs : List Lin) : nestGo k0 (pg, []) (mainL ++ zs) = nestGo (k0 + 3) (pg ++ [mainK k0], []) zs := by
  unfold mainL
  simp only [List.cons_append, List.nil_append]
  rw [nestGo_cons, if_pos (by rfl), nestGo_cons, if_pos (by rfl), nestGo_cons, if_pos (by rfl)]
  show nestGo (k0 + 1 + 1 + 1) (pg ++ [_], []) zs = _
  rw [show k0 + 1 + 1 + 1 = k0 + 3 by omega]
  congr 4
  unfold mainK
  rw [show k0 + 2 = k0 + 1 + 1 by omega]
  rfl
/-- the program, by the way -/
def progLines (way : Nat) (L : List Lw) : List Lin :=
  if way = 0 then .dff "main" [] :: L.map Lw.lin ++ [.fin] else if way = 1 then mainL ++ (.dff "f" ["x", "nn"] :: L.map Lw.lin ++ [.fin]) else .dff "f" ["x", "nn"] :: L.map Lw.lin ++ .fin :: mainL
def dfK (way : Nat) (L : List Lw) (body : List Sm) : Df := if way = 0 then ⟨"main", [], body, 1, 1 + (L.length : Nat) + 1⟩ else if way = 1 then ⟨"f", ["x", "nn"], body, 4, 4 + (L.length : Nat) + 1⟩ else ⟨"f", ["x", "nn"], body, 1, 1 + (L.length : Nat) + 1⟩
def k0K (way : Nat) : Int := if way = 1 then 4 else 1
def pgK (way : Nat) (L : List Lw) (body : List Sm) : Pg := if way = 0 then [dfK way L body] else if way = 1 then [mainK 1, dfK way L body] else [dfK way L body, mainK ((L.length : Nat) + 3)]
theorem prog_K {way : Nat} {L : List Lw} (hL : mayAll (decide (way = 0)) [] L) (hp : pilAll [] L = []) : ∃ body, FactK (k0K way) L body ∧ nestGo 1 ([], []) (progLines way L) = some (pgK way L body, []) := by
  unfold progLines pgK k0K dfK
  by_cases h0 : way = 0
  · subst h0
    obtain ⟨body, f, e⟩ := def_K (x := "main") (ps := []) (fun q => by simp at q) hL hp 1 [] []
    refine ⟨body, f, ?_⟩
    rw [if_pos rfl, e]
    rfl
  · by_cases h1 : way = 1
    · subst h1
      obtain ⟨body, f, e⟩ := def_K (x := "f") (ps := ["x", "nn"]) (fun _ => by decide +kernel) hL hp 4 [mainK 1] []
      refine ⟨body, f, ?_⟩
      rw [if_neg (by decide), if_pos rfl, main_K]
      show nestGo 4 ([mainK 1], []) _ = _
      rw [e]
      rfl
    · rw [if_neg h0, if_neg h1, if_neg h1]
      obtain ⟨body, f, e⟩ := def_K (x := "f") (ps := ["x", "nn"]) (fun _ => by decide +kernel) hL hp 1 [] mainL
      refine ⟨body, f, ?_⟩
      rw [e]
      have := main_K (1 + (L.length : Nat) + 2) ([] ++ [⟨"f", ["x", "nn"], body, 1, 1 + (L.length : Nat) + 1⟩]) []
      rw [List.append_nil] at this
      rw [this, if_neg h0, if_neg h0, if_neg h1, if_neg h1, show (1 : Int) + (L.length : Nat) + 2 = (L.length : Nat) + 3 by omega]
      rfl
/-! the lines are good -/
def exK (e : Ex) : Prop := okW e ∧ exNm e ∧ e.deep ≤ 3
theorem five_ok : ∀ x ∈ fiveK, okName x ∧ okS x := by unfold okS; decide +kernel
theorem leafK_ok (c : Int) : okW (leafK c) ∧ exNm (leafK c) ∧ (leafK c).deep = 1 := by
  unfold leafK
  split
  · have := modB (a := c / 3) (b := 199) (by decide)
    exact ⟨⟨by omega, by omega⟩, trivial, rfl⟩
  · split
    · have := modB (a := c / 3) (b := 3) (by decide)
      rcases (show (c / 3 % 3).toNat = 0 ∨ (c / 3 % 3).toNat = 1 ∨ (c / 3 % 3).toNat = 2 by omega) with e | e | e <;> rw [e] <;> exact ⟨trivial, trivial, rfl⟩
    · have := modB (a := c / 3) (b := 5) (by decide)
      have hm := five_ok _ (getD_mem (xs := fiveK) (n := (c / 3 % 5).toNat) ("" : Str) (by show _ < 5; omega))
      exact ⟨hm.1, hm.2, rfl⟩
theorem innerK_ok (c : Int) : okW (innerK c) ∧ exNm (innerK c) ∧ (innerK c).deep ≤ 2 := by
  obtain ⟨a, b, d⟩ := leafK_ok c
  obtain ⟨a2, b2, d2⟩ := leafK_ok (c / 31)
  unfold innerK
  split
  · exact ⟨⟨a, a2⟩, ⟨b, b2⟩, by unfold Ex.deep; omega⟩
  · split
    · exact ⟨a, b, by unfold Ex.deep; omega⟩
    · exact ⟨a, b, by omega⟩
theorem toldK_ok (c : Int) : exK (toldK c) := by
  unfold toldK
  split
  · obtain ⟨a, b, d⟩ := leafK_ok (c / 21)
    exact ⟨a, b, by unfold Ex.deep; omega⟩
  · split
    · obtain ⟨a, b, d⟩ := leafK_ok (c / 21)
      exact ⟨a, b, by omega⟩
    · obtain ⟨a, b, d⟩ := innerK_ok (c / 21 * 48271 % 2147483647)
      obtain ⟨a2, b2, d2⟩ := leafK_ok (c / 21 / 2)
      split
      · exact ⟨⟨a, a2⟩, ⟨b, b2⟩, by unfold Ex.deep; omega⟩
      · exact ⟨⟨a2, a⟩, ⟨b2, b⟩, by unfold Ex.deep; omega⟩
/-- what a line has -/
structure okLw (x : Lw) : Prop where
  e1 : exK x.e1
  e2 : exK x.e2
  nm : x.k ≠ .fin → x.nm ∈ nmK ∧ x.jt ∈ jtK
theorem lineK_ok (c : Int) (k : Nat) (q : List Pk) (main : Bool) : okLw (lineK c k q main) := by
  have b3 := modB (a := c / 336) (b := 3) (by decide)
  have b4 := modB (a := c / 84) (b := 4) (by decide)
  exact ⟨toldK_ok _, toldK_ok _, fun _ => ⟨getD_mem _ (by show _ < 3; omega), getD_mem _ (by show _ < 4; omega)⟩⟩
theorem bodyLK_ok (ns : List Int) (main : Bool) : ∀ n, ∀ x ∈ (bodyLK ns main n).1, okLw x
  | 0, x, hx => by cases hx
  | n + 1, x, hx => by
    have e : bodyLK ns main (n + 1) = stepLK ns main (bodyLK ns main n) n := range_fold ..
    rw [e] at hx
    rcases List.mem_append.mp hx with hx | hx
    · exact bodyLK_ok ns main n x hx
    · rw [List.mem_singleton.mp hx]; exact lineK_ok _ _ _ _
theorem linesLK_ok (ns : List Int) (main : Bool) : ∀ x ∈ linesLK ns main, okLw x := fun x hx => by
  rcases List.mem_append.mp hx with hx | hx
  · exact bodyLK_ok ns main _ x hx
  · rw [(List.mem_replicate.mp hx).2]
    exact ⟨⟨⟨by decide, by decide⟩, trivial, by decide⟩, ⟨⟨by decide, by decide⟩, trivial, by decide⟩, fun q => absurd rfl q⟩
theorem nm_name : ∀ x ∈ nmK, okName x ∧ PyData.strOk x = true := by decide +kernel
theorem jt_in : ∀ x ∈ jtK, x ∈ joinL ∧ PyData.strOk x = true := by decide +kernel
theorem exK_xp {e : Ex} (h : exK e) : okXp e := ⟨h.1, by have := h.2.2; omega⟩
theorem lw_ok {x : Lw} (h : okLw x) : x.lin.ok := by
  obtain ⟨k, nm, jt, e1, e2⟩ := x
  obtain ⟨h1, h2, h3⟩ := h
  cases k with
  | set => exact ⟨(nm_name _ (h3 (by simp)).1).1, exK_xp h1⟩
  | join => exact ⟨(nm_name _ (h3 (by simp)).1).1, (jt_in _ (h3 (by simp)).2).1, exK_xp h1⟩
  | put => exact ⟨exK_xp h1, exK_xp h2⟩
  | iff => exact exK_xp h1
  | whl => exact exK_xp h1
  | tell => exact exK_xp h1
  | ret => exact exK_xp h1
  | _ => trivial
theorem progL_ok {way : Nat} {L : List Lw} (h : ∀ x ∈ L, okLw x) : ∀ l ∈ progLines way L, l.ok := by
  have hL : ∀ l ∈ L.map Lw.lin, l.ok := fun l hl => by
    obtain ⟨x, hx, rfl⟩ := List.mem_map.mp hl
    exact lw_ok (h x hx)
  have hm : ∀ l ∈ mainL, l.ok := fun l hl => by
    unfold mainL at hl
    simp only [List.mem_cons, List.not_mem_nil, or_false] at hl
    rcases hl with rfl | rfl | rfl
    · exact ⟨by decide +kernel, by decide, fun p hp => by cases hp⟩
    · refine ⟨by decide +kernel, by decide +kernel, by decide, fun e he => ?_⟩
      simp only [List.mem_cons, List.not_mem_nil, or_false] at he
      rcases he with rfl | rfl
      · exact ⟨⟨by decide, by decide⟩, by decide⟩
      · exact ⟨trivial, by decide⟩
    · trivial
  have hd1 : (Lin.dff "main" []).ok := ⟨by decide +kernel, by decide, fun p hp => by cases hp⟩
  have hd2 : (Lin.dff "f" ["x", "nn"]).ok := ⟨by decide +kernel, by decide, by decide +kernel⟩
  intro l hl
  unfold progLines at hl
  split at hl
  · rcases List.mem_append.mp hl with hl | hl
    · rcases List.mem_cons.mp hl with rfl | hl
      · exact hd1
      · exact hL l hl
    · rw [List.mem_singleton.mp hl]; trivial
  · split at hl
    · rcases List.mem_append.mp hl with hl | hl
      · exact hm l hl
      · rcases List.mem_append.mp hl with hl | hl
        · rcases List.mem_cons.mp hl with rfl | hl
          · exact hd2
          · exact hL l hl
        · rw [List.mem_singleton.mp hl]; trivial
    · rcases List.mem_append.mp hl with hl | hl
      · rcases List.mem_cons.mp hl with rfl | hl
        · exact hd2
        · exact hL l hl
      · rcases List.mem_cons.mp hl with rfl | hl
        · trivial
        · exact hm l hl
theorem progL_len {way : Nat} {L : List Lw} : (progLines way L).length ≤ L.length + 5 ∧ progLines way L ≠ [] := by
  unfold progLines mainL
  split
  · exact ⟨by simp, by simp⟩
  · split
    · exact ⟨by simp, by simp⟩
    · exact ⟨by simp, by simp⟩
/-! the statements -/
def simK (s : Sm) : Prop := s.isCall = false ∧ okNmS s ∧ s.exprs.length ≤ 2 ∧ ∀ e ∈ s.exprs, exNm e ∧ e.deep ≤ 3
theorem simK_shp {s : Sm} : simK (shpK s) → simK s := by cases s <;> exact id
theorem simK_line {x : Lw} (h : okLw x) (k : Int) : ∀ s ∈ stsK k x.lin, simK s := fun s hs => by
  obtain ⟨kw, nm, jt, e1, e2⟩ := x
  obtain ⟨h1, h2, h3⟩ := h
  have one : ∀ e ∈ [e1], exNm e ∧ e.deep ≤ 3 := fun e he => by rw [List.mem_singleton.mp he]; exact h1.2
  have two : ∀ e ∈ [e1, e2], exNm e ∧ e.deep ≤ 3 := fun e he => by
    rcases List.mem_cons.mp he with rfl | he
    · exact h1.2
    · rw [List.mem_singleton.mp he]; exact h2.2
  have none_ : ∀ e ∈ ([] : List Ex), exNm e ∧ e.deep ≤ 3 := fun e he => by cases he
  cases kw with
  | iff => rw [List.mem_singleton.mp hs]; exact ⟨rfl, trivial, by simp [Sm.exprs], one⟩
  | whl => rw [List.mem_singleton.mp hs]; exact ⟨rfl, trivial, by simp [Sm.exprs], one⟩
  | els => cases hs
  | fin => cases hs
  | set => rw [List.mem_singleton.mp hs]; exact ⟨rfl, (nm_name _ (h3 (by simp)).1).2, Nat.le_of_ble_eq_true rfl, one⟩
  | join => rw [List.mem_singleton.mp hs]; exact ⟨rfl, ⟨(nm_name _ (h3 (by simp)).1).2, (jt_in _ (h3 (by simp)).2).2⟩, Nat.le_of_ble_eq_true rfl, one⟩
  | put => rw [List.mem_singleton.mp hs]; exact ⟨rfl, trivial, Nat.le_of_ble_eq_true rfl, two⟩
  | tell => rw [List.mem_singleton.mp hs]; exact ⟨rfl, trivial, Nat.le_of_ble_eq_true rfl, one⟩
  | ret => rw [List.mem_singleton.mp hs]; exact ⟨rfl, trivial, Nat.le_of_ble_eq_true rfl, one⟩
  | brk => rw [List.mem_singleton.mp hs]; exact ⟨rfl, trivial, Nat.le_of_ble_eq_true rfl, none_⟩
  | agn => rw [List.mem_singleton.mp hs]; exact ⟨rfl, trivial, Nat.le_of_ble_eq_true rfl, none_⟩
  | meet => rw [List.mem_singleton.mp hs]; exact ⟨rfl, trivial, Nat.le_of_ble_eq_true rfl, none_⟩
  | stop => rw [List.mem_singleton.mp hs]; exact ⟨rfl, trivial, Nat.le_of_ble_eq_true rfl, none_⟩
theorem stsRK_all {P : Sm → Prop} : ∀ {L : List Lw} {k : Int}, (∀ x ∈ L, ∀ k, ∀ s ∈ stsK k x.lin, P s) → ∀ s ∈ stsRK k (L.map Lw.lin), P s
  | x :: t, k, h, s, hs => by
    rcases List.mem_append.mp hs with hs | hs
    · exact h x (List.mem_cons_self ..) k s hs
    · exact stsRK_all (fun y hy => h y (List.mem_cons_of_mem _ hy)) s hs
theorem stsRK_len : ∀ {ys : List Lin} {k : Int}, (stsRK k ys).length ≤ ys.length
  | [], _ => Nat.le_refl _
  | l :: t, k => by
    have h1 : (stsK k l).length ≤ 1 := by cases l <;> simp [stsK]
    have := stsRK_len (ys := t) (k := k + 1)
    unfold stsRK
    rw [List.length_append, List.length_cons]; omega
variable {k0 : Int} {L : List Lw} {body : List Sm}
theorem FactK.sim (f : FactK k0 L body) (h : ∀ x ∈ L, okLw x) : ∀ s ∈ allBd body, simK s := fun s hs => simK_shp (stsRK_all (P := simK) (fun x hx k => simK_line (h x hx) k) _ (by rw [← f.sts]; exact List.mem_map.mpr ⟨s, hs, rfl⟩))
theorem FactK.many (f : FactK k0 L body) : (allBd body).length ≤ L.length := by
  have h1 := congrArg List.length f.sts
  rw [List.length_map] at h1
  have h2 := stsRK_len (ys := L.map Lw.lin) (k := k0 + 1)
  rw [List.length_map] at h2
  omega
theorem main_all (k : Int) : allBd (mainK k).body = [.call (k + 1) "x" "f" [.num 5, .lane]] := by unfold mainK; rw [allBd_one, allSt_eq]; unfold Sm.blocks; rfl
theorem pgK_mem {way : Nat} {o : Df} (h : o ∈ pgK way L body) : o = dfK way L body ∨ ∃ k, o = mainK k ∧ way ≠ 0 := by
  unfold pgK at h
  split at h
  · exact .inl (List.mem_singleton.mp h)
  · rename_i h0
    split at h
    · rcases List.mem_cons.mp h with h | h
      · exact .inr ⟨_, h, h0⟩
      · exact .inl (List.mem_singleton.mp h)
    · rcases List.mem_cons.mp h with h | h
      · exact .inl h
      · exact .inr ⟨_, List.mem_singleton.mp h, h0⟩
theorem dfK_body {way : Nat} : (dfK way L body).body = body := by
  unfold dfK
  split
  · rfl
  · split <;> rfl
theorem dfK_ps {way : Nat} : ((dfK way L body).ps = [] ∧ (dfK way L body).name = "main" ∧ way = 0) ∨ ((dfK way L body).ps = (["x", "nn"] : List Str) ∧ (dfK way L body).name = "f" ∧ way ≠ 0) := by
  unfold dfK
  split
  · rename_i h; exact .inl ⟨rfl, rfl, h⟩
  · rename_i h
    split <;> exact .inr ⟨rfl, rfl, h⟩
theorem pgK_small {way : Nat} (f : FactK (k0K way) L body) (h : ∀ x ∈ L, okLw x) (hl : L.length ≤ 67) : Small 67 2 3 (pgK way L body) := by
  refine ⟨?_, fun o ho => ?_, fun o ho g hg => ?_⟩
  · unfold pgK
    split
    · exact Nat.le_of_ble_eq_true rfl
    · split <;> exact Nat.le_of_ble_eq_true rfl
  · rcases pgK_mem ho with rfl | ⟨k, rfl, _⟩
    · rw [dfK_body]
      have := f.many
      have := f.deep
      refine ⟨by omega, by omega, fun t ht => ⟨(f.sim h t ht).2.2.1, fun e he => ((f.sim h t ht).2.2.2 e he).2⟩, ?_, f.lps⟩
      rcases dfK_ps (way := way) (L := L) (body := body) with ⟨e, _⟩ | ⟨e, _⟩ <;> rw [e] <;> exact Nat.le_of_ble_eq_true rfl
    · rw [main_all]
      refine ⟨by unfold mainK; rw [deeps_one]; exact Nat.le_of_ble_eq_true rfl, Nat.le_of_ble_eq_true rfl, fun t ht => ?_, Nat.le_of_ble_eq_true rfl, ?_⟩
      · rw [List.mem_singleton.mp ht]
        refine ⟨Nat.le_of_ble_eq_true rfl, fun e he => ?_⟩
        have he : e ∈ [Ex.num 5, Ex.lane] := he
        simp only [List.mem_cons, List.not_mem_nil, or_false] at he
        rcases he with rfl | rfl <;> decide
      · unfold mainK
        rw [inLps_one]
        unfold inLp
        trivial
  · rcases pgK_mem ho with rfl | ⟨k, rfl, hw⟩
    · rw [dfK_body] at hg
      obtain ⟨l, x, es, hs⟩ := hg
      have := (f.sim h _ hs).1
      cases this
    · rw [main_all] at hg
      obtain ⟨l, x, es, hs⟩ := hg
      cases List.mem_singleton.mp hs
      unfold pgK
      rw [if_neg hw]
      have hf : (dfK way L body).name = "f" := by
        rcases dfK_ps (way := way) (L := L) (body := body) with ⟨_, _, e⟩ | ⟨_, e, _⟩
        · exact absurd e hw
        · exact e
      split
      · rw [List.map_cons, List.map_cons, hf]; simp
      · rw [List.map_cons, hf]; simp
theorem pgK_rows {way : Nat} (f : FactK (k0K way) L body) (h : ∀ x ∈ L, okLw x) (hl : L.length ≤ 67) : okRows (pgK way L body) := by
  refine small_rows (pgK_small f h hl) (by decide) (by decide) (by decide) (by decide) ?_
  have : (pgK way L body).length ≤ 2 := by
    unfold pgK
    split
    · exact Nat.le_of_ble_eq_true rfl
    · split <;> exact Nat.le_of_ble_eq_true rfl
  have h2 : (pgK way L body).length * (67 * (2 * 2 ^ 3 + 4) + 1) ≤ 2 * (67 * (2 * 2 ^ 3 + 4) + 1) := Nat.mul_le_mul_right _ this
  omega
theorem pgK_names {way : Nat} (f : FactK (k0K way) L body) (h : ∀ x ∈ L, okLw x) : namesOk (pgK way L body) := by
  have hb := dfK_body (way := way) (L := L) (body := body)
  rcases dfK_ps (way := way) (L := L) (body := body) with ⟨hp, hn, hw⟩ | ⟨hp, hn, hw⟩
  · have e : pgK way L body = [dfK way L body] := by unfold pgK; rw [if_pos hw]
    rw [e]
    refine ⟨by simp, fun o ho => ?_, ?_, fun o ho l x g es hs => ?_⟩
    · rw [List.mem_singleton.mp ho, hp]; exact ⟨List.nodup_nil, Nat.zero_le _⟩
    · unfold roomOf
      rw [List.find?_cons, hn, decide_eq_true rfl]
      show some (dfK way L body).ps.length = _
      rw [hp]; rfl
    · rw [List.mem_singleton.mp ho, hb] at hs
      have := (f.sim h _ hs).1
      cases this
  · have hmf : ∀ k, (mainK k).name = "main" := fun k => rfl
    have hnd : ¬ (Str.ofString "main" = Str.ofString "f") := by decide +kernel
    have room : ∀ k, roomOf [mainK k, dfK way L body] "main" = some 0 ∧ roomOf [mainK k, dfK way L body] "f" = some 2 ∧ roomOf [dfK way L body, mainK k] "main" = some 0 ∧ roomOf [dfK way L body, mainK k] "f" = some 2 := fun k => by
      unfold roomOf
      simp only [List.find?_cons, hn, hmf, decide_true]
      rw [decide_eq_false hnd, decide_eq_false (fun q => hnd q.symm)]
      simp only [Option.map_some]
      rw [hp]
      exact ⟨rfl, rfl, rfl, rfl⟩
    have key : ∀ {pg : Pg} {k : Int}, (∀ o ∈ pg, o = dfK way L body ∨ o = mainK k) → (pg.map (·.name)).Nodup → roomOf pg "main" = some 0 → roomOf pg "f" = some 2 → namesOk pg := fun {pg k} hm nd r1 r2 => by
      refine ⟨nd, fun o ho => ?_, r1, fun o ho l x g es hs => ?_⟩
      · rcases hm o ho with rfl | rfl
        · rw [hp]; exact ⟨by decide +kernel, by decide⟩
        · exact ⟨List.nodup_nil, Nat.zero_le _⟩
      · rcases hm o ho with rfl | rfl
        · rw [hb] at hs
          have := (f.sim h _ hs).1
          cases this
        · rw [main_all] at hs
          cases List.mem_singleton.mp hs
          exact ⟨by decide +kernel, r2⟩
    unfold pgK
    rw [if_neg hw]
    split
    · refine key (k := 1) (fun o ho => ?_) ?_ (room _).1 (room _).2.1
      · rcases List.mem_cons.mp ho with e | ho
        · exact .inr e
        · exact .inl (List.mem_singleton.mp ho)
      · rw [List.map_cons, List.map_cons, hn, hmf]
        simpa using hnd
    · refine key (k := (L.length : Nat) + 3) (fun o ho => ?_) ?_ (room _).2.2.1 (room _).2.2.2
      · rcases List.mem_cons.mp ho with e | ho
        · exact .inl e
        · exact .inr (List.mem_singleton.mp ho)
      · rw [List.map_cons, List.map_cons, hn, hmf]
        simpa using fun q => hnd q.symm
end Tl
set_option maxHeartbeats 2000000
namespace Tl
open PySem PySem.Spec PyProof.Rows L2
/-! ### str of a number or of a text -/
def cStrX : RLt := fun ds M Q => match ds with
  | [.int i] => i.natAbs.log2 < 1920 ∧ Q (.str (toString i : String)) M
  | [.str a] => Q (.str a) M
  | _ => False
theorem cq_strX {X : Cx} : CallQ X (.type "str") cStrX := by
  intro pins s σ H xs us Q I r h
  obtain ⟨G, F, M, ds, Qt, R, r', h, k⟩ := h
  match ds, r', h with
  | [.int i], .cons (.int _) .nil, h => exact call_str_int pins s σ H _ us Q I r ⟨i, rfl, h.1, k _ F H M _ (Same.refl _) R (.str _) h.2⟩
  | [.str a], .cons (.str _) .nil, h => exact SkE.call_str_str pins s σ H _ us Q I r ⟨a, rfl, k _ F H M _ (Same.refl _) R (.str _) h⟩
theorem ucStrXi {i : Int} {M : MH} {Q : VD} : cStrX [.int i] M Q = (i.natAbs.log2 < 1920 ∧ Q (.str (toString i : String)) M) := propext Iff.rfl
theorem ucStrXs {a : Str} {M : MH} {Q : VD} : cStrX [.str a] M Q = Q (.str a) M := propext Iff.rfl
/-! ### the last of a list -/
theorem cut_last1 {xs : List D} {x : D} : cutD (xs ++ [x]) (some (-1)) none = [x] := by
  unfold cutD
  rw [HT.sIx_none]
  have : HT.sIx (xs ++ [x]).length 0 (some (-1)) = xs.length := by
    unfold HT.sIx
    rw [List.length_append, List.length_singleton]
    simp
    omega
  rw [this, List.length_append, List.length_singleton, show xs.length + 1 - xs.length = 1 by omega, List.drop_left]
  rfl
theorem cut_last0 : cutD [] (some (-1)) none = [] := by
  unfold cutD
  simp
theorem atI_end1 {xs : List D} {x : D} : atI (xs ++ [x]) (-1) = some x := by
  unfold atI
  have : ixN (xs ++ [x]).length (-1) = some xs.length := by
    unfold ixN
    rw [List.length_append, List.length_singleton, if_neg (by omega), if_pos (by omega)]
    congr 1
    omega
  rw [this]
  simp
theorem ok_nil {n : Nat} : okD (n + 1) (.lst []) := okD_lst okDs_nil
theorem ok_one {n : Nat} {s : Str} (h : PyData.strOk s = true) : okD (n + 1) (.lst [.str s]) := okD_lst (okDs_cons (okD_str h) okDs_nil)
theorem pl_nil : plD (.lst []) := by unfold plD plDs; trivial
theorem pl_one {s : Str} : plD (.lst [.str s]) := by unfold plD plDs plD plDs; exact ⟨trivial, trivial⟩
/-! ### the open lines, as cells -/
abbrev Ens := List (Addr × Addr × EntW)
def entD (x : Addr × Addr × EntW) : D := .ref x.1
def entO (x : Addr × Addr × EntW) : MO := .lst [.str (if x.2.2.wh = true then Str.ofString "while" else Str.ofString "if"), .int x.2.2.line, .int (x.2.2.beg : Nat), .ref x.2.1]
def waitO (x : Addr × Addr × EntW) : MO := .lst (x.2.2.wait.map natD)
def entC (L : Ens) : List (Addr × MO) := L.flatMap fun x => [(x.1, entO x), (x.2.1, waitO x)]
def EnS (E : Addr) (M0 M : MH) (L : Ens) : Prop := Cel M0 M ((E, .lst (L.reverse.map entD)) :: entC L)
theorem entC_app {A B : Ens} : entC (A ++ B) = entC A ++ entC B := by unfold entC; rw [List.flatMap_append]
theorem entC_cons {x : Addr × Addr × EntW} {B : Ens} : entC (x :: B) = (x.1, entO x) :: (x.2.1, waitO x) :: entC B := by unfold entC; rw [List.flatMap_cons]; rfl
section
variable {E : Addr} {M0 M : MH} {L : Ens}
theorem EnS.e_ (h : EnS E M0 M L) : M E = some (.lst (L.reverse.map entD)) := h.at_ (E, .lst (L.reverse.map entD)) (by simp)
theorem EnS.a_ {x : Addr × Addr × EntW} (h : EnS E M0 M L) (hx : x ∈ L) : M x.1 = some (entO x) := h.at_ (x.1, entO x) (List.mem_cons_of_mem _ (by unfold entC; rw [List.mem_flatMap]; exact ⟨x, hx, by simp⟩))
theorem EnS.w_ {x : Addr × Addr × EntW} (h : EnS E M0 M L) (hx : x ∈ L) : M x.2.1 = some (waitO x) := h.at_ (x.2.1, waitO x) (List.mem_cons_of_mem _ (by unfold entC; rw [List.mem_flatMap]; exact ⟨x, hx, by simp⟩))
theorem EnS.old (h : EnS E M0 M L) {a : Addr} {o : MO} (e : M0 a = some o) : M a = some o := Cel.old h a o e
theorem EnS.ne {a w : Addr} {e : EntW} {N : Ens} (h : EnS E M0 M ((a, w, e) :: N)) : a ≠ E ∧ w ≠ E ∧ a ≠ w := by
  have nd := h.nd
  rw [entC_cons, List.map_cons, List.map_cons, List.map_cons, List.nodup_cons, List.nodup_cons] at nd
  obtain ⟨n1, n2, n3⟩ := nd
  refine ⟨fun q => n1 ?_, fun q => n1 ?_, fun q => n2 ?_⟩
  · rw [← q]; exact List.mem_cons_self ..
  · rw [← q]; exact List.mem_cons_of_mem _ (List.mem_cons_self ..)
  · rw [q]; exact List.mem_cons_self ..
/-- a line opens -/
theorem EnS.push {a w : Addr} {e : EntW} (h : EnS E M0 M L) (hw : M w = none) (ha : mup M w (.lst (e.wait.map natD)) a = none) :
    EnS E M0 (mup (mup (mup M w (waitO (a, w, e))) a (entO (a, w, e))) E (.lst (((a, w, e) :: L).reverse.map entD))) ((a, w, e) :: L) := by
  have h1 := (Cel.fresh (o := waitO (a, w, e)) h hw)
  have h2 := Cel.fresh (o := entO (a, w, e)) h1 ha
  have h3 : Cel M0 (mup (mup M w (waitO (a, w, e))) a (entO (a, w, e))) ([] ++ (E, .lst (L.reverse.map entD)) :: (a, entO (a, w, e)) :: (w, waitO (a, w, e)) :: entC L) := h2.perm (by
    refine (List.Perm.swap _ _ _).trans ?_ |>.symm
    exact List.Perm.cons _ (List.Perm.swap _ _ _))
  have h4 := Cel.put (o' := .lst (((a, w, e) :: L).reverse.map entD)) h3
  unfold EnS
  rw [entC_cons]
  exact h4
/-- a line ends -/
theorem EnS.pop {x : Addr × Addr × EntW} (h : EnS E M0 M (x :: L)) : EnS E M0 (mup M E (.lst (L.reverse.map entD))) L := by
  unfold EnS at h
  rw [entC_cons] at h
  have h1 := Cel.put (pre := []) (o' := .lst (L.reverse.map entD)) h
  have h2 := Cel.forget (pre := [(E, .lst (L.reverse.map entD))]) h1
  exact Cel.forget (pre := [(E, .lst (L.reverse.map entD))]) h2
/-- what waits in an open line -/
theorem EnS.wait {A B : Ens} {a w : Addr} {e : EntW} {ws : List Nat} (h : EnS E M0 M (A ++ (a, w, e) :: B)) : EnS E M0 (mup M w (.lst (ws.map natD))) (A ++ (a, w, { e with wait := ws }) :: B) := by
  unfold EnS at h ⊢
  rw [entC_app, entC_cons] at h ⊢
  have h1 := Cel.put (pre := (E, .lst ((A ++ (a, w, e) :: B).reverse.map entD)) :: (entC A ++ [(a, entO (a, w, e))])) (a := w) (o := waitO (a, w, e)) (o' := .lst (ws.map natD)) (post := entC B) (by
    simpa using h)
  have e1 : (A ++ (a, w, { e with wait := ws }) :: B).reverse.map entD = (A ++ (a, w, e) :: B).reverse.map entD := by simp [entD]
  rw [e1]
  simpa [entO, waitO] using h1
end
/-! the last while among the open lines -/
theorem first_ens : ∀ {L : Ens} {e : EntW}, firstW (L.map (·.2.2)) = some e → ∃ A a w B, L = A ++ (a, w, e) :: B ∧ (∀ x ∈ A, x.2.2.wh = false) ∧ e.wh = true
  | [], e, h => by cases h
  | (a, w, e0) :: t, e, h => by
    rw [List.map_cons] at h
    unfold firstW at h
    by_cases c : e0.wh = true
    · rw [if_pos c] at h
      cases h
      exact ⟨[], a, w, t, rfl, fun x hx => (by cases hx), c⟩
    · rw [if_neg c] at h
      obtain ⟨A, a', w', B, rfl, h1, h2⟩ := first_ens h
      refine ⟨(a, w, e0) :: A, a', w', B, rfl, fun x hx => ?_, h2⟩
      rcases List.mem_cons.mp hx with rfl | hx
      · simpa using c
      · exact h1 x hx
theorem add_ens {A B : Ens} {a w : Addr} {e : EntW} {js : List Nat} (h : ∀ x ∈ A, x.2.2.wh = false) (he : e.wh = true) : (A ++ (a, w, { e with wait := e.wait ++ js }) :: B).map (·.2.2) = addWs ((A ++ (a, w, e) :: B).map (·.2.2)) js := by
  induction A with
  | nil =>
    rw [List.nil_append, List.nil_append, List.map_cons, List.map_cons, addWs, if_pos he]
  | cons x t ih =>
    have hx := h x (List.mem_cons_self ..)
    rw [List.cons_append, List.cons_append, List.map_cons, List.map_cons, addWs, if_neg (by rw [hx]; decide), ih fun y hy => h y (List.mem_cons_of_mem _ hy)]
theorem filt_ens {A B : Ens} {a w : Addr} {e : EntW} (h : ∀ x ∈ A, x.2.2.wh = false) (he : e.wh = true) : ∃ C, ((A ++ (a, w, e) :: B).reverse.filter fun x => x.2.2.wh) = C ++ [(a, w, e)] := by
  rw [List.reverse_append, List.reverse_cons, List.filter_append, List.filter_append]
  have : A.reverse.filter (fun x => x.2.2.wh) = [] := by
    rw [List.filter_eq_nil_iff]
    intro x hx
    rw [h x (List.mem_reverse.mp hx)]
    decide
  rw [this, List.append_nil]
  refine ⟨B.reverse.filter fun x => x.2.2.wh, ?_⟩
  congr 1
  simp [he]
theorem addWs_len : ∀ {es : List EntW} {js : List Nat} {b : Nat}, (addWs es js).length = es.length ∧ ((∀ e ∈ es, e.wait.length ≤ b) → ∀ e ∈ addWs es js, e.wait.length ≤ b + js.length)
  | [], js, b => ⟨rfl, fun _ e he => by cases he⟩
  | a :: t, js, b => by
    obtain ⟨h1, h2⟩ := addWs_len (es := t) (js := js) (b := b)
    unfold addWs
    by_cases c : a.wh = true
    · rw [if_pos c]
      refine ⟨rfl, fun h e he => ?_⟩
      rcases List.mem_cons.mp he with rfl | he
      · have := h a (List.mem_cons_self ..)
        rw [List.length_append]
        omega
      · have := h e (List.mem_cons_of_mem _ he)
        omega
    · rw [if_neg c]
      refine ⟨by rw [List.length_cons, h1, List.length_cons], fun h e he => ?_⟩
      rcases List.mem_cons.mp he with rfl | he
      · have := h e (List.mem_cons_self ..)
        omega
      · exact h2 (fun e he => h e (List.mem_cons_of_mem _ he)) e he
theorem lastW_len {F : List Rw} {ss : List Str} {l : Int} {a0 j : Nat} {x : Lw} {r : Rw} {es es' : List EntW} {b : Nat} (h : lastW F ss l a0 x j r es es') : es'.length ≤ es.length + 1 ∧ ((∀ e ∈ es, e.wait.length ≤ b) → ∀ e ∈ es', e.wait.length ≤ b + 1) := by
  have keep : es' = es → es'.length ≤ es.length + 1 ∧ ((∀ e ∈ es, e.wait.length ≤ b) → ∀ e ∈ es', e.wait.length ≤ b + 1) := fun e => by
    subst e
    exact ⟨Nat.le_succ _, fun q e he => Nat.le_succ_of_le (q e he)⟩
  have more : ∀ w, es' = ⟨w, l, a0, [j]⟩ :: es → es'.length ≤ es.length + 1 ∧ ((∀ e ∈ es, e.wait.length ≤ b) → ∀ e ∈ es', e.wait.length ≤ b + 1) := fun w e => by
    subst e
    refine ⟨Nat.le_refl _, fun q e he => ?_⟩
    rcases List.mem_cons.mp he with rfl | he
    · exact Nat.le_add_left 1 b
    · exact Nat.le_succ_of_le (q e he)
  unfold lastW at h
  cases hk : x.k <;> rw [hk] at h
  case iff => exact more _ h.2
  case whl => exact more _ h.2
  case agn => exact keep h.2
  case brk =>
    rw [h.2.2]
    obtain ⟨h1, h2⟩ := addWs_len (es := es) (js := [j]) (b := b)
    exact ⟨by omega, h2⟩
  all_goals exact keep h.2
/-! ### a line's text out of its expressions' texts -/
def preK (x : Lw) : List Str := match x.k with
  | .set => [x.nm]
  | .join => [x.nm, x.jt]
  | _ => []
theorem join_ex {w : Str} {e : Ex} : Txt.join blank (w :: wordsE e) = Txt.join blank [w, txtE e] := by
  rw [join_cons (words_ne e), join_cons (by simp), tjoin_one]; rfl
theorem lw_txt (x : Lw) : x.lin.txt = Txt.join blank (x.k.s :: (preK x ++ x.exs.map txtE)) := by
  obtain ⟨k, nm, jt, e1, e2⟩ := x
  cases k
  case put =>
    show Txt.join blank ("put" :: (wordsE e1 ++ wordsE e2)) = Txt.join blank ["put", txtE e1, txtE e2]
    rw [join_cons (fun q => words_ne e1 (List.append_eq_nil_iff.mp q).1), join_app (words_ne e2) (words_ne e1), join_cons (by simp), join_cons (by simp), tjoin_one]
    rfl
  case set =>
    show Txt.join blank ("set" :: nm :: wordsE e1) = Txt.join blank ["set", nm, txtE e1]
    rw [join_cons (by simp), join_ex, join_cons (ws := [nm, txtE e1]) (by simp)]
  case join =>
    show Txt.join blank ("join" :: nm :: jt :: wordsE e1) = Txt.join blank ["join", nm, jt, txtE e1]
    rw [join_cons (by simp), join_cons (by simp), join_ex, join_cons (ws := [nm, jt, txtE e1]) (by simp), join_cons (ws := [jt, txtE e1]) (by simp)]
  case iff => exact join_ex
  case whl => exact join_ex
  case ret => exact join_ex
  case tell => exact join_ex
  all_goals rfl
theorem lw_len {x : Lw} (h : okLw x) : ((x.k.s :: (preK x ++ x.exs.map txtE)).map (·.length)).sum ≤ 1000 ∧ (x.k.s :: (preK x ++ x.exs.map txtE)).length ≤ 4 := by
  have hk : x.k.s.length ≤ 6 := by cases x.k <;> decide +kernel
  have ht : ∀ e : Ex, exK e → (txtE e).length ≤ 88 := fun e q => by
    have h1 := txt_len q.1
    have h2 : 2 ^ e.deep ≤ 2 ^ 3 := Nat.pow_le_pow_right (by decide) q.2.2
    omega
  have h1 := ht _ h.e1
  have h2 := ht _ h.e2
  have hn : x.k ≠ .fin → x.nm.length ≤ 6 ∧ x.jt.length ≤ 6 := fun q => by
    obtain ⟨a, b⟩ := h.nm q
    have n1 : ∀ x ∈ nmK, x.length ≤ 6 := by decide +kernel
    have n2 : ∀ x ∈ jtK, x.length ≤ 6 := by decide +kernel
    exact ⟨n1 _ a, n2 _ b⟩
  obtain ⟨k, nm, jt, e1, e2⟩ := x
  cases k <;> (unfold preK Lw.exs; simp only [List.map_cons, List.map_nil, List.nil_append, List.cons_append, List.sum_cons, List.sum_nil, List.length_cons, List.length_nil] at *) <;> first | (have := hn (by decide); omega) | omega
/-! ### names of the lines -/
def noteLw (ss : List Str) (x : Lw) : List Str := x.exs.foldl noteE (if x.k = .set ∨ x.k = .join then noteN ss x.nm else ss)
def slotsL (ps : List Str) (L : List Lw) : List Str := L.foldl noteLw ps
theorem lw_exs {x : Lw} (h : okLw x) : ∀ e ∈ x.exs, exK e := fun e he => by
  unfold Lw.exs at he
  split at he <;> simp only [List.mem_cons, List.not_mem_nil, or_false] at he
  · rcases he with rfl | rfl
    · exact h.e1
    · exact h.e2
  all_goals first | (rw [he]; exact h.e1) | exact he.elim
theorem exs_two {x : Lw} : x.exs.length ≤ 2 := by unfold Lw.exs; split <;> exact Nat.le_of_ble_eq_true rfl
theorem noteLw_le {x : Lw} (h : okLw x) (ss : List Str) : (noteLw ss x).length ≤ ss.length + 17 := by
  unfold noteLw
  have h1 : ∀ ss : List Str, (x.exs.foldl noteE ss).length ≤ ss.length + 8 * x.exs.length := fun ss => notes_le (f := noteE) fun e he ss => by
    have h2 := noteE_le (e := e) (ss := ss)
    have h3 : 2 ^ e.deep ≤ 2 ^ 3 := Nat.pow_le_pow_right (by decide) (lw_exs h e he).2.2
    omega
  have h4 := exs_two (x := x)
  split
  · have := h1 (noteN ss x.nm)
    have := noteN_le (ss := ss) (x := x.nm)
    omega
  · have := h1 ss
    omega
theorem slotsL_le {ps : List Str} {L : List Lw} (h : ∀ x ∈ L, okLw x) : (slotsL ps L).length ≤ ps.length + 17 * L.length := notes_le (f := noteLw) fun x hx ss => noteLw_le (h x hx) ss
theorem noteLw_sub (ss : List Str) (x : Lw) : ∀ y ∈ ss, y ∈ noteLw ss x := by
  intro y hy
  unfold noteLw
  refine notes_sub (f := noteE) (fun ss e => noteE_sub (e := e)) y ?_
  split
  · exact noteN_sub y hy
  · exact hy
theorem slotsL_in {L : List Lw} : ∀ {ps : List Str}, ∀ x ∈ L, (x.k = .set ∨ x.k = .join → x.nm ∈ slotsL ps L) ∧ ∀ e ∈ x.exs, e.inS (slotsL ps L) := by
  induction L with
  | nil => intro ps x hx; cases hx
  | cons t r ih =>
    intro ps x hx
    rcases List.mem_cons.mp hx with rfl | hx
    · have sub := notes_sub (f := noteLw) noteLw_sub (l := r) (ss := noteLw ps x)
      refine ⟨fun hk => sub _ ?_, fun e he => inS_mono sub ?_⟩
      · unfold noteLw
        rw [if_pos hk]
        exact notes_sub (f := noteE) (fun ss e => noteE_sub (e := e)) _ noteN_in
      · unfold noteLw
        exact notesE_in e he
    · exact ih x hx
theorem exN_deep {e : Ex} (h : e.deep ≤ 8) : exN e ≤ 256 := by
  have h1 := exRows_len (ss := []) (l := 0) (e := e) (a := 0)
  rw [exRows_n] at h1
  have : 2 ^ e.deep ≤ 2 ^ 8 := Nat.pow_le_pow_right (by decide) h
  omega
theorem noteS_shpK {ss : List Str} {s : Sm} : noteS ss (shpK s) = noteS ss s := by cases s <;> rfl
theorem note_line {ss : List Str} {x : Lw} {k : Int} : (stsK k x.lin).foldl noteS ss = noteLw ss x := by
  obtain ⟨kw, nm, jt, e1, e2⟩ := x
  cases kw <;> rfl
theorem note_lines : ∀ {L : List Lw} {ss : List Str} {k : Int}, (stsRK k (L.map Lw.lin)).foldl noteS ss = slotsL ss L
  | [], _, _ => rfl
  | x :: t, ss, k => by
    rw [List.map_cons, stsRK, List.foldl_append, note_line, note_lines]
    rfl
theorem note_map : ∀ {b : List Sm} {ss : List Str}, (b.map shpK).foldl noteS ss = b.foldl noteS ss
  | [], _ => rfl
  | s :: t, ss => by rw [List.map_cons, List.foldl_cons, List.foldl_cons, noteS_shpK, note_map]
theorem slots_K {way : Nat} {L : List Lw} {body : List Sm} {k0 : Int} (f : FactK k0 L body) : slotsF (dfK way L body) = slotsL (dfK way L body).ps L := by
  unfold slotsF
  rw [dfK_body, ← note_map, f.sts, note_lines]
  congr 1
  rcases dfK_ps (way := way) (L := L) (body := body) with ⟨e, _⟩ | ⟨e, _⟩ <;> rw [e] <;> decide +kernel
/-! ### the rows of the program -/
def aheadK (k : Int) : List Rw := [.tick (k + 1), .num (k + 1) 2 5, .sign (k + 1) 3 .lane, .call (k + 1) 1 2 2 5, .back (k + 2)]
def k1K (way : Nat) (L : List Lw) : Int := if way = 1 then 1 else (L.length : Nat) + 3
theorem main_rows {k : Int} {bg : Str → Int} (hb : bg "f" = 5) : defR bg 0 (mainK k) = aheadK k := by
  have hs : slotsF (mainK k) = [("x" : Str)] := by
    unfold slotsF
    rw [main_all]
    rfl
  unfold defR
  rw [hs]
  unfold mainK
  dsimp only
  unfold rB rS rB
  simp only [exsRows, exRows, hb]
  have : slotOf ([("x" : Str)] : List Str) "x" = 1 := by decide +kernel
  rw [this]
  rfl
theorem sz_main {k : Int} : szB (mainK k).body = 4 := by
  unfold mainK
  dsimp only
  unfold szB szS szB
  rfl
theorem rows_K0 {L : List Lw} {body : List Sm} (f : FactK (k0K 0) L body) : ∃ bg, rowsF (pgK 0 L body) = defR bg 0 (dfK 0 L body) := by
  have e : pgK 0 L body = [dfK 0 L body] := by unfold pgK; rw [if_pos rfl]
  have em : mainFirst (pgK 0 L body) = [dfK 0 L body] := by rw [e]; rfl
  have h := rows_all (pg := pgK 0 L body) fun o ho => by
    rw [e] at ho
    rw [List.mem_singleton.mp ho, dfK_body]
    exact f.lps
  rw [em, allR, allR, List.append_nil] at h
  exact ⟨_, h⟩
theorem first_K {way : Nat} {L : List Lw} {body : List Sm} (hw : way ≠ 0) : mainFirst (pgK way L body) = [mainK (k1K way L), dfK way L body] := by
  unfold pgK k1K
  rw [if_neg hw]
  by_cases h1 : way = 1
  · rw [if_pos h1, if_pos h1]
    unfold dfK
    rw [if_neg hw, if_pos h1]
    rfl
  · rw [if_neg h1, if_neg h1]
    unfold dfK
    rw [if_neg hw, if_neg h1]
    rfl
theorem pgK_lps {way : Nat} {L : List Lw} {body : List Sm} {k0 : Int} (f : FactK k0 L body) : ∀ o ∈ pgK way L body, inLps False o.body := fun o ho => by
  rcases pgK_mem ho with rfl | ⟨k, rfl, _⟩
  · rw [dfK_body]; exact f.lps
  · unfold mainK
    rw [inLps_one]
    unfold inLp
    trivial
theorem rows_K1 {way : Nat} {L : List Lw} {body : List Sm} (hw : way ≠ 0) (f : FactK (k0K way) L body) : ∃ bg, rowsF (pgK way L body) = aheadK (k1K way L) ++ defR bg 5 (dfK way L body) := by
  have hn : (dfK way L body).name = "f" := by
    rcases dfK_ps (way := way) (L := L) (body := body) with ⟨_, _, e⟩ | ⟨_, e, _⟩
    · exact absurd e hw
    · exact e
  have h := rows_all (pg := pgK way L body) (pgK_lps f)
  rw [first_K hw, begs, begs, begs, sz_main, hn, allR, allR, allR, List.append_nil, sz_main, main_rows (by rfl)] at h
  exact ⟨_, h⟩
theorem go_K {way : Nat} {L : List Lw} {body : List Sm} (f : FactK (k0K way) L body) (hl : ∀ x ∈ L, okLw x) {bg : Str → Int} {pos : Nat} {A : List Rw} (hA : A.length = pos) {F : List Rw} (hF : F = A ++ defR bg pos (dfK way L body)) :
    goR F (slotsF (dfK way L body)) (k0K way + 1) (pos, []) 0 L (pos + szB body, []) ∧ F.drop (pos + szB body) = [.back (k0K way + 1 + (L.length : Nat))] ∧ (pos + szB body) < F.length := by
  have e1 : defR bg pos (dfK way L body) = rB (slotsF (dfK way L body)) ((slotsF (dfK way L body)).length + 1) bg (pos + szB body : Nat) 0 0 pos body ++ [.back (k0K way + 1 + (L.length : Nat))] := by
    unfold defR
    rw [dfK_body]
    congr 2
    unfold dfK k0K
    by_cases h0 : way = 0
    · rw [if_pos h0, if_neg (by omega)]
      show Rw.back (1 + (L.length : Nat) + 1) = _
      congr 1
      omega
    · rw [if_neg h0]
      by_cases h1 : way = 1
      · rw [if_pos h1, if_pos h1]
        show Rw.back (4 + (L.length : Nat) + 1) = _
        congr 1
        omega
      · rw [if_neg h1, if_neg h1]
        show Rw.back (1 + (L.length : Nat) + 1) = _
        congr 1
        omega
  rw [e1] at hF
  have hrl := rB_len (ss := slotsF (dfK way L body)) (fr := (slotsF (dfK way L body)).length + 1) (bg := bg) (last := (pos + szB body : Nat)) 0 0 pos body
  generalize hR : rB (slotsF (dfK way L body)) ((slotsF (dfK way L body)).length + 1) bg (pos + szB body : Nat) 0 0 pos body = R at *
  have hFl : F.length = pos + szB body + 1 := by rw [hF, List.length_append, List.length_append, hA, hrl, List.length_singleton]; omega
  have hsub : subAt F pos R := by
    unfold subAt
    rw [hF, ← hA, List.drop_left, List.take_left]
  obtain ⟨g, _⟩ := go_B (F := F) (ss := slotsF (dfK way L body)) (line := k0K way + 1) (bg := bg) (last := (pos + szB body : Nat)) (lp := False) (by rw [hFl]; omega) body (L := L) (pos := pos) (k := 0) (es := []) (lb := 0) (le := 0) f.lines (by simpa using f.num) (by rw [hR]; exact hsub) f.lps (fun t ht => (f.sim hl t ht).1) (fun q => q.elim)
  refine ⟨g, ?_, by omega⟩
  rw [hF, ← List.append_assoc, show pos + szB body = (A ++ R).length by rw [List.length_append, hA, hrl], List.drop_left]
end Tl
namespace K23
open PySem PySem.Spec PyProof.Rows L2 Tl
def top (i : Nat) : Stmt := PySem.Challenge.pw_widelanes_k23_rows_of_branches.main.body.getD i (.Pass ⟨0, 0, 0, 0⟩)
def fl_Maker : List Str := ["rows", "slots", "free", "calls", "leaves", "loops"]
def fl_Opened : List Str := ["line", "parts", "first", "second"]
abbrev s_expressions_of : Stmt := top 1
abbrev nm_expressions_of : List Str := ["deed", "word"]
theorem sc_expressions_of : FnScope nm_expressions_of ["deed"] (defScope s_expressions_of) := ⟨rfl, rfl, rfl, by decide +kernel, rfl, by decide +kernel, by decide +kernel⟩
def e_expressions_of : He.DefD := ⟨("expressions_of", none), "expressions_of", "expressions_of", defArgs s_expressions_of, defBody s_expressions_of, defScope s_expressions_of, [], []⟩
abbrev s_given_by : Stmt := top 2
abbrev nm_given_by : List Str := ["deed"]
theorem sc_given_by : FnScope nm_given_by ["deed"] (defScope s_given_by) := ⟨rfl, rfl, rfl, by decide +kernel, rfl, by decide +kernel, by decide +kernel⟩
def e_given_by : He.DefD := ⟨("given_by", none), "given_by", "given_by", defArgs s_given_by, defBody s_given_by, defScope s_given_by, [], []⟩
abbrev s_blocks_of : Stmt := top 3
abbrev nm_blocks_of : List Str := ["deed"]
theorem sc_blocks_of : FnScope nm_blocks_of ["deed"] (defScope s_blocks_of) := ⟨rfl, rfl, rfl, by decide +kernel, rfl, by decide +kernel, by decide +kernel⟩
def e_blocks_of : He.DefD := ⟨("blocks_of", none), "blocks_of", "blocks_of", defArgs s_blocks_of, defBody s_blocks_of, defScope s_blocks_of, [], []⟩
abbrev s_all_of : Stmt := top 4
abbrev nm_all_of : List Str := ["body", "found", "deed", "block"]
theorem sc_all_of : FnScope nm_all_of ["body"] (defScope s_all_of) := ⟨rfl, rfl, rfl, by decide +kernel, rfl, by decide +kernel, by decide +kernel⟩
def e_all_of : He.DefD := ⟨("all_of", none), "all_of", "all_of", defArgs s_all_of, defBody s_all_of, defScope s_all_of, [], []⟩
abbrev s_note_names : Stmt := top 6
abbrev nm_note_names : List Str := ["told", "slots", "part"]
theorem sc_note_names : FnScope nm_note_names ["told", "slots"] (defScope s_note_names) := ⟨rfl, rfl, rfl, by decide +kernel, rfl, by decide +kernel, by decide +kernel⟩
def e_note_names : He.DefD := ⟨("note_names", none), "note_names", "note_names", defArgs s_note_names, defBody s_note_names, defScope s_note_names, [], []⟩
abbrev s_slots_of : Stmt := top 7
abbrev nm_slots_of : List Str := ["one", "slots", "name", "deed", "told"]
theorem sc_slots_of : FnScope nm_slots_of ["one"] (defScope s_slots_of) := ⟨rfl, rfl, rfl, by decide +kernel, rfl, by decide +kernel, by decide +kernel⟩
def e_slots_of : He.DefD := ⟨("slots_of", none), "slots_of", "slots_of", defArgs s_slots_of, defBody s_slots_of, defScope s_slots_of, [], []⟩
abbrev s_add_expression : Stmt := top 8
abbrev nm_add_expression : List Str := ["rows", "line", "told", "at", "slots", "word"]
theorem sc_add_expression : FnScope nm_add_expression ["rows", "line", "told", "at", "slots"] (defScope s_add_expression) := ⟨rfl, rfl, rfl, by decide +kernel, rfl, by decide +kernel, by decide +kernel⟩
def e_add_expression : He.DefD := ⟨("add_expression", none), "add_expression", "add_expression", defArgs s_add_expression, defBody s_add_expression, defScope s_add_expression, [], []⟩
abbrev s_Maker___init : Stmt := inClass (top 9) 0
abbrev nm_Maker___init : List Str := ["self"]
theorem sc_Maker___init : FnScope nm_Maker___init ["self"] (defScope s_Maker___init) := ⟨rfl, rfl, rfl, by decide +kernel, rfl, by decide +kernel, by decide +kernel⟩
def e_Maker___init : He.DefD := ⟨("Maker", some "__init__"), "__init__", "Maker.__init__", defArgs s_Maker___init, defBody s_Maker___init, defScope s_Maker___init, [], []⟩
abbrev s_Maker_added : Stmt := inClass (top 9) 1
abbrev nm_Maker_added : List Str := ["self", "row"]
theorem sc_Maker_added : FnScope nm_Maker_added ["self", "row"] (defScope s_Maker_added) := ⟨rfl, rfl, rfl, by decide +kernel, rfl, by decide +kernel, by decide +kernel⟩
def e_Maker_added : He.DefD := ⟨("Maker", some "added"), "added", "Maker.added", defArgs s_Maker_added, defBody s_Maker_added, defScope s_Maker_added, [], []⟩
abbrev s_Maker_reckon : Stmt := inClass (top 9) 2
abbrev nm_Maker_reckon : List Str := ["self", "line", "told", "at"]
theorem sc_Maker_reckon : FnScope nm_Maker_reckon ["self", "line", "told", "at"] (defScope s_Maker_reckon) := ⟨rfl, rfl, rfl, by decide +kernel, rfl, by decide +kernel, by decide +kernel⟩
def e_Maker_reckon : He.DefD := ⟨("Maker", some "reckon"), "reckon", "Maker.reckon", defArgs s_Maker_reckon, defBody s_Maker_reckon, defScope s_Maker_reckon, [], []⟩
abbrev s_Maker_tested : Stmt := inClass (top 9) 3
abbrev nm_Maker_tested : List Str := ["self", "line", "told"]
theorem sc_Maker_tested : FnScope nm_Maker_tested ["self", "line", "told"] (defScope s_Maker_tested) := ⟨rfl, rfl, rfl, by decide +kernel, rfl, by decide +kernel, by decide +kernel⟩
def e_Maker_tested : He.DefD := ⟨("Maker", some "tested"), "tested", "Maker.tested", defArgs s_Maker_tested, defBody s_Maker_tested, defScope s_Maker_tested, [], []⟩
abbrev s_Maker_lead : Stmt := inClass (top 9) 4
abbrev nm_Maker_lead : List Str := ["self", "k", "target"]
theorem sc_Maker_lead : FnScope nm_Maker_lead ["self", "k", "target"] (defScope s_Maker_lead) := ⟨rfl, rfl, rfl, by decide +kernel, rfl, by decide +kernel, by decide +kernel⟩
def e_Maker_lead : He.DefD := ⟨("Maker", some "lead"), "lead", "Maker.lead", defArgs s_Maker_lead, defBody s_Maker_lead, defScope s_Maker_lead, [], []⟩
abbrev s_Maker_lead_here : Stmt := inClass (top 9) 5
abbrev nm_Maker_lead_here : List Str := ["self", "some", "k"]
theorem sc_Maker_lead_here : FnScope nm_Maker_lead_here ["self", "some"] (defScope s_Maker_lead_here) := ⟨rfl, rfl, rfl, by decide +kernel, rfl, by decide +kernel, by decide +kernel⟩
def e_Maker_lead_here : He.DefD := ⟨("Maker", some "lead_here"), "lead_here", "Maker.lead_here", defArgs s_Maker_lead_here, defBody s_Maker_lead_here, defScope s_Maker_lead_here, [], []⟩
abbrev s_last_row : Stmt := top 10
abbrev nm_last_row : List Str := ["deed", "slots", "at", "word"]
theorem sc_last_row : FnScope nm_last_row ["deed", "slots", "at"] (defScope s_last_row) := ⟨rfl, rfl, rfl, by decide +kernel, rfl, by decide +kernel, by decide +kernel⟩
def e_last_row : He.DefD := ⟨("last_row", none), "last_row", "last_row", defArgs s_last_row, defBody s_last_row, defScope s_last_row, [], []⟩
abbrev s_make_way : Stmt := top 11
abbrev nm_make_way : List Str := ["maker", "deed", "line", "begin", "leaving", "k"]
theorem sc_make_way : FnScope nm_make_way ["maker", "deed"] (defScope s_make_way) := ⟨rfl, rfl, rfl, by decide +kernel, rfl, by decide +kernel, by decide +kernel⟩
def e_make_way : He.DefD := ⟨("make_way", none), "make_way", "make_way", defArgs s_make_way, defBody s_make_way, defScope s_make_way, [], []⟩
abbrev s_make_plain : Stmt := top 12
abbrev nm_make_plain : List Str := ["maker", "deed", "line", "at", "told", "row"]
theorem sc_make_plain : FnScope nm_make_plain ["maker", "deed"] (defScope s_make_plain) := ⟨rfl, rfl, rfl, by decide +kernel, rfl, by decide +kernel, by decide +kernel⟩
def e_make_plain : He.DefD := ⟨("make_plain", none), "make_plain", "make_plain", defArgs s_make_plain, defBody s_make_plain, defScope s_make_plain, [], []⟩
abbrev s_make_if : Stmt := top 13
abbrev nm_make_if : List Str := ["maker", "deed", "waiting", "jump"]
theorem sc_make_if : FnScope nm_make_if ["maker", "deed"] (defScope s_make_if) := ⟨rfl, rfl, rfl, by decide +kernel, rfl, by decide +kernel, by decide +kernel⟩
def e_make_if : He.DefD := ⟨("make_if", none), "make_if", "make_if", defArgs s_make_if, defBody s_make_if, defScope s_make_if, [], []⟩
abbrev s_make_while : Stmt := top 14
abbrev nm_make_while : List Str := ["maker", "deed", "begin", "leaving"]
theorem sc_make_while : FnScope nm_make_while ["maker", "deed"] (defScope s_make_while) := ⟨rfl, rfl, rfl, by decide +kernel, rfl, by decide +kernel, by decide +kernel⟩
def e_make_while : He.DefD := ⟨("make_while", none), "make_while", "make_while", defArgs s_make_while, defBody s_make_while, defScope s_make_while, [], []⟩
abbrev s_make_block : Stmt := top 15
abbrev nm_make_block : List Str := ["maker", "body", "deed"]
theorem sc_make_block : FnScope nm_make_block ["maker", "body"] (defScope s_make_block) := ⟨rfl, rfl, rfl, by decide +kernel, rfl, by decide +kernel, by decide +kernel⟩
def e_make_block : He.DefD := ⟨("make_block", none), "make_block", "make_block", defArgs s_make_block, defBody s_make_block, defScope s_make_block, [], []⟩
abbrev s_make_def : Stmt := top 16
abbrev nm_make_def : List Str := ["maker", "one"]
theorem sc_make_def : FnScope nm_make_def ["maker", "one"] (defScope s_make_def) := ⟨rfl, rfl, rfl, by decide +kernel, rfl, by decide +kernel, by decide +kernel⟩
def e_make_def : He.DefD := ⟨("make_def", none), "make_def", "make_def", defArgs s_make_def, defBody s_make_def, defScope s_make_def, [], []⟩
abbrev s_made : Stmt := top 17
abbrev nm_made : List Str := ["program", "maker", "begins", "one", "others", "k", "name"]
theorem sc_made : FnScope nm_made ["program"] (defScope s_made) := ⟨rfl, rfl, rfl, by decide +kernel, rfl, by decide +kernel, by decide +kernel⟩
def e_made : He.DefD := ⟨("made", none), "made", "made", defArgs s_made, defBody s_made, defScope s_made, [], []⟩
abbrev s_all_of_these : Stmt := top 34
abbrev nm_all_of_these : List Str := ["text", "signs", "sign"]
theorem sc_all_of_these : FnScope nm_all_of_these ["text", "signs"] (defScope s_all_of_these) := ⟨rfl, rfl, rfl, by decide +kernel, rfl, by decide +kernel, by decide +kernel⟩
def e_all_of_these : He.DefD := ⟨("all_of_these", none), "all_of_these", "all_of_these", defArgs s_all_of_these, defBody s_all_of_these, defScope s_all_of_these, [], []⟩
abbrev s_is_name : Stmt := top 35
abbrev nm_is_name : List Str := ["text"]
theorem sc_is_name : FnScope nm_is_name ["text"] (defScope s_is_name) := ⟨rfl, rfl, rfl, by decide +kernel, rfl, by decide +kernel, by decide +kernel⟩
def e_is_name : He.DefD := ⟨("is_name", none), "is_name", "is_name", defArgs s_is_name, defBody s_is_name, defScope s_is_name, [], []⟩
abbrev s_is_number : Stmt := top 36
abbrev nm_is_number : List Str := ["text", "figures"]
theorem sc_is_number : FnScope nm_is_number ["text"] (defScope s_is_number) := ⟨rfl, rfl, rfl, by decide +kernel, rfl, by decide +kernel, by decide +kernel⟩
def e_is_number : He.DefD := ⟨("is_number", none), "is_number", "is_number", defArgs s_is_number, defBody s_is_number, defScope s_is_number, [], []⟩
abbrev s_read_number : Stmt := top 37
abbrev nm_read_number : List Str := ["text"]
theorem sc_read_number : FnScope nm_read_number ["text"] (defScope s_read_number) := ⟨rfl, rfl, rfl, by decide +kernel, rfl, by decide +kernel, by decide +kernel⟩
def e_read_number : He.DefD := ⟨("read_number", none), "read_number", "read_number", defArgs s_read_number, defBody s_read_number, defScope s_read_number, [], []⟩
abbrev s_plain_of : Stmt := top 38
abbrev nm_plain_of : List Str := ["word"]
theorem sc_plain_of : FnScope nm_plain_of ["word"] (defScope s_plain_of) := ⟨rfl, rfl, rfl, by decide +kernel, rfl, by decide +kernel, by decide +kernel⟩
def e_plain_of : He.DefD := ⟨("plain_of", none), "plain_of", "plain_of", defArgs s_plain_of, defBody s_plain_of, defScope s_plain_of, [], []⟩
abbrev s_expression_at : Stmt := top 39
abbrev nm_expression_at : List Str := ["words", "at", "room", "word", "one", "behind", "other", "last"]
theorem sc_expression_at : FnScope nm_expression_at ["words", "at", "room"] (defScope s_expression_at) := ⟨rfl, rfl, rfl, by decide +kernel, rfl, by decide +kernel, by decide +kernel⟩
def e_expression_at : He.DefD := ⟨("expression_at", none), "expression_at", "expression_at", defArgs s_expression_at, defBody s_expression_at, defScope s_expression_at, [], []⟩
abbrev s_expressions_at : Stmt := top 40
abbrev nm_expressions_at : List Str := ["words", "at", "found", "told"]
theorem sc_expressions_at : FnScope nm_expressions_at ["words", "at"] (defScope s_expressions_at) := ⟨rfl, rfl, rfl, by decide +kernel, rfl, by decide +kernel, by decide +kernel⟩
def e_expressions_at : He.DefD := ⟨("expressions_at", none), "expressions_at", "expressions_at", defArgs s_expressions_at, defBody s_expressions_at, defScope s_expressions_at, [], []⟩
abbrev s_name_at : Stmt := top 46
abbrev nm_name_at : List Str := ["words", "at"]
theorem sc_name_at : FnScope nm_name_at ["words", "at"] (defScope s_name_at) := ⟨rfl, rfl, rfl, by decide +kernel, rfl, by decide +kernel, by decide +kernel⟩
def e_name_at : He.DefD := ⟨("name_at", none), "name_at", "name_at", defArgs s_name_at, defBody s_name_at, defScope s_name_at, [], []⟩
abbrev s_just_so_many : Stmt := top 47
abbrev nm_just_so_many : List Str := ["words", "at", "many", "found"]
theorem sc_just_so_many : FnScope nm_just_so_many ["words", "at", "many"] (defScope s_just_so_many) := ⟨rfl, rfl, rfl, by decide +kernel, rfl, by decide +kernel, by decide +kernel⟩
def e_just_so_many : He.DefD := ⟨("just_so_many", none), "just_so_many", "just_so_many", defArgs s_just_so_many, defBody s_just_so_many, defScope s_just_so_many, [], []⟩
abbrev s_six_at_most : Stmt := top 48
abbrev nm_six_at_most : List Str := ["found"]
theorem sc_six_at_most : FnScope nm_six_at_most ["found"] (defScope s_six_at_most) := ⟨rfl, rfl, rfl, by decide +kernel, rfl, by decide +kernel, by decide +kernel⟩
def e_six_at_most : He.DefD := ⟨("six_at_most", none), "six_at_most", "six_at_most", defArgs s_six_at_most, defBody s_six_at_most, defScope s_six_at_most, [], []⟩
abbrev s_joining_of : Stmt := top 49
abbrev nm_joining_of : List Str := ["words", "name"]
theorem sc_joining_of : FnScope nm_joining_of ["words"] (defScope s_joining_of) := ⟨rfl, rfl, rfl, by decide +kernel, rfl, by decide +kernel, by decide +kernel⟩
def e_joining_of : He.DefD := ⟨("joining_of", none), "joining_of", "joining_of", defArgs s_joining_of, defBody s_joining_of, defScope s_joining_of, [], []⟩
abbrev s_named_of : Stmt := top 50
abbrev nm_named_of : List Str := ["words", "name", "at"]
theorem sc_named_of : FnScope nm_named_of ["words"] (defScope s_named_of) := ⟨rfl, rfl, rfl, by decide +kernel, rfl, by decide +kernel, by decide +kernel⟩
def e_named_of : He.DefD := ⟨("named_of", none), "named_of", "named_of", defArgs s_named_of, defBody s_named_of, defScope s_named_of, [], []⟩
abbrev s_parts_of : Stmt := top 51
abbrev nm_parts_of : List Str := ["line", "words", "word", "place", "number"]
theorem sc_parts_of : FnScope nm_parts_of ["line"] (defScope s_parts_of) := ⟨rfl, rfl, rfl, by decide +kernel, rfl, by decide +kernel, by decide +kernel⟩
def e_parts_of : He.DefD := ⟨("parts_of", none), "parts_of", "parts_of", defArgs s_parts_of, defBody s_parts_of, defScope s_parts_of, [], []⟩
abbrev s_Opened___init : Stmt := inClass (top 54) 0
abbrev nm_Opened___init : List Str := ["self", "line", "parts"]
theorem sc_Opened___init : FnScope nm_Opened___init ["self", "line", "parts"] (defScope s_Opened___init) := ⟨rfl, rfl, rfl, by decide +kernel, rfl, by decide +kernel, by decide +kernel⟩
def e_Opened___init : He.DefD := ⟨("Opened", some "__init__"), "__init__", "Opened.__init__", defArgs s_Opened___init, defBody s_Opened___init, defScope s_Opened___init, [], []⟩
abbrev s_Opened_newest : Stmt := inClass (top 54) 1
abbrev nm_Opened_newest : List Str := ["self"]
theorem sc_Opened_newest : FnScope nm_Opened_newest ["self"] (defScope s_Opened_newest) := ⟨rfl, rfl, rfl, by decide +kernel, rfl, by decide +kernel, by decide +kernel⟩
def e_Opened_newest : He.DefD := ⟨("Opened", some "newest"), "newest", "Opened.newest", defArgs s_Opened_newest, defBody s_Opened_newest, defScope s_Opened_newest, [], []⟩
abbrev s_Opened_statement : Stmt := inClass (top 54) 2
abbrev nm_Opened_statement : List Str := ["self"]
theorem sc_Opened_statement : FnScope nm_Opened_statement ["self"] (defScope s_Opened_statement) := ⟨rfl, rfl, rfl, by decide +kernel, rfl, by decide +kernel, by decide +kernel⟩
def e_Opened_statement : He.DefD := ⟨("Opened", some "statement"), "statement", "Opened.statement", defArgs s_Opened_statement, defBody s_Opened_statement, defScope s_Opened_statement, [], []⟩
abbrev s_Opened_whole_def : Stmt := inClass (top 54) 3
abbrev nm_Opened_whole_def : List Str := ["self", "last"]
theorem sc_Opened_whole_def : FnScope nm_Opened_whole_def ["self", "last"] (defScope s_Opened_whole_def) := ⟨rfl, rfl, rfl, by decide +kernel, rfl, by decide +kernel, by decide +kernel⟩
def e_Opened_whole_def : He.DefD := ⟨("Opened", some "whole_def"), "whole_def", "Opened.whole_def", defArgs s_Opened_whole_def, defBody s_Opened_whole_def, defScope s_Opened_whole_def, [], []⟩
abbrev s_may_stand : Stmt := top 55
abbrev nm_may_stand : List Str := ["pile", "word", "inner", "one"]
theorem sc_may_stand : FnScope nm_may_stand ["pile", "word"] (defScope s_may_stand) := ⟨rfl, rfl, rfl, by decide +kernel, rfl, by decide +kernel, by decide +kernel⟩
def e_may_stand : He.DefD := ⟨("may_stand", none), "may_stand", "may_stand", defArgs s_may_stand, defBody s_may_stand, defScope s_may_stand, [], []⟩
abbrev s_close_innermost : Stmt := top 56
abbrev nm_close_innermost : List Str := ["pile", "program", "line", "inner"]
theorem sc_close_innermost : FnScope nm_close_innermost ["pile", "program", "line"] (defScope s_close_innermost) := ⟨rfl, rfl, rfl, by decide +kernel, rfl, by decide +kernel, by decide +kernel⟩
def e_close_innermost : He.DefD := ⟨("close_innermost", none), "close_innermost", "close_innermost", defArgs s_close_innermost, defBody s_close_innermost, defScope s_close_innermost, [], []⟩
abbrev s_nested : Stmt := top 57
abbrev nm_nested : List Str := ["rows", "program", "pile", "line", "parts", "word"]
theorem sc_nested : FnScope nm_nested ["rows"] (defScope s_nested) := ⟨rfl, rfl, rfl, by decide +kernel, rfl, by decide +kernel, by decide +kernel⟩
def e_nested : He.DefD := ⟨("nested", none), "nested", "nested", defArgs s_nested, defBody s_nested, defScope s_nested, [], []⟩
abbrev s_check_names : Stmt := top 60
abbrev nm_check_names : List Str := ["program", "rooms", "one", "deed"]
theorem sc_check_names : FnScope nm_check_names ["program"] (defScope s_check_names) := ⟨rfl, rfl, rfl, by decide +kernel, rfl, by decide +kernel, by decide +kernel⟩
def e_check_names : He.DefD := ⟨("check_names", none), "check_names", "check_names", defArgs s_check_names, defBody s_check_names, defScope s_check_names, [], []⟩
abbrev s_read : Stmt := top 61
abbrev nm_read : List Str := ["text", "lines", "program", "line"]
theorem sc_read : FnScope nm_read ["text"] (defScope s_read) := ⟨rfl, rfl, rfl, by decide +kernel, rfl, by decide +kernel, by decide +kernel⟩
def e_read : He.DefD := ⟨("read", none), "read", "read", defArgs s_read, defBody s_read, defScope s_read, [], []⟩
abbrev s_l_whole : Stmt := top 63
abbrev nm_l_whole : List Str := ["_law_found"]
theorem sc_l_whole : FnScope nm_l_whole ["_law_found"] (defScope s_l_whole) := ⟨rfl, rfl, rfl, by decide +kernel, rfl, by decide +kernel, by decide +kernel⟩
def e_l_whole : He.DefD := ⟨("_law_whole", none), "_law_whole", "_law_whole", defArgs s_l_whole, defBody s_l_whole, defScope s_l_whole, [], []⟩
abbrev s_l_mixed : Stmt := top 64
abbrev nm_l_mixed : List Str := ["_law_cell", "_law_k", "_law_number"]
theorem sc_l_mixed : FnScope nm_l_mixed ["_law_cell", "_law_k"] (defScope s_l_mixed) := ⟨rfl, rfl, rfl, by decide +kernel, rfl, by decide +kernel, by decide +kernel⟩
def e_l_mixed : He.DefD := ⟨("_law_mixed", none), "_law_mixed", "_law_mixed", defArgs s_l_mixed, defBody s_l_mixed, defScope s_l_mixed, [], []⟩
abbrev s_l_leaf_by : Stmt := top 65
abbrev nm_l_leaf_by : List Str := ["_law_cell"]
theorem sc_l_leaf_by : FnScope nm_l_leaf_by ["_law_cell"] (defScope s_l_leaf_by) := ⟨rfl, rfl, rfl, by decide +kernel, rfl, by decide +kernel, by decide +kernel⟩
def e_l_leaf_by : He.DefD := ⟨("_law_leaf_by", none), "_law_leaf_by", "_law_leaf_by", defArgs s_l_leaf_by, defBody s_l_leaf_by, defScope s_l_leaf_by, [], []⟩
abbrev s_l_told_by : Stmt := top 66
abbrev nm_l_told_by : List Str := ["_law_cell", "_law_rest", "_law_word", "_law_other", "_law_inner"]
theorem sc_l_told_by : FnScope nm_l_told_by ["_law_cell"] (defScope s_l_told_by) := ⟨rfl, rfl, rfl, by decide +kernel, rfl, by decide +kernel, by decide +kernel⟩
def e_l_told_by : He.DefD := ⟨("_law_told_by", none), "_law_told_by", "_law_told_by", defArgs s_l_told_by, defBody s_l_told_by, defScope s_l_told_by, [], []⟩
abbrev s_l_word_by : Stmt := top 67
abbrev nm_l_word_by : List Str := ["_law_cell", "_law_piled", "_law_main", "_law_kind"]
theorem sc_l_word_by : FnScope nm_l_word_by ["_law_cell", "_law_piled", "_law_main"] (defScope s_l_word_by) := ⟨rfl, rfl, rfl, by decide +kernel, rfl, by decide +kernel, by decide +kernel⟩
def e_l_word_by : He.DefD := ⟨("_law_word_by", none), "_law_word_by", "_law_word_by", defArgs s_l_word_by, defBody s_l_word_by, defScope s_l_word_by, [], []⟩
abbrev s_l_lines : Stmt := top 68
abbrev nm_l_lines : List Str := ["_law_script", "_law_main", "_law_lines_here", "_law_piled", "_law_k", "_law_one", "_law_cell", "_law_word", "_law_joint", "_law_told"]
theorem sc_l_lines : FnScope nm_l_lines ["_law_script", "_law_main"] (defScope s_l_lines) := ⟨rfl, rfl, rfl, by decide +kernel, rfl, by decide +kernel, by decide +kernel⟩
def e_l_lines : He.DefD := ⟨("_law_lines", none), "_law_lines", "_law_lines", defArgs s_l_lines, defBody s_l_lines, defScope s_l_lines, [], []⟩
abbrev s_l_words : Stmt := top 69
abbrev nm_l_words : List Str := ["_law_told", "_law_part"]
theorem sc_l_words : FnScope nm_l_words ["_law_told"] (defScope s_l_words) := ⟨rfl, rfl, rfl, by decide +kernel, rfl, by decide +kernel, by decide +kernel⟩
def e_l_words : He.DefD := ⟨("_law_words", none), "_law_words", "_law_words", defArgs s_l_words, defBody s_l_words, defScope s_l_words, [], []⟩
abbrev s_l_expressions : Stmt := top 71
abbrev nm_l_expressions : List Str := ["_law_one"]
theorem sc_l_expressions : FnScope nm_l_expressions ["_law_one"] (defScope s_l_expressions) := ⟨rfl, rfl, rfl, by decide +kernel, rfl, by decide +kernel, by decide +kernel⟩
def e_l_expressions : He.DefD := ⟨("_law_expressions", none), "_law_expressions", "_law_expressions", defArgs s_l_expressions, defBody s_l_expressions, defScope s_l_expressions, [], []⟩
abbrev s_l_text : Stmt := top 70
abbrev nm_l_text : List Str := ["_law_one", "_law_words_here", "_law_told"]
theorem sc_l_text : FnScope nm_l_text ["_law_one"] (defScope s_l_text) := ⟨rfl, rfl, rfl, by decide +kernel, rfl, by decide +kernel, by decide +kernel⟩
def e_l_text : He.DefD := ⟨("_law_text", none), "_law_text", "_law_text", defArgs s_l_text, defBody s_l_text, defScope s_l_text, [], []⟩
abbrev s_l_note : Stmt := top 72
abbrev nm_l_note : List Str := ["_law_told", "_law_names_here", "_law_part"]
theorem sc_l_note : FnScope nm_l_note ["_law_told", "_law_names_here"] (defScope s_l_note) := ⟨rfl, rfl, rfl, by decide +kernel, rfl, by decide +kernel, by decide +kernel⟩
def e_l_note : He.DefD := ⟨("_law_note", none), "_law_note", "_law_note", defArgs s_l_note, defBody s_l_note, defScope s_l_note, [], []⟩
abbrev s_l_names : Stmt := top 73
abbrev nm_l_names : List Str := ["_law_lines_here", "_law_params", "_law_names_here", "_law_one", "_law_told"]
theorem sc_l_names : FnScope nm_l_names ["_law_lines_here", "_law_params"] (defScope s_l_names) := ⟨rfl, rfl, rfl, by decide +kernel, rfl, by decide +kernel, by decide +kernel⟩
def e_l_names : He.DefD := ⟨("_law_names", none), "_law_names", "_law_names", defArgs s_l_names, defBody s_l_names, defScope s_l_names, [], []⟩
abbrev s_l_rows_of : Stmt := top 74
abbrev nm_l_rows_of : List Str := ["_law_told", "_law_line", "_law_at", "_law_names_here", "_law_rows"]
theorem sc_l_rows_of : FnScope nm_l_rows_of ["_law_told", "_law_line", "_law_at", "_law_names_here"] (defScope s_l_rows_of) := ⟨rfl, rfl, rfl, by decide +kernel, rfl, by decide +kernel, by decide +kernel⟩
def e_l_rows_of : He.DefD := ⟨("_law_rows_of", none), "_law_rows_of", "_law_rows_of", defArgs s_l_rows_of, defBody s_l_rows_of, defScope s_l_rows_of, [], []⟩
abbrev s_l_plain : Stmt := top 75
abbrev nm_l_plain : List Str := ["_law_rows", "_law_row", "_law_part"]
theorem sc_l_plain : FnScope nm_l_plain ["_law_rows"] (defScope s_l_plain) := ⟨rfl, rfl, rfl, by decide +kernel, rfl, by decide +kernel, by decide +kernel⟩
def e_l_plain : He.DefD := ⟨("_law_plain", none), "_law_plain", "_law_plain", defArgs s_l_plain, defBody s_l_plain, defScope s_l_plain, [], []⟩
abbrev s_l_begun : Stmt := top 76
abbrev nm_l_begun : List Str := ["_law_rows", "_law_at", "_law_line", "_law_one", "_law_names_here", "_law_due", "_law_k", "_law_told"]
theorem sc_l_begun : FnScope nm_l_begun ["_law_rows", "_law_at", "_law_line", "_law_one", "_law_names_here"] (defScope s_l_begun) := ⟨rfl, rfl, rfl, by decide +kernel, rfl, by decide +kernel, by decide +kernel⟩
def e_l_begun : He.DefD := ⟨("_law_begun", none), "_law_begun", "_law_begun", defArgs s_l_begun, defBody s_l_begun, defScope s_l_begun, [], []⟩
abbrev s_l_closed : Stmt := top 77
abbrev nm_l_closed : List Str := ["_law_rows", "_law_at", "_law_entry", "_law_word", "_law_line", "_law_begin", "_law_waiting", "_law_k"]
theorem sc_l_closed : FnScope nm_l_closed ["_law_rows", "_law_at", "_law_entry"] (defScope s_l_closed) := ⟨rfl, rfl, rfl, by decide +kernel, rfl, by decide +kernel, by decide +kernel⟩
def e_l_closed : He.DefD := ⟨("_law_closed", none), "_law_closed", "_law_closed", defArgs s_l_closed, defBody s_l_closed, defScope s_l_closed, [], []⟩
abbrev s_l_otherwise : Stmt := top 78
abbrev nm_l_otherwise : List Str := ["_law_rows", "_law_at", "_law_entry"]
theorem sc_l_otherwise : FnScope nm_l_otherwise ["_law_rows", "_law_at", "_law_entry"] (defScope s_l_otherwise) := ⟨rfl, rfl, rfl, by decide +kernel, rfl, by decide +kernel, by decide +kernel⟩
def e_l_otherwise : He.DefD := ⟨("_law_otherwise", none), "_law_otherwise", "_law_otherwise", defArgs s_l_otherwise, defBody s_l_otherwise, defScope s_l_otherwise, [], []⟩
abbrev s_l_plain_end : Stmt := top 79
abbrev nm_l_plain_end : List Str := ["_law_rows", "_law_line", "_law_one", "_law_names_here", "_law_free"]
theorem sc_l_plain_end : FnScope nm_l_plain_end ["_law_rows", "_law_line", "_law_one", "_law_names_here"] (defScope s_l_plain_end) := ⟨rfl, rfl, rfl, by decide +kernel, rfl, by decide +kernel, by decide +kernel⟩
def e_l_plain_end : He.DefD := ⟨("_law_plain_end", none), "_law_plain_end", "_law_plain_end", defArgs s_l_plain_end, defBody s_l_plain_end, defScope s_l_plain_end, [], []⟩
abbrev s_l_ended : Stmt := top 80
abbrev nm_l_ended : List Str := ["_law_rows", "_law_at", "_law_line", "_law_one", "_law_names_here", "_law_entries", "_law_row", "_law_loop", "_law_entry"]
theorem sc_l_ended : FnScope nm_l_ended ["_law_rows", "_law_at", "_law_line", "_law_one", "_law_names_here", "_law_entries"] (defScope s_l_ended) := ⟨rfl, rfl, rfl, by decide +kernel, rfl, by decide +kernel, by decide +kernel⟩
def e_l_ended : He.DefD := ⟨("_law_ended", none), "_law_ended", "_law_ended", defArgs s_l_ended, defBody s_l_ended, defScope s_l_ended, [], []⟩
abbrev s_l_went : Stmt := top 81
abbrev nm_l_went : List Str := ["_law_rows", "_law_at", "_law_line", "_law_lines_here", "_law_names_here", "_law_entries", "_law_k", "_law_one", "_law_begin"]
theorem sc_l_went : FnScope nm_l_went ["_law_rows", "_law_at", "_law_line", "_law_lines_here", "_law_names_here"] (defScope s_l_went) := ⟨rfl, rfl, rfl, by decide +kernel, rfl, by decide +kernel, by decide +kernel⟩
def e_l_went : He.DefD := ⟨("_law_went", none), "_law_went", "_law_went", defArgs s_l_went, defBody s_l_went, defScope s_l_went, [], []⟩
abbrev s_law : Stmt := top 82
abbrev nm_law : List Str := ["_law_script", "_law_way", "_law_lines_here", "_law_body", "_law_main", "_law_texts", "_law_rows", "_law_line", "_law_begin", "_law_start", "_law_ahead", "_law_names_here", "_law_at", "_law_one"]
theorem sc_law : FnScope nm_law ["_law_script"] (defScope s_law) := ⟨rfl, rfl, rfl, by decide +kernel, rfl, by decide +kernel, by decide +kernel⟩
def e_law : He.DefD := ⟨("law", none), "law", "law", defArgs s_law, defBody s_law, defScope s_law, [], []⟩
def fn : List He.DefD := [e_expressions_of, e_given_by, e_blocks_of, e_all_of, e_note_names, e_slots_of, e_add_expression, e_Maker___init, e_Maker_added, e_Maker_reckon, e_Maker_tested, e_Maker_lead, e_Maker_lead_here, e_last_row, e_make_way, e_make_plain, e_make_if, e_make_while, e_make_block, e_make_def, e_made, e_all_of_these, e_is_name, e_is_number, e_read_number, e_plain_of, e_expression_at, e_expressions_at, e_name_at, e_just_so_many, e_six_at_most, e_joining_of, e_named_of, e_parts_of, e_Opened___init, e_Opened_newest, e_Opened_statement, e_Opened_whole_def, e_may_stand, e_close_innermost, e_nested, e_check_names, e_read, e_l_whole, e_l_mixed, e_l_leaf_by, e_l_told_by, e_l_word_by, e_l_lines, e_l_words, e_l_expressions, e_l_text, e_l_note, e_l_names, e_l_rows_of, e_l_plain, e_l_begun, e_l_closed, e_l_otherwise, e_l_plain_end, e_l_ended, e_l_went, e_law]
def fa : List He.Fa := [.glo "expressions_of", .glo "given_by", .glo "blocks_of", .glo "all_of", .glo "note_names", .glo "slots_of", .glo "add_expression", .glo "last_row", .glo "make_way", .glo "make_plain", .glo "make_if", .glo "make_while", .glo "make_block", .glo "make_def", .glo "made", .glo "all_of_these", .glo "is_name", .glo "is_number", .glo "read_number", .glo "plain_of", .glo "expression_at", .glo "expressions_at", .glo "name_at", .glo "just_so_many", .glo "six_at_most", .glo "joining_of", .glo "named_of", .glo "parts_of", .glo "may_stand", .glo "close_innermost", .glo "nested", .glo "check_names", .glo "read", .glo "_law_whole", .glo "_law_mixed", .glo "_law_leaf_by", .glo "_law_told_by", .glo "_law_word_by", .glo "_law_lines", .glo "_law_words", .glo "_law_expressions", .glo "_law_text", .glo "_law_note", .glo "_law_names", .glo "_law_rows_of", .glo "_law_plain", .glo "_law_begun", .glo "_law_closed", .glo "_law_otherwise", .glo "_law_plain_end", .glo "_law_ended", .glo "_law_went", .glo "law", .glo "KEPT", .glo "DEEDS", .int "LONGEST" 8, .str "LETTERS" "abcdefghijklmnopqrstuvwxyz", .str "FIGURES" "0123456789", .int "MANY" 9, .glo "SIGNS", .glo "WORKINGS", .int "DEEPEST" 6, .int "MOST_lines" 6, .glo "JOININGS", .glo "BARE", .glo "ONES", .int "MOST_nests" 5, .int "MOST_texts" 200, .cls "Maker", .noat "Maker" "rows", .noat "Maker" "slots", .noat "Maker" "free", .noat "Maker" "calls", .noat "Maker" "leaves", .noat "Maker" "loops", .cls "Opened", .noat "Opened" "line", .noat "Opened" "parts", .noat "Opened" "first", .noat "Opened" "second", .mkr "Maker", .glo "Maker", .meth "Maker" "added", .meth "Maker" "reckon", .meth "Maker" "tested", .meth "Maker" "lead", .meth "Maker" "lead_here", .mkr "Opened", .glo "Opened", .meth "Opened" "newest", .meth "Opened" "statement", .meth "Opened" "whole_def", .free "list", .free "len", .free "all", .free "int", .free "range", .free "any", .free "enumerate", .free "set", .free "isinstance", .free "bool", .free "str", .free "tuple"]
def exB (K : PySem.W.Frag) : Bool := (He.tupB K "KEPT" [.str "join", .str "meet", .str "lane", .str "lanes", .str "mine", .str "box", .str "div", .str "rem", .str "sum", .str "most", .str "least", .str "ahead"] && (He.tupB K "DEEDS" [.str "def", .str "set", .str "put", .str "tell", .str "if", .str "else", .str "while", .str "end", .str "break", .str "again", .str "call", .str "return", .str "stop"] && (He.tupB K "SIGNS" [.str "lane", .str "lanes", .str "mine"] && (He.tupB K "WORKINGS" [.str "+", .str "-", .str "*", .str "div", .str "rem", .str "<", .str "="] && (He.tupB K "JOININGS" [.str "sum", .str "most", .str "least", .str "ahead"] && (He.tupB K "BARE" [.str "else", .str "end", .str "break", .str "again", .str "stop", .str "meet"] && (He.tupB K "ONES" [.str "tell", .str "if", .str "while", .str "return"] && true)))))))
structure Tp (K : PySem.W.Frag) (mg : Str → Option Value) : Prop where
  top : Top fa fn K mg
  more : exB K = true
section
variable {K : PySem.W.Frag} {mg : Str → Option Value}
theorem m_expressions_of (T : Tp K mg) : mg "expressions_of" = some (.ref (He.ga K "expressions_of")) := T.top.glo 0
theorem m_given_by (T : Tp K mg) : mg "given_by" = some (.ref (He.ga K "given_by")) := T.top.glo 1
theorem m_blocks_of (T : Tp K mg) : mg "blocks_of" = some (.ref (He.ga K "blocks_of")) := T.top.glo 2
theorem m_all_of (T : Tp K mg) : mg "all_of" = some (.ref (He.ga K "all_of")) := T.top.glo 3
theorem m_note_names (T : Tp K mg) : mg "note_names" = some (.ref (He.ga K "note_names")) := T.top.glo 4
theorem m_slots_of (T : Tp K mg) : mg "slots_of" = some (.ref (He.ga K "slots_of")) := T.top.glo 5
theorem m_add_expression (T : Tp K mg) : mg "add_expression" = some (.ref (He.ga K "add_expression")) := T.top.glo 6
theorem m_last_row (T : Tp K mg) : mg "last_row" = some (.ref (He.ga K "last_row")) := T.top.glo 7
theorem m_make_way (T : Tp K mg) : mg "make_way" = some (.ref (He.ga K "make_way")) := T.top.glo 8
theorem m_make_plain (T : Tp K mg) : mg "make_plain" = some (.ref (He.ga K "make_plain")) := T.top.glo 9
theorem m_make_if (T : Tp K mg) : mg "make_if" = some (.ref (He.ga K "make_if")) := T.top.glo 10
theorem m_make_while (T : Tp K mg) : mg "make_while" = some (.ref (He.ga K "make_while")) := T.top.glo 11
theorem m_make_block (T : Tp K mg) : mg "make_block" = some (.ref (He.ga K "make_block")) := T.top.glo 12
theorem m_make_def (T : Tp K mg) : mg "make_def" = some (.ref (He.ga K "make_def")) := T.top.glo 13
theorem m_made (T : Tp K mg) : mg "made" = some (.ref (He.ga K "made")) := T.top.glo 14
theorem m_all_of_these (T : Tp K mg) : mg "all_of_these" = some (.ref (He.ga K "all_of_these")) := T.top.glo 15
theorem m_is_name (T : Tp K mg) : mg "is_name" = some (.ref (He.ga K "is_name")) := T.top.glo 16
theorem m_is_number (T : Tp K mg) : mg "is_number" = some (.ref (He.ga K "is_number")) := T.top.glo 17
theorem m_read_number (T : Tp K mg) : mg "read_number" = some (.ref (He.ga K "read_number")) := T.top.glo 18
theorem m_plain_of (T : Tp K mg) : mg "plain_of" = some (.ref (He.ga K "plain_of")) := T.top.glo 19
theorem m_expression_at (T : Tp K mg) : mg "expression_at" = some (.ref (He.ga K "expression_at")) := T.top.glo 20
theorem m_expressions_at (T : Tp K mg) : mg "expressions_at" = some (.ref (He.ga K "expressions_at")) := T.top.glo 21
theorem m_name_at (T : Tp K mg) : mg "name_at" = some (.ref (He.ga K "name_at")) := T.top.glo 22
theorem m_just_so_many (T : Tp K mg) : mg "just_so_many" = some (.ref (He.ga K "just_so_many")) := T.top.glo 23
theorem m_six_at_most (T : Tp K mg) : mg "six_at_most" = some (.ref (He.ga K "six_at_most")) := T.top.glo 24
theorem m_joining_of (T : Tp K mg) : mg "joining_of" = some (.ref (He.ga K "joining_of")) := T.top.glo 25
theorem m_named_of (T : Tp K mg) : mg "named_of" = some (.ref (He.ga K "named_of")) := T.top.glo 26
theorem m_parts_of (T : Tp K mg) : mg "parts_of" = some (.ref (He.ga K "parts_of")) := T.top.glo 27
theorem m_may_stand (T : Tp K mg) : mg "may_stand" = some (.ref (He.ga K "may_stand")) := T.top.glo 28
theorem m_close_innermost (T : Tp K mg) : mg "close_innermost" = some (.ref (He.ga K "close_innermost")) := T.top.glo 29
theorem m_nested (T : Tp K mg) : mg "nested" = some (.ref (He.ga K "nested")) := T.top.glo 30
theorem m_check_names (T : Tp K mg) : mg "check_names" = some (.ref (He.ga K "check_names")) := T.top.glo 31
theorem m_read (T : Tp K mg) : mg "read" = some (.ref (He.ga K "read")) := T.top.glo 32
theorem m_l_whole (T : Tp K mg) : mg "_law_whole" = some (.ref (He.ga K "_law_whole")) := T.top.glo 33
theorem m_l_mixed (T : Tp K mg) : mg "_law_mixed" = some (.ref (He.ga K "_law_mixed")) := T.top.glo 34
theorem m_l_leaf_by (T : Tp K mg) : mg "_law_leaf_by" = some (.ref (He.ga K "_law_leaf_by")) := T.top.glo 35
theorem m_l_told_by (T : Tp K mg) : mg "_law_told_by" = some (.ref (He.ga K "_law_told_by")) := T.top.glo 36
theorem m_l_word_by (T : Tp K mg) : mg "_law_word_by" = some (.ref (He.ga K "_law_word_by")) := T.top.glo 37
theorem m_l_lines (T : Tp K mg) : mg "_law_lines" = some (.ref (He.ga K "_law_lines")) := T.top.glo 38
theorem m_l_words (T : Tp K mg) : mg "_law_words" = some (.ref (He.ga K "_law_words")) := T.top.glo 39
theorem m_l_expressions (T : Tp K mg) : mg "_law_expressions" = some (.ref (He.ga K "_law_expressions")) := T.top.glo 40
theorem m_l_text (T : Tp K mg) : mg "_law_text" = some (.ref (He.ga K "_law_text")) := T.top.glo 41
theorem m_l_note (T : Tp K mg) : mg "_law_note" = some (.ref (He.ga K "_law_note")) := T.top.glo 42
theorem m_l_names (T : Tp K mg) : mg "_law_names" = some (.ref (He.ga K "_law_names")) := T.top.glo 43
theorem m_l_rows_of (T : Tp K mg) : mg "_law_rows_of" = some (.ref (He.ga K "_law_rows_of")) := T.top.glo 44
theorem m_l_plain (T : Tp K mg) : mg "_law_plain" = some (.ref (He.ga K "_law_plain")) := T.top.glo 45
theorem m_l_begun (T : Tp K mg) : mg "_law_begun" = some (.ref (He.ga K "_law_begun")) := T.top.glo 46
theorem m_l_closed (T : Tp K mg) : mg "_law_closed" = some (.ref (He.ga K "_law_closed")) := T.top.glo 47
theorem m_l_otherwise (T : Tp K mg) : mg "_law_otherwise" = some (.ref (He.ga K "_law_otherwise")) := T.top.glo 48
theorem m_l_plain_end (T : Tp K mg) : mg "_law_plain_end" = some (.ref (He.ga K "_law_plain_end")) := T.top.glo 49
theorem m_l_ended (T : Tp K mg) : mg "_law_ended" = some (.ref (He.ga K "_law_ended")) := T.top.glo 50
theorem m_l_went (T : Tp K mg) : mg "_law_went" = some (.ref (He.ga K "_law_went")) := T.top.glo 51
theorem m_law (T : Tp K mg) : mg "law" = some (.ref (He.ga K "law")) := T.top.glo 52
theorem m_KEPT (T : Tp K mg) : mg "KEPT" = some (.ref (He.ga K "KEPT")) := T.top.glo 53
theorem m_DEEDS (T : Tp K mg) : mg "DEEDS" = some (.ref (He.ga K "DEEDS")) := T.top.glo 54
theorem m_LONGEST (T : Tp K mg) : ∃ t, mg "LONGEST" = some (.int 8 t) := T.top.int 55
theorem m_LETTERS (T : Tp K mg) : ∃ t, mg "LETTERS" = some (.str "abcdefghijklmnopqrstuvwxyz" t) := T.top.str 56
theorem m_FIGURES (T : Tp K mg) : ∃ t, mg "FIGURES" = some (.str "0123456789" t) := T.top.str 57
theorem m_MANY (T : Tp K mg) : ∃ t, mg "MANY" = some (.int 9 t) := T.top.int 58
theorem m_SIGNS (T : Tp K mg) : mg "SIGNS" = some (.ref (He.ga K "SIGNS")) := T.top.glo 59
theorem m_WORKINGS (T : Tp K mg) : mg "WORKINGS" = some (.ref (He.ga K "WORKINGS")) := T.top.glo 60
theorem m_DEEPEST (T : Tp K mg) : ∃ t, mg "DEEPEST" = some (.int 6 t) := T.top.int 61
theorem m_MOST_lines (T : Tp K mg) : ∃ t, mg "MOST_lines" = some (.int 6 t) := T.top.int 62
theorem m_JOININGS (T : Tp K mg) : mg "JOININGS" = some (.ref (He.ga K "JOININGS")) := T.top.glo 63
theorem m_BARE (T : Tp K mg) : mg "BARE" = some (.ref (He.ga K "BARE")) := T.top.glo 64
theorem m_ONES (T : Tp K mg) : mg "ONES" = some (.ref (He.ga K "ONES")) := T.top.glo 65
theorem m_MOST_nests (T : Tp K mg) : ∃ t, mg "MOST_nests" = some (.int 5 t) := T.top.int 66
theorem m_MOST_texts (T : Tp K mg) : ∃ t, mg "MOST_texts" = some (.int 200 t) := T.top.int 67
theorem c_Maker_rows (T : Tp K mg) : ∀ C, (C = He.ga K "Maker") → Cls K C ∧ NoAttr K C "rows" := by
  rintro _ (rfl)
  · exact ⟨T.top.cls 68, T.top.noat 69⟩
theorem c_Maker_slots (T : Tp K mg) : ∀ C, (C = He.ga K "Maker") → Cls K C ∧ NoAttr K C "slots" := by
  rintro _ (rfl)
  · exact ⟨T.top.cls 68, T.top.noat 70⟩
theorem c_Maker_free (T : Tp K mg) : ∀ C, (C = He.ga K "Maker") → Cls K C ∧ NoAttr K C "free" := by
  rintro _ (rfl)
  · exact ⟨T.top.cls 68, T.top.noat 71⟩
theorem c_Maker_calls (T : Tp K mg) : ∀ C, (C = He.ga K "Maker") → Cls K C ∧ NoAttr K C "calls" := by
  rintro _ (rfl)
  · exact ⟨T.top.cls 68, T.top.noat 72⟩
theorem c_Maker_leaves (T : Tp K mg) : ∀ C, (C = He.ga K "Maker") → Cls K C ∧ NoAttr K C "leaves" := by
  rintro _ (rfl)
  · exact ⟨T.top.cls 68, T.top.noat 73⟩
theorem c_Maker_loops (T : Tp K mg) : ∀ C, (C = He.ga K "Maker") → Cls K C ∧ NoAttr K C "loops" := by
  rintro _ (rfl)
  · exact ⟨T.top.cls 68, T.top.noat 74⟩
theorem c_Opened_line (T : Tp K mg) : ∀ C, (C = He.ga K "Opened") → Cls K C ∧ NoAttr K C "line" := by
  rintro _ (rfl)
  · exact ⟨T.top.cls 75, T.top.noat 76⟩
theorem c_Opened_parts (T : Tp K mg) : ∀ C, (C = He.ga K "Opened") → Cls K C ∧ NoAttr K C "parts" := by
  rintro _ (rfl)
  · exact ⟨T.top.cls 75, T.top.noat 77⟩
theorem c_Opened_first (T : Tp K mg) : ∀ C, (C = He.ga K "Opened") → Cls K C ∧ NoAttr K C "first" := by
  rintro _ (rfl)
  · exact ⟨T.top.cls 75, T.top.noat 78⟩
theorem c_Opened_second (T : Tp K mg) : ∀ C, (C = He.ga K "Opened") → Cls K C ∧ NoAttr K C "second" := by
  rintro _ (rfl)
  · exact ⟨T.top.cls 75, T.top.noat 79⟩
theorem m_list (T : Tp K mg) : mg "list" = none := T.top.free 92
theorem m_len (T : Tp K mg) : mg "len" = none := T.top.free 93
theorem m_all (T : Tp K mg) : mg "all" = none := T.top.free 94
theorem m_int (T : Tp K mg) : mg "int" = none := T.top.free 95
theorem m_range (T : Tp K mg) : mg "range" = none := T.top.free 96
theorem m_any (T : Tp K mg) : mg "any" = none := T.top.free 97
theorem m_enumerate (T : Tp K mg) : mg "enumerate" = none := T.top.free 98
theorem m_set (T : Tp K mg) : mg "set" = none := T.top.free 99
theorem m_isinstance (T : Tp K mg) : mg "isinstance" = none := T.top.free 100
theorem m_bool (T : Tp K mg) : mg "bool" = none := T.top.free 101
theorem m_str (T : Tp K mg) : mg "str" = none := T.top.free 102
theorem m_tuple (T : Tp K mg) : mg "tuple" = none := T.top.free 103
def lst_KEPT : List Str := ["join", "meet", "lane", "lanes", "mine", "box", "div", "rem", "sum", "most", "least", "ahead"]
theorem tab_KEPT (T : Tp K mg) : ∀ F, Rp K F (.ref (He.ga K "KEPT")) (.tab (lst_KEPT.map D.str)) := fun F => .tab (He.tupB_ok (He.ba T.more).1 F) (rps_strs lst_KEPT)
def lst_DEEDS : List Str := ["def", "set", "put", "tell", "if", "else", "while", "end", "break", "again", "call", "return", "stop"]
theorem tab_DEEDS (T : Tp K mg) : ∀ F, Rp K F (.ref (He.ga K "DEEDS")) (.tab (lst_DEEDS.map D.str)) := fun F => .tab (He.tupB_ok (He.ba (He.ba T.more).2).1 F) (rps_strs lst_DEEDS)
def lst_SIGNS : List Str := ["lane", "lanes", "mine"]
theorem tab_SIGNS (T : Tp K mg) : ∀ F, Rp K F (.ref (He.ga K "SIGNS")) (.tab (lst_SIGNS.map D.str)) := fun F => .tab (He.tupB_ok (He.ba (He.ba (He.ba T.more).2).2).1 F) (rps_strs lst_SIGNS)
def lst_WORKINGS : List Str := ["+", "-", "*", "div", "rem", "<", "="]
theorem tab_WORKINGS (T : Tp K mg) : ∀ F, Rp K F (.ref (He.ga K "WORKINGS")) (.tab (lst_WORKINGS.map D.str)) := fun F => .tab (He.tupB_ok (He.ba (He.ba (He.ba (He.ba T.more).2).2).2).1 F) (rps_strs lst_WORKINGS)
def lst_JOININGS : List Str := ["sum", "most", "least", "ahead"]
theorem tab_JOININGS (T : Tp K mg) : ∀ F, Rp K F (.ref (He.ga K "JOININGS")) (.tab (lst_JOININGS.map D.str)) := fun F => .tab (He.tupB_ok (He.ba (He.ba (He.ba (He.ba (He.ba T.more).2).2).2).2).1 F) (rps_strs lst_JOININGS)
def lst_BARE : List Str := ["else", "end", "break", "again", "stop", "meet"]
theorem tab_BARE (T : Tp K mg) : ∀ F, Rp K F (.ref (He.ga K "BARE")) (.tab (lst_BARE.map D.str)) := fun F => .tab (He.tupB_ok (He.ba (He.ba (He.ba (He.ba (He.ba (He.ba T.more).2).2).2).2).2).1 F) (rps_strs lst_BARE)
def lst_ONES : List Str := ["tell", "if", "while", "return"]
theorem tab_ONES (T : Tp K mg) : ∀ F, Rp K F (.ref (He.ga K "ONES")) (.tab (lst_ONES.map D.str)) := fun F => .tab (He.tupB_ok (He.ba (He.ba (He.ba (He.ba (He.ba (He.ba (He.ba T.more).2).2).2).2).2).2).1 F) (rps_strs lst_ONES)
end
abbrev R : PySem.W.OpenRow := PySem.W.OpenLaw.row PySem.Challenge.rw_widelanes_k23_rows_of_branches
abbrev hk : PySem.W.Hook := He.hookX 4 fa fn [] [] exB
def ob (s : PySem.W.SharedT) : He.AlX := He.obsX 4 fa fn [] [] exB (HandSHeadRun.getT s)
theorem ob_eq (s : PySem.W.SharedT) : ob s = hk.obs s.abs := He.obsX_eq (HandSHeadRun.getT_eq s)
theorem run (w : World) : HandSHeadRun.RunEq R (PySem.W.view R.prog [82]) hk ob 6000 ("__name__" :: "expressions_of" :: "given_by" :: "blocks_of" :: "all_of" :: "note_names" :: "slots_of" :: "add_expression" :: "Maker" :: "last_row" :: "make_way" :: "make_plain" :: "make_if" :: "make_while" :: "make_block" :: "make_def" :: "made" :: "LaneError" :: "TooMuch" :: "NoLine" :: "NoNest" :: "NoName" :: "LETTERS" :: "FIGURES" :: "SIGNS" :: "WORKINGS" :: "DEEDS" :: "KEPT" :: "LONGEST" :: "MANY" :: "DEEPEST" :: "all_of_these" :: "is_name" :: "is_number" :: "read_number" :: "plain_of" :: "expression_at" :: "expressions_at" :: "BARE" :: "ONES" :: "JOININGS" :: "MOST_lines" :: "name_at" :: "just_so_many" :: "six_at_most" :: "joining_of" :: "named_of" :: "parts_of" :: "MOST_nests" :: "Opened" :: "may_stand" :: "close_innermost" :: "nested" :: "MOST_texts" :: "check_names" :: "read" :: "_law_whole" :: "_law_mixed" :: "_law_leaf_by" :: "_law_told_by" :: "_law_word_by" :: "_law_lines" :: "_law_words" :: "_law_text" :: "_law_expressions" :: "_law_note" :: "_law_names" :: "_law_rows_of" :: "_law_plain" :: "_law_begun" :: "_law_closed" :: "_law_otherwise" :: "_law_plain_end" :: "_law_ended" :: "_law_went" :: []) w := by
  intro os
  kernel_rfl
end K23
local macro_rules | `(tactic| walk_at "vc") => `(tactic| simp only [Tl.utSdk, Tl.uDisp1, Tl.uIsB, Tl.uSortDI, Tl.op_lane, Tl.op_lanes, Tl.op_mine, Tl.op_num, Tl.op_name, Tl.op_box, Tl.cut_tail, Tl.val_name, Tl.val_row, Tl.val_def, Tl.val_back, Tl.ofS_inj, String.reduceEq, Tl.uDic, Tl.oDA_ki, Tl.oDA_ks, Tl.oDA_t, Tl.oPA_ki, Tl.oPA_ks, Tl.oPA_t, Tl.consK_s, Tl.kT_nil, Tl.kT_i, Tl.kT_s, Tl.uzDict, Tl.uIn, Tl.uRepS, Tl.uRep, Tl.uRepM, Tl.uCatT, Tl.uSlT, Tl.oLD_k, Tl.oLD_t, Tl.uLenD, Tl.z_tDnK, Tl.z_tDnT, Tl.z_tDg, Tl.z_tDi, Tl.z_tDg2, Tl.z_tRe, Tl.z_sRe, Tl.wip, Tl.uObj, Tl.oAt_i, Tl.cxK, Tl.cxKn, true_or, or_true, or_false, false_or, Nat.zero_le, Nat.le_refl, Tl.mup_same, Tl.mup_mup, Tl.uAlt, Tl.z_tFd, Tl.z_sFd, Tl.z_sFa, Tl.z_tMe, Tl.z_tMk, Tl.nthD, Tl.putD, Tl.uFo, Tl.uLcF, Tl.uLcV', Tl.uAsRef, Tl.z_sNx, Tl.z_sSq, Tl.z_sBk, Tl.z_sCt, Tl.z_sDr, Tl.z_sRt, Tl.z_sRtN, Tl.z_sIf, Tl.z_sAs, Tl.z_gN, Tl.z_gSb, Tl.z_tK, Tl.z_tO, Tl.z_tU, Tl.z_tCa, Tl.z_tN, Tl.z_tCs, Tl.z_tAn, Tl.tOr', Tl.z_tNo, Tl.z_tIfE, Tl.z_tCl, Tl.z_tTu, Tl.z_tLi, Tl.z_tLm, Tl.z_tSc, Tl.z_oNo, Tl.z_tMt, Tl.z_tMt0, Tl.z_tYe, Tl.z_tLt, Tl.kit_ii, Tl.kit_ib, Tl.kit_bi, Tl.kit_bb, Tl.kit_si, Tl.kit_ss, Tl.kit_is, Tl.kit_tt, Tl.kit_ll, Tl.kit_lt, Tl.kit_tl, Tl.kit_ts, Tl.kit_ls, Tl.kit_sl, Tl.kit_st, Tl.kit_it, Tl.kit_il, Tl.kit_dd, Tl.kit_ni, Tl.kit_nb, Tl.begin_, Tl.nth, List.map, List.length, List.replicate, List.append, List.set, List.nil_append, List.cons_append, List.append_nil, Nat.reduceAdd, Nat.reduceSub, Nat.zero_add, reduceIte, Bool.false_eq_true, Bool.true_eq_false, Bool.not_eq_true', Bool.not_eq_false', Bool.not_true, Bool.not_false, not_true_eq_false, not_false_eq_true, decide_eq_true_eq, decide_eq_false_iff_not, decide_not, Option.isSome_some, true_and, and_true, Int.reduceLT, Int.reduceLE, Int.reduceNeg, List.cons.injEq, Option.some.injEq, PySem.sizeLine_eq, Nat.reduceLeDiff, List.length_map, List.length_append, List.length_cons, List.length_nil, Tl.oBl_i, Tl.oInt_i, Tl.oStr_i, Tl.oTup_i, Tl.oSome_i, Tl.oBl_if, Tl.uV, Tl.uBo, Tl.uAnV, Tl.uOrV, Tl.uNoV, Tl.uCh, Tl.uNl0, Tl.uCs1, Tl.uTp, Tl.uAg, Tl.uInt, Tl.uInt0, Tl.uNegI, Tl.uEq, Tl.uNe, Tl.dScal_ii, Tl.dScal_ss, Tl.dScal_bb, Tl.dScal_nn, Tl.dScal_ni, Tl.dScal_in, Tl.dScal_is, Tl.dScal_si, Tl.uIsN, Tl.uNotN, Tl.nonD_n, Tl.nonD_i, Tl.nonD_s, Tl.nonD_t, Tl.nonD_l, Tl.nonD_b, Tl.nonD_r, Tl.uCatS, Tl.uCatL, Tl.uCatM, Tl.lstOf_l, Tl.lstOf_c, Tl.lstOf_m, Tl.trkOf_l, Tl.trkOf_m, Tl.tupOf_t, Tl.tupOf_b, Tl.seqOf_t, Tl.seqOf_b, Tl.seqOf_l, Tl.seqOf_c, Tl.seqOf_r, Tl.uIx_t, Tl.uIx_b, Tl.uIx_l, Tl.uIx_c, Tl.uIx_s, Tl.uIx_r, Tl.uYes, Tl.uSlL, Tl.uSlM, Tl.uSlS, Tl.uIsi, Tl.dTy_n, Tl.dTy_b, Tl.dTy_i, Tl.dTy_s, Tl.dTy_t, Tl.dTy_l, Tl.uLen, Tl.lenOf_t, Tl.lenOf_b, Tl.lenOf_l, Tl.lenOf_c, Tl.lenOf_m, Tl.uIntI, Tl.uIntB, Tl.uLs, Tl.uTu, Tl.oL1_i, Tl.oL2_i, Tl.oL3_i, Tl.uR1, Tl.uR2, Tl.uR3, Tl.uEn, Tl.uZi, Tl.uSt, Tl.uRv, Tl.uDivmod, Tl.uList, Tl.uListM, Tl.uSum, Tl.uMax, Tl.uMin, Tl.intLst_l, Tl.intLst_c, Tl.blLst_l, Tl.uMax2, Tl.uMin2, Tl.uAbs, Tl.uAny, Tl.uAll, Tl.mLst_m, Tl.uAppend, Tl.uExtend, Tl.uPop, Tl.uSet, Tl.lMt_l, Tl.isS_m, Tl.atI_0, Tl.atI_1, Tl.atI_2, Tl.atI_3, Tl.atI_4, Tl.atI_5])
local macro_rules | `(tactic| walk_at "vh") => `(tactic| simp only [Tl.utSdk, Tl.uDisp1, Tl.uIsB, Tl.uSortDI, Tl.op_lane, Tl.op_lanes, Tl.op_mine, Tl.op_num, Tl.op_name, Tl.op_box, Tl.cut_tail, Tl.val_name, Tl.val_row, Tl.val_def, Tl.val_back, Tl.ofS_inj, String.reduceEq, Tl.uDic, Tl.oDA_ki, Tl.oDA_ks, Tl.oDA_t, Tl.oPA_ki, Tl.oPA_ks, Tl.oPA_t, Tl.consK_s, Tl.kT_nil, Tl.kT_i, Tl.kT_s, Tl.uzDict, Tl.uIn, Tl.uRepS, Tl.uRep, Tl.uRepM, Tl.uCatT, Tl.uSlT, Tl.oLD_k, Tl.oLD_t, Tl.uLenD, Tl.z_tDnK, Tl.z_tDnT, Tl.z_tDg, Tl.z_tDi, Tl.z_tDg2, Tl.z_tRe, Tl.z_sRe, Tl.wip, Tl.uObj, Tl.oAt_i, Tl.cxK, Tl.cxKn, true_or, or_true, or_false, false_or, Nat.zero_le, Nat.le_refl, Tl.mup_same, Tl.mup_mup, Tl.uAlt, Tl.z_tFd, Tl.z_sFd, Tl.z_sFa, Tl.z_tMe, Tl.z_tMk, Tl.nthD, Tl.putD, Tl.uFo, Tl.uLcF, Tl.uLcV', Tl.uAsRef, Tl.z_sNx, Tl.z_sSq, Tl.z_sBk, Tl.z_sCt, Tl.z_sDr, Tl.z_sRt, Tl.z_sRtN, Tl.z_sIf, Tl.z_sAs, Tl.z_gN, Tl.z_gSb, Tl.z_tK, Tl.z_tO, Tl.z_tU, Tl.z_tCa, Tl.z_tN, Tl.z_tCs, Tl.z_tAn, Tl.tOr', Tl.z_tNo, Tl.z_tIfE, Tl.z_tCl, Tl.z_tTu, Tl.z_tLi, Tl.z_tLm, Tl.z_tSc, Tl.z_oNo, Tl.z_tMt, Tl.z_tMt0, Tl.z_tYe, Tl.z_tLt, Tl.kit_ii, Tl.kit_ib, Tl.kit_bi, Tl.kit_bb, Tl.kit_si, Tl.kit_ss, Tl.kit_is, Tl.kit_tt, Tl.kit_ll, Tl.kit_lt, Tl.kit_tl, Tl.kit_ts, Tl.kit_ls, Tl.kit_sl, Tl.kit_st, Tl.kit_it, Tl.kit_il, Tl.kit_dd, Tl.kit_ni, Tl.kit_nb, Tl.begin_, Tl.nth, List.map, List.length, List.replicate, List.append, List.set, List.nil_append, List.cons_append, List.append_nil, Nat.reduceAdd, Nat.reduceSub, Nat.zero_add, reduceIte, Bool.false_eq_true, Bool.true_eq_false, Bool.not_eq_true', Bool.not_eq_false', Bool.not_true, Bool.not_false, not_true_eq_false, not_false_eq_true, decide_eq_true_eq, decide_eq_false_iff_not, decide_not, Option.isSome_some, true_and, and_true, Int.reduceLT, Int.reduceLE, Int.reduceNeg, List.cons.injEq, Option.some.injEq, PySem.sizeLine_eq, Nat.reduceLeDiff, List.length_map, List.length_append, List.length_cons, List.length_nil, Tl.oBl_i, Tl.oInt_i, Tl.oStr_i, Tl.oTup_i, Tl.oSome_i, Tl.oBl_if, Tl.uV, Tl.uBo, Tl.uAnV, Tl.uOrV, Tl.uNoV, Tl.uCh, Tl.uNl0, Tl.uCs1, Tl.uTp, Tl.uAg, Tl.uInt, Tl.uInt0, Tl.uNegI, Tl.uEq, Tl.uNe, Tl.dScal_ii, Tl.dScal_ss, Tl.dScal_bb, Tl.dScal_nn, Tl.dScal_ni, Tl.dScal_in, Tl.dScal_is, Tl.dScal_si, Tl.uIsN, Tl.uNotN, Tl.nonD_n, Tl.nonD_i, Tl.nonD_s, Tl.nonD_t, Tl.nonD_l, Tl.nonD_b, Tl.nonD_r, Tl.uCatS, Tl.uCatL, Tl.uCatM, Tl.lstOf_l, Tl.lstOf_c, Tl.lstOf_m, Tl.trkOf_l, Tl.trkOf_m, Tl.tupOf_t, Tl.tupOf_b, Tl.seqOf_t, Tl.seqOf_b, Tl.seqOf_l, Tl.seqOf_c, Tl.seqOf_r, Tl.uIx_t, Tl.uIx_b, Tl.uIx_l, Tl.uIx_c, Tl.uIx_s, Tl.uIx_r, Tl.uYes, Tl.uSlL, Tl.uSlM, Tl.uSlS, Tl.uIsi, Tl.dTy_n, Tl.dTy_b, Tl.dTy_i, Tl.dTy_s, Tl.dTy_t, Tl.dTy_l, Tl.uLen, Tl.lenOf_t, Tl.lenOf_b, Tl.lenOf_l, Tl.lenOf_c, Tl.lenOf_m, Tl.uIntI, Tl.uIntB, Tl.uLs, Tl.uTu, Tl.oL1_i, Tl.oL2_i, Tl.oL3_i, Tl.uR1, Tl.uR2, Tl.uR3, Tl.uEn, Tl.uZi, Tl.uSt, Tl.uRv, Tl.uDivmod, Tl.uList, Tl.uListM, Tl.uSum, Tl.uMax, Tl.uMin, Tl.intLst_l, Tl.intLst_c, Tl.blLst_l, Tl.uMax2, Tl.uMin2, Tl.uAbs, Tl.uAny, Tl.uAll, Tl.mLst_m, Tl.uAppend, Tl.uExtend, Tl.uPop, Tl.uSet, Tl.lMt_l, Tl.isS_m, Tl.atI_0, Tl.atI_1, Tl.atI_2, Tl.atI_3, Tl.atI_4, Tl.atI_5, *])
namespace K23
open PySem PySem.Spec PyProof.Rows L2 Tl
section
variable {P : Program} {w : World} {K : PySem.W.Frag} {mg : Str → Option Value} {base : Heap}
def spExprsOf : SpT := fun ds M Q _ => ∃ s : Sm, ds = [s.d] ∧ s.exprs.length ≤ 1000 ∧ Q (.lst (s.exprs.map Ex.d)) M
theorem ok_expressions_of (T : Tp K mg) : Fn P w K mg base CX0 1 "expressions_of" spExprsOf := by
  refine fn_top T.top 0 e_expressions_of (m_expressions_of T) sc_expressions_of (by rintro _ M Q Et ⟨n, rfl, _⟩; rfl) (fun cdv A outer s H E hr => ⟨_, (qss_cons (qs_set (i := 1) sc_expressions_of.nd (q_ix (qv 0) q_int))
 (qss_cons (qs_if (qt_cmp oq_eq (qv 1) q_str)
  (qss_one (qs_ret (q_lst (qa_cons (q_ix (qv 0) q_int) (qa_cons (q_ix (qv 0) q_int) qa_nil)))))
  qss_nil)
 (qss_cons (qs_if (qt_w (qw_or (qt_cmp oq_eq (qv 1) q_str) (qw_or (qt_cmp oq_eq (qv 1) q_str) (qw_or (qt_cmp oq_eq (qv 1) q_str) (qw_or1 (qt_cmp oq_eq (qv 1) q_str))))))
  (qss_one (qs_ret (q_lst (qa_cons (q_ix (qv 0) q_int) qa_nil))))
  qss_nil)
 (qss_cons (qs_if (qt_cmp oq_eq (qv 1) q_str)
  (qss_one (qs_ret (q_lst (qa_cons (q_ix (qv 0) q_int) qa_nil))))
  qss_nil)
 (qss_cons (qs_if (qt_cmp oq_eq (qv 1) q_str)
  (qss_one (qs_ret (q_callTy cq_list (m_list T) (by decide +kernel) (qa_cons (q_ix (qv 0) q_int) qa_nil))))
  qss_nil)
 (qss_cons (qs_if (qt_cmp oq_eq (qv 1) q_str)
  (qss_one (qs_ret (q_lst (qa_cons (q_ix (qv 0) q_int) qa_nil))))
  qss_nil)
 (qss_one (qs_ret (q_lst qa_nil))))))))), ?_⟩) (fun _ _ _ _ _ _ us hl => match us, hl with | [_], _ => rfl)
  rintro _ M Q Et ⟨s, rfl, hl, h⟩
  cases s with
  | call l x f es => unfold Sm.exprs at hl; unfold Sm.d; walk_at "vc"; exact h
  | _ => unfold Sm.d; walk_at "vc"; exact h
def givenD : Option Str → D
  | none => .non
  | some x => .str x
def spGiven : SpT := fun ds M Q _ => ∃ s : Sm, ds = [s.d] ∧ Q (givenD s.given) M
theorem ok_given_by (T : Tp K mg) : Fn P w K mg base CX0 1 "given_by" spGiven := by
  refine fn_top T.top 1 e_given_by (m_given_by T) sc_given_by (by rintro _ M Q Et ⟨n, rfl, _⟩; rfl) (fun cdv A outer s H E hr => ⟨_, (qss_cons (qs_if (qt_w (qw_or (qt_cmp oq_eq (q_ix (qv 0) q_int) q_str) (qw_or (qt_cmp oq_eq (q_ix (qv 0) q_int) q_str) (qw_or1 (qt_cmp oq_eq (q_ix (qv 0) q_int) q_str)))))
  (qss_one (qs_ret (q_ix (qv 0) q_int)))
  qss_nil)
 (qss_one (qs_ret q_non))), ?_⟩) (fun _ _ _ _ _ _ us hl => match us, hl with | [_], _ => rfl)
  rintro _ M Q Et ⟨s, rfl, h⟩
  cases s <;> (unfold Sm.d; walk_at "vc"; exact h)
def spBlocks : SpT := fun ds M Q _ => ∃ s : Sm, ds = [s.d] ∧ Q (.lst (s.blocks.map fun b => .lst (stD b))) M
theorem ok_blocks_of (T : Tp K mg) : Fn P w K mg base CX0 1 "blocks_of" spBlocks := by
  refine fn_top T.top 2 e_blocks_of (m_blocks_of T) sc_blocks_of (by rintro _ M Q Et ⟨n, rfl, _⟩; rfl) (fun cdv A outer s H E hr => ⟨_, (qss_cons (qs_if (qt_cmp oq_eq (q_ix (qv 0) q_int) q_str)
  (qss_one (qs_ret (q_lst (qa_cons (q_ix (qv 0) q_int) qa_nil))))
  qss_nil)
 (qss_cons (qs_if (qt_cmp oq_eq (q_ix (qv 0) q_int) q_str)
  (qss_cons (qs_if (qt_cmp oq_isN (q_ix (qv 0) q_int) q_non)
  (qss_one (qs_ret (q_lst (qa_cons (q_ix (qv 0) q_int) qa_nil))))
  qss_nil)
 (qss_one (qs_ret (q_lst (qa_cons (q_ix (qv 0) q_int) (qa_cons (q_ix (qv 0) q_int) qa_nil))))))
  qss_nil)
 (qss_one (qs_ret (q_lst qa_nil))))), ?_⟩) (fun _ _ _ _ _ _ us hl => match us, hl with | [_], _ => rfl)
  rintro _ M Q Et ⟨s, rfl, h⟩
  cases s <;> (unfold Sm.d; walk_at "vc"; exact h)
def spAllOf (n : Nat) : SpT := fun ds M Q _ => ∃ b : List Sm, ds = [.lst (stD b)] ∧ deeps b < n ∧ (allBd b).length ≤ 100000 ∧ Q (.lst ((allBd b).map Sm.d)) M
theorem ok_all_of (T : Tp K mg) : ∀ n, Fn P w K mg base CX0 (n + 2) "all_of" (spAllOf n)
  | 0 => by
    refine fn_top T.top 3 e_all_of (m_all_of T) sc_all_of (by rintro _ M Q Et ⟨n, rfl, _⟩; rfl) (fun cdv A outer s H E hr => ⟨_, qss_never, ?_⟩) (fun _ _ _ _ _ _ us hl => match us, hl with | [_], _ => rfl)
    rintro _ M Q Et ⟨b, rfl, hd, hl, h⟩
    omega
  | n + 1 => by
    have ih := ok_all_of T n
    refine fn_top T.top 3 e_all_of (m_all_of T) sc_all_of (by rintro _ M Q Et ⟨n, rfl, _⟩; rfl) (fun cdv A outer s H E hr => ⟨_, (qss_cons (qs_set (i := 1) sc_all_of.nd (q_lstM qa_nil))
 (qss_cons (qs_for PassesOwn.never rfl (qi_list (qv 0)) (qg_name (i := 2) sc_all_of.nd)
  (qss_cons (qs_expr (q_append (qv 1) (qa_cons (qv 2) qa_nil)))
 (qss_one (qs_for PassesOwn.never rfl (qi_list (q_call (ok_blocks_of T) (hr.mono (by omega)) (qa_cons (qv 2) qa_nil))) (qg_name (i := 3) sc_all_of.nd)
  (qss_one (qs_expr (q_extend (qv 1) (qa_cons (q_call ih (hr.mono (by omega)) (qa_cons (qv 3) qa_nil)) qa_nil))))))))
 (qss_one (qs_ret (q_re (qv 1)))))), ?_⟩) (fun _ _ _ _ _ _ us hl => match us, hl with | [_], _ => rfl)
    rintro _ M Q Et ⟨b, rfl, hd, hl, h⟩
    walk_at "vc"
    intro p hp
    rw [stD_map]
    refine for_map b Sm.d rfl (fun ys τ M1 => M1 = mup M p (.lst ((allBd ys).map Sm.d)) ∧ ∃ v2 v3, τ = [some (.lst (b.map Sm.d)), some (.ref p), v2, v3]) ⟨by rw [show allBd [] = [] from by unfold allBd; rfl]; rfl, none, none, rfl⟩ (fun _ _ _ _ => trivial) ?_ ?_
    · rintro ys s zs τ M1 Nx hx ⟨rfl, v2, v3, rfl⟩ hN
      have hs : s.deep ≤ n := by
        have := deeps_mem (b := b) (s := s) (by rw [hx]; simp)
        omega
      have hlen : (allBd ys).length + (allSt s).length ≤ 100000 := by
        rw [hx, allBd_app, allBd, List.length_append, List.length_append] at hl
        omega
      rw [allSt_eq, List.length_cons] at hlen
      have hstep : allBd (ys ++ [s]) = allBd ys ++ s :: (s.blocks.map allBd).flatten := by rw [allBd_app, allBd_one, allSt_eq]
      walk_at "vc"
      refine ⟨by omega, s, rfl, ?_⟩
      walk_at "vc"
      refine for_map s.blocks (fun b => .lst (stD b)) rfl (fun bs τ M1 => M1 = mup M p (.lst ((allBd ys ++ s :: (bs.map allBd).flatten).map Sm.d)) ∧ ∃ v3, τ = [some (.lst (b.map Sm.d)), some (.ref p), some s.d, v3]) ⟨by simp, v3, rfl⟩ (fun _ _ _ _ => trivial) ?_ ?_
      · rintro bs b' zs' τ M1 Nx' hx' ⟨rfl, v3, rfl⟩ hN'
        have hb' : b' ∈ s.blocks := by rw [hx']; simp
        have hle : ((bs.map allBd).flatten).length + (allBd b').length ≤ ((s.blocks.map allBd).flatten).length := by
          rw [hx', List.map_append, List.map_cons, List.flatten_append, List.flatten_cons, List.length_append, List.length_append]
          omega
        walk_at "vc"
        refine ⟨b', rfl, block_deep hs hb', by omega, ?_⟩
        walk_at "vc"
        refine ⟨by (try simp only [List.length_map, List.length_append, List.length_cons]); omega, hN' _ _ ⟨?_, _, rfl⟩⟩
        simp only [List.map_append, List.map_cons, List.map_nil, List.flatten_append, List.flatten_cons, List.flatten_nil, List.append_nil, List.append_assoc, List.cons_append]
      · rintro τ M1 ⟨rfl, v3, rfl⟩
        exact hN _ _ ⟨by rw [hstep], _, _, rfl⟩
    · rintro τ M1 ⟨rfl, v2, v3, rfl⟩
      walk_at "vc"
      exact ⟨_, _, ReR.made hp, h⟩
def spNote (n : Nat) : SpT := fun ds M Q _ => ∃ (e : Ex) (a : Addr) (ss : List Str), ds = [e.d, .ref a] ∧ M a = some (.dK (slotD ss)) ∧ e.deep < n ∧ (noteE ss e).length < 16777216 ∧ Q .non (mup M a (.dK (slotD (noteE ss e))))
theorem ok_note_names (T : Tp K mg) : ∀ n, Fn P w K mg base CX0 (n + 1) "note_names" (spNote n)
  | 0 => by
    refine fn_top T.top 4 e_note_names (m_note_names T) sc_note_names (by rintro _ M Q Et ⟨n, _, _, rfl, _⟩; rfl) (fun cdv A outer s H E hr => ⟨_, qss_never, ?_⟩) (fun _ _ _ _ _ _ us hl => match us, hl with | [_, _], _ => rfl)
    rintro _ M Q Et ⟨e, a, ss, rfl, hM, hd, hl, h⟩
    omega
  | n + 1 => by
    have ih := ok_note_names T n
    refine fn_top T.top 4 e_note_names (m_note_names T) sc_note_names (by rintro _ M Q Et ⟨n, _, _, rfl, _⟩; rfl) (fun cdv A outer s H E hr => ⟨_, (qss_one (qs_if (qt_cmp oq_eq (q_ix (qv 0) q_int) q_str)
  (qss_one (qs_expr (q_setdefault2 (qv 1) (q_ix (qv 0) q_int) (q_op oq_addI (q_callB cq_lenD (m_len T) (by decide +kernel) (qa_cons (qv 1) qa_nil)) q_int))))
  (qss_one (qs_if (qt_cmp oq_ne (q_ix (qv 0) q_int) q_str)
  (qss_one (qs_for PassesOwn.never rfl (qi_tup (q_sliceT (qv 0) (qo_some q_int) qo_none)) (qg_name (i := 2) sc_note_names.nd)
  (qss_one (qs_expr (q_call ih (hr.mono (by omega)) (qa_cons (qv 2) (qa_cons (qv 1) qa_nil)))))))
  qss_nil)))), ?_⟩) (fun _ _ _ _ _ _ us hl => match us, hl with | [_, _], _ => rfl)
    rintro _ M Q Et ⟨e, a, ss, rfl, hM, hd, hl, h⟩
    have hloop : ∀ (es : List Ex) (td : D), (∀ x ∈ es, x.deep < n) → (es.foldl noteE ss).length < 16777216 → Q .non (mup M a (.dK (slotD (es.foldl noteE ss)))) →
        ForGo (gN 2) (sDr (tCl (spNote n) Et0 (tCs (tV 2) (tCs (tV 1) tN)))) { nx := fun _ M' => Q .non M', rt := Q } [some td, some (.ref a), none] { items := es.map Ex.d, src := fun _ => True } M := by
      intro es td hes hel hq
      refine for_map es Ex.d rfl (fun ys τ M1 => M1 = mup M a (.dK (slotD (ys.foldl noteE ss))) ∧ ∃ v2, τ = [some td, some (.ref a), v2]) ⟨(mup_idem hM).symm, none, rfl⟩ (fun _ _ _ _ => trivial) ?_ ?_
      · rintro ys x zs τ M1 Nx hx ⟨rfl, v2, rfl⟩ hN
        rw [hx, List.foldl_append, List.foldl_cons] at hel
        have h1 := notes_len (f := noteE) (fun ss x => noteE_len) (l := zs) (ss := noteE (ys.foldl noteE ss) x)
        walk_at "vc"
        refine ⟨x, a, ys.foldl noteE ss, rfl, mup_same, hes x (by rw [hx]; simp), by omega, ?_⟩
        rw [mup_mup]
        exact hN _ _ ⟨by rw [List.foldl_append]; rfl, _, rfl⟩
      · rintro τ M1 ⟨rfl, v2, rfl⟩
        exact hq
    cases e with
    | nam x =>
      unfold Ex.d
      walk_at "vc"
      refine ⟨⟨a, _, rfl, hM, True.intro⟩, ?_⟩
      rw [hM]
      walk_at "vc"
      exact sd_name hM hl (by rw [slotD_len]) fun d => h
    | num i => unfold Ex.d; walk_at "vc"; rw [show noteE ss (.num i) = ss from rfl, mup_idem hM] at h; exact h
    | box e =>
      unfold Ex.d; walk_at "vc"
      exact hloop [e] _ (fun x hx => by rw [List.mem_singleton.mp hx]; unfold Ex.deep at hd; omega) hl h
    | op w b c =>
      unfold Ex.d; walk_at "vc"
      exact hloop [b, c] _ (fun x hx => by
        unfold Ex.deep at hd
        rcases List.mem_cons.mp hx with rfl | hx
        · omega
        · rw [List.mem_singleton.mp hx]; omega) hl h
    | _ => unfold Ex.d; walk_at "vc"; exact hloop [] _ (fun x hx => by cases hx) hl h
def spSlots : SpT := fun ds M Q _ => ∃ o : Df, ds = [o.d] ∧ okRow o ∧ ∀ a, M a = none → Q (.ref a) (mup M a (.dK (slotD (slotsF o))))
theorem noteS_len (ss : List Str) (s : Sm) : ss.length ≤ (noteS ss s).length := by
  unfold noteS
  refine Nat.le_trans ?_ (notes_len (f := noteE) (fun ss x => noteE_len))
  split
  · exact noteN_len
  · omega
theorem ok_slots_of (T : Tp K mg) : Fn P w K mg base CX0 14 "slots_of" spSlots := by
  refine fn_top T.top 5 e_slots_of (m_slots_of T) sc_slots_of (by rintro _ M Q Et ⟨n, rfl, _⟩; rfl) (fun cdv A outer s H E hr => ⟨_, (qss_cons (qs_set (i := 1) sc_slots_of.nd q_dnewK)
 (qss_cons (qs_for PassesOwn.never rfl (qi_list (q_ix (qv 0) q_int)) (qg_name (i := 2) sc_slots_of.nd)
  (qss_one (qs_expr (q_setdefault2 (qv 1) (qv 2) (q_op oq_addI (q_callB cq_lenD (m_len T) (by decide +kernel) (qa_cons (qv 1) qa_nil)) q_int)))))
 (qss_cons (qs_for PassesOwn.never rfl (qi_list (q_call (ok_all_of T 10) (hr.mono (by decide)) (qa_cons (q_ix (qv 0) q_int) qa_nil))) (qg_name (i := 3) sc_slots_of.nd)
  (qss_cons (qs_set (i := 2) sc_slots_of.nd (q_call (ok_given_by T) (hr.mono (by decide)) (qa_cons (qv 3) qa_nil)))
 (qss_cons (qs_if (qt_cmp oq_notN (qv 2) q_non)
  (qss_one (qs_expr (q_setdefault2 (qv 1) (qv 2) (q_op oq_addI (q_callB cq_lenD (m_len T) (by decide +kernel) (qa_cons (qv 1) qa_nil)) q_int))))
  qss_nil)
 (qss_one (qs_for PassesOwn.never rfl (qi_list (q_call (ok_expressions_of T) (hr.mono (by decide)) (qa_cons (qv 3) qa_nil))) (qg_name (i := 4) sc_slots_of.nd)
  (qss_one (qs_expr (q_call (ok_note_names T 12) (hr.mono (by decide)) (qa_cons (qv 4) (qa_cons (qv 1) qa_nil))))))))))
 (qss_one (qs_ret (qv 1)))))), ?_⟩) (fun _ _ _ _ _ _ us hl => match us, hl with | [_], _ => rfl)
  rintro _ M Q Et ⟨o, rfl, ok, h⟩
  have hsl := ok.slots
  unfold slotsF at hsl h
  unfold Df.d
  walk_at "vc"
  intro a ha
  refine for_map o.ps D.str rfl (fun ys τ M1 => M1 = mup M a (.dK (slotD (ys.foldl noteN []))) ∧ ∃ v2 v3 v4, τ = [some o.d, some (.ref a), v2, v3, v4]) ⟨rfl, none, none, none, rfl⟩ (fun _ _ _ _ => trivial) ?_ ?_
  · rintro ys x zs τ M1 Nx hx ⟨rfl, v2, v3, v4, rfl⟩ hN
    rw [hx, List.foldl_append, List.foldl_cons] at hsl
    have h1 := notes_len (f := noteN) (fun ss x => noteN_len) (l := zs) (ss := noteN (ys.foldl noteN []) x)
    have h2 := notes_len (f := noteS) noteS_len (l := allBd o.body) (ss := zs.foldl noteN (noteN (ys.foldl noteN []) x))
    rw [List.foldl_append] at hN
    generalize ys.foldl noteN [] = ss at *
    walk_at "vc"
    refine ⟨⟨a, _, rfl, mup_same, True.intro⟩, sd_name mup_same (by omega) (by rw [slotD_len]) fun d => ?_⟩
    rw [mup_mup]
    exact hN _ _ ⟨rfl, _, _, _, rfl⟩
  · rintro τ M1 ⟨rfl, v2, v3, v4, rfl⟩
    generalize o.ps.foldl noteN [] = s0 at *
    unfold Df.d
    walk_at "vc"
    refine ⟨o.body, rfl, ok.deep, ok.many, ?_⟩
    walk_at "vc"
    refine for_map (allBd o.body) Sm.d rfl (fun ys τ M1 => M1 = mup M a (.dK (slotD (ys.foldl noteS s0))) ∧ ∃ v2 v3 v4, τ = [some o.d, some (.ref a), v2, v3, v4]) ⟨rfl, v2, v3, v4, rfl⟩ (fun _ _ _ _ => trivial) ?_ ?_
    · rintro ys x zs τ M1 Nx hx ⟨rfl, v2, v3, v4, rfl⟩ hN
      rw [hx, List.foldl_append, List.foldl_cons] at hsl
      have h1 := notes_len (f := noteS) noteS_len (l := zs) (ss := noteS (ys.foldl noteS s0) x)
      have hex := ok.exs x (by rw [hx]; simp)
      rw [List.foldl_append] at hN
      generalize ys.foldl noteS s0 = ss at *
      walk_at "vc"
      refine ⟨x, rfl, ?_⟩
      have tail : ∀ s1 v2 bk, x.exprs.foldl noteE s1 = noteS ss x → ForGo (gN 4) (sDr (tCl (spNote 12) Et0 (tCs (tV 4) (tCs (tV 1) tN)))) { nx := Nx, ct := Nx, bk := bk, rt := Q } [some o.d, some (.ref a), v2, some x.d, v4] { items := x.exprs.map Ex.d, src := fun _ => True } (mup M a (.dK (slotD s1))) := by
        intro s1 v2 bk es
        refine for_map x.exprs Ex.d rfl (fun ys τ M1 => M1 = mup M a (.dK (slotD (ys.foldl noteE s1))) ∧ ∃ v2 v4, τ = [some o.d, some (.ref a), v2, some x.d, v4]) ⟨rfl, v2, v4, rfl⟩ (fun _ _ _ _ => trivial) ?_ ?_
        · rintro ys' e zs' τ M1 Nx' hx' ⟨rfl, v2, v4, rfl⟩ hN'
          have he := hex.2 e (by rw [hx']; simp)
          rw [hx', List.foldl_append, List.foldl_cons] at es
          have h2 := notes_len (f := noteE) (fun ss x => noteE_len) (l := zs') (ss := noteE (ys'.foldl noteE s1) e)
          rw [es] at h2
          rw [List.foldl_append] at hN'
          walk_at "vc"
          refine ⟨e, a, ys'.foldl noteE s1, rfl, mup_same, he, by omega, ?_⟩
          rw [mup_mup]
          exact hN' _ _ ⟨rfl, _, _, rfl⟩
        · rintro τ M1 ⟨rfl, v2, v4, rfl⟩
          rw [es]
          exact hN _ _ ⟨rfl, _, _, _, rfl⟩
      cases hg : x.given with
      | none =>
        unfold givenD; walk_at "vc"
        refine ⟨x, rfl, hex.1, ?_⟩
        walk_at "vc"
        exact tail _ _ _ (by unfold noteS; rw [hg])
      | some y =>
        have hns : noteS ss x = x.exprs.foldl noteE (noteN ss y) := by unfold noteS; rw [hg]
        have h2 := notes_len (f := noteE) (fun ss x => noteE_len) (l := x.exprs) (ss := noteN ss y)
        rw [← hns] at h2
        unfold givenD; walk_at "vc"
        refine ⟨⟨a, _, rfl, mup_same, True.intro⟩, sd_name mup_same (by omega) (by rw [slotD_len]) fun d => ?_⟩
        rw [mup_mup]
        refine ⟨x, rfl, hex.1, ?_⟩
        walk_at "vc"
        exact tail _ _ _ hns.symm
    · rintro τ M1 ⟨rfl, v2, v3, v4, rfl⟩
      walk_at "vc"
      exact h _ ha
def spAddEx (n : Nat) : SpT := fun ds M Q _ => ∃ (r p : Addr) (rows : List Rw) (l at_ : Int) (e : Ex) (ss : List Str), ds = [.ref r, .int l, e.d, .int at_, .ref p] ∧ M r = some (.lst (rows.map Rw.d)) ∧ M p = some (.dK (slotD ss)) ∧ e.deep < n ∧ e.inS ss ∧ rows.length + (exRows ss l e at_).length < 16777216 ∧
  Q .non (mup M r (.lst ((rows ++ exRows ss l e at_).map Rw.d)))
theorem ok_add_expression (T : Tp K mg) : ∀ n, Fn P w K mg base CX0 (n + 1) "add_expression" (spAddEx n)
  | 0 => by
    refine fn_top T.top 6 e_add_expression (m_add_expression T) sc_add_expression (by rintro _ M Q Et ⟨_, _, _, _, _, _, _, rfl, _⟩; rfl) (fun cdv A outer s H E hr => ⟨_, qss_never, ?_⟩) (fun _ _ _ _ _ _ us hl => match us, hl with | [_, _, _, _, _], _ => rfl)
    rintro _ M Q Et ⟨r, p, rows, l, at_, e, ss, rfl, hr, hp, hd, hi, hl, h⟩
    omega
  | n + 1 => by
    have ih := ok_add_expression T n
    refine fn_top T.top 6 e_add_expression (m_add_expression T) sc_add_expression (by rintro _ M Q Et ⟨_, _, _, _, _, _, _, rfl, _⟩; rfl) (fun cdv A outer s H E hr => ⟨_, (qss_cons (qs_set (i := 5) sc_add_expression.nd (q_ix (qv 2) q_int))
 (qss_one (qs_if (qt_cmp oq_eq (qv 5) q_str)
  (qss_one (qs_expr (q_append (qv 0) (qa_cons (q_tup (qa_cons q_str (qa_cons (qv 1) (qa_cons (qv 3) (qa_cons (q_ix (qv 2) q_int) qa_nil))))) qa_nil))))
  (qss_one (qs_if (qt_cmp oq_eq (qv 5) q_str)
  (qss_one (qs_expr (q_append (qv 0) (qa_cons (q_tup (qa_cons q_str (qa_cons (qv 1) (qa_cons (qv 3) (qa_cons (q_dget (hu_of hr) (qv 4) (q_ix (qv 2) q_int)) qa_nil))))) qa_nil))))
  (qss_one (qs_if (qt_w (qw_or (qt_cmp oq_eq (qv 5) q_str) (qw_or (qt_cmp oq_eq (qv 5) q_str) (qw_or1 (qt_cmp oq_eq (qv 5) q_str)))))
  (qss_one (qs_expr (q_append (qv 0) (qa_cons (q_tup (qa_cons q_str (qa_cons (qv 1) (qa_cons (qv 3) (qa_cons (qv 5) qa_nil))))) qa_nil))))
  (qss_one (qs_if (qt_cmp oq_eq (qv 5) q_str)
  (qss_cons (qs_expr (q_call ih (hr.mono (by omega)) (qa_cons (qv 0) (qa_cons (qv 1) (qa_cons (q_ix (qv 2) q_int) (qa_cons (qv 3) (qa_cons (qv 4) qa_nil)))))))
 (qss_one (qs_expr (q_append (qv 0) (qa_cons (q_tup (qa_cons q_str (qa_cons (qv 1) (qa_cons (qv 3) (qa_cons (qv 3) qa_nil))))) qa_nil)))))
  (qss_cons (qs_expr (q_call ih (hr.mono (by omega)) (qa_cons (qv 0) (qa_cons (qv 1) (qa_cons (q_ix (qv 2) q_int) (qa_cons (qv 3) (qa_cons (qv 4) qa_nil)))))))
 (qss_cons (qs_expr (q_call ih (hr.mono (by omega)) (qa_cons (qv 0) (qa_cons (qv 1) (qa_cons (q_ix (qv 2) q_int) (qa_cons (q_op oq_addI (qv 3) q_int) (qa_cons (qv 4) qa_nil)))))))
 (qss_one (qs_expr (q_append (qv 0) (qa_cons (q_tup (qa_cons q_str (qa_cons (qv 1) (qa_cons (qv 3) (qa_cons (qv 5) (qa_cons (qv 3) (qa_cons (q_op oq_addI (qv 3) q_int) qa_nil))))))) qa_nil))))))))))))))), ?_⟩) (fun _ _ _ _ _ _ us hl => match us, hl with | [_, _, _, _, _], _ => rfl)
    rintro _ M Q Et ⟨r, p, rows, l, at_, e, ss, rfl, hr, hp, hd, hi, hl, h⟩
    have hpr : p ≠ r := by rintro rfl; rw [hp] at hr; cases hr
    have one : ∀ M1 rows1 (x : Rw), M1 r = some (.lst (rows1.map Rw.d)) → rows1.length < 16777216 → Q .non (mup M1 r (.lst ((rows1 ++ [x]).map Rw.d))) →
        ((lstOf M1 (.ref r)).isSome = true ∧ oSome (mLst M1 r) fun ds => ds.length < 16777216 ∧ Q .non (mup M1 r (.lst (ds ++ [x.d])))) := by
      intro M1 rows1 x h1 h2 h3
      rw [List.map_append] at h3
      exact ⟨is_m h1, ap_m h1 ⟨by rw [List.length_map]; exact h2, h3⟩⟩
    cases e with
    | nam x =>
      unfold Ex.d
      walk_at "vc"
      rw [hp]
      walk_at "vc"
      rw [slot_there hi]
      walk_at "vc"
      exact one M rows (.copy l at_ (slotOf ss x)) hr (by omega) h
    | num i => unfold Ex.d; walk_at "vc"; exact one M rows (.num l at_ i) hr (by omega) h
    | lane => unfold Ex.d; walk_at "vc"; exact one M rows (.sign l at_ .lane) hr (by omega) h
    | lanes => unfold Ex.d; walk_at "vc"; exact one M rows (.sign l at_ .lanes) hr (by omega) h
    | mine => unfold Ex.d; walk_at "vc"; exact one M rows (.sign l at_ .mine) hr (by omega) h
    | box e =>
      unfold exRows at hl h
      rw [List.length_append] at hl
      unfold Ex.deep at hd
      unfold Ex.d; walk_at "vc"
      refine ⟨r, p, rows, l, at_, e, ss, rfl, hr, hp, by omega, hi, by omega, ?_⟩
      refine one _ (rows ++ exRows ss l e at_) (.get l at_ at_) mup_same (by rw [List.length_append]; simp only [List.length_cons] at hl; omega) ?_
      rw [mup_mup, List.append_assoc]
      exact h
    | op w x y =>
      unfold exRows at hl h
      rw [List.length_append, List.length_append] at hl
      simp only [List.length_cons, List.length_nil] at hl
      unfold Ex.deep at hd
      unfold Ex.d; walk_at "vc"
      refine ⟨r, p, rows, l, at_, x, ss, rfl, hr, hp, by omega, hi.1, by omega, ?_⟩
      walk_at "vc"
      refine ⟨r, p, rows ++ exRows ss l x at_, l, at_ + 1, y, ss, rfl, mup_same, by rw [mup_ne hpr]; exact hp, by omega, hi.2, by rw [List.length_append]; omega, ?_⟩
      rw [mup_mup]
      walk_at "vc"
      refine ⟨by omega, ?_⟩
      rw [← List.append_assoc, ← List.append_assoc, List.map_append] at h
      exact h
def isMk (K : PySem.W.Frag) (A : MkA) : Prop := A.C = He.ga K "Maker" ∧ A.fl = fl_Maker
theorem mk_s {K : PySem.W.Frag} {A : MkA} {M0 M : MH} {ss : List Str} {fr : Int} {m : Mk} {L : Lps} (k : isMk K A) (h : MkS A M0 M ss fr m L) : M A.s = some (.obj (He.ga K "Maker") A.dx fl_Maker [.ref A.r, .ref A.p, .int fr, .ref A.c, .ref A.v, .ref A.o]) := by
  have := h.s_
  unfold MkA.obj at this
  rw [k.1, k.2] at this
  exact this
def spAdded (K : PySem.W.Frag) : SpT := fun ds M Q _ => ∃ (A : MkA) (M0 : MH) (ss : List Str) (fr : Int) (m : Mk) (L : Lps) (x : Rw), isMk K A ∧ ds = [.ref A.s, x.d] ∧ MkS A M0 M ss fr m L ∧ m.rows.length < 16777215 ∧ Q (natD m.rows.length) (mup M A.r (.lst ((m.rows ++ [x]).map Rw.d)))
theorem ok_Maker_added (T : Tp K mg) : Fm P w K mg base CX0 1 "Maker" "added" (spAdded K) := by
  refine fm_top T.top e_Maker_added 8 sc_Maker_added (T.top.meth 82) (T.top.cls 68) (by rintro _ M Q Et ⟨_, _, _, _, _, _, _, _, rfl, _⟩; rfl) (fun cdv A outer s H E hr => ⟨_, (qss_cons (qs_expr (q_append (q_fld 0 fl_Maker (c_Maker_rows T) (qv 0)) (qa_cons (qv 1) qa_nil)))
 (qss_one (qs_ret (q_op oq_sub (q_callB cq_len (m_len T) (by decide +kernel) (qa_cons (q_fld 0 fl_Maker (c_Maker_rows T) (qv 0)) qa_nil)) q_int)))), ?_⟩) (fun _ _ _ _ _ _ us hl => match us, hl with | [_, _], _ => rfl)
  rintro _ M Q Et ⟨A, M0, ss, fr, m, L, x, hk, rfl, hm, hl, h⟩
  have hr := hm.r_
  walk_at "vc"
  rw [mk_s hk hm]
  walk_at "vc"
  refine ⟨is_m hr, ap_m hr ⟨by rw [List.length_map]; omega, ?_⟩⟩
  have h2 := hm.rows (rs := m.rows ++ [x])
  rw [List.map_append] at h2 h
  change MkS _ _ (mup M A.r (.lst (m.rows.map Rw.d ++ [x.d]))) _ _ _ _ at h2
  rw [mk_s hk h2]
  walk_at "vc"
  rw [show ((m.rows.length + 1 : Nat) : Int) - 1 = (m.rows.length : Int) by omega]
  exact h
def spReckon (K : PySem.W.Frag) : SpT := fun ds M Q _ => ∃ (A : MkA) (M0 : MH) (ss : List Str) (fr : Int) (m : Mk) (L : Lps) (l at_ : Int) (e : Ex), isMk K A ∧ ds = [.ref A.s, .int l, e.d, .int at_] ∧ MkS A M0 M ss fr m L ∧ e.deep < 12 ∧ e.inS ss ∧ m.rows.length + (exRows ss l e at_).length < 16777216 ∧ Q .non (mup M A.r (.lst ((m.rows ++ exRows ss l e at_).map Rw.d)))
theorem ok_Maker_reckon (T : Tp K mg) : Fm P w K mg base CX0 14 "Maker" "reckon" (spReckon K) := by
  refine fm_top T.top e_Maker_reckon 9 sc_Maker_reckon (T.top.meth 83) (T.top.cls 68) (by rintro _ M Q Et ⟨_, _, _, _, _, _, _, _, _, _, rfl, _⟩; rfl) (fun cdv A outer s H E hr => ⟨_, (qss_one (qs_expr (q_call (ok_add_expression T 12) (hr.mono (by decide)) (qa_cons (q_fld 0 fl_Maker (c_Maker_rows T) (qv 0)) (qa_cons (qv 1) (qa_cons (qv 2) (qa_cons (qv 3) (qa_cons (q_fld 1 fl_Maker (c_Maker_slots T) (qv 0)) qa_nil)))))))), ?_⟩) (fun _ _ _ _ _ _ us hl => match us, hl with | [_, _, _, _], _ => rfl)
  rintro _ M Q Et ⟨A, M0, ss, fr, m, L, l, at_, e, hk, rfl, hm, hd, hi, hl, h⟩
  walk_at "vc"
  rw [mk_s hk hm]
  walk_at "vc"
  exact ⟨A.r, A.p, m.rows, l, at_, e, ss, rfl, hm.r_, hm.p_, hd, hi, hl, h⟩
def spTested (K : PySem.W.Frag) : SpT := fun ds M Q _ => ∃ (A : MkA) (M0 : MH) (ss : List Str) (fr : Int) (m : Mk) (L : Lps) (l : Int) (e : Ex), isMk K A ∧ ds = [.ref A.s, .int l, e.d] ∧ MkS A M0 M ss fr m L ∧ e.deep < 12 ∧ e.inS ss ∧ m.rows.length + (exRows ss l e fr).length < 16777215 ∧
  Q (natD (m.rows.length + (exRows ss l e fr).length)) (mup M A.r (.lst ((m.rows ++ (exRows ss l e fr ++ [Rw.split l fr 0])).map Rw.d)))
theorem ok_Maker_tested (T : Tp K mg) : Fm P w K mg base CX0 15 "Maker" "tested" (spTested K) := by
  refine fm_top T.top e_Maker_tested 10 sc_Maker_tested (T.top.meth 84) (T.top.cls 68) (by rintro _ M Q Et ⟨_, _, _, _, _, _, _, _, _, rfl, _⟩; rfl) (fun cdv A outer s H E hr => ⟨_, (qss_cons (qs_expr (q_meth fl_Maker (ok_Maker_reckon T) (hr.mono (by decide)) (qv 0) (qa_cons (qv 1) (qa_cons (qv 2) (qa_cons (q_fld 2 fl_Maker (c_Maker_free T) (qv 0)) qa_nil)))))
 (qss_one (qs_ret (q_meth fl_Maker (ok_Maker_added T) (hr.mono (by decide)) (qv 0) (qa_cons (q_tup (qa_cons q_str (qa_cons (qv 1) (qa_cons (q_fld 2 fl_Maker (c_Maker_free T) (qv 0)) (qa_cons q_int qa_nil))))) qa_nil))))), ?_⟩) (fun _ _ _ _ _ _ us hl => match us, hl with | [_, _, _], _ => rfl)
  rintro _ M Q Et ⟨A, M0, ss, fr, m, L, l, e, hk, rfl, hm, hd, hi, hl, h⟩
  walk_at "vc"
  rw [mk_s hk hm]
  walk_at "vc"
  refine ⟨A, M0, ss, fr, m, L, l, fr, e, hk, rfl, hm, hd, hi, by omega, ?_⟩
  have h2 := hm.rows (rs := m.rows ++ exRows ss l e fr)
  walk_at "vc"
  rw [mk_s hk h2]
  walk_at "vc"
  refine ⟨A, M0, ss, fr, _, L, .split l fr 0, hk, rfl, h2, by rw [List.length_append]; omega, ?_⟩
  rw [mup_mup, List.length_append, List.append_assoc]
  exact h
def spLead (K : PySem.W.Frag) : SpT := fun ds M Q _ => ∃ (A : MkA) (M0 : MH) (ss : List Str) (fr : Int) (m : Mk) (L : Lps) (k : Nat) (t : Int), isMk K A ∧ ds = [.ref A.s, natD k, .int t] ∧ MkS A M0 M ss fr m L ∧ ledAt m.rows k ∧ Q .non (mup M A.r (.lst ((leadAt m.rows k t).map Rw.d)))
theorem ok_Maker_lead (T : Tp K mg) : Fm P w K mg base CX0 1 "Maker" "lead" (spLead K) := by
  refine fm_top T.top e_Maker_lead 11 sc_Maker_lead (T.top.meth 85) (T.top.cls 68) (by rintro _ M Q Et ⟨_, _, _, _, _, _, _, _, _, rfl, _⟩; rfl) (fun cdv A outer s H E hr => ⟨_, (qss_one (qs_asg (q_op oq_catT (q_sliceT (q_ix (q_fld 0 fl_Maker (c_Maker_rows T) (qv 0)) (qv 1)) qo_none (qo_some (q_un uq_neg q_int))) (q_tup (qa_cons (qv 2) qa_nil))) (qg_sub (q_fld 0 fl_Maker (c_Maker_rows T) (qv 0)) (qv 1) sq_list))), ?_⟩) (fun _ _ _ _ _ _ us hl => match us, hl with | [_, _, _], _ => rfl)
  rintro _ M Q Et ⟨A, M0, ss, fr, m, L, k, t, hk, rfl, hm, ⟨x, hx, hx2⟩, h⟩
  have hr := hm.r_
  unfold natD
  walk_at "vc"
  rw [mk_s hk hm]
  walk_at "vc"
  refine apl_m hr ?_
  rw [atI_nat (v := x.d) (by rw [List.getElem?_map, hx]; rfl)]
  have hkl : k < m.rows.length := (List.getElem?_eq_some_iff.mp hx).1
  have hset := leadAt_set (t := t) hx
  have h2 := hm.rows (rs := leadAt m.rows k t)
  rw [hset] at h2 h
  have hix : ixN (m.rows.map Rw.d).length (k : Int) = some k := ix_nat (by rw [List.length_map]; exact hkl)
  cases x with
  | split a b c => unfold Rw.d; walk_at "vc"; rw [cut_init4]; walk_at "vc"; rw [mk_s hk hm]; walk_at "vc"; exact ap_m hr (by unfold oSome; rw [hix]; exact h)
  | jump a b => unfold Rw.d; walk_at "vc"; rw [cut_init3]; walk_at "vc"; rw [mk_s hk hm]; walk_at "vc"; exact ap_m hr (by unfold oSome; rw [hix]; exact h)
  | call a b c d e => unfold Rw.d; walk_at "vc"; rw [cut_init6]; walk_at "vc"; rw [mk_s hk hm]; walk_at "vc"; exact ap_m hr (by unfold oSome; rw [hix]; exact h)
  | _ => exact hx2.elim
def leadsAt (rows : List Rw) (ks : List Nat) : List Rw := ks.foldl (fun rs k => leadAt rs k rs.length) rows
def spLeadHere (K : PySem.W.Frag) : SpT := fun ds M Q _ => ∃ (A : MkA) (M0 : MH) (ss : List Str) (fr : Int) (m : Mk) (L : Lps) (ks : List Nat) (d : D), isMk K A ∧ ds = [.ref A.s, d] ∧ (d = .lst (ks.map natD) ∨ ∃ q, d = .ref q ∧ q ≠ A.r ∧ M q = some (.lst (ks.map natD))) ∧ MkS A M0 M ss fr m L ∧ (∀ k ∈ ks, ledAt m.rows k) ∧ Q .non (mup M A.r (.lst ((leadsAt m.rows ks).map Rw.d)))
theorem ok_Maker_lead_here (T : Tp K mg) : Fm P w K mg base CX0 2 "Maker" "lead_here" (spLeadHere K) := by
  refine fm_top T.top e_Maker_lead_here 12 sc_Maker_lead_here (T.top.meth 86) (T.top.cls 68) (by rintro _ M Q Et ⟨_, _, _, _, _, _, _, _, _, rfl, _⟩; rfl) (fun cdv A outer s H E hr => ⟨_, (qss_one (qs_for PassesOwn.never rfl (qi_list (qv 1)) (qg_name (i := 2) sc_Maker_lead_here.nd)
  (qss_one (qs_expr (q_meth fl_Maker (ok_Maker_lead T) (hr.mono (by decide)) (qv 0) (qa_cons (qv 2) (qa_cons (q_callB cq_len (m_len T) (by decide +kernel) (qa_cons (q_fld 0 fl_Maker (c_Maker_rows T) (qv 0)) qa_nil)) qa_nil))))))), ?_⟩) (fun _ _ _ _ _ _ us hl => match us, hl with | [_, _], _ => rfl)
  rintro _ M Q Et ⟨A, M0, ss, fr, m, L, ks, d, hk, rfl, hd, hm, hks, h⟩
  walk_at "vc"
  have hl : ∀ o, lstOf (mup M A.r o) d = some (ks.map natD) := by
    intro o
    rcases hd with rfl | ⟨q, rfl, hq, hM⟩
    · rfl
    · unfold lstOf; dsimp only; rw [mup_ne hq, hM]
  have hl0 : lstOf M d = some (ks.map natD) := by rw [← hl (.lst (m.rows.map Rw.d)), mup_idem hm.r_]
  rw [hl0]
  walk_at "vc"
  refine for_map ks natD rfl (fun ys τ M1 => M1 = mup M A.r (.lst ((leadsAt m.rows ys).map Rw.d)) ∧ ∃ v2, τ = [some (.ref A.s), some d, v2]) ⟨(mup_idem hm.r_).symm, none, rfl⟩ ?_ ?_ ?_
  · rintro ys τ M1 ⟨rfl, v2, rfl⟩
    exact hl _
  · rintro ys k zs τ M1 Nx hx ⟨rfl, v2, rfl⟩ hN
    have h2 := hm.rows (rs := leadsAt m.rows ys)
    have hled : ledAt (leadsAt m.rows ys) k := by
      have h0 := hks k (by rw [hx]; simp)
      clear hN hx h2
      unfold leadsAt
      generalize m.rows = rows at h0 ⊢
      induction ys generalizing rows with
      | nil => exact h0
      | cons y t ih => exact ih _ (ledAt_lead h0)
    walk_at "vc"
    rw [mk_s hk h2]
    walk_at "vc"
    refine ⟨A, M0, ss, fr, _, L, k, _, hk, rfl, h2, hled, ?_⟩
    rw [mup_mup]
    exact hN _ _ ⟨by unfold leadsAt; rw [List.foldl_append]; rfl, _, rfl⟩
  · rintro τ M1 ⟨rfl, v2, rfl⟩
    exact h
def spLast : SpT := fun ds M Q _ => ∃ (s : Sm) (p : Addr) (ss : List Str) (fr : Int), ds = [s.d, .ref p, .int fr] ∧ M p = some (.dK (slotD ss)) ∧ isPlain s ∧ (∀ x, s.given = some x → x ∈ ss) ∧ Q (lastRow ss fr s).d M
theorem ok_last_row (T : Tp K mg) : Fn P w K mg base CX0 1 "last_row" spLast := by
  refine fn_top T.top 13 e_last_row (m_last_row T) sc_last_row (by rintro _ M Q Et ⟨_, _, _, _, rfl, _⟩; rfl) (fun cdv A outer s H E hr => ⟨_, (qss_cons (qs_set (i := 3) sc_last_row.nd (q_ix (qv 0) q_int))
 (qss_cons (qs_if (qt_cmp oq_eq (qv 3) q_str)
  (qss_one (qs_ret (q_tup (qa_cons q_str (qa_cons (q_ix (qv 0) q_int) (qa_cons (q_dget (hu_of hr) (qv 1) (q_ix (qv 0) q_int)) (qa_cons (qv 2) qa_nil)))))))
  qss_nil)
 (qss_cons (qs_if (qt_cmp oq_eq (qv 3) q_str)
  (qss_one (qs_ret (q_tup (qa_cons q_str (qa_cons (q_ix (qv 0) q_int) (qa_cons (qv 2) (qa_cons (q_op oq_addI (qv 2) q_int) qa_nil)))))))
  qss_nil)
 (qss_cons (qs_if (qt_cmp oq_eq (qv 3) q_str)
  (qss_one (qs_ret (q_tup (qa_cons q_str (qa_cons (q_ix (qv 0) q_int) (qa_cons (qv 2) qa_nil))))))
  qss_nil)
 (qss_cons (qs_if (qt_cmp oq_eq (qv 3) q_str)
  (qss_one (qs_ret (q_tup (qa_cons q_str (qa_cons (q_ix (qv 0) q_int) (qa_cons (q_dget (hu_of hr) (qv 1) (q_ix (qv 0) q_int)) (qa_cons (q_ix (qv 0) q_int) (qa_cons (qv 2) qa_nil))))))))
  qss_nil)
 (qss_one (qs_ret (q_tup (qa_cons (qv 3) (qa_cons (q_ix (qv 0) q_int) qa_nil)))))))))), ?_⟩) (fun _ _ _ _ _ _ us hl => match us, hl with | [_, _, _], _ => rfl)
  rintro _ M Q Et ⟨s, p, ss, fr, rfl, hp, hpl, hg, h⟩
  cases s with
  | set l x e =>
    have hx := hg x rfl
    unfold Sm.d; walk_at "vc"
    rw [hp]
    walk_at "vc"
    rw [slot_there hx]
    walk_at "vc"
    exact h
  | join l x w e =>
    have hx := hg x rfl
    unfold Sm.d; walk_at "vc"
    rw [hp]
    walk_at "vc"
    rw [slot_there hx]
    walk_at "vc"
    exact h
  | put l a b => unfold Sm.d; walk_at "vc"; exact h
  | tell l e => unfold Sm.d; walk_at "vc"; exact h
  | meet l => unfold Sm.d; walk_at "vc"; exact h
  | stop l => unfold Sm.d; walk_at "vc"; exact h
  | _ => exact hpl.elim
end
end K23
namespace K23
open PySem PySem.Spec PyProof.Rows L2 Tl
section
variable {P : Program} {w : World} {K : PySem.W.Frag} {mg : Str → Option Value} {base : Heap}
/-- what the last of the walk of a block must still know: what stands, and that it is not too much -/
def spWay (K : PySem.W.Frag) : SpT := fun ds M Q _ => ∃ (A : MkA) (M0 : MH) (ss : List Str) (fr : Int) (m : Mk) (L : Lps) (s : Sm), isMk K A ∧ ds = [.ref A.s, s.d] ∧ MkS A M0 M ss fr m L ∧ m.ok ∧ (∀ e ∈ s.exprs, e.deep < 12 ∧ e.inS ss) ∧ (mkS ss fr m s).rows.length < 16777215 ∧
  (match s with | .brk _ => m.loops ≠ [] | .agn _ => m.loops ≠ [] | .ret _ _ => True | _ => False) ∧ ∀ M' L', MkS A M0 M' ss fr (mkS ss fr m s) L' → L'.map (·.1) = L.map (·.1) → Q .non M'
theorem ok_make_way (T : Tp K mg) : Fn P w K mg base CX0 15 "make_way" (spWay K) := by
  refine fn_top T.top 14 e_make_way (m_make_way T) sc_make_way (by rintro _ M Q Et ⟨_, _, _, _, _, _, _, _, rfl, _⟩; rfl) (fun cdv A outer s H E hr => ⟨_, (qss_cons (qs_set (i := 2) sc_make_way.nd (q_ix (qv 1) q_int))
 (qss_one (qs_if (qt_cmp oq_eq (q_ix (qv 1) q_int) q_str)
  (qss_cons (qs_expr (q_meth fl_Maker (ok_Maker_reckon T) (hr.mono (by decide)) (qv 0) (qa_cons (qv 2) (qa_cons (q_ix (qv 1) q_int) (qa_cons (q_fld 2 fl_Maker (c_Maker_free T) (qv 0)) qa_nil)))))
 (qss_cons (qs_expr (q_append (q_fld 0 fl_Maker (c_Maker_rows T) (qv 0)) (qa_cons (q_tup (qa_cons q_str (qa_cons (qv 2) (qa_cons q_int (qa_cons (q_fld 2 fl_Maker (c_Maker_free T) (qv 0)) qa_nil))))) qa_nil)))
 (qss_one (qs_expr (q_append (q_fld 4 fl_Maker (c_Maker_leaves T) (qv 0)) (qa_cons (q_meth fl_Maker (ok_Maker_added T) (hr.mono (by decide)) (qv 0) (qa_cons (q_tup (qa_cons q_str (qa_cons (qv 2) (qa_cons q_int qa_nil)))) qa_nil)) qa_nil))))))
  (qss_cons (qs_asg (q_ix (q_fld 5 fl_Maker (c_Maker_loops T) (qv 0)) (q_un uq_neg q_int)) (qg_tup (n := 2) rfl (qgs_cons (qg_name (i := 3) sc_make_way.nd) (qgs_cons (qg_name (i := 4) sc_make_way.nd) qgs_nil))))
 (qss_cons (qs_set (i := 5) sc_make_way.nd (q_meth fl_Maker (ok_Maker_added T) (hr.mono (by decide)) (qv 0) (qa_cons (q_tup (qa_cons q_str (qa_cons (qv 2) (qa_cons (qv 3) qa_nil)))) qa_nil)))
 (qss_one (qs_if (qt_cmp oq_eq (q_ix (qv 1) q_int) q_str)
  (qss_one (qs_expr (q_append (qv 4) (qa_cons (qv 5) qa_nil))))
  qss_nil))))))), ?_⟩) (fun _ _ _ _ _ _ us hl => match us, hl with | [_, _], _ => rfl)
  rintro _ M Q Et ⟨A, M0, ss, fr, m, L, s, hk, rfl, hm, ho, he, hl, hs, h⟩
  cases s with
  | ret l e =>
    have he' := he e (by simp [Sm.exprs])
    have e1 : (mkS ss fr m (.ret l e)).rows.length = m.rows.length + (exRows ss l e fr).length + 2 := by
      unfold mkS Mk.add
      simp only [List.length_append, List.length_cons, List.length_nil]
      omega
    rw [e1] at hl
    unfold Sm.d; walk_at "vc"
    rw [mk_s hk hm]
    walk_at "vc"
    refine ⟨A, M0, ss, fr, m, L, l, fr, e, hk, rfl, hm, he'.1, he'.2, by omega, ?_⟩
    have h1 := hm.rows (rs := m.rows ++ exRows ss l e fr)
    walk_at "vc"
    rw [mk_s hk h1]
    walk_at "vc"
    refine ⟨by omega, ?_⟩
    have h2 := hm.rowsA (m.rows ++ exRows ss l e fr) (.copy l 0 fr)
    simp only [Rw.d] at h2
    rw [mk_s hk h2]
    walk_at "vc"
    refine ⟨is_m h2.v_, A, M0, ss, fr, _, L, .jump l 0, hk, rfl, h2, by rw [List.length_append, List.length_append]; simp only [List.length_cons, List.length_nil]; omega, ?_⟩
    have h3 := hm.rows (rs := m.rows ++ exRows ss l e fr ++ [.copy l 0 fr] ++ [.jump l 0])
    rw [mup_mup]
    walk_at "vc"
    have hv := ho.lv
    refine ap_m h3.v_ ⟨by rw [List.length_map]; dsimp only; omega, ?_⟩
    have h4 := h3.leavesA (m.rows.length + (exRows ss l e fr).length + 1)
    refine h _ L ?_ rfl
    have e2 : mkS ss fr m (.ret l e) = ⟨m.rows ++ exRows ss l e fr ++ [.copy l 0 fr] ++ [.jump l 0], m.calls, m.leaves ++ [m.rows.length + (exRows ss l e fr).length + 1], m.loops⟩ := by
      unfold mkS Mk.add
      simp [List.append_assoc]
      omega
    rw [e2]
    exact h4
  | brk l =>
    cases L with
    | nil => exact absurd hm.lps hs
    | cons q R =>
      obtain ⟨q, b, lv⟩ := q
      have hl : m.rows.length < 16777214 := by
        unfold mkS at hl
        rw [hm.lps] at hl
        simp only [List.map_cons, Mk.add, List.length_append, List.length_cons, List.length_nil] at hl
        omega
      unfold Sm.d; walk_at "vc"
      rw [mk_s hk hm]
      walk_at "vc"
      refine apl_m hm.o_ ?_
      rw [List.reverse_cons, List.map_append, List.map_cons, List.map_nil, Tl.atI_lst1]
      unfold lpD natD
      walk_at "vc"
      rw [mk_s hk hm]
      walk_at "vc"
      refine ⟨A, M0, ss, fr, m, _, .jump l b, hk, rfl, hm, by omega, ?_⟩
      have h1 := hm.rows (rs := m.rows ++ [.jump l b])
      walk_at "vc"
      have hls := ho.ls (b, lv) (by rw [hm.lps]; simp)
      refine ⟨is_m h1.q_, ap_m h1.q_ ⟨by rw [List.length_map]; dsimp only at hls; omega, ?_⟩⟩
      have h2 := h1.leavingA m.rows.length
      refine h _ ((q, b, lv ++ [m.rows.length]) :: R) ?_ rfl
      have e2 : mkS ss fr m (.brk l) = ⟨m.rows ++ [.jump l b], m.calls, m.leaves, (b, lv ++ [m.rows.length]) :: R.map (·.2)⟩ := by
        unfold mkS
        rw [hm.lps]
        rfl
      rw [e2]
      exact h2
  | agn l =>
    cases L with
    | nil => exact absurd hm.lps hs
    | cons q R =>
      obtain ⟨q, b, lv⟩ := q
      have hl : m.rows.length < 16777214 := by
        unfold mkS at hl
        rw [hm.lps] at hl
        simp only [List.map_cons, Mk.add, List.length_append, List.length_cons, List.length_nil] at hl
        omega
      unfold Sm.d; walk_at "vc"
      rw [mk_s hk hm]
      walk_at "vc"
      refine apl_m hm.o_ ?_
      rw [List.reverse_cons, List.map_append, List.map_cons, List.map_nil, Tl.atI_lst1]
      unfold lpD natD
      walk_at "vc"
      rw [mk_s hk hm]
      walk_at "vc"
      refine ⟨A, M0, ss, fr, m, _, .jump l b, hk, rfl, hm, by omega, ?_⟩
      have h1 := hm.rows (rs := m.rows ++ [.jump l b])
      walk_at "vc"
      refine h _ _ ?_ rfl
      have e2 : mkS ss fr m (.agn l) = { m with rows := m.rows ++ [.jump l b] } := by
        unfold mkS Mk.add
        rw [hm.lps]
        rfl
      rw [e2]
      exact h1
  | _ => exact hs.elim
def isPc (s : Sm) : Prop := isPlain s ∨ ∃ l x f es, s = .call l x f es
def spPlain (K : PySem.W.Frag) : SpT := fun ds M Q _ => ∃ (A : MkA) (M0 : MH) (ss : List Str) (fr : Int) (m : Mk) (L : Lps) (s : Sm), isMk K A ∧ ds = [.ref A.s, s.d] ∧ MkS A M0 M ss fr m L ∧ m.ok ∧ s.exprs.length ≤ 1000 ∧ (∀ e ∈ s.exprs, e.deep < 12 ∧ e.inS ss) ∧ (∀ x, s.given = some x → x ∈ ss) ∧ (mkS ss fr m s).rows.length < 16777215 ∧
  isPc s ∧ ∀ M', MkS A M0 M' ss fr (mkS ss fr m s) L → Q .non M'
theorem ok_make_plain (T : Tp K mg) : Fn P w K mg base CX0 15 "make_plain" (spPlain K) := by
  refine fn_top T.top 15 e_make_plain (m_make_plain T) sc_make_plain (by rintro _ M Q Et ⟨_, _, _, _, _, _, _, _, rfl, _⟩; rfl) (fun cdv A outer s H E hr => ⟨_, (qss_cons (qs_set (i := 2) sc_make_plain.nd (q_ix (qv 1) q_int))
 (qss_cons (qs_set (i := 3) sc_make_plain.nd (q_fld 2 fl_Maker (c_Maker_free T) (qv 0)))
 (qss_cons (qs_for PassesOwn.never rfl (qi_list (q_call (ok_expressions_of T) (hr.mono (by decide)) (qa_cons (qv 1) qa_nil))) (qg_name (i := 4) sc_make_plain.nd)
  (qss_cons (qs_expr (q_meth fl_Maker (ok_Maker_reckon T) (hr.mono (by decide)) (qv 0) (qa_cons (qv 2) (qa_cons (qv 4) (qa_cons (qv 3) qa_nil)))))
 (qss_one (qs_aug (i := 3) sc_make_plain.nd oq_iaddI q_int))))
 (qss_one (qs_if (qt_cmp oq_eq (q_ix (qv 1) q_int) q_str)
  (qss_cons (qs_set (i := 5) sc_make_plain.nd (q_tup (qa_cons q_str (qa_cons (qv 2) (qa_cons (q_dget (hu_of hr) (q_fld 1 fl_Maker (c_Maker_slots T) (qv 0)) (q_ix (qv 1) q_int)) (qa_cons (q_fld 2 fl_Maker (c_Maker_free T) (qv 0)) (qa_cons (q_callB cq_len (m_len T) (by decide +kernel) (qa_cons (q_ix (qv 1) q_int) qa_nil)) (qa_cons q_int qa_nil))))))))
 (qss_one (qs_expr (q_append (q_fld 3 fl_Maker (c_Maker_calls T) (qv 0)) (qa_cons (q_tup (qa_cons (q_meth fl_Maker (ok_Maker_added T) (hr.mono (by decide)) (qv 0) (qa_cons (qv 5) qa_nil)) (qa_cons (q_ix (qv 1) q_int) qa_nil))) qa_nil)))))
  (qss_one (qs_expr (q_append (q_fld 0 fl_Maker (c_Maker_rows T) (qv 0)) (qa_cons (q_call (ok_last_row T) (hr.mono (by decide)) (qa_cons (qv 1) (qa_cons (q_fld 1 fl_Maker (c_Maker_slots T) (qv 0)) (qa_cons (q_fld 2 fl_Maker (c_Maker_free T) (qv 0)) qa_nil)))) qa_nil))))))))), ?_⟩) (fun _ _ _ _ _ _ us hl => match us, hl with | [_, _], _ => rfl)
  rintro _ M Q Et ⟨A, M0, ss, fr, m, L, s, hk, rfl, hm, ho, hn, he, hg, hl, hs, h⟩
  have hrows : (exsRows ss s.line s.exprs fr).length + m.rows.length + 1 ≤ (mkS ss fr m s).rows.length := by
    rcases hs with hs | ⟨l, x, f, es, rfl⟩
    · rw [mkS_plain hs]
      unfold Mk.add
      simp only [List.length_append, List.length_cons, List.length_nil]
      omega
    · unfold mkS Mk.add
      simp only [List.length_append, List.length_cons, List.length_nil, Sm.exprs, Sm.line]
      omega
  have e0 : bIx s.d (.int 1) M = fun Q => Q (.int s.line) M := by rw [sm_d]; funext Q; walk_at "vc"
  walk_at "vc"
  rw [e0]
  walk_at "vc"
  rw [mk_s hk hm]
  walk_at "vc"
  refine ⟨s, rfl, hn, ?_⟩
  walk_at "vc"
  refine for_map s.exprs Ex.d rfl (fun ys τ M1 => M1 = mup M A.r (.lst ((m.rows ++ exsRows ss s.line ys fr).map Rw.d)) ∧ ∃ v4 v5, τ = [some (.ref A.s), some s.d, some (.int s.line), some (.int (fr + (ys.length : Int))), v4, v5]) ⟨?_, none, none, ?_⟩ (fun _ _ _ _ => trivial) ?_ ?_
  · rw [show exsRows ss s.line [] fr = [] from rfl, List.append_nil, mup_idem hm.r_]
  · rw [List.length_nil, show fr + ((0 : Nat) : Int) = fr by omega]
  · rintro ys x zs τ M1 Nx hx ⟨rfl, v4, v5, rfl⟩ hN
    have h1 := hm.rows (rs := m.rows ++ exsRows ss s.line ys fr)
    obtain ⟨he1, he2⟩ := he x (by rw [hx]; simp)
    have hle := exs_len_le (ss := ss) (l := s.line) (ys := ys ++ [x]) (zs := zs) (a := fr)
    rw [List.append_assoc, show [x] ++ zs = x :: zs from rfl, ← hx, exs_app, exs_one, List.length_append] at hle
    walk_at "vc"
    rw [mk_s hk h1]
    walk_at "vc"
    refine ⟨A, M0, ss, fr, _, L, s.line, _, x, hk, rfl, h1, he1, he2, by simp only [List.length_append]; omega, ?_⟩
    rw [mup_mup]
    walk_at "vc"
    exact hN _ _ ⟨by rw [exs_app, exs_one, List.append_assoc], some x.d, v5, by rw [show fr + (ys.length : Int) + 1 = fr + ((ys ++ [x]).length : Nat) by rw [List.length_append, List.length_singleton]; omega]⟩
  · rintro τ M1 ⟨rfl, v4, v5, rfl⟩
    have h1 := hm.rows (rs := m.rows ++ exsRows ss s.line s.exprs fr)
    rcases hs with hs | ⟨l, x, f, es, rfl⟩
    · have e1 : ∀ M Q, bIx s.d (.int 0) M Q = Q (.str s.word) M := by intro M Q; rw [sm_d]; walk_at "vc"
      have hw : ¬ s.word = Str.ofString "call" := by cases s <;> first | exact hs.elim | (show ¬ (Str.ofString _ = Str.ofString "call"); decide)
      dsimp only
      walk_at "vc"
      rw [e1]
      walk_at "vc"
      rw [if_neg hw]
      rw [mk_s hk h1]
      walk_at "vc"
      refine ⟨s, A.p, ss, fr, rfl, h1.p_, hs, hg, ?_⟩
      refine ap_m h1.r_ ⟨by rw [List.length_map, List.length_append]; omega, ?_⟩
      rw [mup_mup]
      have h2 := hm.rowsA (m.rows ++ exsRows ss s.line s.exprs fr) (lastRow ss fr s)
      refine h _ ?_
      rw [mkS_plain hs]
      unfold Mk.add
      rw [← List.append_assoc]
      exact h2
    · have hx := hg x rfl
      have hc := ho.cs
      have e3 : mkS ss fr m (.call l x f es) = ⟨m.rows ++ exsRows ss l es fr ++ [.call l (slotOf ss x) fr es.length 0], m.calls ++ [((m.rows ++ exsRows ss l es fr).length, f)], m.leaves, m.loops⟩ := by
        unfold mkS Mk.add
        simp [List.append_assoc]
      unfold Sm.d
      walk_at "vc"
      rw [mk_s hk h1]
      walk_at "vc"
      rw [h1.p_]
      walk_at "vc"
      rw [slot_there hx]
      walk_at "vc"
      refine ⟨is_m h1.c_, A, M0, ss, fr, _, L, .call l (slotOf ss x) fr es.length 0, hk, rfl, h1, ?_, ?_⟩
      · dsimp only
        rw [List.length_append]
        omega
      have h2 := hm.rows (rs := m.rows ++ exsRows ss l es fr ++ [.call l (slotOf ss x) fr es.length 0])
      rw [mup_mup]
      refine ap_m h2.c_ ⟨by rw [List.length_map]; dsimp only; omega, ?_⟩
      have h3 := h2.callsA ((m.rows ++ exsRows ss l es fr).length, f)
      refine h _ ?_
      rw [e3]
      exact h3
end
end K23
namespace K23
open PySem PySem.Spec PyProof.Rows L2 Tl
section
variable {P : Program} {w : World} {K : PySem.W.Frag} {mg : Str → Option Value} {base : Heap}
def isIf : Sm → Prop
  | .if1 _ _ _ => True | .if2 _ _ _ _ => True | _ => False
def isWh : Sm → Prop
  | .whl _ _ _ => True | _ => False
def spDeed (K : PySem.W.Frag) (is : Sm → Prop) (n : Nat) : SpT := fun ds M Q _ => ∃ (A : MkA) (M0 : MH) (ss : List Str) (fr : Int) (m : Mk) (L : Lps) (s : Sm) (lp : Prop), isMk K A ∧ ds = [.ref A.s, s.d] ∧ MkS A M0 M ss fr m L ∧ m.ok ∧ 0 < m.rows.length ∧ s.deep ≤ n ∧ (∀ t ∈ allSt s, okRs ss t) ∧ inLp lp s ∧ (lp → m.loops ≠ []) ∧ (mkS ss fr m s).rows.length < 16777215 ∧ is s ∧
  ∀ M' L', MkS A M0 M' ss fr (mkS ss fr m s) L' → L'.map (·.1) = L.map (·.1) → Q .non M'
def spBlk (K : PySem.W.Frag) (n : Nat) : SpT := fun ds M Q _ => ∃ (A : MkA) (M0 : MH) (ss : List Str) (fr : Int) (m : Mk) (L : Lps) (b : List Sm) (lp : Prop), isMk K A ∧ ds = [.ref A.s, .lst (stD b)] ∧ MkS A M0 M ss fr m L ∧ m.ok ∧ deeps b < n ∧ okRb ss lp b ∧ (lp → m.loops ≠ []) ∧ (mkB ss fr m b).rows.length < 16777215 ∧
  ∀ M' L', MkS A M0 M' ss fr (mkB ss fr m b) L' → L'.map (·.1) = L.map (·.1) → Q .non M'
theorem self_in {s : Sm} : s ∈ allSt s := by rw [allSt_eq]; simp
theorem ok_make_if (T : Tp K mg) {k n : Nat} (hb : Fn P w K mg base CX0 k "make_block" (spBlk K n)) (hk20 : 20 ≤ k) : Fn P w K mg base CX0 (k + 1) "make_if" (spDeed K isIf n) := by
  refine fn_top T.top 16 e_make_if (m_make_if T) sc_make_if (by rintro _ M Q Et ⟨_, _, _, _, _, _, _, _, _, rfl, _⟩; rfl) (fun cdv A outer s H E hr => ⟨_, (qss_cons (qs_set (i := 2) sc_make_if.nd (q_meth fl_Maker (ok_Maker_tested T) (hr.mono (by omega)) (qv 0) (qa_cons (q_ix (qv 1) q_int) (qa_cons (q_ix (qv 1) q_int) qa_nil))))
 (qss_cons (qs_expr (q_call hb (hr.mono (by omega)) (qa_cons (qv 0) (qa_cons (q_ix (qv 1) q_int) qa_nil))))
 (qss_cons (qs_if (qt_cmp oq_notN (q_ix (qv 1) q_int) q_non)
  (qss_cons (qs_set (i := 3) sc_make_if.nd (q_meth fl_Maker (ok_Maker_added T) (hr.mono (by omega)) (qv 0) (qa_cons (q_tup (qa_cons q_str (qa_cons (q_ix (qv 1) q_int) (qa_cons q_int qa_nil)))) qa_nil)))
 (qss_cons (qs_expr (q_meth fl_Maker (ok_Maker_lead_here T) (hr.mono (by omega)) (qv 0) (qa_cons (q_lst (qa_cons (qv 2) qa_nil)) qa_nil)))
 (qss_cons (qs_expr (q_call hb (hr.mono (by omega)) (qa_cons (qv 0) (qa_cons (q_ix (qv 1) q_int) qa_nil))))
 (qss_one (qs_set (i := 2) sc_make_if.nd (qv 3))))))
  qss_nil)
 (qss_one (qs_expr (q_meth fl_Maker (ok_Maker_lead_here T) (hr.mono (by omega)) (qv 0) (qa_cons (q_lst (qa_cons (qv 2) qa_nil)) qa_nil))))))), ?_⟩) (fun _ _ _ _ _ _ us hl => match us, hl with | [_, _], _ => rfl)
  rintro _ M Q Et ⟨A, M0, ss, fr, m, L, s, lp, hk, rfl, hm, ho, hpos, hd, hst, hlp, hne, hl, hs, h⟩
  cases s with
  | if1 l e b =>
    have he := (hst _ self_in).ex e (by simp [Sm.exprs])
    have hdb : deeps b < n := block_deep hd (by simp [Sm.blocks])
    have hB : okRb ss lp b := ⟨fun t ht => hst t (by rw [allSt_eq]; simp [Sm.blocks]; exact Or.inr ht), by unfold inLp at hlp; exact hlp⟩
    have e1 : mkS ss fr m (.if1 l e b) = (mkB ss fr (m.add (exRows ss l e fr ++ [.split l fr 0])) b).lead (m.rows.length + (exRows ss l e fr).length) := by
      unfold mkS Mk.add; simp [List.append_assoc]
    rw [e1] at hl h
    rw [lead_len] at hl
    have k1 := mkB_keeps ss fr b (m.add (exRows ss l e fr ++ [.split l fr 0]))
    have l1 : (m.add (exRows ss l e fr ++ [.split l fr 0])).rows.length = m.rows.length + (exRows ss l e fr).length + 1 := by unfold Mk.add; simp; omega
    have hled : ledAt (m.add (exRows ss l e fr ++ [.split l fr 0])).rows (m.rows.length + (exRows ss l e fr).length) := by
      have := add_split_led (m := m) (rs := exRows ss l e fr) (x := .split l fr 0) True.intro
      rw [l1, Nat.add_sub_cancel] at this
      exact this
    have kl := k1.ext.len
    unfold Sm.d; walk_at "vc"
    rw [mk_s hk hm]
    walk_at "vc"
    refine ⟨A, M0, ss, fr, m, L, l, e, hk, rfl, hm, he.1, he.2, by omega, ?_⟩
    have h1 : MkS A M0 (mup M A.r (.lst ((m.rows ++ (exRows ss l e fr ++ [Rw.split l fr 0])).map Rw.d))) ss fr (m.add (exRows ss l e fr ++ [.split l fr 0])) L := hm.rows (rs := m.rows ++ (exRows ss l e fr ++ [Rw.split l fr 0]))
    have ho1 : (m.add (exRows ss l e fr ++ [.split l fr 0])).ok := ho.add
    have hne1 : lp → (m.add (exRows ss l e fr ++ [.split l fr 0])).loops ≠ [] := hne
    generalize m.add (exRows ss l e fr ++ [.split l fr 0]) = m1 at *
    refine ⟨A, M0, ss, fr, m1, L, b, lp, hk, rfl, h1, ho1, hdb, hB, hne1, hl, fun M' L' hM' hL' => ?_⟩
    walk_at "vc"
    rw [mk_s hk hM']
    walk_at "vc"
    refine ⟨A, M0, ss, fr, _, L', [m.rows.length + (exRows ss l e fr).length], _, hk, rfl, Or.inl rfl, hM', fun k hk => by rw [List.mem_singleton.mp hk]; exact k1.ext.led _ hled, ?_⟩
    exact h _ L' (hM'.rows (rs := leadsAt (mkB ss fr m1 b).rows [m.rows.length + (exRows ss l e fr).length])) hL'
  | if2 l e b c =>
    have he := (hst _ self_in).ex e (by simp [Sm.exprs])
    have hdb : deeps b < n := block_deep hd (by simp [Sm.blocks])
    have hdc : deeps c < n := block_deep hd (by simp [Sm.blocks])
    unfold inLp at hlp
    have hB : okRb ss lp b := ⟨fun t ht => hst t (by rw [allSt_eq]; simp [Sm.blocks]; exact Or.inr (Or.inl ht)), hlp.1⟩
    have hC : okRb ss lp c := ⟨fun t ht => hst t (by rw [allSt_eq]; simp [Sm.blocks]; exact Or.inr (Or.inr ht)), hlp.2⟩
    have e1 : mkS ss fr m (.if2 l e b c) = (mkB ss fr (((mkB ss fr (m.add (exRows ss l e fr ++ [.split l fr 0])) b).add [.jump l 0]).lead (m.rows.length + (exRows ss l e fr).length)) c).lead (mkB ss fr (m.add (exRows ss l e fr ++ [.split l fr 0])) b).rows.length := by
      unfold mkS
      dsimp only
      rw [show ((m.add (exRows ss l e fr ++ [.split l fr 0])).rows.length - 1) = m.rows.length + (exRows ss l e fr).length by unfold Mk.add; simp [List.append_assoc]]
      rw [show (((mkB ss fr (m.add (exRows ss l e fr ++ [.split l fr 0])) b).add [.jump l 0]).rows.length - 1) = (mkB ss fr (m.add (exRows ss l e fr ++ [.split l fr 0])) b).rows.length by
        rw [show ((mkB ss fr (m.add (exRows ss l e fr ++ [.split l fr 0])) b).add [.jump l 0]).rows = (mkB ss fr (m.add (exRows ss l e fr ++ [.split l fr 0])) b).rows ++ [.jump l 0] from rfl, List.length_append]; rfl]
    rw [e1] at hl h
    rw [lead_len] at hl
    have k1 := mkB_keeps ss fr b (m.add (exRows ss l e fr ++ [.split l fr 0]))
    have l1 : (m.add (exRows ss l e fr ++ [.split l fr 0])).rows.length = m.rows.length + (exRows ss l e fr).length + 1 := by unfold Mk.add; simp; omega
    have hled : ledAt (m.add (exRows ss l e fr ++ [.split l fr 0])).rows (m.rows.length + (exRows ss l e fr).length) := by
      have := add_split_led (m := m) (rs := exRows ss l e fr) (x := .split l fr 0) True.intro
      rw [l1, Nat.add_sub_cancel] at this
      exact this
    have h1 : MkS A M0 (mup M A.r (.lst ((m.rows ++ (exRows ss l e fr ++ [Rw.split l fr 0])).map Rw.d))) ss fr (m.add (exRows ss l e fr ++ [.split l fr 0])) L := hm.rows (rs := m.rows ++ (exRows ss l e fr ++ [Rw.split l fr 0]))
    have ho1 : (m.add (exRows ss l e fr ++ [.split l fr 0])).ok := ho.add
    have hne1 : lp → (m.add (exRows ss l e fr ++ [.split l fr 0])).loops ≠ [] := hne
    unfold Sm.d; walk_at "vc"
    rw [mk_s hk hm]
    walk_at "vc"
    generalize m.add (exRows ss l e fr ++ [.split l fr 0]) = m1 at *
    have k2 := mkB_keeps ss fr c (((mkB ss fr m1 b).add [.jump l 0]).lead (m.rows.length + (exRows ss l e fr).length))
    have kl := k1.ext.len
    have kl2 := k2.ext.len
    rw [lead_len, show ((mkB ss fr m1 b).add [.jump l 0]).rows.length = (mkB ss fr m1 b).rows.length + 1 from List.length_append] at kl2
    refine ⟨A, M0, ss, fr, m, L, l, e, hk, rfl, hm, he.1, he.2, by omega, ?_⟩
    refine ⟨A, M0, ss, fr, m1, L, b, lp, hk, rfl, h1, ho1, hdb, hB, hne1, by omega, fun M' L' hM' hL' => ?_⟩
    walk_at "vc"
    rw [mk_s hk hM']
    walk_at "vc"
    refine ⟨A, M0, ss, fr, _, L', .jump l 0, hk, rfl, hM', by omega, ?_⟩
    have h2 : MkS A M0 (mup M' A.r (.lst (((mkB ss fr m1 b).rows ++ [Rw.jump l 0]).map Rw.d))) ss fr ((mkB ss fr m1 b).add [.jump l 0]) L' := hM'.rows (rs := (mkB ss fr m1 b).rows ++ [.jump l 0])
    have ho2 : ((mkB ss fr m1 b).add [.jump l 0]).ok := (k1.ok ho1).add
    walk_at "vc"
    rw [mk_s hk h2]
    walk_at "vc"
    refine ⟨A, M0, ss, fr, _, L', [m.rows.length + (exRows ss l e fr).length], _, hk, rfl, Or.inl rfl, h2, fun k hk => by rw [List.mem_singleton.mp hk]; exact ledAt_app (k1.ext.led _ hled), ?_⟩
    have h3 : MkS A M0 (mup M' A.r (.lst ((leadsAt ((mkB ss fr m1 b).add [.jump l 0]).rows [m.rows.length + (exRows ss l e fr).length]).map Rw.d))) ss fr (((mkB ss fr m1 b).add [.jump l 0]).lead (m.rows.length + (exRows ss l e fr).length)) L' := hM'.rows (rs := leadsAt ((mkB ss fr m1 b).add [.jump l 0]).rows [m.rows.length + (exRows ss l e fr).length])
    have hl2 : ledAt (((mkB ss fr m1 b).add [.jump l 0]).lead (m.rows.length + (exRows ss l e fr).length)).rows (mkB ss fr m1 b).rows.length := ledAt_lead (ledAt_last (x := .jump l 0) True.intro)
    rw [mup_mup]
    walk_at "vc"
    refine ⟨A, M0, ss, fr, _, L', c, lp, hk, rfl, h3, ho2.lead, hdc, hC, fun q => k1.lps.ne (hne1 q), hl, fun M'' L'' hM'' hL'' => ?_⟩
    walk_at "vc"
    rw [mk_s hk hM'']
    walk_at "vc"
    refine ⟨A, M0, ss, fr, _, L'', [(mkB ss fr m1 b).rows.length], _, hk, rfl, Or.inl rfl, hM'', fun k hk => by rw [List.mem_singleton.mp hk]; exact k2.ext.led _ hl2, ?_⟩
    exact h _ L'' (hM''.rows (rs := leadsAt (mkB ss fr (((mkB ss fr m1 b).add [.jump l 0]).lead (m.rows.length + (exRows ss l e fr).length)) c).rows [(mkB ss fr m1 b).rows.length])) (hL''.trans hL')
  | _ => exact hs.elim
theorem ok_make_while (T : Tp K mg) {k n : Nat} (hb : Fn P w K mg base CX0 k "make_block" (spBlk K n)) (hk20 : 20 ≤ k) : Fn P w K mg base CX0 (k + 1) "make_while" (spDeed K isWh n) := by
  refine fn_top T.top 17 e_make_while (m_make_while T) sc_make_while (by rintro _ M Q Et ⟨_, _, _, _, _, _, _, _, _, rfl, _⟩; rfl) (fun cdv A outer s H E hr => ⟨_, (qss_cons (qs_set (i := 2) sc_make_while.nd (q_op oq_sub (q_callB cq_len (m_len T) (by decide +kernel) (qa_cons (q_fld 0 fl_Maker (c_Maker_rows T) (qv 0)) qa_nil)) q_int))
 (qss_cons (qs_set (i := 3) sc_make_while.nd (q_lstM (qa_cons (q_meth fl_Maker (ok_Maker_tested T) (hr.mono (by omega)) (qv 0) (qa_cons (q_ix (qv 1) q_int) (qa_cons (q_ix (qv 1) q_int) qa_nil))) qa_nil)))
 (qss_cons (qs_expr (q_append (q_fld 5 fl_Maker (c_Maker_loops T) (qv 0)) (qa_cons (q_tup (qa_cons (qv 2) (qa_cons (qv 3) qa_nil))) qa_nil)))
 (qss_cons (qs_expr (q_call hb (hr.mono (by omega)) (qa_cons (qv 0) (qa_cons (q_ix (qv 1) q_int) qa_nil))))
 (qss_cons (qs_expr (q_append (q_fld 0 fl_Maker (c_Maker_rows T) (qv 0)) (qa_cons (q_tup (qa_cons q_str (qa_cons (q_ix (qv 1) q_int) (qa_cons (qv 2) qa_nil)))) qa_nil)))
 (qss_cons (qs_expr (q_pop (q_fld 5 fl_Maker (c_Maker_loops T) (qv 0))))
 (qss_one (qs_expr (q_meth fl_Maker (ok_Maker_lead_here T) (hr.mono (by omega)) (qv 0) (qa_cons (qv 3) qa_nil)))))))))), ?_⟩) (fun _ _ _ _ _ _ us hl => match us, hl with | [_, _], _ => rfl)
  rintro _ M Q Et ⟨A, M0, ss, fr, m, L, s, lp, hk, rfl, hm, ho, hpos, hd, hst, hlp, hne, hl, hs, h⟩
  cases s with
  | whl l e b =>
    have he := (hst _ self_in).ex e (by simp [Sm.exprs])
    have hdb : deeps b < n := block_deep hd (by simp [Sm.blocks])
    have hB : okRb ss True b := ⟨fun t ht => hst t (by rw [allSt_eq]; simp [Sm.blocks]; exact Or.inr ht), by unfold inLp at hlp; exact hlp⟩
    have hr0 := hm.r_
    have l1 : (m.add (exRows ss l e fr ++ [.split l fr 0])).rows.length = m.rows.length + (exRows ss l e fr).length + 1 := by unfold Mk.add; simp; omega
    have hled : ledAt (m.add (exRows ss l e fr ++ [.split l fr 0])).rows (m.rows.length + (exRows ss l e fr).length) := by
      have := add_split_led (m := m) (rs := exRows ss l e fr) (x := .split l fr 0) True.intro
      rw [l1, Nat.add_sub_cancel] at this
      exact this
    have h1 : MkS A M0 (mup M A.r (.lst ((m.rows ++ (exRows ss l e fr ++ [Rw.split l fr 0])).map Rw.d))) ss fr (m.add (exRows ss l e fr ++ [.split l fr 0])) L := hm.rows (rs := m.rows ++ (exRows ss l e fr ++ [Rw.split l fr 0]))
    have ho1 := (Mk.ok.add (rs := exRows ss l e fr ++ [.split l fr 0]) ho).loop (b := m.rows.length - 1) (by rw [l1]; have := ho.lp; show m.loops.length + 1 ≤ _; omega) hled
    have k1 := mkB_keeps ss fr b ((m.add (exRows ss l e fr ++ [.split l fr 0])).into (m.rows.length - 1) [m.rows.length + (exRows ss l e fr).length])
    obtain ⟨z, hz⟩ := k1.lps
    have hz : (mkB ss fr ((m.add (exRows ss l e fr ++ [.split l fr 0])).into (m.rows.length - 1) [m.rows.length + (exRows ss l e fr).length]) b).loops = (m.rows.length - 1, [m.rows.length + (exRows ss l e fr).length] ++ z) :: m.loops := hz
    have e1 := mkS_whl hz
    rw [e1] at hl h
    rw [leads_len] at hl
    have kl := k1.ext.len
    rw [show ((m.add (exRows ss l e fr ++ [.split l fr 0])).into (m.rows.length - 1) [m.rows.length + (exRows ss l e fr).length]).rows.length = m.rows.length + (exRows ss l e fr).length + 1 from l1] at kl
    have hl3 : (mkB ss fr ((m.add (exRows ss l e fr ++ [.split l fr 0])).into (m.rows.length - 1) [m.rows.length + (exRows ss l e fr).length]) b).rows.length + 1 < 16777215 := by
      rw [show (((mkB ss fr ((m.add (exRows ss l e fr ++ [.split l fr 0])).into (m.rows.length - 1) [m.rows.length + (exRows ss l e fr).length]) b).add [.jump l (m.rows.length - 1 : Nat)]).out m.loops).rows.length = (mkB ss fr ((m.add (exRows ss l e fr ++ [.split l fr 0])).into (m.rows.length - 1) [m.rows.length + (exRows ss l e fr).length]) b).rows.length + 1 from List.length_append] at hl
      exact hl
    have hlp := ho.lp
    rw [hm.lps, List.length_map] at hlp
    unfold Sm.d; walk_at "vc"
    rw [mk_s hk hm]
    walk_at "vc"
    rw [lenOf_of hr0]
    walk_at "vc"
    refine ⟨A, M0, ss, fr, m, L, l, e, hk, rfl, hm, he.1, he.2, by omega, ?_⟩
    intro q hq
    have hf := h1.other (o := .lst [natD (m.rows.length + (exRows ss l e fr).length)]) hq
    rw [mk_s hk hf]
    walk_at "vc"
    refine ⟨is_m hf.o_, ap_m hf.o_ ⟨by rw [List.length_map, List.length_reverse]; omega, ?_⟩⟩
    have h2 := h1.beginA (b := m.rows.length - 1) (lv := [m.rows.length + (exRows ss l e fr).length]) (d := .int ((m.rows.length : Int) - 1)) hq (by unfold natD; congr 1; omega)
    generalize (m.add (exRows ss l e fr ++ [.split l fr 0])).into (m.rows.length - 1) [m.rows.length + (exRows ss l e fr).length] = m1 at *
    refine ⟨A, M0, ss, fr, m1, _, b, True, hk, rfl, h2, ho1, hdb, hB, ?_, by omega, fun M' L' hM' hL' => ?_⟩
    · intro _ q
      have := h2.lps
      rw [q] at this
      cases this
    have ho2 := k1.ok ho1
    walk_at "vc"
    rw [mk_s hk hM']
    walk_at "vc"
    refine ⟨is_m hM'.r_, ap_m hM'.r_ ⟨by rw [List.length_map]; omega, ?_⟩⟩
    rw [show D.int ((m.rows.length : Int) - 1) = .int ((m.rows.length - 1 : Nat) : Int) by congr 1; omega]
    have h3 := hM'.rowsA (mkB ss fr m1 b).rows (.jump l (m.rows.length - 1 : Nat))
    simp only [Rw.d] at h3
    rw [mk_s hk h3]
    walk_at "vc"
    have hlps := hM'.lps
    rw [hz] at hlps
    cases L' with
    | nil => cases hlps
    | cons p R =>
      obtain ⟨q', b', lv'⟩ := p
      rw [List.map_cons] at hlps hL'
      obtain ⟨hp, hR⟩ := List.cons.inj hlps
      obtain ⟨hq', hR'⟩ := List.cons.inj hL'
      simp only at hp hq'
      subst hq'
      cases hp
      refine ⟨is_m h3.o_, ap_m h3.o_ ?_⟩
      rw [List.reverse_cons, List.map_append, List.map_cons, List.map_nil, List.getLast?_concat, List.dropLast_concat]
      have h4 := h3.end_
      have hn := h3.qne
      have hq4 := h3.q_
      walk_at "vc"
      rw [mk_s hk h4]
      walk_at "vc"
      refine ⟨A, M0, ss, fr, _, R, [m.rows.length + (exRows ss l e fr).length] ++ z, _, hk, rfl, Or.inr ⟨q', rfl, hn.1, by rw [mup_ne hn.2]; exact hq4⟩, h4, fun j hj => ledAt_app (ho2.lsd _ (by rw [hz]; exact List.mem_cons_self ..) j hj), ?_⟩
      have h5 := h4.rows (rs := leadsAt ((mkB ss fr m1 b).rows ++ [Rw.jump l (m.rows.length - 1 : Nat)]) ([m.rows.length + (exRows ss l e fr).length] ++ z))
      refine h _ R ?_ hR'
      rw [leads_eq]
      rw [← hR] at h5
      exact h5
  | _ => exact hs.elim
theorem ok_make_block (T : Tp K mg) : ∀ n, Fn P w K mg base CX0 (2 * n + 30) "make_block" (spBlk K n)
  | 0 => by
    refine fn_top T.top 18 e_make_block (m_make_block T) sc_make_block (by rintro _ M Q Et ⟨_, _, _, _, _, _, _, _, _, rfl, _⟩; rfl) (fun cdv A outer s H E hr => ⟨_, qss_never, ?_⟩) (fun _ _ _ _ _ _ us hl => match us, hl with | [_, _], _ => rfl)
    rintro _ M Q Et ⟨A, M0, ss, fr, m, L, b, lp, hk, rfl, hm, ho, hd, h⟩
    omega
  | n + 1 => by
    have ih := ok_make_block T n
    refine fn_top T.top 18 e_make_block (m_make_block T) sc_make_block (by rintro _ M Q Et ⟨_, _, _, _, _, _, _, _, _, rfl, _⟩; rfl) (fun cdv A outer s H E hr => ⟨_, (qss_one (qs_for PassesOwn.never rfl (qi_list (qv 1)) (qg_name (i := 2) sc_make_block.nd)
  (qss_cons (qs_expr (q_append (q_fld 0 fl_Maker (c_Maker_rows T) (qv 0)) (qa_cons (q_tup (qa_cons q_str (qa_cons (q_ix (qv 2) q_int) qa_nil))) qa_nil)))
 (qss_one (qs_if (qt_cmp oq_eq (q_ix (qv 2) q_int) q_str)
  (qss_one (qs_expr (q_call (ok_make_if T ih (by omega)) (hr.mono (by omega)) (qa_cons (qv 0) (qa_cons (qv 2) qa_nil)))))
  (qss_one (qs_if (qt_cmp oq_eq (q_ix (qv 2) q_int) q_str)
  (qss_one (qs_expr (q_call (ok_make_while T ih (by omega)) (hr.mono (by omega)) (qa_cons (qv 0) (qa_cons (qv 2) qa_nil)))))
  (qss_one (qs_if (qt_w (qw_or (qt_cmp oq_eq (q_ix (qv 2) q_int) q_str) (qw_or (qt_cmp oq_eq (q_ix (qv 2) q_int) q_str) (qw_or1 (qt_cmp oq_eq (q_ix (qv 2) q_int) q_str)))))
  (qss_one (qs_expr (q_call (ok_make_way T) (hr.mono (by omega)) (qa_cons (qv 0) (qa_cons (qv 2) qa_nil)))))
  (qss_one (qs_expr (q_call (ok_make_plain T) (hr.mono (by omega)) (qa_cons (qv 0) (qa_cons (qv 2) qa_nil)))))))))))))), ?_⟩) (fun _ _ _ _ _ _ us hl => match us, hl with | [_, _], _ => rfl)
    rintro _ M Q Et ⟨A, M0, ss, fr, m, L, b, lp, hk, rfl, hm, ho, hd, hB, hne, hl, h⟩
    walk_at "vc"
    rw [stD_map]
    refine for_map b Sm.d rfl (fun ys τ M1 => (∃ L1, MkS A M0 M1 ss fr (mkB ss fr m ys) L1 ∧ L1.map (·.1) = L.map (·.1)) ∧ ∃ v2, τ = [some (.ref A.s), some (.lst (b.map Sm.d)), v2]) ⟨⟨L, by rw [mkB_nil]; exact hm, rfl⟩, none, rfl⟩ (fun _ _ _ _ => trivial) ?_ ?_
    · rintro ys s zs τ M1 Nx hx ⟨⟨L1, hM1, hL1⟩, v2, rfl⟩ hN
      have hs : s ∈ b := by rw [hx]; simp
      obtain ⟨hst, hlp, hall⟩ := hB.at_ hs
      have hdp : s.deep ≤ n := by have := deeps_mem hs; omega
      have kys := mkB_keeps ss fr ys m
      have hle : (mkS ss fr ((mkB ss fr m ys).add [.tick s.line]) s).rows.length ≤ (mkB ss fr m b).rows.length := by
        have := (mkB_keeps ss fr zs (mkS ss fr ((mkB ss fr m ys).add [.tick s.line]) s)).ext.len
        rw [hx, show ys ++ s :: zs = (ys ++ [s]) ++ zs by simp, mkB_app, mkB_app, mkB_one]
        exact this
      have hle2 := (mkS_keeps ss fr s ((mkB ss fr m ys).add [.tick s.line])).ext.len
      have l2 : ((mkB ss fr m ys).add [.tick s.line]).rows.length = (mkB ss fr m ys).rows.length + 1 := List.length_append
      have h2 : MkS A M0 (mup M1 A.r (.lst ((mkB ss fr m ys).rows.map Rw.d ++ [(Rw.tick s.line).d]))) ss fr ((mkB ss fr m ys).add [.tick s.line]) L1 := hM1.rowsA (mkB ss fr m ys).rows (.tick s.line)
      simp only [Rw.d] at h2
      have ho2 : ((mkB ss fr m ys).add [.tick s.line]).ok := (kys.ok ho).add
      have hne2 : lp → ((mkB ss fr m ys).add [.tick s.line]).loops ≠ [] := fun q => kys.lps.ne (hne q)
      have hN' : ∀ M' L', MkS A M0 M' ss fr (mkS ss fr ((mkB ss fr m ys).add [.tick s.line]) s) L' → L'.map (·.1) = L1.map (·.1) → ∀ v, Nx [some (.ref A.s), some (.lst (b.map Sm.d)), v] M' := fun M' L' a1 a2 v => hN _ _ ⟨⟨L', by rw [mkB_app, mkB_one]; exact a1, a2.trans hL1⟩, v, rfl⟩
      have hb1 : (mkB ss fr m ys).rows.length < 16777215 := by omega
      generalize (mkB ss fr m ys).add [.tick s.line] = m2 at *
      clear hN hx
      have hpos : 0 < m2.rows.length := by omega
      cases s with
      | if1 l e c =>
        unfold Sm.d; walk_at "vc"; rw [mk_s hk hM1]; walk_at "vc"
        refine ⟨is_m hM1.r_, ap_m hM1.r_ ⟨by rw [List.length_map]; omega, ?_⟩⟩
        exact ⟨A, M0, ss, fr, m2, L1, .if1 l e c, lp, hk, rfl, h2, ho2, hpos, hdp, hall, hlp, hne2, by omega, True.intro, fun M' L' a b => hN' M' L' a b _⟩
      | if2 l e c d =>
        unfold Sm.d; walk_at "vc"; rw [mk_s hk hM1]; walk_at "vc"
        refine ⟨is_m hM1.r_, ap_m hM1.r_ ⟨by rw [List.length_map]; omega, ?_⟩⟩
        exact ⟨A, M0, ss, fr, m2, L1, .if2 l e c d, lp, hk, rfl, h2, ho2, hpos, hdp, hall, hlp, hne2, by omega, True.intro, fun M' L' a b => hN' M' L' a b _⟩
      | whl l e c =>
        unfold Sm.d; walk_at "vc"; rw [mk_s hk hM1]; walk_at "vc"
        refine ⟨is_m hM1.r_, ap_m hM1.r_ ⟨by rw [List.length_map]; omega, ?_⟩⟩
        exact ⟨A, M0, ss, fr, m2, L1, .whl l e c, lp, hk, rfl, h2, ho2, hpos, hdp, hall, hlp, hne2, by omega, True.intro, fun M' L' a b => hN' M' L' a b _⟩
      | brk l =>
        unfold inLp at hlp
        unfold Sm.d; walk_at "vc"; rw [mk_s hk hM1]; walk_at "vc"
        refine ⟨is_m hM1.r_, ap_m hM1.r_ ⟨by rw [List.length_map]; omega, ?_⟩⟩
        exact ⟨A, M0, ss, fr, m2, L1, .brk l, hk, rfl, h2, ho2, hst.ex, by omega, hne2 hlp, fun M' L' a b => hN' M' L' a b _⟩
      | agn l =>
        unfold inLp at hlp
        unfold Sm.d; walk_at "vc"; rw [mk_s hk hM1]; walk_at "vc"
        refine ⟨is_m hM1.r_, ap_m hM1.r_ ⟨by rw [List.length_map]; omega, ?_⟩⟩
        exact ⟨A, M0, ss, fr, m2, L1, .agn l, hk, rfl, h2, ho2, hst.ex, by omega, hne2 hlp, fun M' L' a b => hN' M' L' a b _⟩
      | ret l e =>
        unfold Sm.d; walk_at "vc"; rw [mk_s hk hM1]; walk_at "vc"
        refine ⟨is_m hM1.r_, ap_m hM1.r_ ⟨by rw [List.length_map]; omega, ?_⟩⟩
        exact ⟨A, M0, ss, fr, m2, L1, .ret l e, hk, rfl, h2, ho2, hst.ex, by omega, True.intro, fun M' L' a b => hN' M' L' a b _⟩
      | call l x f es =>
        unfold Sm.d; walk_at "vc"; rw [mk_s hk hM1]; walk_at "vc"
        refine ⟨is_m hM1.r_, ap_m hM1.r_ ⟨by rw [List.length_map]; omega, ?_⟩⟩
        exact ⟨A, M0, ss, fr, m2, L1, .call l x f es, hk, rfl, h2, ho2, hst.len, hst.ex, hst.gv, by omega, Or.inr ⟨_, _, _, _, rfl⟩, fun M' a => hN' M' L1 a rfl _⟩
      | _ =>
        unfold Sm.d; walk_at "vc"; rw [mk_s hk hM1]; walk_at "vc"
        refine ⟨is_m hM1.r_, ap_m hM1.r_ ⟨by rw [List.length_map]; omega, ?_⟩⟩
        exact ⟨A, M0, ss, fr, m2, L1, _, hk, rfl, h2, ho2, hst.len, hst.ex, hst.gv, by omega, Or.inl True.intro, fun M' a => hN' M' L1 a rfl _⟩
    · rintro τ M1 ⟨⟨L1, hM1, hL1⟩, v2, rfl⟩
      exact h M1 L1 hM1 hL1
end
end K23
namespace K23
open PySem PySem.Spec PyProof.Rows L2 Tl
section
variable {P : Program} {w : World} {K : PySem.W.Frag} {mg : Str → Option Value} {base : Heap}
def spMkI (K : PySem.W.Frag) : SpT := fun ds M Q _ => ∃ a dx M0, ds = [.ref a] ∧ M0 a = none ∧ M = mup M0 a (.obj (He.ga K "Maker") dx fl_Maker []) ∧ ∀ A M', A.s = a → isMk K A → MkS A M0 M' [] 1 ⟨[], [], [], []⟩ [] → Q .non M'
theorem ok_Maker___init (T : Tp K mg) : Fi P w K mg base CX0 1 "Maker" (spMkI K) := by
  refine fi_top T.top e_Maker___init 7 sc_Maker___init (T.top.mkr 80) (T.top.glo 81) (by rintro _ M Q Et ⟨_, _, _, rfl, _⟩; rfl) (fun cdv A outer s H E hr => ⟨_, (qss_cons (qs_fld 0 fl_Maker (c_Maker_rows T) (qv 0) (q_lstM qa_nil))
 (qss_cons (qs_fld 1 fl_Maker (c_Maker_slots T) (qv 0) q_dnewK)
 (qss_cons (qs_fld 2 fl_Maker (c_Maker_free T) (qv 0) q_int)
 (qss_cons (qs_fld 3 fl_Maker (c_Maker_calls T) (qv 0) (q_lstM qa_nil))
 (qss_cons (qs_fld 4 fl_Maker (c_Maker_leaves T) (qv 0) (q_lstM qa_nil))
 (qss_one (qs_fld 5 fl_Maker (c_Maker_loops T) (qv 0) (q_lstM qa_nil)))))))), ?_⟩) (fun _ _ _ _ _ _ us hl => match us, hl with | [_], _ => rfl)
  rintro _ M Q Et ⟨a, dx, M0, rfl, h0, rfl, h⟩
  have c0 := (Cel.nil (M := M0)).fresh (o := .obj (He.ga K "Maker") dx fl_Maker []) h0
  walk_at "vc"
  generalize mup M0 a (.obj (He.ga K "Maker") dx fl_Maker []) = M1 at c0 ⊢
  intro r hr
  have c1 := c0.fresh (o := .lst []) hr
  generalize mup M1 r (.lst []) = M2 at c1 ⊢
  rw [show M2 a = _ from Cel.here (pre := [(r, .lst [])]) c1]
  walk_at "vc"
  have c2 := Cel.put (pre := [(r, .lst [])]) (o' := .obj (He.ga K "Maker") dx fl_Maker [.ref r]) c1
  generalize mup M2 a (.obj (He.ga K "Maker") dx fl_Maker [.ref r]) = M3 at c2 ⊢
  intro p hp
  have c3 := c2.fresh (o := .dK []) hp
  generalize mup M3 p (.dK []) = M4 at c3 ⊢
  rw [show M4 a = _ from Cel.here (pre := [(p, .dK []), (r, .lst [])]) c3]
  walk_at "vc"
  have c4 := Cel.put (pre := [(p, .dK []), (r, .lst [])]) (o' := .obj (He.ga K "Maker") dx fl_Maker [.ref r, .ref p, .int 1]) c3
  generalize mup M4 a (.obj (He.ga K "Maker") dx fl_Maker [.ref r, .ref p, .int 1]) = M5 at c4 ⊢
  intro c hc
  have c5 := c4.fresh (o := .lst []) hc
  generalize mup M5 c (.lst []) = M6 at c5 ⊢
  rw [show M6 a = _ from Cel.here (pre := [(c, .lst []), (p, .dK []), (r, .lst [])]) c5]
  walk_at "vc"
  have c6 := Cel.put (pre := [(c, .lst []), (p, .dK []), (r, .lst [])]) (o' := .obj (He.ga K "Maker") dx fl_Maker [.ref r, .ref p, .int 1, .ref c]) c5
  generalize mup M6 a (.obj (He.ga K "Maker") dx fl_Maker [.ref r, .ref p, .int 1, .ref c]) = M7 at c6 ⊢
  intro v hv
  have c7 := c6.fresh (o := .lst []) hv
  generalize mup M7 v (.lst []) = M8 at c7 ⊢
  rw [show M8 a = _ from Cel.here (pre := [(v, .lst []), (c, .lst []), (p, .dK []), (r, .lst [])]) c7]
  walk_at "vc"
  have c8 := Cel.put (pre := [(v, .lst []), (c, .lst []), (p, .dK []), (r, .lst [])]) (o' := .obj (He.ga K "Maker") dx fl_Maker [.ref r, .ref p, .int 1, .ref c, .ref v]) c7
  generalize mup M8 a (.obj (He.ga K "Maker") dx fl_Maker [.ref r, .ref p, .int 1, .ref c, .ref v]) = M9 at c8 ⊢
  intro o ho
  have c9 := c8.fresh (o := .lst []) ho
  generalize mup M9 o (.lst []) = M10 at c9 ⊢
  rw [show M10 a = _ from Cel.here (pre := [(o, .lst []), (v, .lst []), (c, .lst []), (p, .dK []), (r, .lst [])]) c9]
  walk_at "vc"
  have c10 := Cel.put (pre := [(o, .lst []), (v, .lst []), (c, .lst []), (p, .dK []), (r, .lst [])]) (o' := .obj (He.ga K "Maker") dx fl_Maker [.ref r, .ref p, .int 1, .ref c, .ref v, .ref o]) c9
  refine h ⟨a, r, p, c, v, o, He.ga K "Maker", dx, fl_Maker⟩ _ rfl ⟨rfl, rfl⟩ ⟨c10.perm ?_, rfl⟩
  refine (List.reverse_perm _).symm.trans ?_
  exact (List.perm_middle (l₁ := [((r : Addr), (MO.lst [] : MO)), (p, MO.dK [])])).symm
def spMkD (K : PySem.W.Frag) : SpT := fun ds M Q _ => ∃ (A : MkA) (M0 : MH) (ss : List Str) (fr : Int) (m : Mk) (o : Df), isMk K A ∧ ds = [.ref A.s, o.d] ∧ MkS A M0 M ss fr m [] ∧ m.ok ∧ okRow o ∧ inLps False o.body ∧ (mkDef m o).rows.length < 16777215 ∧
  ∀ M' p v, MkS { A with p := p, v := v } M0 M' (slotsF o) ((slotsF o).length + 1) (mkDef m o) [] → Q .non M'
theorem leadsAt_len (rs : List Rw) (ks : List Nat) : (leadsAt rs ks).length = rs.length := by
  unfold leadsAt
  induction ks generalizing rs with
  | nil => rfl
  | cons k t ih => rw [List.foldl_cons, ih, leadAt_len]
theorem ok_make_def (T : Tp K mg) : Fn P w K mg base CX0 51 "make_def" (spMkD K) := by
  refine fn_top T.top 19 e_make_def (m_make_def T) sc_make_def (by rintro _ M Q Et ⟨_, _, _, _, _, _, _, rfl, _⟩; rfl) (fun cdv A outer s H E hr => ⟨_, (qss_cons (qs_fld 1 fl_Maker (c_Maker_slots T) (qv 0) (q_call (ok_slots_of T) (hr.mono (by decide)) (qa_cons (qv 1) qa_nil)))
 (qss_cons (qs_fld 2 fl_Maker (c_Maker_free T) (qv 0) (q_op oq_addI (q_callB cq_lenD (m_len T) (by decide +kernel) (qa_cons (q_fld 1 fl_Maker (c_Maker_slots T) (qv 0)) qa_nil)) q_int))
 (qss_cons (qs_fld 4 fl_Maker (c_Maker_leaves T) (qv 0) (q_lstM qa_nil))
 (qss_cons (qs_expr (q_call (ok_make_block T 10) (hr.mono (by decide)) (qa_cons (qv 0) (qa_cons (q_ix (qv 1) q_int) qa_nil))))
 (qss_cons (qs_expr (q_meth fl_Maker (ok_Maker_lead_here T) (hr.mono (by decide)) (qv 0) (qa_cons (q_fld 4 fl_Maker (c_Maker_leaves T) (qv 0)) qa_nil)))
 (qss_one (qs_expr (q_append (q_fld 0 fl_Maker (c_Maker_rows T) (qv 0)) (qa_cons (q_tup (qa_cons q_str (qa_cons (q_ix (qv 1) q_int) qa_nil))) qa_nil))))))))), ?_⟩) (fun _ _ _ _ _ _ us hl => match us, hl with | [_, _], _ => rfl)
  rintro _ M Q Et ⟨A, M0, ss, fr, m, o, hk, rfl, hm, ho, hokr, hlp, hl, h⟩
  obtain ⟨s, r, p, c, v, lo, C, dx, fl⟩ := A
  obtain ⟨hk1, hk2⟩ := hk
  simp only at hk1 hk2
  subst hk1 hk2
  have hlps : m.loops = [] := hm.lps
  have hB : okRb (slotsF o) False o.body := ⟨fun t ht => ⟨(hokr.exs t ht).1, fun e he => ⟨(hokr.exs t ht).2 e he, (slots_in t ht).1 e he⟩, (slots_in t ht).2⟩, hlp⟩
  have hk1 := mkB_keeps (slotsF o) ((slotsF o).length + 1) o.body ⟨m.rows, m.calls, [], m.loops⟩
  have ho1 : Mk.ok ⟨m.rows, m.calls, [], m.loops⟩ := ⟨Nat.zero_le _, ho.cs, ho.lp, ho.ls, fun k hk => (by cases hk), ho.csd, ho.lsd⟩
  have hdef : mkDef m o = ((mkB (slotsF o) ((slotsF o).length + 1) ⟨m.rows, m.calls, [], m.loops⟩ o.body).leads (mkB (slotsF o) ((slotsF o).length + 1) ⟨m.rows, m.calls, [], m.loops⟩ o.body).leaves).add [.back o.last] := rfl
  rw [hdef] at h hl
  have hl2 : (mkB (slotsF o) ((slotsF o).length + 1) ⟨m.rows, m.calls, [], m.loops⟩ o.body).rows.length + 1 < 16777215 := by
    rw [← leads_len (ks := (mkB (slotsF o) ((slotsF o).length + 1) ⟨m.rows, m.calls, [], m.loops⟩ o.body).leaves)]
    rw [show (((mkB (slotsF o) ((slotsF o).length + 1) ⟨m.rows, m.calls, [], m.loops⟩ o.body).leads (mkB (slotsF o) ((slotsF o).length + 1) ⟨m.rows, m.calls, [], m.loops⟩ o.body).leaves).add [.back o.last]).rows.length = _ from List.length_append] at hl
    exact hl
  unfold Df.d
  walk_at "vc"
  refine ⟨o, rfl, hokr, fun p2 hp2 => ?_⟩
  have c1 := hm.cel.fresh (o := .dK (slotD (slotsF o))) hp2
  unfold MkA.cells MkA.obj at c1
  dsimp only at c1
  generalize mup M p2 (.dK (slotD (slotsF o))) = M1 at c1 ⊢
  walk_at "vc"
  rw [show M1 s = _ from Cel.here (pre := [(p2, .dK (slotD (slotsF o))), (r, .lst (m.rows.map Rw.d)), (p, .dK (slotD ss))]) c1]
  walk_at "vc"
  have c2 := Cel.put (pre := [(p2, .dK (slotD (slotsF o))), (r, .lst (m.rows.map Rw.d)), (p, .dK (slotD ss))]) (o' := .obj (He.ga K "Maker") dx fl_Maker [.ref r, .ref p2, .int fr, .ref c, .ref v, .ref lo]) c1
  generalize mup M1 s (.obj (He.ga K "Maker") dx fl_Maker [.ref r, .ref p2, .int fr, .ref c, .ref v, .ref lo]) = M2 at c2 ⊢
  rw [show M2 p2 = _ from Cel.here (pre := []) c2]
  walk_at "vc"
  rw [slotD_len]
  have c3 := Cel.put (pre := [(p2, .dK (slotD (slotsF o))), (r, .lst (m.rows.map Rw.d)), (p, .dK (slotD ss))]) (o' := .obj (He.ga K "Maker") dx fl_Maker [.ref r, .ref p2, .int ((slotsF o).length + 1), .ref c, .ref v, .ref lo]) c1
  generalize mup M1 s (.obj (He.ga K "Maker") dx fl_Maker [.ref r, .ref p2, .int ((slotsF o).length + 1), .ref c, .ref v, .ref lo]) = M3 at c3 ⊢
  intro v2 hv2
  have c4 := c3.fresh (o := .lst []) hv2
  generalize mup M3 v2 (.lst []) = M4 at c4 ⊢
  rw [show M4 s = _ from Cel.here (pre := [(v2, .lst []), (p2, .dK (slotD (slotsF o))), (r, .lst (m.rows.map Rw.d)), (p, .dK (slotD ss))]) c4]
  walk_at "vc"
  have c5 := Cel.put (pre := [(v2, .lst []), (p2, .dK (slotD (slotsF o))), (r, .lst (m.rows.map Rw.d)), (p, .dK (slotD ss))]) (o' := .obj (He.ga K "Maker") dx fl_Maker [.ref r, .ref p2, .int ((slotsF o).length + 1), .ref c, .ref v2, .ref lo]) c4
  generalize mup M4 s (.obj (He.ga K "Maker") dx fl_Maker [.ref r, .ref p2, .int ((slotsF o).length + 1), .ref c, .ref v2, .ref lo]) = M5 at c5 ⊢
  have c6 := Cel.forget (pre := [(v2, .lst []), (p2, .dK (slotD (slotsF o))), (r, .lst (m.rows.map Rw.d))]) c5
  have c7 := Cel.forget (pre := [(v2, .lst []), (p2, .dK (slotD (slotsF o))), (r, .lst (m.rows.map Rw.d)), (s, .obj (He.ga K "Maker") dx fl_Maker [.ref r, .ref p2, .int ((slotsF o).length + 1), .ref c, .ref v2, .ref lo]), (c, .lst (m.calls.map calD))]) c6
  have c8 := c7.perm (((List.perm_middle (l₁ := [((p2 : Addr), (MO.dK (slotD (slotsF o)) : MO)), (r, .lst (m.rows.map Rw.d)), (s, .obj (He.ga K "Maker") dx fl_Maker [.ref r, .ref p2, .int ((slotsF o).length + 1), .ref c, .ref v2, .ref lo]), (c, .lst (m.calls.map calD))])).symm).trans (List.Perm.swap _ _ _))
  have h5 : MkS ⟨s, r, p2, c, v2, lo, He.ga K "Maker", dx, fl_Maker⟩ M0 M5 (slotsF o) ((slotsF o).length + 1) ⟨m.rows, m.calls, [], m.loops⟩ [] := ⟨c8, hlps⟩
  refine ⟨⟨s, r, p2, c, v2, lo, He.ga K "Maker", dx, fl_Maker⟩, M0, slotsF o, _, _, [], o.body, False, ⟨rfl, rfl⟩, rfl, h5, ho1, hokr.deep, hB, fun q => q.elim, by omega, fun M' L' hM' hL' => ?_⟩
  obtain rfl : L' = [] := by simpa using hL'
  have ho2 := hk1.ok ho1
  rw [show M' s = _ from mk_s ⟨rfl, rfl⟩ hM']
  walk_at "vc"
  refine ⟨⟨s, r, p2, c, v2, lo, He.ga K "Maker", dx, fl_Maker⟩, M0, _, _, _, [], _, _, ⟨rfl, rfl⟩, rfl, Or.inr ⟨v2, rfl, hM'.vne, hM'.v_⟩, hM', ho2.lvd, ?_⟩
  have h6 := hM'.rows (rs := leadsAt (mkB (slotsF o) ((slotsF o).length + 1) ⟨m.rows, m.calls, [], m.loops⟩ o.body).rows (mkB (slotsF o) ((slotsF o).length + 1) ⟨m.rows, m.calls, [], m.loops⟩ o.body).leaves)
  walk_at "vc"
  rw [show (mup M' r _) s = _ from mk_s ⟨rfl, rfl⟩ h6]
  walk_at "vc"
  refine ⟨?_, ?_⟩
  · rw [leadsAt_len]
    omega
  have h7 := hM'.rowsA (leadsAt (mkB (slotsF o) ((slotsF o).length + 1) ⟨m.rows, m.calls, [], m.loops⟩ o.body).rows (mkB (slotsF o) ((slotsF o).length + 1) ⟨m.rows, m.calls, [], m.loops⟩ o.body).leaves) (.back o.last)
  refine h _ p2 v2 ?_
  rw [leads_eq]
  exact h7
def spMade : SpT := fun ds M Q _ => ∃ pg : Pg, ds = [.lst (pgD pg)] ∧ okRows pg ∧ Q (.lst ((rowsF pg).map Rw.d)) M
theorem ok_made (T : Tp K mg) : Fn P w K mg base CX0 52 "made" spMade := by
  refine fn_top T.top 20 e_made (m_made T) sc_made (by rintro _ M Q Et ⟨_, rfl, _⟩; rfl) (fun cdv A outer s H E hr => ⟨_, (qss_cons (qs_set (i := 1) sc_made.nd (q_make0 fl_Maker (ok_Maker___init T) (hr.mono (by decide))))
 (qss_cons (qs_set (i := 2) sc_made.nd q_dnewK)
 (qss_cons (qs_setLc (i := 4) (own := [(("one" : Str), 3)]) (lv_lcF go_name) rfl sc_made.nd (qi_list (qv 0)) (blkOk_by (N := nm_made) (sc := defScope s_made) (own := [(("one" : Str), 3)]) (by decide +kernel)) (fun _ _ _ _ _ => (pg_name (i := 3) sc_made.nd rfl (Or.inl rfl))) (fun _ _ _ _ _ => (qts_one (qt_cmp oq_ne (q_ix (qv 3) q_int) q_str))) (fun _ _ _ _ _ => (qv 3)) (sw_true rfl rfl rfl (by decide +kernel)))
 (qss_cons (qs_for PassesOwn.never rfl (qi_list (q_op oq_catL (q_lc rfl sc_made.nd (qi_list (qv 0)) (blkOk_by (N := nm_made) (sc := defScope s_made) (own := [(("one" : Str), 3)]) (by decide +kernel)) go_name (fun _ _ _ _ _ => (pg_name (i := 3) sc_made.nd rfl (Or.inl rfl))) (fun _ _ _ _ _ => (qts_one (qt_cmp oq_eq (q_ix (qv 3) q_int) q_str))) (fun _ _ _ _ _ => (qv 3))) (qv 4))) (qg_name (i := 3) sc_made.nd)
  (qss_cons (qs_asg (q_callB cq_len (m_len T) (by decide +kernel) (qa_cons (q_fld 0 fl_Maker (c_Maker_rows T) (qv 1)) qa_nil)) (qg_sub (qv 2) (q_ix (qv 3) q_int) (sq_dict (hu_of hr))))
 (qss_one (qs_expr (q_call (ok_make_def T) (hr.mono (by decide)) (qa_cons (qv 1) (qa_cons (qv 3) qa_nil)))))))
 (qss_cons (qs_for PassesOwn.never rfl (qi_list (q_fld 3 fl_Maker (c_Maker_calls T) (qv 1))) (qg_tup (n := 2) rfl (qgs_cons (qg_name (i := 5) sc_made.nd) (qgs_cons (qg_name (i := 6) sc_made.nd) qgs_nil)))
  (qss_one (qs_expr (q_meth fl_Maker (ok_Maker_lead T) (hr.mono (by decide)) (qv 1) (qa_cons (qv 5) (qa_cons (q_dget (hu_of hr) (qv 2) (qv 6)) qa_nil))))))
 (qss_one (qs_ret (q_re (q_fld 0 fl_Maker (c_Maker_rows T) (qv 1)))))))))), ?_⟩) (fun _ _ _ _ _ _ us hl => match us, hl with | [_], _ => rfl)
  rintro _ M Q Et ⟨pg, rfl, ok, h⟩
  walk_at "vc"
  intro x dx hx
  refine ⟨x, dx, M, rfl, hx, rfl, fun A Mi hAx hk hmi => ⟨rfl, fun bg hbg => ?_⟩⟩
  subst hAx
  have h0 : M bg = none := by
    cases e : M bg with
    | none => rfl
    | some u => have := hmi.cel.old bg u e; rw [hbg] at this; cases this
  have hm0 := hmi.lift (o := .dK []) hbg
  have hb0 : (mup Mi bg (.dK [])) bg = some (.dK []) := mup_same
  generalize mup Mi bg (.dK []) = M1 at hm0 hb0 ⊢
  have few := ok.few
  refine lc_filter pg Df.d (fun o => !isMain o.name) Df.d rfl (by rw [sizeLine_eq]; omega) trivial (fun o R1 R0 ho h1 h2 => ?_) ?_
  · unfold Df.d at h1 ⊢
    walk_at "vc"
    unfold isMain at h1 h2
    by_cases e : o.name = Str.ofString "main"
    · rw [if_neg (by simpa using e)]
      exact h2 (by rw [e]; simp)
    · rw [if_pos (by simpa using e)]
      exact h1 (by simpa using e)
  refine lc_filter pg Df.d (fun o => isMain o.name) Df.d rfl (by rw [sizeLine_eq]; omega) trivial (fun o R1 R0 ho h1 h2 => ?_) ?_
  · unfold Df.d at h1 ⊢
    walk_at "vc"
    unfold isMain at h1 h2
    by_cases e : o.name = Str.ofString "main"
    · rw [if_pos (by simpa using e)]
      exact h1 (by rw [e]; simp)
    · rw [if_neg (by simpa using e)]
      exact h2 (by simpa using e)
  have hlm : (mainFirst pg).length ≤ 2 * pg.length := by
    unfold mainFirst
    rw [List.length_append]
    have a1 := List.length_filter_le (fun o : Df => isMain o.name) pg
    have a2 := List.length_filter_le (fun o : Df => !isMain o.name) pg
    omega
  have hmem : ∀ o ∈ mainFirst pg, o ∈ pg := fun o ho => by
    unfold mainFirst at ho
    rcases List.mem_append.mp ho with ho | ho
    · exact (List.mem_filter.mp ho).1
    · exact (List.mem_filter.mp ho).1
  walk_at "vc"
  rw [← List.map_append]
  have olen := ok.len
  have ofnd := ok.fnd
  have hrf : rowsF pg = (mkAll (mainFirst pg)).1.calls.foldl (fun rows c => leadAt rows c.1 (beginOf (mkAll (mainFirst pg)).2 c.2)) (mkAll (mainFirst pg)).1.rows := rfl
  rw [hrf] at h
  refine ⟨?_, ?_⟩
  · have a1 := List.length_filter_le (fun o : Df => isMain o.name) pg
    have a2 := List.length_filter_le (fun o : Df => !isMain o.name) pg
    omega
  rw [show List.filter (fun o => isMain o.name) pg ++ List.filter (fun o => !isMain o.name) pg = mainFirst pg from rfl]
  generalize mainFirst pg = os at *
  generalize some (D.lst (List.map Df.d (List.filter (fun o => !isMain o.name) pg))) = v4
  obtain ⟨sA, r, p, c, v, lo, C, dxA, fl⟩ := A
  obtain ⟨hk1, hk2⟩ := hk
  simp only at hk1 hk2
  subst hk1 hk2
  refine for_map os Df.d rfl (fun ys τ M1 => (∃ p v ss fr, MkS ⟨sA, r, p, c, v, lo, He.ga K "Maker", dxA, fl_Maker⟩ (mup M bg (.dK (begD (mkAll ys).2))) M1 ss fr (mkAll ys).1 []) ∧ ∃ v3 v5 v6, τ = [some (.lst (pgD pg)), some (.ref sA), some (.ref bg), v3, v4, v5, v6]) ⟨⟨p, v, [], 1, hm0⟩, none, none, none, rfl⟩ (fun _ _ _ _ => trivial) ?_ ?_
  · rintro ys o zs τ M1 Nx hxs ⟨⟨p, v, ss, fr, hm⟩, v3, v5, v6, rfl⟩ hN
    have hbgM : M1 bg = some (.dK (begD (mkAll ys).2)) := hm.cel.old bg _ mup_same
    have ho : o ∈ os := by rw [hxs]; simp
    have hdf := ok.df o (hmem o ho)
    have hle : (mkDef (mkAll ys).1 o).rows.length ≤ (mkAll os).1.rows.length := by
      have := (mkAll_ext (a := ys ++ [o]) (b := zs)).len
      rw [mkAll_one] at this
      rw [hxs, show ys ++ o :: zs = (ys ++ [o]) ++ zs by simp]
      exact this
    have hbl : (begD (mkAll ys).2).length ≤ 2000 := by
      have a1 := begD_len (bs := (mkAll ys).2)
      have a2 := congrArg List.length (mkAll_names (a := ys))
      have a3 := congrArg List.length hxs
      rw [List.length_map, List.length_map] at a2
      rw [List.length_append] at a3
      omega
    have hNx : ∀ M' p v, MkS ⟨sA, r, p, c, v, lo, He.ga K "Maker", dxA, fl_Maker⟩ (mup M bg (.dK (begD (mkAll (ys ++ [o])).2))) M' (slotsF o) ((slotsF o).length + 1) (mkDef (mkAll ys).1 o) [] → Nx [some (.lst (pgD pg)), some (.ref sA), some (.ref bg), some o.d, v4, v5, v6] M' := fun M' p v a => hN _ _ ⟨⟨p, v, _, _, by rw [mkAll_one] at a ⊢; exact a⟩, _, _, _, rfl⟩
    have hno : (begD (mkAll (ys ++ [o])).2) = putM (begD (mkAll ys).2) (.inr o.name) (natD (mkAll ys).1.rows.length) := by rw [mkAll_one]; exact begD_one
    rw [hno] at hNx
    have hmb := hm.base (o' := .dK (putM (begD (mkAll ys).2) (.inr o.name) (natD (mkAll ys).1.rows.length)))
    have hmr : M1 r = _ := hm.r_
    have hoD : bIx o.d (.int 0) M1 = fun Q => Q (.str o.name) M1 := by unfold Df.d; funext Q; walk_at "vc"
    walk_at "vc"
    rw [show M1 sA = _ from mk_s ⟨rfl, rfl⟩ hm]
    walk_at "vc"
    rw [lenOf_of hmr]
    walk_at "vc"
    rw [hoD]
    walk_at "vc"
    rw [hbgM]
    walk_at "vc"
    refine ⟨by omega, ?_⟩
    exact ⟨⟨sA, r, p, c, v, lo, He.ga K "Maker", dxA, fl_Maker⟩, _, ss, fr, _, o, ⟨rfl, rfl⟩, rfl, hmb, mkAll_ok, hdf.1, hdf.2, by omega, fun M' p v a => hNx M' p v a⟩
  · rintro τ M1 ⟨⟨p, v, ss, fr, hm⟩, v3, v5, v6, rfl⟩
    have hmc : M1 c = _ := hm.c_
    have hbgM : M1 bg = some (.dK (begD (mkAll os).2)) := hm.cel.old bg _ mup_same
    have hok := mkAll_ok (a := os)
    walk_at "vc"
    rw [show M1 sA = _ from mk_s ⟨rfl, rfl⟩ hm]
    walk_at "vc"
    rw [lstOf_of hmc]
    walk_at "vc"
    refine for_map (mkAll os).1.calls calD rfl (fun ys τ M2 => M2 = mup M1 r (.lst ((ys.foldl (fun rows c => leadAt rows c.1 (beginOf (mkAll os).2 c.2)) (mkAll os).1.rows).map Rw.d)) ∧ ∃ v5 v6, τ = [some (.lst (pgD pg)), some (.ref sA), some (.ref bg), v3, v4, v5, v6]) ⟨(mup_idem hm.r_).symm, v5, v6, rfl⟩ ?_ ?_ ?_
    · rintro ys τ M2 ⟨rfl, v5, v6, rfl⟩
      exact lstOf_of (hm.rows (rs := _)).c_
    · rintro ys cl zs τ M2 Nx hxs ⟨rfl, v5, v6, rfl⟩ hN
      have hcl : cl ∈ (mkAll os).1.calls := by rw [hxs]; simp
      have h2 := hm.rows (rs := ys.foldl (fun rows c => leadAt rows c.1 (beginOf (mkAll os).2 c.2)) (mkAll os).1.rows)
      have hled : ledAt (ys.foldl (fun rows c => leadAt rows c.1 (beginOf (mkAll os).2 c.2)) (mkAll os).1.rows) cl.1 := by
        have h0 := hok.csd cl hcl
        clear hxs hN h2
        generalize (mkAll os).1.rows = rows at h0 ⊢
        induction ys generalizing rows with
        | nil => exact h0
        | cons y t ih => exact ih _ (ledAt_lead h0)
      have hbg2 : (mup M1 r (.lst ((ys.foldl (fun rows c => leadAt rows c.1 (beginOf (mkAll os).2 c.2)) (mkAll os).1.rows).map Rw.d))) bg = some (.dK (begD (mkAll os).2)) := h2.cel.old bg _ mup_same
      have hval := begD_val (bs := (mkAll os).2) (f := cl.2) (by rw [mkAll_names]; exact ofnd cl hcl)
      unfold calD
      walk_at "vc"
      rw [show (mup M1 r _) sA = _ from mk_s ⟨rfl, rfl⟩ h2]
      walk_at "vc"
      rw [hbg2]
      walk_at "vc"
      rw [hval]
      walk_at "vc"
      refine ⟨⟨sA, r, p, c, v, lo, He.ga K "Maker", dxA, fl_Maker⟩, _, ss, fr, _, [], cl.1, _, ⟨rfl, rfl⟩, rfl, h2, hled, ?_⟩
      rw [mup_mup]
      exact hN _ _ ⟨by rw [List.foldl_append]; rfl, _, _, rfl⟩
    · rintro τ M2 ⟨rfl, v5, v6, rfl⟩
      have h2 := hm.rows (rs := (mkAll os).1.calls.foldl (fun rows c => leadAt rows c.1 (beginOf (mkAll os).2 c.2)) (mkAll os).1.rows)
      walk_at "vc"
      rw [show (mup M1 r _) sA = _ from mk_s ⟨rfl, rfl⟩ h2]
      walk_at "vc"
      refine ⟨_, M, ReR.trans (ReR.freeze h2.r_) (ReR.drop fun a u e => ?_), h⟩
      have hne : a ≠ bg := by rintro rfl; rw [h0] at e; cases e
      have e1 : (mup M bg (.dK (begD (mkAll os).2))) a = some u := by rw [mup_ne hne]; exact e
      have hnr : a ≠ r := by
        rintro rfl
        have := h2.cel.new (a, .lst (((mkAll os).1.calls.foldl (fun rows c => leadAt rows c.1 (beginOf (mkAll os).2 c.2)) (mkAll os).1.rows).map Rw.d)) (by unfold MkA.cells; simp)
        rw [e1] at this
        cases this
      unfold mdel
      rw [if_neg hnr]
      exact h2.cel.old a u e1
end
end K23
local macro_rules | `(tactic| walk_at "vc") => `(tactic| simp only [Tl.utSm, Tl.umSplit, Tl.umStarts, Tl.umJoin, Tl.ucStr, Tl.ucIntS, Tl.ubInS, Tl.uZiT, Tl.uDisp1, Tl.uIsB, Tl.uSortDI, Tl.op_lane, Tl.op_lanes, Tl.op_mine, Tl.op_num, Tl.op_name, Tl.op_box, Tl.cut_tail, Tl.val_name, Tl.val_row, Tl.val_def, Tl.val_back, Tl.ofS_inj, String.reduceEq, Tl.uDic, Tl.oDA_ki, Tl.oDA_ks, Tl.oDA_t, Tl.oPA_ki, Tl.oPA_ks, Tl.oPA_t, Tl.consK_s, Tl.kT_nil, Tl.kT_i, Tl.kT_s, Tl.uzDict, Tl.uIn, Tl.uRepS, Tl.uRep, Tl.uRepM, Tl.uCatT, Tl.uSlT, Tl.oLD_k, Tl.oLD_t, Tl.uLenD, Tl.z_tDnK, Tl.z_tDnT, Tl.z_tDg, Tl.z_tDi, Tl.z_tDg2, Tl.z_tRe, Tl.z_sRe, Tl.wip, Tl.uObj, Tl.oAt_i, Tl.cxK, Tl.cxKn, true_or, or_true, or_false, false_or, Nat.zero_le, Nat.le_refl, Tl.mup_same, Tl.mup_mup, Tl.uAlt, Tl.z_tFd, Tl.z_sFd, Tl.z_sFa, Tl.z_tMe, Tl.z_tMk, Tl.nthD, Tl.putD, Tl.uFo, Tl.uLcF, Tl.uLcV', Tl.uAsRef, Tl.z_sNx, Tl.z_sSq, Tl.z_sBk, Tl.z_sCt, Tl.z_sDr, Tl.z_sRt, Tl.z_sRtN, Tl.z_sIf, Tl.z_sAs, Tl.z_gN, Tl.z_gSb, Tl.z_tK, Tl.z_tO, Tl.z_tU, Tl.z_tCa, Tl.z_tN, Tl.z_tCs, Tl.z_tAn, Tl.tOr', Tl.z_tNo, Tl.z_tIfE, Tl.z_tCl, Tl.z_tTu, Tl.z_tLi, Tl.z_tLm, Tl.z_tSc, Tl.z_oNo, Tl.z_tMt, Tl.z_tMt0, Tl.z_tYe, Tl.z_tLt, Tl.kit_ii, Tl.kit_ib, Tl.kit_bi, Tl.kit_bb, Tl.kit_si, Tl.kit_ss, Tl.kit_is, Tl.kit_tt, Tl.kit_ll, Tl.kit_lt, Tl.kit_tl, Tl.kit_ts, Tl.kit_ls, Tl.kit_sl, Tl.kit_st, Tl.kit_it, Tl.kit_il, Tl.kit_dd, Tl.kit_ni, Tl.kit_nb, Tl.begin_, Tl.nth, List.map, List.length, List.replicate, List.append, List.set, List.nil_append, List.cons_append, List.append_nil, Nat.reduceAdd, Nat.reduceSub, Nat.zero_add, reduceIte, Bool.false_eq_true, Bool.true_eq_false, Bool.not_eq_true', Bool.not_eq_false', Bool.not_true, Bool.not_false, not_true_eq_false, not_false_eq_true, decide_eq_true_eq, decide_eq_false_iff_not, decide_not, Option.isSome_some, true_and, and_true, Int.reduceLT, Int.reduceLE, Int.reduceNeg, List.cons.injEq, Option.some.injEq, PySem.sizeLine_eq, Nat.reduceLeDiff, List.length_map, List.length_append, List.length_cons, List.length_nil, Tl.oBl_i, Tl.oInt_i, Tl.oStr_i, Tl.oTup_i, Tl.oSome_i, Tl.oBl_if, Tl.uV, Tl.uBo, Tl.uAnV, Tl.uOrV, Tl.uNoV, Tl.uCh, Tl.uNl0, Tl.uCs1, Tl.uTp, Tl.uAg, Tl.uInt, Tl.uInt0, Tl.uNegI, Tl.uEq, Tl.uNe, Tl.dScal_ii, Tl.dScal_ss, Tl.dScal_bb, Tl.dScal_nn, Tl.dScal_ni, Tl.dScal_in, Tl.dScal_is, Tl.dScal_si, Tl.uIsN, Tl.uNotN, Tl.nonD_n, Tl.nonD_i, Tl.nonD_s, Tl.nonD_t, Tl.nonD_l, Tl.nonD_b, Tl.nonD_r, Tl.uCatS, Tl.uCatL, Tl.uCatM, Tl.lstOf_l, Tl.lstOf_c, Tl.lstOf_m, Tl.trkOf_l, Tl.trkOf_m, Tl.tupOf_t, Tl.tupOf_b, Tl.seqOf_t, Tl.seqOf_b, Tl.seqOf_l, Tl.seqOf_c, Tl.seqOf_r, Tl.uIx_t, Tl.uIx_b, Tl.uIx_l, Tl.uIx_c, Tl.uIx_s, Tl.uIx_r, Tl.uYes, Tl.uSlL, Tl.uSlM, Tl.uSlS, Tl.uIsi, Tl.dTy_n, Tl.dTy_b, Tl.dTy_i, Tl.dTy_s, Tl.dTy_t, Tl.dTy_l, Tl.uLen, Tl.lenOf_t, Tl.lenOf_b, Tl.lenOf_l, Tl.lenOf_c, Tl.lenOf_m, Tl.uIntI, Tl.uIntB, Tl.uLs, Tl.uTu, Tl.oL1_i, Tl.oL2_i, Tl.oL3_i, Tl.uR1, Tl.uR2, Tl.uR3, Tl.uEn, Tl.uZi, Tl.uSt, Tl.uRv, Tl.uDivmod, Tl.uList, Tl.uListM, Tl.uSum, Tl.uMax, Tl.uMin, Tl.intLst_l, Tl.intLst_c, Tl.blLst_l, Tl.uMax2, Tl.uMin2, Tl.uAbs, Tl.uAny, Tl.uAll, Tl.mLst_m, Tl.uAppend, Tl.uExtend, Tl.uPop, Tl.uSet, Tl.lMt_l, Tl.isS_m, Tl.atI_0, Tl.atI_1, Tl.atI_2, Tl.atI_3, Tl.atI_4, Tl.atI_5])
local macro_rules | `(tactic| walk_at "vh") => `(tactic| simp only [Tl.utSm, Tl.umSplit, Tl.umStarts, Tl.umJoin, Tl.ucStr, Tl.ucIntS, Tl.ubInS, Tl.uZiT, Tl.uDisp1, Tl.uIsB, Tl.uSortDI, Tl.op_lane, Tl.op_lanes, Tl.op_mine, Tl.op_num, Tl.op_name, Tl.op_box, Tl.cut_tail, Tl.val_name, Tl.val_row, Tl.val_def, Tl.val_back, Tl.ofS_inj, String.reduceEq, Tl.uDic, Tl.oDA_ki, Tl.oDA_ks, Tl.oDA_t, Tl.oPA_ki, Tl.oPA_ks, Tl.oPA_t, Tl.consK_s, Tl.kT_nil, Tl.kT_i, Tl.kT_s, Tl.uzDict, Tl.uIn, Tl.uRepS, Tl.uRep, Tl.uRepM, Tl.uCatT, Tl.uSlT, Tl.oLD_k, Tl.oLD_t, Tl.uLenD, Tl.z_tDnK, Tl.z_tDnT, Tl.z_tDg, Tl.z_tDi, Tl.z_tDg2, Tl.z_tRe, Tl.z_sRe, Tl.wip, Tl.uObj, Tl.oAt_i, Tl.cxK, Tl.cxKn, true_or, or_true, or_false, false_or, Nat.zero_le, Nat.le_refl, Tl.mup_same, Tl.mup_mup, Tl.uAlt, Tl.z_tFd, Tl.z_sFd, Tl.z_sFa, Tl.z_tMe, Tl.z_tMk, Tl.nthD, Tl.putD, Tl.uFo, Tl.uLcF, Tl.uLcV', Tl.uAsRef, Tl.z_sNx, Tl.z_sSq, Tl.z_sBk, Tl.z_sCt, Tl.z_sDr, Tl.z_sRt, Tl.z_sRtN, Tl.z_sIf, Tl.z_sAs, Tl.z_gN, Tl.z_gSb, Tl.z_tK, Tl.z_tO, Tl.z_tU, Tl.z_tCa, Tl.z_tN, Tl.z_tCs, Tl.z_tAn, Tl.tOr', Tl.z_tNo, Tl.z_tIfE, Tl.z_tCl, Tl.z_tTu, Tl.z_tLi, Tl.z_tLm, Tl.z_tSc, Tl.z_oNo, Tl.z_tMt, Tl.z_tMt0, Tl.z_tYe, Tl.z_tLt, Tl.kit_ii, Tl.kit_ib, Tl.kit_bi, Tl.kit_bb, Tl.kit_si, Tl.kit_ss, Tl.kit_is, Tl.kit_tt, Tl.kit_ll, Tl.kit_lt, Tl.kit_tl, Tl.kit_ts, Tl.kit_ls, Tl.kit_sl, Tl.kit_st, Tl.kit_it, Tl.kit_il, Tl.kit_dd, Tl.kit_ni, Tl.kit_nb, Tl.begin_, Tl.nth, List.map, List.length, List.replicate, List.append, List.set, List.nil_append, List.cons_append, List.append_nil, Nat.reduceAdd, Nat.reduceSub, Nat.zero_add, reduceIte, Bool.false_eq_true, Bool.true_eq_false, Bool.not_eq_true', Bool.not_eq_false', Bool.not_true, Bool.not_false, not_true_eq_false, not_false_eq_true, decide_eq_true_eq, decide_eq_false_iff_not, decide_not, Option.isSome_some, true_and, and_true, Int.reduceLT, Int.reduceLE, Int.reduceNeg, List.cons.injEq, Option.some.injEq, PySem.sizeLine_eq, Nat.reduceLeDiff, List.length_map, List.length_append, List.length_cons, List.length_nil, Tl.oBl_i, Tl.oInt_i, Tl.oStr_i, Tl.oTup_i, Tl.oSome_i, Tl.oBl_if, Tl.uV, Tl.uBo, Tl.uAnV, Tl.uOrV, Tl.uNoV, Tl.uCh, Tl.uNl0, Tl.uCs1, Tl.uTp, Tl.uAg, Tl.uInt, Tl.uInt0, Tl.uNegI, Tl.uEq, Tl.uNe, Tl.dScal_ii, Tl.dScal_ss, Tl.dScal_bb, Tl.dScal_nn, Tl.dScal_ni, Tl.dScal_in, Tl.dScal_is, Tl.dScal_si, Tl.uIsN, Tl.uNotN, Tl.nonD_n, Tl.nonD_i, Tl.nonD_s, Tl.nonD_t, Tl.nonD_l, Tl.nonD_b, Tl.nonD_r, Tl.uCatS, Tl.uCatL, Tl.uCatM, Tl.lstOf_l, Tl.lstOf_c, Tl.lstOf_m, Tl.trkOf_l, Tl.trkOf_m, Tl.tupOf_t, Tl.tupOf_b, Tl.seqOf_t, Tl.seqOf_b, Tl.seqOf_l, Tl.seqOf_c, Tl.seqOf_r, Tl.uIx_t, Tl.uIx_b, Tl.uIx_l, Tl.uIx_c, Tl.uIx_s, Tl.uIx_r, Tl.uYes, Tl.uSlL, Tl.uSlM, Tl.uSlS, Tl.uIsi, Tl.dTy_n, Tl.dTy_b, Tl.dTy_i, Tl.dTy_s, Tl.dTy_t, Tl.dTy_l, Tl.uLen, Tl.lenOf_t, Tl.lenOf_b, Tl.lenOf_l, Tl.lenOf_c, Tl.lenOf_m, Tl.uIntI, Tl.uIntB, Tl.uLs, Tl.uTu, Tl.oL1_i, Tl.oL2_i, Tl.oL3_i, Tl.uR1, Tl.uR2, Tl.uR3, Tl.uEn, Tl.uZi, Tl.uSt, Tl.uRv, Tl.uDivmod, Tl.uList, Tl.uListM, Tl.uSum, Tl.uMax, Tl.uMin, Tl.intLst_l, Tl.intLst_c, Tl.blLst_l, Tl.uMax2, Tl.uMin2, Tl.uAbs, Tl.uAny, Tl.uAll, Tl.mLst_m, Tl.uAppend, Tl.uExtend, Tl.uPop, Tl.uSet, Tl.lMt_l, Tl.isS_m, Tl.atI_0, Tl.atI_1, Tl.atI_2, Tl.atI_3, Tl.atI_4, Tl.atI_5, *])
namespace K23
open PySem PySem.Spec PyProof.Rows L2 Tl
section
variable {P : Program} {w : World} {K : PySem.W.Frag} {mg : Str → Option Value} {base : Heap}
def spAllThese : SpT := fun ds M Q _ => ∃ x z : Str, ds = [.str x, .str z] ∧ x.length ≤ 100000 ∧ Q (.bl (allIn x z)) M
theorem ok_all_of_these (T : Tp K mg) : Fn P w K mg base CX0 1 "all_of_these" spAllThese := by
  refine fn_top T.top 21 e_all_of_these (m_all_of_these T) sc_all_of_these (by rintro _ M Q Et ⟨n, _, rfl, _⟩; rfl) (fun cdv A outer s H E hr => ⟨_, (qss_cons (qs_if (qt_cmp oq_eq (qv 0) q_str)
  (qss_one (qs_ret q_bl))
  qss_nil)
 (qss_one (qs_ret (q_callB (cq_all rfl) (m_all T) (by decide +kernel) (qa_cons (q_lc rfl sc_all_of_these.nd (qi_str (qv 0)) (blkOk_by (N := nm_all_of_these) (sc := defScope s_all_of_these) (own := [(("sign" : Str), 2)]) (by decide +kernel)) go_name (fun _ _ _ _ _ => (pg_name (i := 2) sc_all_of_these.nd rfl (Or.inl rfl))) (fun _ _ _ _ _ => qts_nil) (fun _ _ _ _ _ => (q_cmp oq_inS (qv 2) (qv 1)))) qa_nil))))), ?_⟩) (fun _ _ _ _ _ _ us hl => match us, hl with | [_, _], _ => rfl)
  rintro _ M Q Et ⟨x, z, rfl, hl, h⟩
  walk_at "vc"
  unfold allIn at h
  split
  · rename_i hx
    rw [empty_iff.mp hx] at h
    exact h
  · rename_i hx
    have hne : (cds x).isEmpty = false := by
      cases hc : cds x with
      | nil => exact absurd (empty_iff.mpr hc) hx
      | cons => rfl
    rw [hne, Bool.not_false, Bool.true_and] at h
    refine lc_map (cds x) (fun c => .str ⟨#[c]⟩) (fun c => .bl (decide (c ∈ cds z))) rfl (by rw [sizeLine_eq, cds_len]; omega) trivial (fun c R1 R0 hc h1 => ?_) ?_
    · walk_at "vc"
      exact ⟨c, rfl, h1⟩
    · have e1 : blLst M (.lst ((cds x).map fun c => D.bl (decide (c ∈ cds z)))) = some ((cds x).map fun c => decide (c ∈ cds z)) := by
        rw [← blLst_l (is := (cds x).map fun c => decide (c ∈ cds z)), List.map_map]; rfl
      rw [e1]
      simp only [oSome_i]
      rw [List.all_map]
      exact h
def spIsName : SpT := fun ds M Q _ => ∃ x : Str, ds = [.str x] ∧ x.length ≤ 100000 ∧ Q (.bl (decide (okName x))) M
theorem ok_is_name (T : Tp K mg) : Fn P w K mg base CX0 2 "is_name" spIsName := by
  refine fn_top T.top 22 e_is_name (m_is_name T) sc_is_name (by rintro _ M Q Et ⟨n, rfl, _⟩; rfl) (fun cdv A outer s H E hr => ⟨_, (qss_cons (qs_if (qt_w (qw_or (qt_cmp oq_gt (q_callB cq_len (m_len T) (by decide +kernel) (qa_cons (qv 0) qa_nil)) (q_gint (m_LONGEST T))) (qw_or (qt_cmp oq_inQ (qv 0) (q_gref (m_DEEDS T) (tab_DEEDS T))) (qw_or1 (qt_cmp oq_inQ (qv 0) (q_gref (m_KEPT T) (tab_KEPT T)))))))
  (qss_one (qs_ret q_bl))
  qss_nil)
 (qss_one (qs_ret (q_call (ok_all_of_these T) (hr.mono (by decide)) (qa_cons (qv 0) (qa_cons (q_gstr (m_LETTERS T)) qa_nil)))))), ?_⟩) (fun _ _ _ _ _ _ us hl => match us, hl with | [_], _ => rfl)
  rintro _ M Q Et ⟨x, rfl, hl, h⟩
  have hk : keptL = lst_DEEDS ++ lst_KEPT := rfl
  walk_at "vc"
  rw [len_s hl, oSome_i]
  split
  · rename_i h8
    rw [decide_eq_false (fun z => by have := (name_iff.mp z).1; omega)] at h
    exact h
  · rename_i h8
    refine ⟨rfl, all_ws, ?_⟩
    rw [any_ws]
    split
    · rename_i hd
      rw [decide_eq_false (fun z => (name_iff.mp z).2.1 (by rw [hk]; exact List.mem_append_left _ (of_decide_eq_true hd)))] at h
      exact h
    · rename_i hd
      refine ⟨rfl, all_ws, ?_⟩
      rw [any_ws]
      split
      · rename_i hd2
        rw [decide_eq_false (fun z => (name_iff.mp z).2.1 (by rw [hk]; exact List.mem_append_right _ (of_decide_eq_true hd2)))] at h
        exact h
      · rename_i hd2
        refine ⟨x, letters, rfl, hl, ?_⟩
        have e : decide (okName x) = allIn x letters := by
          rw [Bool.eq_iff_iff, decide_eq_true_eq, name_iff]
          refine ⟨fun z => z.2.2, fun z => ⟨by omega, fun hm => ?_, z⟩⟩
          rw [hk] at hm
          rcases List.mem_append.mp hm with hm | hm
          · exact hd (decide_eq_true hm)
          · exact hd2 (decide_eq_true hm)
        rw [e] at h
        exact h
def spIsNumber : SpT := fun ds M Q _ => ∃ x : Str, ds = [.str x] ∧ x.length ≤ 100000 ∧ Q (.bl (isNumF x)) M
theorem ok_is_number (T : Tp K mg) : Fn P w K mg base CX0 2 "is_number" spIsNumber := by
  refine fn_top T.top 23 e_is_number (m_is_number T) sc_is_number (by rintro _ M Q Et ⟨n, rfl, _⟩; rfl) (fun cdv A outer s H E hr => ⟨_, (qss_cons (qs_set (i := 1) sc_is_number.nd (qv 0))
 (qss_cons (qs_if (qt_val (q_startswith (qv 0) q_str))
  (qss_cons (qs_set (i := 1) sc_is_number.nd (q_sliceS (qv 0) (qo_some q_int) qo_none))
 (qss_one (qs_if (qt_cmp oq_eq (qv 1) q_str)
  (qss_one (qs_ret q_bl))
  qss_nil)))
  qss_nil)
 (qss_cons (qs_if (qt_w (qw_or (qt_cmp oq_gt (q_callB cq_len (m_len T) (by decide +kernel) (qa_cons (qv 1) qa_nil)) (q_gint (m_MANY T))) (qw_or1 (qt_not (qt_val (q_call (ok_all_of_these T) (hr.mono (by decide)) (qa_cons (qv 1) (qa_cons (q_gstr (m_FIGURES T)) qa_nil))))))))
  (qss_one (qs_ret q_bl))
  qss_nil)
 (qss_one (qs_ret (q_or (q_cmp oq_eq (qv 1) q_str) (q_one (q_not (q_startswith (qv 1) q_str))))))))), ?_⟩) (fun _ _ _ _ _ _ us hl => match us, hl with | [_], _ => rfl)
  rintro _ M Q Et ⟨x, rfl, hl, h⟩
  have e45 : Str.ofString "-" = ⟨#[45]⟩ := by decide +kernel
  have e48 : Str.ofString "0" = ⟨#[48]⟩ := by decide +kernel
  have hcut := cds_cut1 x
  have tail : ∀ y : Str, y.length ≤ 100000 → cds y = figsF x → ((cds x).head? == some 45 && figsF x == [48]) = false → (if 9 < (y.length : Int) then Q (D.bl false) M
        else
          spAllThese [D.str y, D.str (Str.ofString "0123456789")] M
            (fun x_1 M1 =>
              oBl x_1 fun c =>
                if c = false then Q (D.bl false) M1
                else
                  if y = Str.ofString "0" then Q (D.bl true) M1
                  else Q (D.bl !Txt.startswith y (Str.ofString "0")) M1)
            Et0) := fun y hyl hy h0 => by
    unfold isNumF at h
    rw [h0, Bool.not_false, Bool.true_and] at h
    have hlen : (figsF x).length = y.length := by rw [← hy, cds_len]
    rw [hlen] at h
    split
    · rename_i h9
      rw [decide_eq_false (by omega)] at h
      exact h
    · rename_i h9
      rw [decide_eq_true (by omega), Bool.true_and] at h
      refine ⟨y, figures, rfl, hyl, ?_⟩
      dsimp only
      rw [allIn_figures, hy]
      cases hc : (!(figsF x).isEmpty && (figsF x).all fun c => decide (48 ≤ c) && decide (c ≤ 57)) with
      | false =>
        rw [hc] at h
        walk_at "vc"
        exact h
      | true =>
        rw [hc, Bool.true_and] at h
        walk_at "vc"
        split
        · rename_i hz
          rw [show figsF x = [48] from by rw [← hy]; exact zero_iff.mp hz] at h
          exact h
        · rename_i hz
          have : (figsF x == [48]) = false := by
            cases hb : figsF x == [48] with
            | false => rfl
            | true => exact absurd (zero_iff.mpr (by rw [hy]; exact eq_of_beq hb)) hz
          rw [this, Bool.false_or] at h
          rw [e48, starts_one, hy]
          exact h
  walk_at "vc"
  rw [e45, starts_one]
  cases hs : ((cds x).head? == some 45) with
  | true =>
    have hf : figsF x = (cds x).drop 1 := by unfold figsF; rw [if_pos (eq_of_beq hs), List.drop_one]
    have hyl : (cutS x (some 1) none).length ≤ 100000 := by rw [← cds_len, hcut, List.length_drop, cds_len]; omega
    rw [if_pos rfl]
    refine ⟨by omega, ?_⟩
    by_cases hz : cutS x (some 1) none = Str.ofString "0"
    · rw [if_pos hz]
      have h0 : figsF x = [48] := by rw [hf, ← hcut]; exact zero_iff.mp hz
      unfold isNumF at h
      rw [hs, h0] at h
      exact h
    · rw [if_neg hz, len_s hyl, oSome_i]
      refine tail _ hyl (by rw [hcut, hf]) ?_
      rw [hs, Bool.true_and]
      cases hb : figsF x == [48] with
      | false => rfl
      | true => exact absurd (zero_iff.mpr (by rw [hcut, ← hf]; exact eq_of_beq hb)) hz
  | false =>
    have hf : figsF x = cds x := by unfold figsF; rw [if_neg (fun z => by rw [z] at hs; simp at hs)]
    rw [if_neg (fun z => by cases z), len_s hl, oSome_i]
    exact tail _ hl hf.symm (by rw [hs]; rfl)
def spReadNumber : SpT := fun ds M Q _ => ∃ i : Int, ds = [.str (numT i)] ∧ (-999999999 ≤ i ∧ i ≤ 999999999) ∧ Q (.int i) M
theorem ok_read_number (T : Tp K mg) : Fn P w K mg base CX0 3 "read_number" spReadNumber := by
  refine fn_top T.top 24 e_read_number (m_read_number T) sc_read_number (by rintro _ M Q Et ⟨n, rfl, _⟩; rfl) (fun cdv A outer s H E hr => ⟨_, (qss_cons (qs_if (qt_not (qt_val (q_call (ok_is_number T) (hr.mono (by decide)) (qa_cons (qv 0) qa_nil))))
  (qss_one qs_never)
  qss_nil)
 (qss_one (qs_ret (q_callTy cq_intS (m_int T) (by decide +kernel) (qa_cons (qv 0) qa_nil))))), ?_⟩) (fun _ _ _ _ _ _ us hl => match us, hl with | [_], _ => rfl)
  rintro _ M Q Et ⟨i, rfl, hi, h⟩
  obtain ⟨h1, h2⟩ := num_int i hi
  walk_at "vc"
  refine ⟨_, rfl, by omega, ?_⟩
  rw [num_is hi]
  walk_at "vc"
  exact ⟨i, h1, by omega, h⟩
def spPlainOf : SpT := fun ds M Q _ => ∃ (e : Ex) (x : Str), ds = [.str x] ∧ wordsE e = [x] ∧ isPlainE e ∧ okW e ∧ Q e.d M
theorem ok_plain_of (T : Tp K mg) : Fn P w K mg base CX0 4 "plain_of" spPlainOf := by
  refine fn_top T.top 25 e_plain_of (m_plain_of T) sc_plain_of (by rintro _ M Q Et ⟨_, n, rfl, _⟩; rfl) (fun cdv A outer s H E hr => ⟨_, (qss_cons (qs_if (qt_cmp oq_inQ (qv 0) (q_gref (m_SIGNS T) (tab_SIGNS T)))
  (qss_one (qs_ret (q_tup (qa_cons (qv 0) qa_nil))))
  qss_nil)
 (qss_cons (qs_if (qt_val (q_call (ok_is_name T) (hr.mono (by decide)) (qa_cons (qv 0) qa_nil)))
  (qss_one (qs_ret (q_tup (qa_cons q_str (qa_cons (qv 0) qa_nil)))))
  qss_nil)
 (qss_one (qs_ret (q_tup (qa_cons q_str (qa_cons (q_call (ok_read_number T) (hr.mono (by decide)) (qa_cons (qv 0) qa_nil)) qa_nil))))))), ?_⟩) (fun _ _ _ _ _ _ us hl => match us, hl with | [_], _ => rfl)
  rintro _ M Q Et ⟨e, x, rfl, hx, hp, hw, h⟩
  have hsg : ∀ y, y ∈ lst_SIGNS → y ∈ keptL := fun y hy => by
    simp only [lst_SIGNS, List.mem_cons, List.not_mem_nil, or_false] at hy
    rcases hy with rfl | rfl | rfl <;> decide +kernel
  walk_at "vc"
  refine ⟨rfl, all_ws, ?_⟩
  rw [any_ws]
  cases e with
  | num i =>
    have hx : numT i = x := by simpa [wordsE] using hx
    subst hx
    rw [decide_eq_false (fun z => by
      simp only [lst_SIGNS, List.mem_cons, List.not_mem_nil, or_false] at z
      rcases z with z | z | z
      · exact num_not (c := 108) (by decide +kernel) (by decide) z
      · exact num_not (c := 108) (by decide +kernel) (by decide) z
      · exact num_not (c := 109) (by decide +kernel) (by decide) z)]
    walk_at "vc"
    refine ⟨_, rfl, by have := (num_int i hw).2; omega, ?_⟩
    rw [decide_eq_false (num_notName i)]
    walk_at "vc"
    exact ⟨i, rfl, hw, h⟩
  | nam y =>
    have hx : y = x := by simpa [wordsE] using hx
    subst hx
    rw [decide_eq_false (fun z => hw.2 (hsg _ z))]
    walk_at "vc"
    refine ⟨_, rfl, by have := hw.1.2.1; omega, ?_⟩
    rw [decide_eq_true (show okName y from hw)]
    walk_at "vc"
    exact h
  | lane =>
    have hx : ("lane" : Str) = x := by simpa [wordsE] using hx
    subst hx
    rw [decide_eq_true (by decide +kernel)]
    walk_at "vc"
    exact h
  | lanes =>
    have hx : ("lanes" : Str) = x := by simpa [wordsE] using hx
    subst hx
    rw [decide_eq_true (by decide +kernel)]
    walk_at "vc"
    exact h
  | mine =>
    have hx : ("mine" : Str) = x := by simpa [wordsE] using hx
    subst hx
    rw [decide_eq_true (by decide +kernel)]
    walk_at "vc"
    exact h
  | box _ => exact hp.elim
  | op _ _ _ => exact hp.elim
end
end K23
namespace K23
open PySem PySem.Spec PyProof.Rows L2 Tl
section
variable {P : Program} {w : World} {K : PySem.W.Frag} {mg : Str → Option Value} {base : Heap}
def spExprAt (n : Nat) : SpT := fun ds M Q _ => ∃ (pre post : List Str) (e : Ex) (room : Nat), ds = [.lst ((pre ++ (wordsE e ++ post)).map .str), .int (pre.length : Nat), .int (room : Nat)] ∧ e.deep ≤ room + 1 ∧ room < n ∧ okW e ∧ (pre ++ (wordsE e ++ post)).length ≤ 100000 ∧ Q (.tup [e.d, .int ((pre.length + (wordsE e).length : Nat) : Int)]) M
theorem ok_expression_at (T : Tp K mg) : ∀ n, Fn P w K mg base CX0 (n + 5) "expression_at" (spExprAt n)
  | 0 => by
    refine fn_top T.top 26 e_expression_at (m_expression_at T) sc_expression_at (by rintro _ M Q Et ⟨_, _, _, n, rfl, _⟩; rfl) (fun cdv A outer s H E hr => ⟨_, qss_never, ?_⟩) (fun _ _ _ _ _ _ us hl => match us, hl with | [_, _, _], _ => rfl)
    rintro _ M Q Et ⟨pre, post, e, room, rfl, hd, hr, _⟩
    omega
  | n + 1 => by
    have ih := ok_expression_at T n
    refine fn_top T.top 26 e_expression_at (m_expression_at T) sc_expression_at (by rintro _ M Q Et ⟨_, _, _, n, rfl, _⟩; rfl) (fun cdv A outer s H E hr => ⟨_, (qss_cons (qs_if (qt_cmp oq_ge (qv 1) (q_callB cq_len (m_len T) (by decide +kernel) (qa_cons (qv 0) qa_nil)))
  (qss_one qs_never)
  qss_nil)
 (qss_cons (qs_set (i := 3) sc_expression_at.nd (q_ix (qv 0) (qv 1)))
 (qss_cons (qs_if (qt_w (qw_and (qt_cmp oq_ne (qv 3) q_str) (qw_and1 (qt_cmp oq_inQN (qv 3) (q_gref (m_WORKINGS T) (tab_WORKINGS T))))))
  (qss_one (qs_ret (q_tup (qa_cons (q_call (ok_plain_of T) (hr.mono (by omega)) (qa_cons (qv 3) qa_nil)) (qa_cons (q_op oq_addI (qv 1) q_int) qa_nil)))))
  qss_nil)
 (qss_cons (qs_if (qt_cmp oq_eq (qv 2) q_int)
  (qss_one qs_never)
  qss_nil)
 (qss_cons (qs_asg (q_call ih (hr.mono (by omega)) (qa_cons (qv 0) (qa_cons (q_op oq_addI (qv 1) q_int) (qa_cons (q_op oq_sub (qv 2) q_int) qa_nil)))) (qg_tup (n := 2) rfl (qgs_cons (qg_name (i := 4) sc_expression_at.nd) (qgs_cons (qg_name (i := 5) sc_expression_at.nd) qgs_nil))))
 (qss_cons (qs_if (qt_cmp oq_eq (qv 3) q_str)
  (qss_one (qs_ret (q_tup (qa_cons (q_tup (qa_cons (qv 3) (qa_cons (qv 4) qa_nil))) (qa_cons (qv 5) qa_nil)))))
  qss_nil)
 (qss_cons (qs_asg (q_call ih (hr.mono (by omega)) (qa_cons (qv 0) (qa_cons (qv 5) (qa_cons (q_op oq_sub (qv 2) q_int) qa_nil)))) (qg_tup (n := 2) rfl (qgs_cons (qg_name (i := 6) sc_expression_at.nd) (qgs_cons (qg_name (i := 7) sc_expression_at.nd) qgs_nil))))
 (qss_one (qs_ret (q_tup (qa_cons (q_tup (qa_cons (qv 3) (qa_cons (qv 4) (qa_cons (qv 6) qa_nil)))) (qa_cons (qv 7) qa_nil)))))))))))), ?_⟩) (fun _ _ _ _ _ _ us hl => match us, hl with | [_, _, _], _ => rfl)
    rintro _ M Q Et ⟨pre, post, e, room, rfl, hd, hrn, hw, hl, h⟩
    have hpos : 1 ≤ (wordsE e).length := by
      cases hc : wordsE e with
      | nil => exact absurd hc (words_ne e)
      | cons => simp
    have hat : ∀ x rest, wordsE e = x :: rest → atI ((pre ++ (wordsE e ++ post)).map D.str) ((pre.length : Nat) : Int) = some (.str x) := fun x rest hx => atI_nat (by rw [hx, List.getElem?_map, List.getElem?_append_right (Nat.le_refl _), Nat.sub_self]; rfl)
    have hwk : lst_WORKINGS = opsL := rfl
    have e98 : ∀ b : Bool, b = b := fun _ => rfl
    have hplain : ∀ x, wordsE e = [x] → isPlainE e → Q (.tup [e.d, .int ((pre.length : Int) + 1)]) M := fun x hx _ => by
      have := h
      rw [hx] at this
      exact this
    have hdeep : ∀ e : Ex, 1 ≤ e.deep := fun e => by cases e <;> unfold Ex.deep <;> omega
    walk_at "vc"
    rw [if_neg (by omega)]
    have shape : (∃ x, wordsE e = [x] ∧ isPlainE e) ∨ (∃ e1, e = .box e1) ∨ ∃ o a b, e = .op o a b := by
      cases e with
      | box e1 => exact .inr (.inl ⟨e1, rfl⟩)
      | op o a b => exact .inr (.inr ⟨o, a, b, rfl⟩)
      | _ => exact .inl ⟨_, rfl, trivial⟩
    rcases shape with ⟨x, hx, hpl⟩ | ⟨e1, rfl⟩ | ⟨o, a, b, rfl⟩
    · obtain ⟨h1, h2⟩ := plain_word hpl hw hx
      rw [hat x [] hx, oSome_i, show dScal (D.str x) (D.str (Str.ofString "box")) = some (x == "box") from rfl, oSome_i, show (x == ("box" : Str)) = false from by simpa using h1, if_pos rfl]
      refine ⟨rfl, all_ws, ?_⟩
      rw [any_ws, hwk, decide_eq_false h2, if_pos rfl]
      exact ⟨e, x, rfl, hx, hpl, hw, hplain x hx hpl⟩
    · have hd1 : e1.deep + 1 ≤ room + 1 := hd
      have := hdeep e1
      have hlist : pre ++ (wordsE (.box e1) ++ post) = (pre ++ [("box" : Str)]) ++ (wordsE e1 ++ post) := by simp [wordsE]
      rw [hat "box" (wordsE e1) rfl, oSome_i, show dScal (D.str "box") (D.str (Str.ofString "box")) = some true from by decide +kernel, oSome_i, if_neg (fun z => by cases z), if_neg (by omega)]
      refine ⟨pre ++ [("box" : Str)], post, e1, room - 1, by rw [hlist, List.length_append, List.length_singleton, show ((room : Nat) : Int) - 1 = ((room - 1 : Nat) : Int) by omega]; rfl, by omega, by omega, hw, by rw [← hlist]; exact hl, ?_⟩
      dsimp only
      walk_at "vc"
      have hz : pre.length + (wordsE (.box e1)).length = pre.length + 1 + (wordsE e1).length := by simp [wordsE]; omega
      rw [hz] at h
      exact h
    · have hd1 : max a.deep b.deep + 1 ≤ room + 1 := hd
      have := hdeep a
      have hlist : pre ++ (wordsE (.op o a b) ++ post) = (pre ++ [o.s]) ++ (wordsE a ++ (wordsE b ++ post)) := by simp [wordsE]
      have hlist2 : pre ++ (wordsE (.op o a b) ++ post) = (pre ++ o.s :: wordsE a) ++ (wordsE b ++ post) := by simp [wordsE]
      have hnb : (o.s == ("box" : Str)) = false := by cases o <;> decide +kernel
      have hin : o.s ∈ opsL := by cases o <;> decide +kernel
      rw [hat o.s (wordsE a ++ wordsE b) rfl, oSome_i, show dScal (D.str o.s) (D.str (Str.ofString "box")) = some (o.s == "box") from rfl, oSome_i, hnb, if_pos rfl]
      refine ⟨rfl, all_ws, ?_⟩
      rw [any_ws, hwk, decide_eq_true hin, if_neg (fun z => by cases z), if_neg (by omega)]
      refine ⟨pre ++ [o.s], wordsE b ++ post, a, room - 1, by rw [hlist, List.length_append, List.length_singleton, show ((room : Nat) : Int) - 1 = ((room - 1 : Nat) : Int) by omega]; rfl, by omega, by omega, hw.1, by rw [← hlist]; exact hl, ?_⟩
      dsimp only
      walk_at "vc"
      refine ⟨pre ++ o.s :: wordsE a, post, b, room - 1, by rw [hlist2, show ((room : Nat) : Int) - 1 = ((room - 1 : Nat) : Int) by omega, show pre.length + 1 + (wordsE a).length = (pre ++ o.s :: wordsE a).length by simp; omega], by omega, by omega, hw.2, by rw [← hlist2]; exact hl, ?_⟩
      dsimp only
      walk_at "vc"
      have hz : pre.length + (wordsE (.op o a b)).length = pre.length + ((wordsE a).length + 1) + (wordsE b).length := by simp [wordsE]; omega
      rw [hz] at h
      exact h
def spExprsAt : SpT := fun ds M Q _ => ∃ (pre : List Str) (es : List Ex), ds = [.lst ((pre ++ es.flatMap wordsE).map .str), .int (pre.length : Nat)] ∧ (∀ e ∈ es, e.deep ≤ 7 ∧ okW e) ∧ (pre ++ es.flatMap wordsE).length ≤ 100000 ∧ Q (.lst (es.map Ex.d)) M
theorem ok_expressions_at (T : Tp K mg) : Fn P w K mg base CX0 13 "expressions_at" spExprsAt := by
  refine fn_top T.top 27 e_expressions_at (m_expressions_at T) sc_expressions_at (by rintro _ M Q Et ⟨_, n, rfl, _⟩; rfl) (fun cdv A outer s H E hr => ⟨_, (qss_cons (qs_set (i := 2) sc_expressions_at.nd (q_lstM qa_nil))
 (qss_cons (qs_while PassesOwn.never (qt_cmp oq_lt (qv 1) (q_callB cq_len (m_len T) (by decide +kernel) (qa_cons (qv 0) qa_nil)))
  (qss_cons (qs_asg (q_call (ok_expression_at T 7) (hr.mono (by decide)) (qa_cons (qv 0) (qa_cons (qv 1) (qa_cons (q_gint (m_DEEPEST T)) qa_nil)))) (qg_tup (n := 2) rfl (qgs_cons (qg_name (i := 3) sc_expressions_at.nd) (qgs_cons (qg_name (i := 1) sc_expressions_at.nd) qgs_nil))))
 (qss_one (qs_expr (q_append (qv 2) (qa_cons (qv 3) qa_nil))))))
 (qss_one (qs_ret (q_re (qv 2)))))), ?_⟩) (fun _ _ _ _ _ _ us hl => match us, hl with | [_, _], _ => rfl)
  rintro _ M Q Et ⟨pre, es, rfl, hes, hl, h⟩
  have hpos : ∀ e : Ex, 1 ≤ (wordsE e).length := fun e => by
    cases hc : wordsE e with
    | nil => exact absurd hc (words_ne e)
    | cons => simp
  have hfl : ∀ as : List Ex, as.length ≤ (as.flatMap wordsE).length := fun as => by
    induction as with
    | nil => exact Nat.zero_le _
    | cons a t ih => rw [List.flatMap_cons, List.length_append, List.length_cons]; have := hpos a; omega
  walk_at "vc"
  intro p hp
  refine wh_any (fun m τ M1 => ∃ (as bs : List Ex) (v3 : Option D), es = as ++ bs ∧ m = bs.length ∧ M1 = mup M p (.lst (as.map Ex.d)) ∧ τ = [some (.lst ((pre ++ es.flatMap wordsE).map .str)), some (.int ((pre ++ as.flatMap wordsE).length : Nat)), some (.ref p), v3]) es.length ⟨[], es, none, rfl, rfl, rfl, by simp⟩ ?_
  rintro m τ M1 ⟨as, bs, v3, hab, rfl, rfl, rfl⟩
  cases bs with
  | nil =>
    rw [List.append_nil] at hab
    subst hab
    walk_at "vc"
    rw [if_neg (by simp)]
    exact ⟨_, _, ReR.made hp, h⟩
  | cons e bs =>
    have hall : pre ++ es.flatMap wordsE = (pre ++ as.flatMap wordsE) ++ (wordsE e ++ bs.flatMap wordsE) := by rw [hab]; simp
    obtain ⟨he1, he2⟩ := hes e (by rw [hab]; simp)
    have hp1 := hpos e
    have hasl : as.length ≤ 100000 := by
      have h1 := hfl as
      rw [hall] at hl
      simp only [List.length_append] at hl
      omega
    have hlt : (pre ++ as.flatMap wordsE).length < (pre ++ es.flatMap wordsE).length := by
      rw [hall]
      simp only [List.length_append]
      omega
    simp only [List.length_append] at hlt
    walk_at "vc"
    rw [if_pos (by simp only [List.length_append, List.length_map] at *; omega)]
    refine ⟨pre ++ as.flatMap wordsE, bs.flatMap wordsE, e, 6, by rw [hall]; simp, by omega, by omega, he2, by rw [← hall]; exact hl, ?_⟩
    dsimp only
    walk_at "vc"
    refine ⟨by omega, bs.length, by omega, as ++ [e], bs, _, by rw [hab]; simp, rfl, by rw [List.map_append]; rfl, ?_, rfl⟩
    rw [List.flatMap_append, List.flatMap_singleton, List.length_append, Nat.add_assoc]
end
end K23
local macro_rules | `(tactic| walk_at "vc") => `(tactic| simp only [Tl.ugLs, Tl.uEnS, Tl.utLnT, Tl.utSm, Tl.umSplit, Tl.umStarts, Tl.umJoin, Tl.ucStr, Tl.ucIntS, Tl.ubInS, Tl.uZiT, Tl.uDisp1, Tl.uIsB, Tl.uSortDI, Tl.op_lane, Tl.op_lanes, Tl.op_mine, Tl.op_num, Tl.op_name, Tl.op_box, Tl.cut_tail, Tl.val_name, Tl.val_row, Tl.val_def, Tl.val_back, Tl.ofS_inj, String.reduceEq, Tl.uDic, Tl.oDA_ki, Tl.oDA_ks, Tl.oDA_t, Tl.oPA_ki, Tl.oPA_ks, Tl.oPA_t, Tl.consK_s, Tl.kT_nil, Tl.kT_i, Tl.kT_s, Tl.uzDict, Tl.uIn, Tl.uRepS, Tl.uRep, Tl.uRepM, Tl.uCatT, Tl.uSlT, Tl.oLD_k, Tl.oLD_t, Tl.uLenD, Tl.z_tDnK, Tl.z_tDnT, Tl.z_tDg, Tl.z_tDi, Tl.z_tDg2, Tl.z_tRe, Tl.z_sRe, Tl.wip, Tl.uObj, Tl.oAt_i, Tl.cxK, Tl.cxKn, true_or, or_true, or_false, false_or, Nat.zero_le, Nat.le_refl, Tl.mup_same, Tl.mup_mup, Tl.uAlt, Tl.z_tFd, Tl.z_sFd, Tl.z_sFa, Tl.z_tMe, Tl.z_tMk, Tl.nthD, Tl.putD, Tl.uFo, Tl.uLcF, Tl.uLcV', Tl.uAsRef, Tl.z_sNx, Tl.z_sSq, Tl.z_sBk, Tl.z_sCt, Tl.z_sDr, Tl.z_sRt, Tl.z_sRtN, Tl.z_sIf, Tl.z_sAs, Tl.z_gN, Tl.z_gSb, Tl.z_tK, Tl.z_tO, Tl.z_tU, Tl.z_tCa, Tl.z_tN, Tl.z_tCs, Tl.z_tAn, Tl.tOr', Tl.z_tNo, Tl.z_tIfE, Tl.z_tCl, Tl.z_tTu, Tl.z_tLi, Tl.z_tLm, Tl.z_tSc, Tl.z_oNo, Tl.z_tMt, Tl.z_tMt0, Tl.z_tYe, Tl.z_tLt, Tl.kit_ii, Tl.kit_ib, Tl.kit_bi, Tl.kit_bb, Tl.kit_si, Tl.kit_ss, Tl.kit_is, Tl.kit_tt, Tl.kit_ll, Tl.kit_lt, Tl.kit_tl, Tl.kit_ts, Tl.kit_ls, Tl.kit_sl, Tl.kit_st, Tl.kit_it, Tl.kit_il, Tl.kit_dd, Tl.kit_ni, Tl.kit_nb, Tl.begin_, Tl.nth, List.map, List.length, List.replicate, List.append, List.set, List.nil_append, List.cons_append, List.append_nil, Nat.reduceAdd, Nat.reduceSub, Nat.zero_add, reduceIte, Bool.false_eq_true, Bool.true_eq_false, Bool.not_eq_true', Bool.not_eq_false', Bool.not_true, Bool.not_false, not_true_eq_false, not_false_eq_true, decide_eq_true_eq, decide_eq_false_iff_not, decide_not, Option.isSome_some, true_and, and_true, Int.reduceLT, Int.reduceLE, Int.reduceNeg, List.cons.injEq, Option.some.injEq, PySem.sizeLine_eq, Nat.reduceLeDiff, List.length_map, List.length_append, List.length_cons, List.length_nil, Tl.oBl_i, Tl.oInt_i, Tl.oStr_i, Tl.oTup_i, Tl.oSome_i, Tl.oBl_if, Tl.uV, Tl.uBo, Tl.uAnV, Tl.uOrV, Tl.uNoV, Tl.uCh, Tl.uNl0, Tl.uCs1, Tl.uTp, Tl.uAg, Tl.uInt, Tl.uInt0, Tl.uNegI, Tl.uEq, Tl.uNe, Tl.dScal_ii, Tl.dScal_ss, Tl.dScal_bb, Tl.dScal_nn, Tl.dScal_ni, Tl.dScal_in, Tl.dScal_is, Tl.dScal_si, Tl.uIsN, Tl.uNotN, Tl.nonD_n, Tl.nonD_i, Tl.nonD_s, Tl.nonD_t, Tl.nonD_l, Tl.nonD_b, Tl.nonD_r, Tl.uCatS, Tl.uCatL, Tl.uCatM, Tl.lstOf_l, Tl.lstOf_c, Tl.lstOf_m, Tl.trkOf_l, Tl.trkOf_m, Tl.tupOf_t, Tl.tupOf_b, Tl.seqOf_t, Tl.seqOf_b, Tl.seqOf_l, Tl.seqOf_c, Tl.seqOf_r, Tl.uIx_t, Tl.uIx_b, Tl.uIx_l, Tl.uIx_c, Tl.uIx_s, Tl.uIx_r, Tl.uYes, Tl.uSlL, Tl.uSlM, Tl.uSlS, Tl.uIsi, Tl.dTy_n, Tl.dTy_b, Tl.dTy_i, Tl.dTy_s, Tl.dTy_t, Tl.dTy_l, Tl.uLen, Tl.lenOf_t, Tl.lenOf_b, Tl.lenOf_l, Tl.lenOf_c, Tl.lenOf_m, Tl.uIntI, Tl.uIntB, Tl.uLs, Tl.uTu, Tl.oL1_i, Tl.oL2_i, Tl.oL3_i, Tl.uR1, Tl.uR2, Tl.uR3, Tl.uEn, Tl.uZi, Tl.uSt, Tl.uRv, Tl.uDivmod, Tl.uList, Tl.uListM, Tl.uSum, Tl.uMax, Tl.uMin, Tl.intLst_l, Tl.intLst_c, Tl.blLst_l, Tl.uMax2, Tl.uMin2, Tl.uAbs, Tl.uAny, Tl.uAll, Tl.mLst_m, Tl.uAppend, Tl.uExtend, Tl.uPop, Tl.uSet, Tl.lMt_l, Tl.isS_m, Tl.atI_0, Tl.atI_1, Tl.atI_2, Tl.atI_3, Tl.atI_4, Tl.atI_5])
local macro_rules | `(tactic| walk_at "vh") => `(tactic| simp only [Tl.ugLs, Tl.uEnS, Tl.utLnT, Tl.utSm, Tl.umSplit, Tl.umStarts, Tl.umJoin, Tl.ucStr, Tl.ucIntS, Tl.ubInS, Tl.uZiT, Tl.uDisp1, Tl.uIsB, Tl.uSortDI, Tl.op_lane, Tl.op_lanes, Tl.op_mine, Tl.op_num, Tl.op_name, Tl.op_box, Tl.cut_tail, Tl.val_name, Tl.val_row, Tl.val_def, Tl.val_back, Tl.ofS_inj, String.reduceEq, Tl.uDic, Tl.oDA_ki, Tl.oDA_ks, Tl.oDA_t, Tl.oPA_ki, Tl.oPA_ks, Tl.oPA_t, Tl.consK_s, Tl.kT_nil, Tl.kT_i, Tl.kT_s, Tl.uzDict, Tl.uIn, Tl.uRepS, Tl.uRep, Tl.uRepM, Tl.uCatT, Tl.uSlT, Tl.oLD_k, Tl.oLD_t, Tl.uLenD, Tl.z_tDnK, Tl.z_tDnT, Tl.z_tDg, Tl.z_tDi, Tl.z_tDg2, Tl.z_tRe, Tl.z_sRe, Tl.wip, Tl.uObj, Tl.oAt_i, Tl.cxK, Tl.cxKn, true_or, or_true, or_false, false_or, Nat.zero_le, Nat.le_refl, Tl.mup_same, Tl.mup_mup, Tl.uAlt, Tl.z_tFd, Tl.z_sFd, Tl.z_sFa, Tl.z_tMe, Tl.z_tMk, Tl.nthD, Tl.putD, Tl.uFo, Tl.uLcF, Tl.uLcV', Tl.uAsRef, Tl.z_sNx, Tl.z_sSq, Tl.z_sBk, Tl.z_sCt, Tl.z_sDr, Tl.z_sRt, Tl.z_sRtN, Tl.z_sIf, Tl.z_sAs, Tl.z_gN, Tl.z_gSb, Tl.z_tK, Tl.z_tO, Tl.z_tU, Tl.z_tCa, Tl.z_tN, Tl.z_tCs, Tl.z_tAn, Tl.tOr', Tl.z_tNo, Tl.z_tIfE, Tl.z_tCl, Tl.z_tTu, Tl.z_tLi, Tl.z_tLm, Tl.z_tSc, Tl.z_oNo, Tl.z_tMt, Tl.z_tMt0, Tl.z_tYe, Tl.z_tLt, Tl.kit_ii, Tl.kit_ib, Tl.kit_bi, Tl.kit_bb, Tl.kit_si, Tl.kit_ss, Tl.kit_is, Tl.kit_tt, Tl.kit_ll, Tl.kit_lt, Tl.kit_tl, Tl.kit_ts, Tl.kit_ls, Tl.kit_sl, Tl.kit_st, Tl.kit_it, Tl.kit_il, Tl.kit_dd, Tl.kit_ni, Tl.kit_nb, Tl.begin_, Tl.nth, List.map, List.length, List.replicate, List.append, List.set, List.nil_append, List.cons_append, List.append_nil, Nat.reduceAdd, Nat.reduceSub, Nat.zero_add, reduceIte, Bool.false_eq_true, Bool.true_eq_false, Bool.not_eq_true', Bool.not_eq_false', Bool.not_true, Bool.not_false, not_true_eq_false, not_false_eq_true, decide_eq_true_eq, decide_eq_false_iff_not, decide_not, Option.isSome_some, true_and, and_true, Int.reduceLT, Int.reduceLE, Int.reduceNeg, List.cons.injEq, Option.some.injEq, PySem.sizeLine_eq, Nat.reduceLeDiff, List.length_map, List.length_append, List.length_cons, List.length_nil, Tl.oBl_i, Tl.oInt_i, Tl.oStr_i, Tl.oTup_i, Tl.oSome_i, Tl.oBl_if, Tl.uV, Tl.uBo, Tl.uAnV, Tl.uOrV, Tl.uNoV, Tl.uCh, Tl.uNl0, Tl.uCs1, Tl.uTp, Tl.uAg, Tl.uInt, Tl.uInt0, Tl.uNegI, Tl.uEq, Tl.uNe, Tl.dScal_ii, Tl.dScal_ss, Tl.dScal_bb, Tl.dScal_nn, Tl.dScal_ni, Tl.dScal_in, Tl.dScal_is, Tl.dScal_si, Tl.uIsN, Tl.uNotN, Tl.nonD_n, Tl.nonD_i, Tl.nonD_s, Tl.nonD_t, Tl.nonD_l, Tl.nonD_b, Tl.nonD_r, Tl.uCatS, Tl.uCatL, Tl.uCatM, Tl.lstOf_l, Tl.lstOf_c, Tl.lstOf_m, Tl.trkOf_l, Tl.trkOf_m, Tl.tupOf_t, Tl.tupOf_b, Tl.seqOf_t, Tl.seqOf_b, Tl.seqOf_l, Tl.seqOf_c, Tl.seqOf_r, Tl.uIx_t, Tl.uIx_b, Tl.uIx_l, Tl.uIx_c, Tl.uIx_s, Tl.uIx_r, Tl.uYes, Tl.uSlL, Tl.uSlM, Tl.uSlS, Tl.uIsi, Tl.dTy_n, Tl.dTy_b, Tl.dTy_i, Tl.dTy_s, Tl.dTy_t, Tl.dTy_l, Tl.uLen, Tl.lenOf_t, Tl.lenOf_b, Tl.lenOf_l, Tl.lenOf_c, Tl.lenOf_m, Tl.uIntI, Tl.uIntB, Tl.uLs, Tl.uTu, Tl.oL1_i, Tl.oL2_i, Tl.oL3_i, Tl.uR1, Tl.uR2, Tl.uR3, Tl.uEn, Tl.uZi, Tl.uSt, Tl.uRv, Tl.uDivmod, Tl.uList, Tl.uListM, Tl.uSum, Tl.uMax, Tl.uMin, Tl.intLst_l, Tl.intLst_c, Tl.blLst_l, Tl.uMax2, Tl.uMin2, Tl.uAbs, Tl.uAny, Tl.uAll, Tl.mLst_m, Tl.uAppend, Tl.uExtend, Tl.uPop, Tl.uSet, Tl.lMt_l, Tl.isS_m, Tl.atI_0, Tl.atI_1, Tl.atI_2, Tl.atI_3, Tl.atI_4, Tl.atI_5, *])
namespace K23
open PySem PySem.Spec PyProof.Rows L2 Tl
section
variable {P : Program} {w : World} {K : PySem.W.Frag} {mg : Str → Option Value} {base : Heap}
def spNameAt : SpT := fun ds M Q _ => ∃ (ws : List Str) (k : Nat) (x : Str), ds = [.lst (ws.map .str), .int (k : Nat)] ∧ ws[k]? = some x ∧ okName x ∧ ws.length ≤ 100000 ∧ Q (.str x) M
theorem ok_name_at (T : Tp K mg) : Fn P w K mg base CX0 3 "name_at" spNameAt := by
  refine fn_top T.top 28 e_name_at (m_name_at T) sc_name_at (by rintro _ M Q Et ⟨_, n, _, rfl, _⟩; rfl) (fun cdv A outer s H E hr => ⟨_, (qss_cons (qs_if (qt_w (qw_or (qt_cmp oq_ge (qv 1) (q_callB cq_len (m_len T) (by decide +kernel) (qa_cons (qv 0) qa_nil))) (qw_or1 (qt_not (qt_val (q_call (ok_is_name T) (hr.mono (by decide)) (qa_cons (q_ix (qv 0) (qv 1)) qa_nil)))))))
  (qss_one qs_never)
  qss_nil)
 (qss_one (qs_ret (q_ix (qv 0) (qv 1))))), ?_⟩) (fun _ _ _ _ _ _ us hl => match us, hl with | [_, _], _ => rfl)
  rintro _ M Q Et ⟨ws, k, x, rfl, hk, hx, hl, h⟩
  have hlt : k < ws.length := (List.getElem?_eq_some_iff.mp hk).1
  have hat : atI (ws.map D.str) (k : Int) = some (.str x) := atI_nat (by rw [List.getElem?_map, hk]; rfl)
  walk_at "vc"
  rw [if_neg (by omega), hat]
  simp only [oSome_i]
  refine ⟨x, rfl, by have := hx.1.2.1; omega, ?_⟩
  rw [decide_eq_true hx]
  walk_at "vc"
  exact h
def spJust : SpT := fun ds M Q _ => ∃ (pre : List Str) (es : List Ex), ds = [.lst ((pre ++ es.flatMap wordsE).map .str), .int (pre.length : Nat), .int (es.length : Nat)] ∧ (∀ e ∈ es, okXp e) ∧ (pre ++ es.flatMap wordsE).length ≤ 100000 ∧ es.length ≤ 100 ∧ Q (.lst (es.map Ex.d)) M
theorem ok_just_so_many (T : Tp K mg) : Fn P w K mg base CX0 14 "just_so_many" spJust := by
  refine fn_top T.top 29 e_just_so_many (m_just_so_many T) sc_just_so_many (by rintro _ M Q Et ⟨_, n, rfl, _⟩; rfl) (fun cdv A outer s H E hr => ⟨_, (qss_cons (qs_set (i := 3) sc_just_so_many.nd (q_call (ok_expressions_at T) (hr.mono (by decide)) (qa_cons (qv 0) (qa_cons (qv 1) qa_nil))))
 (qss_cons (qs_if (qt_cmp oq_ne (q_callB cq_len (m_len T) (by decide +kernel) (qa_cons (qv 3) qa_nil)) (qv 2))
  (qss_one qs_never)
  qss_nil)
 (qss_one (qs_ret (qv 3))))), ?_⟩) (fun _ _ _ _ _ _ us hl => match us, hl with | [_, _, _], _ => rfl)
  rintro _ M Q Et ⟨pre, es, rfl, hes, hl, hn, h⟩
  walk_at "vc"
  refine ⟨pre, es, rfl, fun e he => ⟨(hes e he).2, (hes e he).1⟩, hl, ?_⟩
  dsimp only
  walk_at "vc"
  exact h
def spSix : SpT := fun ds M Q _ => ∃ l : List D, ds = [.lst l] ∧ l.length ≤ 6 ∧ Q (.lst l) M
theorem ok_six_at_most (T : Tp K mg) : Fn P w K mg base CX0 1 "six_at_most" spSix := by
  refine fn_top T.top 30 e_six_at_most (m_six_at_most T) sc_six_at_most (by rintro _ M Q Et ⟨n, rfl, _⟩; rfl) (fun cdv A outer s H E hr => ⟨_, (qss_cons (qs_if (qt_cmp oq_gt (q_callB cq_len (m_len T) (by decide +kernel) (qa_cons (qv 0) qa_nil)) (q_gint (m_MOST_lines T)))
  (qss_one qs_never)
  qss_nil)
 (qss_one (qs_ret (qv 0)))), ?_⟩) (fun _ _ _ _ _ _ us hl => match us, hl with | [_], _ => rfl)
  rintro _ M Q Et ⟨l, rfl, hl, h⟩
  walk_at "vc"
  rw [if_neg (by omega)]
  exact h
theorem just_one {pre : List Str} {e : Ex} {M : MH} {Q : VD} {Et : XT} (he : okXp e) (hl : pre.length ≤ 1000) (h : Q (.lst [e.d]) M) : spJust [.lst (pre.map .str ++ (wordsE e).map .str), .int (pre.length : Nat), .int 1] M Q Et := by
  have := okXp_len he
  exact ⟨pre, [e], by simp, fun x hx => by rw [List.mem_singleton.mp hx]; exact he, by simp; omega, by simp, h⟩
def spJoining : SpT := fun ds M Q _ => ∃ (x v : Str) (e : Ex), ds = [.lst (("join" :: x :: v :: wordsE e : List Str).map .str)] ∧ okName x ∧ v ∈ joinL ∧ okXp e ∧ Q (.tup [.str "join", .str x, .str v, e.d]) M
theorem ok_joining_of (T : Tp K mg) : Fn P w K mg base CX0 15 "joining_of" spJoining := by
  refine fn_top T.top 31 e_joining_of (m_joining_of T) sc_joining_of (by rintro _ M Q Et ⟨_, _, n, rfl, _⟩; rfl) (fun cdv A outer s H E hr => ⟨_, (qss_cons (qs_set (i := 1) sc_joining_of.nd (q_call (ok_name_at T) (hr.mono (by decide)) (qa_cons (qv 0) (qa_cons q_int qa_nil))))
 (qss_cons (qs_if (qt_w (qw_or (qt_cmp oq_lt (q_callB cq_len (m_len T) (by decide +kernel) (qa_cons (qv 0) qa_nil)) q_int) (qw_or1 (qt_cmp oq_inQN (q_ix (qv 0) q_int) (q_gref (m_JOININGS T) (tab_JOININGS T))))))
  (qss_one qs_never)
  qss_nil)
 (qss_one (qs_ret (q_tup (qa_cons q_str (qa_cons (qv 1) (qa_cons (q_ix (qv 0) q_int) (qa_cons (q_ix (q_call (ok_just_so_many T) (hr.mono (by decide)) (qa_cons (qv 0) (qa_cons q_int (qa_cons q_int qa_nil)))) q_int) qa_nil))))))))), ?_⟩) (fun _ _ _ _ _ _ us hl => match us, hl with | [_], _ => rfl)
  rintro _ M Q Et ⟨x, v, e, rfl, hx, hv, he, h⟩
  have hj : lst_JOININGS = joinL := rfl
  have hlen := okXp_len he
  walk_at "vc"
  refine ⟨"join" :: x :: v :: wordsE e, 1, x, rfl, rfl, hx, by simp only [List.length_cons]; omega, ?_⟩
  dsimp only
  rw [if_neg (by omega)]
  refine ⟨rfl, all_ws, ?_⟩
  rw [any_ws, hj, decide_eq_true hv, if_neg (by decide)]
  refine just_one (pre := ["join", x, v]) he (by simp) ?_
  walk_at "vc"
  exact h
def spNamed : SpT := fun ds M Q _ => ∃ l : Lin, ds = [.lst (l.words.map .str)] ∧ l.ok ∧ l.named ∧ Q l.d M
theorem ok_named_of (T : Tp K mg) : Fn P w K mg base CX0 16 "named_of" spNamed := by
  refine fn_top T.top 32 e_named_of (m_named_of T) sc_named_of (by rintro _ M Q Et ⟨n, rfl, _⟩; rfl) (fun cdv A outer s H E hr => ⟨_, (qss_cons (qs_if (qt_cmp oq_eq (q_ix (qv 0) q_int) q_str)
  (qss_one (qs_ret (q_call (ok_joining_of T) (hr.mono (by decide)) (qa_cons (qv 0) qa_nil))))
  qss_nil)
 (qss_cons (qs_set (i := 1) sc_named_of.nd (q_call (ok_name_at T) (hr.mono (by decide)) (qa_cons (qv 0) (qa_cons q_int qa_nil))))
 (qss_cons (qs_if (qt_cmp oq_eq (q_ix (qv 0) q_int) q_str)
  (qss_one (qs_ret (q_tup (qa_cons q_str (qa_cons (qv 1) (qa_cons (q_ix (q_call (ok_just_so_many T) (hr.mono (by decide)) (qa_cons (qv 0) (qa_cons q_int (qa_cons q_int qa_nil)))) q_int) qa_nil))))))
  qss_nil)
 (qss_cons (qs_if (qt_cmp oq_eq (q_ix (qv 0) q_int) q_str)
  (qss_one (qs_ret (q_tup (qa_cons q_str (qa_cons (qv 1) (qa_cons (q_call (ok_six_at_most T) (hr.mono (by decide)) (qa_cons (q_lc rfl sc_named_of.nd (qi_range2 (m_range T) (qa_cons q_int (qa_cons (q_callB cq_len (m_len T) (by decide +kernel) (qa_cons (qv 0) qa_nil)) qa_nil))) (blkOk_by (N := nm_named_of) (sc := defScope s_named_of) (own := [(("at" : Str), 2)]) (by decide +kernel)) go_name (fun _ _ _ _ _ => (pg_name (i := 2) sc_named_of.nd rfl (Or.inl rfl))) (fun _ _ _ _ _ => qts_nil) (fun _ _ _ _ _ => (q_call (ok_name_at T) (hr.mono (by decide)) (qa_cons (qv 0) (qa_cons (qv 2) qa_nil))))) qa_nil)) qa_nil))))))
  qss_nil)
 (qss_one (qs_ret (q_tup (qa_cons q_str (qa_cons (qv 1) (qa_cons (q_call (ok_name_at T) (hr.mono (by decide)) (qa_cons (qv 0) (qa_cons q_int qa_nil))) (qa_cons (q_call (ok_six_at_most T) (hr.mono (by decide)) (qa_cons (q_call (ok_expressions_at T) (hr.mono (by decide)) (qa_cons (qv 0) (qa_cons q_int qa_nil))) qa_nil)) qa_nil))))))))))), ?_⟩) (fun _ _ _ _ _ _ us hl => match us, hl with | [_], _ => rfl)
  rintro _ M Q Et ⟨l, rfl, hok, hnm, h⟩
  have hlen := (lin_wd hok).2
  match l, hok, hnm, h, hlen with
  | .dff x ps, hok, _, h, hlen =>
    unfold Lin.words at hlen ⊢
    simp only [List.length_cons] at hlen
    walk_at "vc"
    refine ⟨"def" :: x :: ps, 1, x, rfl, rfl, hok.1, by simp only [List.length_cons]; omega, ?_⟩
    dsimp only
    refine ⟨by omega, ?_⟩
    rw [show (((ps.length + 1 + 1 : Nat) : Int) - 2).toNat = ps.length by omega]
    refine lc_map (List.range ps.length) (fun k => D.int (2 + (k : Nat))) (fun k => D.str (ps.getD k "")) rfl (by rw [List.length_range, sizeLine_eq]; omega) trivial (fun k R1 R0 hk h1 => ?_) ?_
    · rw [List.mem_range] at hk
      walk_at "vc"
      have hg : ps[k]? = some (ps.getD k "") := by rw [List.getD_eq_getElem?_getD, List.getElem?_eq_getElem hk]; rfl
      refine ⟨"def" :: x :: ps, 2 + k, ps.getD k "", by rw [show ((2 + k : Nat) : Int) = 2 + (k : Int) by omega]; rfl, by rw [Nat.add_comm]; exact hg, hok.2.2 _ (List.mem_of_getElem? hg), by simp only [List.length_cons]; omega, h1⟩
    · rw [show (List.range ps.length).map (fun k => D.str (ps.getD k "")) = ps.map D.str by
        conv => rhs; rw [← range_getD ("" : Str) ps, List.map_map]
        rfl]
      exact ⟨ps.map .str, rfl, by rw [List.length_map]; exact hok.2.1, h⟩
  | .pln (.set l x e), hok, _, h, hlen =>
    unfold Lin.words Sm.word Sm.wrds at hlen ⊢
    simp only [List.length_cons] at hlen
    walk_at "vc"
    refine ⟨"set" :: x :: wordsE e, 1, x, rfl, rfl, hok.1, by simp only [List.length_cons]; omega, ?_⟩
    refine just_one (pre := ["set", x]) hok.2 (by simp) ?_
    walk_at "vc"
    exact h
  | .pln (.join l x v e), hok, _, h, hlen =>
    unfold Lin.words Sm.word Sm.wrds
    walk_at "vc"
    exact ⟨x, v, e, rfl, hok.1, hok.2.1, hok.2.2, h⟩
  | .pln (.call l x f es), hok, _, h, hlen =>
    unfold Lin.words Sm.word Sm.wrds at hlen ⊢
    simp only [List.length_cons] at hlen
    walk_at "vc"
    refine ⟨"call" :: x :: f :: es.flatMap wordsE, 1, x, rfl, rfl, hok.1, by simp only [List.length_cons]; omega, ?_⟩
    refine ⟨"call" :: x :: f :: es.flatMap wordsE, 2, f, rfl, rfl, hok.2.1, by simp only [List.length_cons]; omega, ?_⟩
    refine ⟨["call", x, f], es, rfl, fun e he => ⟨(hok.2.2.2 e he).2, (hok.2.2.2 e he).1⟩, by simp only [List.length_append, List.length_cons, List.length_nil]; omega, ?_⟩
    exact ⟨es.map Ex.d, rfl, by rw [List.length_map]; exact hok.2.2.1, h⟩
  | .iff _, _, q, _, _ => exact q.elim
  | .whl _, _, q, _, _ => exact q.elim
  | .els, _, q, _, _ => exact q.elim
  | .fin, _, q, _, _ => exact q.elim
  | .pln (.put ..), _, q, _, _ => exact q.elim
  | .pln (.tell ..), _, q, _, _ => exact q.elim
  | .pln (.ret ..), _, q, _, _ => exact q.elim
  | .pln (.stop _), _, q, _, _ => exact q.elim
  | .pln (.brk _), _, q, _, _ => exact q.elim
  | .pln (.agn _), _, q, _, _ => exact q.elim
  | .pln (.meet _), _, q, _, _ => exact q.elim
  | .pln (.if1 ..), _, q, _, _ => exact q.elim
  | .pln (.if2 ..), _, q, _, _ => exact q.elim
  | .pln (.whl ..), _, q, _, _ => exact q.elim
def spParts : SpT := fun ds M Q _ => ∃ l : Lin, ds = [.str l.txt] ∧ l.ok ∧ Q l.d M
theorem ok_parts_of (T : Tp K mg) : Fn P w K mg base CX0 17 "parts_of" spParts := by
  refine fn_top T.top 33 e_parts_of (m_parts_of T) sc_parts_of (by rintro _ M Q Et ⟨n, rfl, _⟩; rfl) (fun cdv A outer s H E hr => ⟨_, (qss_cons (qs_set (i := 1) sc_parts_of.nd (q_split (qv 0) q_str))
 (qss_cons (qs_set (i := 2) sc_parts_of.nd (q_ix (qv 1) q_int))
 (qss_cons (qs_if (qt_w (qw_and (qt_cmp oq_inQ (qv 2) (q_gref (m_BARE T) (tab_BARE T))) (qw_and1 (qt_cmp oq_eq (q_callB cq_len (m_len T) (by decide +kernel) (qa_cons (qv 1) qa_nil)) q_int))))
  (qss_one (qs_ret (q_tup (qa_cons (qv 2) qa_nil))))
  qss_nil)
 (qss_cons (qs_if (qt_cmp oq_inQ (qv 2) (q_gref (m_ONES T) (tab_ONES T)))
  (qss_one (qs_ret (q_tup (qa_cons (qv 2) (qa_cons (q_ix (q_call (ok_just_so_many T) (hr.mono (by decide)) (qa_cons (qv 1) (qa_cons q_int (qa_cons q_int qa_nil)))) q_int) qa_nil)))))
  qss_nil)
 (qss_cons (qs_if (qt_cmp oq_eq (qv 2) q_str)
  (qss_cons (qs_asg (q_call (ok_just_so_many T) (hr.mono (by decide)) (qa_cons (qv 1) (qa_cons q_int (qa_cons q_int qa_nil)))) (qg_lst (n := 2) rfl (qgs_cons (qg_name (i := 3) sc_parts_of.nd) (qgs_cons (qg_name (i := 4) sc_parts_of.nd) qgs_nil))))
 (qss_one (qs_ret (q_tup (qa_cons (qv 2) (qa_cons (qv 3) (qa_cons (qv 4) qa_nil)))))))
  qss_nil)
 (qss_cons (qs_if (qt_w (qw_or (qt_cmp oq_eq (qv 2) q_str) (qw_or (qt_cmp oq_eq (qv 2) q_str) (qw_or (qt_cmp oq_eq (qv 2) q_str) (qw_or1 (qt_cmp oq_eq (qv 2) q_str))))))
  (qss_one (qs_ret (q_call (ok_named_of T) (hr.mono (by decide)) (qa_cons (qv 1) qa_nil))))
  qss_nil)
 (qss_one qs_never))))))), ?_⟩) (fun _ _ _ _ _ _ us hl => match us, hl with | [_], _ => rfl)
  rintro _ M Q Et ⟨l, rfl, hok, h⟩
  have hlen := (lin_wd hok).2
  have htl := lin_len hok
  have hb : Str.ofString " " = blank := rfl
  have hsp := lin_split hok
  walk_at "vc"
  refine ⟨by decide +kernel, by omega, ?_⟩
  rw [hb, hsp]
  have hw : ∀ v : List Str, l.words = v → v.length ≤ 800 := fun v e => by rw [← e]; exact hlen
  have nmd : l.named → spNamed [.lst (l.words.map .str)] M Q Et0 := fun q => ⟨l, rfl, hok, q, h⟩
  match l, hok, h, nmd with
  | .dff x ps, hok, h, nmd =>
    unfold Lin.words
    walk_at "vc"
    refine ⟨rfl, all_ws, ?_⟩
    rw [any_ws, show decide (Str.ofString "def" ∈ lst_BARE) = false by decide +kernel, if_neg Bool.false_ne_true]
    refine ⟨rfl, all_ws, ?_⟩
    rw [any_ws, show decide (Str.ofString "def" ∈ lst_ONES) = false by decide +kernel, if_neg Bool.false_ne_true]
    exact nmd trivial
  | .iff e, hok, h, nmd =>
    unfold Lin.words
    walk_at "vc"
    refine ⟨rfl, all_ws, ?_⟩
    rw [any_ws, show decide (Str.ofString "if" ∈ lst_BARE) = false by decide +kernel, if_neg Bool.false_ne_true]
    refine ⟨rfl, all_ws, ?_⟩
    rw [any_ws, show decide (Str.ofString "if" ∈ lst_ONES) = true by decide +kernel, if_pos rfl]
    refine just_one (pre := ["if"]) hok (by simp) ?_
    walk_at "vc"
    exact h
  | .whl e, hok, h, nmd =>
    unfold Lin.words
    walk_at "vc"
    refine ⟨rfl, all_ws, ?_⟩
    rw [any_ws, show decide (Str.ofString "while" ∈ lst_BARE) = false by decide +kernel, if_neg Bool.false_ne_true]
    refine ⟨rfl, all_ws, ?_⟩
    rw [any_ws, show decide (Str.ofString "while" ∈ lst_ONES) = true by decide +kernel, if_pos rfl]
    refine just_one (pre := ["while"]) hok (by simp) ?_
    walk_at "vc"
    exact h
  | .els, hok, h, nmd =>
    unfold Lin.words
    walk_at "vc"
    refine ⟨rfl, all_ws, ?_⟩
    rw [any_ws, show decide (Str.ofString "else" ∈ lst_BARE) = true by decide +kernel, if_pos rfl, if_pos (by decide)]
    exact h
  | .fin, hok, h, nmd =>
    unfold Lin.words
    walk_at "vc"
    refine ⟨rfl, all_ws, ?_⟩
    rw [any_ws, show decide (Str.ofString "end" ∈ lst_BARE) = true by decide +kernel, if_pos rfl, if_pos (by decide)]
    exact h
  | .pln (.set l x e), hok, h, nmd =>
    unfold Lin.words Sm.word Sm.wrds
    walk_at "vc"
    refine ⟨rfl, all_ws, ?_⟩
    rw [any_ws, show decide (Str.ofString "set" ∈ lst_BARE) = false by decide +kernel, if_neg Bool.false_ne_true]
    refine ⟨rfl, all_ws, ?_⟩
    rw [any_ws, show decide (Str.ofString "set" ∈ lst_ONES) = false by decide +kernel, if_neg Bool.false_ne_true]
    exact nmd trivial
  | .pln (.put l a b), hok, h, nmd =>
    unfold Lin.words Sm.word Sm.wrds
    walk_at "vc"
    refine ⟨rfl, all_ws, ?_⟩
    rw [any_ws, show decide (Str.ofString "put" ∈ lst_BARE) = false by decide +kernel, if_neg Bool.false_ne_true]
    refine ⟨rfl, all_ws, ?_⟩
    rw [any_ws, show decide (Str.ofString "put" ∈ lst_ONES) = false by decide +kernel, if_neg Bool.false_ne_true]
    have l1 := okXp_len hok.1
    have l2 := okXp_len hok.2
    refine ⟨["put"], [a, b], by simp, fun x hx => ?_, by simp; omega, by simp, ?_⟩
    · simp only [List.mem_cons, List.not_mem_nil, or_false] at hx
      rcases hx with rfl | rfl
      · exact hok.1
      · exact hok.2
    dsimp only
    walk_at "vc"
    exact h
  | .pln (.tell l e), hok, h, nmd =>
    unfold Lin.words Sm.word Sm.wrds
    walk_at "vc"
    refine ⟨rfl, all_ws, ?_⟩
    rw [any_ws, show decide (Str.ofString "tell" ∈ lst_BARE) = false by decide +kernel, if_neg Bool.false_ne_true]
    refine ⟨rfl, all_ws, ?_⟩
    rw [any_ws, show decide (Str.ofString "tell" ∈ lst_ONES) = true by decide +kernel, if_pos rfl]
    refine just_one (pre := ["tell"]) hok (by simp) ?_
    walk_at "vc"
    exact h
  | .pln (.ret l e), hok, h, nmd =>
    unfold Lin.words Sm.word Sm.wrds
    walk_at "vc"
    refine ⟨rfl, all_ws, ?_⟩
    rw [any_ws, show decide (Str.ofString "return" ∈ lst_BARE) = false by decide +kernel, if_neg Bool.false_ne_true]
    refine ⟨rfl, all_ws, ?_⟩
    rw [any_ws, show decide (Str.ofString "return" ∈ lst_ONES) = true by decide +kernel, if_pos rfl]
    refine just_one (pre := ["return"]) hok (by simp) ?_
    walk_at "vc"
    exact h
  | .pln (.join l x v e), hok, h, nmd =>
    unfold Lin.words Sm.word Sm.wrds
    walk_at "vc"
    refine ⟨rfl, all_ws, ?_⟩
    rw [any_ws, show decide (Str.ofString "join" ∈ lst_BARE) = false by decide +kernel, if_neg Bool.false_ne_true]
    refine ⟨rfl, all_ws, ?_⟩
    rw [any_ws, show decide (Str.ofString "join" ∈ lst_ONES) = false by decide +kernel, if_neg Bool.false_ne_true]
    exact nmd trivial
  | .pln (.call l x f es), hok, h, nmd =>
    unfold Lin.words Sm.word Sm.wrds
    walk_at "vc"
    refine ⟨rfl, all_ws, ?_⟩
    rw [any_ws, show decide (Str.ofString "call" ∈ lst_BARE) = false by decide +kernel, if_neg Bool.false_ne_true]
    refine ⟨rfl, all_ws, ?_⟩
    rw [any_ws, show decide (Str.ofString "call" ∈ lst_ONES) = false by decide +kernel, if_neg Bool.false_ne_true]
    exact nmd trivial
  | .pln (.stop l), hok, h, nmd =>
    unfold Lin.words Sm.word Sm.wrds
    walk_at "vc"
    refine ⟨rfl, all_ws, ?_⟩
    rw [any_ws, show decide (Str.ofString "stop" ∈ lst_BARE) = true by decide +kernel, if_pos rfl, if_pos (by decide)]
    exact h
  | .pln (.brk l), hok, h, nmd =>
    unfold Lin.words Sm.word Sm.wrds
    walk_at "vc"
    refine ⟨rfl, all_ws, ?_⟩
    rw [any_ws, show decide (Str.ofString "break" ∈ lst_BARE) = true by decide +kernel, if_pos rfl, if_pos (by decide)]
    exact h
  | .pln (.agn l), hok, h, nmd =>
    unfold Lin.words Sm.word Sm.wrds
    walk_at "vc"
    refine ⟨rfl, all_ws, ?_⟩
    rw [any_ws, show decide (Str.ofString "again" ∈ lst_BARE) = true by decide +kernel, if_pos rfl, if_pos (by decide)]
    exact h
  | .pln (.meet l), hok, h, nmd =>
    unfold Lin.words Sm.word Sm.wrds
    walk_at "vc"
    refine ⟨rfl, all_ws, ?_⟩
    rw [any_ws, show decide (Str.ofString "meet" ∈ lst_BARE) = true by decide +kernel, if_pos rfl, if_pos (by decide)]
    exact h
  | .pln (.if1 ..), hok, h, nmd => exact hok.elim
  | .pln (.if2 ..), hok, h, nmd => exact hok.elim
  | .pln (.whl ..), hok, h, nmd => exact hok.elim
end
end K23
namespace K23
open PySem PySem.Spec PyProof.Rows L2 Tl
section
variable {P : Program} {w : World} {K : PySem.W.Frag} {mg : Str → Option Value} {base : Heap}
abbrev CO (K : PySem.W.Frag) : Addr := He.ga K "Opened"
def spInitO (K : PySem.W.Frag) : SpT := fun ds M Q _ => ∃ (a dx : Addr) (k : Int) (l : Lin) (M0 : MH), ds = [.ref a, .int k, l.d] ∧ Cel M0 M [(a, .obj (CO K) dx fl_Opened [])] ∧
  ∀ f M', Cel M0 M' (OA.cells (CO K) fl_Opened ⟨a, f, f, dx, ⟨k, l, [], none⟩⟩) → Q .non M'
theorem ok_Opened___init (T : Tp K mg) : Fi P w K mg base CX0 1 "Opened" (spInitO K) := by
  refine fi_top T.top e_Opened___init 34 sc_Opened___init (T.top.mkr 87) (T.top.glo 88) (by rintro _ M Q Et ⟨n, _, z, _, _, rfl, _⟩; rfl) (fun cdv A outer s H E hr => ⟨_, (qss_cons (qs_fld 0 fl_Opened (c_Opened_line T) (qv 0) (qv 1))
 (qss_cons (qs_fld 1 fl_Opened (c_Opened_parts T) (qv 0) (qv 2))
 (qss_cons (qs_fld 2 fl_Opened (c_Opened_first T) (qv 0) (q_lstM qa_nil))
 (qss_one (qs_fld 3 fl_Opened (c_Opened_second T) (qv 0) q_non))))), ?_⟩) (fun _ _ _ _ _ _ us hl => match us, hl with | [_, _, _], _ => rfl)
  rintro _ M Q Et ⟨a, dx, k, l, M0, rfl, hc, h⟩
  have hM : M a = _ := hc.at_ (a, _) (List.mem_singleton.mpr rfl)
  walk_at "vh"
  intro p hp
  have hpa : a ≠ p := fun e => by rw [← e, mup_same] at hp; cases hp
  rw [mup_ne hpa]
  walk_at "vh"
  exact h p _ (OA.init_ hc hp)
def spNewest (K : PySem.W.Frag) : SpT := fun ds M Q _ => ∃ a : OA, ds = [.ref a.s] ∧ M a.s = some (a.obj (CO K) fl_Opened) ∧ Q (.ref (if a.o.c.isSome = true then a.g else a.f)) M
theorem ok_Opened_newest (T : Tp K mg) : Fm P w K mg base CX0 1 "Opened" "newest" (spNewest K) := by
  refine fm_top T.top e_Opened_newest 35 sc_Opened_newest (T.top.meth 89) (T.top.cls 75) (by rintro _ M Q Et ⟨n, rfl, _⟩; rfl) (fun cdv A outer s H E hr => ⟨_, (qss_cons (qs_if (qt_cmp oq_isN (q_fld 3 fl_Opened (c_Opened_second T) (qv 0)) q_non)
  (qss_one (qs_ret (q_fld 2 fl_Opened (c_Opened_first T) (qv 0))))
  qss_nil)
 (qss_one (qs_ret (q_fld 3 fl_Opened (c_Opened_second T) (qv 0))))), ?_⟩) (fun _ _ _ _ _ _ us hl => match us, hl with | [_], _ => rfl)
  rintro _ M Q Et ⟨a, rfl, hM, h⟩
  walk_at "vc"
  simp only [hM, OA.obj]
  walk_at "vc"
  cases hc : a.o.c with
  | none => rw [hc] at h; exact h
  | some c => rw [hc] at h; exact h
def spStatement (K : PySem.W.Frag) : SpT := fun ds M Q _ => ∃ (a : OA) (M0 : MH), ds = [.ref a.s] ∧ Cel M0 M (a.cells (CO K) fl_Opened) ∧ a.o.ok ∧ a.o.l.isDef = false ∧ Q a.o.st.d M0
theorem ok_Opened_statement (T : Tp K mg) : Fm P w K mg base CX0 1 "Opened" "statement" (spStatement K) := by
  refine fm_top T.top e_Opened_statement 36 sc_Opened_statement (T.top.meth 90) (T.top.cls 75) (by rintro _ M Q Et ⟨n, _, rfl, _⟩; rfl) (fun cdv A outer s H E hr => ⟨_, (qss_cons (qs_if (qt_cmp oq_eq (q_ix (q_fld 1 fl_Opened (c_Opened_parts T) (qv 0)) q_int) q_str)
  (qss_one (qs_ret (q_re (q_tup (qa_cons q_str (qa_cons (q_fld 0 fl_Opened (c_Opened_line T) (qv 0)) (qa_cons (q_ix (q_fld 1 fl_Opened (c_Opened_parts T) (qv 0)) q_int) (qa_cons (q_fld 2 fl_Opened (c_Opened_first T) (qv 0)) (qa_cons (q_fld 3 fl_Opened (c_Opened_second T) (qv 0)) qa_nil)))))))))
  qss_nil)
 (qss_one (qs_ret (q_re (q_tup (qa_cons q_str (qa_cons (q_fld 0 fl_Opened (c_Opened_line T) (qv 0)) (qa_cons (q_ix (q_fld 1 fl_Opened (c_Opened_parts T) (qv 0)) q_int) (qa_cons (q_fld 2 fl_Opened (c_Opened_first T) (qv 0)) qa_nil))))))))), ?_⟩) (fun _ _ _ _ _ _ us hl => match us, hl with | [_], _ => rfl)
  rintro _ M Q Et ⟨a, M0, rfl, hc, ok, hd, h⟩
  have hM : M a.s = some (a.obj (CO K) fl_Opened) := hc.at_ (a.s, _) (List.mem_cons_self ..)
  obtain ⟨s0, f, g, dx, ⟨k, l, b, c⟩⟩ := a
  walk_at "vc"
  simp only [hM, OA.obj]
  walk_at "vc"
  unfold OA.cells OA.obj OA.more at hc
  unfold OA.obj at hM
  dsimp only at hc hM ok hd h ⊢
  cases l with
  | iff e =>
    cases c with
    | none =>
      rw [iff_d] at hM ⊢
      walk_at "vc"
      simp only [hM]
      walk_at "vc"
      simp only [hM]
      walk_at "vc"
      exact ⟨_, M0, (ReR.tup_freeze [.str "if", .int k, e.d] [.non] (hc.at_ (f, .lst (stD b)) (by simp))).trans (Cel.del (pre := [_]) hc).re, h⟩
    | some c =>
      rw [iff_d] at hM ⊢
      walk_at "vc"
      simp only [hM]
      walk_at "vc"
      simp only [hM]
      walk_at "vc"
      have h1 := Cel.del (pre := [_]) hc
      exact ⟨_, M0, ((ReR.tup_freeze [.str "if", .int k, e.d] [.ref g] (hc.at_ (f, .lst (stD b)) (by simp))).trans (ReR.tup_freeze [.str "if", .int k, e.d, .lst (stD b)] [] (h1.at_ (g, .lst (stD c)) (by simp)))).trans (Cel.del (pre := [_]) h1).re, h⟩
  | whl e =>
    cases c with
    | none =>
      rw [whl_d] at hM ⊢
      walk_at "vc"
      simp only [hM]
      walk_at "vc"
      simp only [hM]
      walk_at "vc"
      exact ⟨_, M0, (ReR.tup_freeze [.str "while", .int k, e.d] [] (hc.at_ (f, .lst (stD b)) (by simp))).trans (Cel.del (pre := [_]) hc).re, h⟩
    | some c => exact absurd (ok.2 rfl) Bool.false_ne_true
  | dff x ps => cases hd
  | els => rcases ok.1 with q | q | q <;> cases q
  | fin => rcases ok.1 with q | q | q <;> cases q
  | pln s => rcases ok.1 with q | q | q <;> cases q
def spWholeDef (K : PySem.W.Frag) : SpT := fun ds M Q _ => ∃ (a : OA) (last : Int) (M0 : MH), ds = [.ref a.s, .int last] ∧ Cel M0 M (a.cells (CO K) fl_Opened) ∧ a.o.ok ∧ a.o.l.isDef = true ∧ Q (a.o.df last).d M0
theorem ok_Opened_whole_def (T : Tp K mg) : Fm P w K mg base CX0 1 "Opened" "whole_def" (spWholeDef K) := by
  refine fm_top T.top e_Opened_whole_def 37 sc_Opened_whole_def (T.top.meth 91) (T.top.cls 75) (by rintro _ M Q Et ⟨n, _, _, rfl, _⟩; rfl) (fun cdv A outer s H E hr => ⟨_, (qss_one (qs_ret (q_re (q_tup (qa_cons (q_ix (q_fld 1 fl_Opened (c_Opened_parts T) (qv 0)) q_int) (qa_cons (q_ix (q_fld 1 fl_Opened (c_Opened_parts T) (qv 0)) q_int) (qa_cons (q_fld 2 fl_Opened (c_Opened_first T) (qv 0)) (qa_cons (q_fld 0 fl_Opened (c_Opened_line T) (qv 0)) (qa_cons (qv 1) qa_nil))))))))), ?_⟩) (fun _ _ _ _ _ _ us hl => match us, hl with | [_, _], _ => rfl)
  rintro _ M Q Et ⟨a, last, M0, rfl, hc, ok, hd, h⟩
  have hM : M a.s = some (a.obj (CO K) fl_Opened) := hc.at_ (a.s, _) (List.mem_cons_self ..)
  obtain ⟨s0, f, g, dx, ⟨k, l, b, c⟩⟩ := a
  walk_at "vc"
  simp only [hM, OA.obj]
  walk_at "vc"
  unfold OA.cells OA.obj OA.more at hc
  unfold OA.obj at hM
  dsimp only at hc hM ok hd h ⊢
  cases l with
  | dff x ps =>
    cases c with
    | none =>
      rw [dff_d] at hM ⊢
      walk_at "vc"
      simp only [hM]
      walk_at "vc"
      simp only [hM]
      walk_at "vc"
      exact ⟨_, M0, (ReR.tup_freeze [.str x, .lst (ps.map .str)] [.int k, .int last] (hc.at_ (f, .lst (stD b)) (by simp))).trans (Cel.del (pre := [_]) hc).re, h⟩
    | some c => exact absurd (ok.2 rfl) Bool.false_ne_true
  | iff e => cases hd
  | whl e => cases hd
  | els => cases hd
  | fin => cases hd
  | pln s => cases hd
def spMayStand (K : PySem.W.Frag) : SpT := fun ds M Q _ => ∃ (p : List OA) (q : Addr) (l : Lin), ds = [.ref q, .str l.word] ∧ M q = some (.lst (pileD p)) ∧ (∀ a ∈ p, M a.s = some (a.obj (CO K) fl_Opened)) ∧ pileOk (p.map (·.o)) ∧ p.length ≤ 1000 ∧ l.plain ∧ Q (.bl (mayLn (p.map (·.o)) l)) M
theorem ok_may_stand (T : Tp K mg) : Fn P w K mg base CX0 1 "may_stand" (spMayStand K) := by
  refine fn_top T.top 38 e_may_stand (m_may_stand T) sc_may_stand (by rintro _ M Q Et ⟨n, _, _, rfl, _⟩; rfl) (fun cdv A outer s H E hr => ⟨_, (qss_cons (qs_if (qt_cmp oq_eq (qv 1) q_str)
  (qss_one (qs_ret (q_cmp oq_eq (q_callB cq_len (m_len T) (by decide +kernel) (qa_cons (qv 0) qa_nil)) q_int)))
  qss_nil)
 (qss_cons (qs_if (qt_cmp oq_eq (q_callB cq_len (m_len T) (by decide +kernel) (qa_cons (qv 0) qa_nil)) q_int)
  (qss_one (qs_ret q_bl))
  qss_nil)
 (qss_cons (qs_set (i := 2) sc_may_stand.nd (q_ix (qv 0) (q_un uq_neg q_int)))
 (qss_cons (qs_if (qt_cmp oq_eq (qv 1) q_str)
  (qss_one (qs_ret (q_and (q_cmp oq_eq (q_ix (q_fld 1 fl_Opened (c_Opened_parts T) (qv 2)) q_int) q_str) (q_one (q_cmp oq_isN (q_fld 3 fl_Opened (c_Opened_second T) (qv 2)) q_non)))))
  qss_nil)
 (qss_cons (qs_if (qt_w (qw_or (qt_cmp oq_eq (qv 1) q_str) (qw_or1 (qt_cmp oq_eq (qv 1) q_str))))
  (qss_one (qs_ret (q_callB (cq_any rfl) (m_any T) (by decide +kernel) (qa_cons (q_lc rfl sc_may_stand.nd (qi_list (qv 0)) (blkOk_by (N := nm_may_stand) (sc := defScope s_may_stand) (own := [(("one" : Str), 3)]) (by decide +kernel)) go_name (fun _ _ _ _ _ => (pg_name (i := 3) sc_may_stand.nd rfl (Or.inl rfl))) (fun _ _ _ _ _ => qts_nil) (fun _ _ _ _ _ => (q_cmp oq_eq (q_ix (q_fld 1 fl_Opened (c_Opened_parts T) (qv 3)) q_int) q_str))) qa_nil))))
  qss_nil)
 (qss_cons (qs_if (qt_cmp oq_eq (qv 1) q_str)
  (qss_one (qs_ret (q_cmp oq_ne (q_ix (q_fld 1 fl_Opened (c_Opened_parts T) (q_ix (qv 0) q_int)) q_int) q_str)))
  qss_nil)
 (qss_cons (qs_if (qt_w (qw_or (qt_cmp oq_eq (qv 1) q_str) (qw_or1 (qt_cmp oq_eq (qv 1) q_str))))
  (qss_one (qs_ret (q_cmp oq_le (q_callB cq_len (m_len T) (by decide +kernel) (qa_cons (qv 0) qa_nil)) (q_gint (m_MOST_nests T)))))
  qss_nil)
 (qss_one (qs_ret q_bl))))))))), ?_⟩) (fun _ _ _ _ _ _ us hl => match us, hl with | [_, _], _ => rfl)
  rintro _ M Q Et ⟨p, q, l, rfl, hq, hp, ok, hl, hpl, h⟩
  walk_at "vc"
  rw [lstOf_at hq, lenOf_at hq]
  walk_at "vc"
  rw [pileD_len]
  have hany : ∀ (v d : D), Q (.bl (p.any fun a => a.o.l.isWhl)) M → LcGo (gN 3) tYe (tO bEq (tO bIx (tFd (fun C => C = He.ga K (Str.ofString "Opened")) fl_Opened 1 (tV 3)) (tK (.int 0))) (tK (.str (Str.ofString "while")))) [3] [some (.ref q), some v, some d, none]
      (fun x M1 => oSome (blLst M1 x) fun is => Q (.bl (is.any id)) M1) { items := pileD p, src := fun M => lstOf M (.ref q) = some (pileD p) } M := fun v d hQ => by
    refine lc_map p.reverse (fun a => D.ref a.s) (fun a => .bl a.o.l.isWhl) (by show pileD p = _; unfold pileD; rw [List.map_reverse]) (by rw [List.length_reverse, sizeLine_eq]; omega) (lstOf_at hq) (fun a R1 R0 ha h1 => ?_) ?_
    · have hs := hp a (List.mem_reverse.mp ha)
      obtain ⟨v1, r1, e1, e2, e3⟩ := head_word (pile_all ok a.o (List.mem_map.mpr ⟨a, List.mem_reverse.mp ha, rfl⟩))
      unfold OA.obj at hs
      rw [e1] at hs
      walk_at "vc"
      simp only [hs]
      walk_at "vc"
      rw [e2]
      exact h1
    · have e1 : blLst M (.lst (p.reverse.map fun a => D.bl a.o.l.isWhl)) = some (p.reverse.map fun a => a.o.l.isWhl) := blLst_l (is := p.reverse.map fun a => a.o.l.isWhl) |> fun e => by rw [List.map_map] at e; exact e
      rw [e1]
      simp only [oSome_i]
      rw [List.any_map, List.any_reverse]
      exact hQ
  cases p with
  | nil =>
    cases l with
    | dff x ps => rw [show (Lin.dff x ps).word = "def" from rfl]; walk_at "vc"; exact h
    | iff e => rw [show (Lin.iff e).word = "if" from rfl]; walk_at "vc"; exact h
    | whl e => rw [show (Lin.whl e).word = "while" from rfl]; walk_at "vc"; exact h
    | els => rw [show Lin.els.word = "else" from rfl]; walk_at "vc"; exact h
    | fin => rw [show Lin.fin.word = "end" from rfl]; walk_at "vc"; exact h
    | pln s =>
      rw [show (Lin.pln s).word = s.word from rfl, if_neg plain_wd.1, if_pos (by simp)]
      exact h
  | cons a t =>
    have h5 : decide (((a :: t).length : Int) ≤ 5) = decide (((a :: t).map (·.o)).length ≤ 5) := by rw [List.length_map]; exact decide_eq_decide.mpr (by omega)
    have hn : ¬ (((a :: t).length : Nat) : Int) = 0 := by rw [List.length_cons]; omega
    cases l with
    | dff x ps =>
      rw [show (Lin.dff x ps).word = "def" from rfl, if_pos rfl, decide_eq_false hn]
      exact h
    | iff e =>
      rw [show (Lin.iff e).word = "if" from rfl, if_neg (by decide +kernel), if_neg hn, pileD_in]
      walk_at "vc"
      have h : Q (.bl (decide (((a :: t).map (·.o)).length ≤ 5))) M := h
      rw [← h5] at h
      exact h
    | whl e =>
      rw [show (Lin.whl e).word = "while" from rfl, if_neg (by decide +kernel), if_neg hn, pileD_in]
      walk_at "vc"
      have h : Q (.bl (decide (((a :: t).map (·.o)).length ≤ 5))) M := h
      rw [← h5] at h
      exact h
    | els =>
      rw [show Lin.els.word = "else" from rfl, if_neg (by decide +kernel), if_neg hn, pileD_in]
      have hs := hp a (List.mem_cons_self ..)
      obtain ⟨v1, r1, e1, e2, e3⟩ := head_word (pile_all ok a.o (List.mem_cons_self ..))
      unfold OA.obj at hs
      rw [e1] at hs
      have h : Q (.bl (a.o.l.isIf && a.o.c.isNone)) M := h
      rw [← e3] at h
      walk_at "vc"
      simp only [hs]
      walk_at "vc"
      by_cases hv : v1 = Str.ofString "if"
      · rw [if_pos hv]
        rw [decide_eq_true hv] at h
        simp only [hs]
        walk_at "vc"
        cases hc : a.o.c with
        | none => rw [hc] at h; exact h
        | some c => rw [hc] at h; exact h
      · rw [if_neg hv]
        rw [decide_eq_false hv] at h
        exact h
    | fin => rw [show Lin.fin.word = "end" from rfl, if_neg (by decide +kernel), if_neg hn, pileD_in]; walk_at "vc"; exact h
    | pln s =>
      cases s with
      | brk l =>
        rw [show (Lin.pln (.brk l)).word = "break" from rfl, if_neg (by decide +kernel), if_neg hn, pileD_in]
        walk_at "vc"
        have h : Q (.bl (((a :: t).map (·.o)).any fun o => o.l.isWhl)) M := h
        rw [List.any_map] at h
        exact hany _ _ h
      | agn l =>
        rw [show (Lin.pln (.agn l)).word = "again" from rfl, if_neg (by decide +kernel), if_neg hn, pileD_in]
        walk_at "vc"
        have h : Q (.bl (((a :: t).map (·.o)).any fun o => o.l.isWhl)) M := h
        rw [List.any_map] at h
        exact hany _ _ h
      | ret l e =>
        rw [show (Lin.pln (.ret l e)).word = "return" from rfl, if_neg (by decide +kernel), if_neg hn, pileD_in]
        walk_at "vc"
        rw [pileD_out]
        have hz : (a :: t).getLast (List.cons_ne_nil _ _) ∈ a :: t := List.getLast_mem _
        have hs := hp _ hz
        have eo := getLast_o (List.cons_ne_nil a t)
        have hdf := (pile_lowest (p := (a :: t).map fun x => x.o) (by simp) ok).2
        rw [← eo] at hdf
        obtain ⟨ps, e1⟩ := def_name hdf
        have h : Q (.bl (decide ((((a :: t).map fun x : OA => x.o).getLast (by simp)).l.name ≠ "main"))) M := h
        rw [← eo] at h
        unfold OA.obj at hs
        rw [e1] at hs
        generalize (a :: t).getLast (List.cons_ne_nil _ _) = z at hs h ⊢
        walk_at "vc"
        simp only [hs]
        walk_at "vc"
        rw [decide_not] at h
        exact h
      | set l x e => rw [show (Lin.pln (.set l x e)).word = "set" from rfl, if_neg (by decide +kernel), if_neg hn, pileD_in]; walk_at "vc"; exact h
      | put l x e => rw [show (Lin.pln (.put l x e)).word = "put" from rfl, if_neg (by decide +kernel), if_neg hn, pileD_in]; walk_at "vc"; exact h
      | tell l e => rw [show (Lin.pln (.tell l e)).word = "tell" from rfl, if_neg (by decide +kernel), if_neg hn, pileD_in]; walk_at "vc"; exact h
      | stop l => rw [show (Lin.pln (.stop l)).word = "stop" from rfl, if_neg (by decide +kernel), if_neg hn, pileD_in]; walk_at "vc"; exact h
      | meet l => rw [show (Lin.pln (.meet l)).word = "meet" from rfl, if_neg (by decide +kernel), if_neg hn, pileD_in]; walk_at "vc"; exact h
      | join l x v e => rw [show (Lin.pln (.join l x v e)).word = "join" from rfl, if_neg (by decide +kernel), if_neg hn, pileD_in]; walk_at "vc"; exact h
      | call l x f es => rw [show (Lin.pln (.call l x f es)).word = "call" from rfl, if_neg (by decide +kernel), if_neg hn, pileD_in]; walk_at "vc"; exact h
      | if1 l e b => exact hpl.elim
      | if2 l e b c => exact hpl.elim
      | whl l e b => exact hpl.elim
def spClose (K : PySem.W.Frag) : SpT := fun ds M Q _ => ∃ (a : OA) (p : List OA) (q pr : Addr) (done : Pg) (M0 : MH) (k : Int) (n : Nat), ds = [.ref q, .ref pr, .int k] ∧ Cel M0 M (nestC (CO K) fl_Opened pr q done (a :: p)) ∧ pileOk ((a :: p).map (·.o)) ∧ smallP n done ((a :: p).map (·.o)) ∧ n ≤ 1000 ∧
  ∀ (p' : List OA) (M' : MH), p'.map (·.o) = (nestStep k (done, (a :: p).map (·.o)) .fin).2 → Cel M0 M' (nestC (CO K) fl_Opened pr q (nestStep k (done, (a :: p).map (·.o)) .fin).1 p') → Q .non M'
theorem ok_close_innermost (T : Tp K mg) : Fn P w K mg base CX0 2 "close_innermost" (spClose K) := by
  refine fn_top T.top 39 e_close_innermost (m_close_innermost T) sc_close_innermost (by rintro _ M Q Et ⟨_, _, _, _, _, _, _, _, rfl, _⟩; rfl) (fun cdv A outer s H E hr => ⟨_, (qss_cons (qs_set (i := 3) sc_close_innermost.nd (q_pop (qv 0)))
 (qss_one (qs_if (qt_cmp oq_eq (q_callB cq_len (m_len T) (by decide +kernel) (qa_cons (qv 0) qa_nil)) q_int)
  (qss_one (qs_expr (q_append (qv 1) (qa_cons (q_meth fl_Opened (ok_Opened_whole_def T) (hr.mono (by decide)) (qv 3) (qa_cons (qv 2) qa_nil)) qa_nil))))
  (qss_one (qs_expr (q_append (q_meth0 fl_Opened (ok_Opened_newest T) (hr.mono (by decide)) (q_ix (qv 0) (q_un uq_neg q_int))) (qa_cons (q_meth0 fl_Opened (ok_Opened_statement T) (hr.mono (by decide)) (qv 3)) qa_nil))))))), ?_⟩) (fun _ _ _ _ _ _ us hl => match us, hl with | [_, _, _], _ => rfl)
  rintro _ M Q Et ⟨a, p, q, pr, done, M0, k, n, rfl, hc, ok, sm, hn, h⟩
  have hq : M q = some (.lst (pileD (a :: p))) := hc.at_ (q, _) (by unfold nestC; simp)
  walk_at "vc"
  refine ⟨is_m hq, ?_⟩
  rw [mLst_at hq]
  simp only [oSome_i]
  rw [pileD_cons, List.getLast?_concat, List.dropLast_concat]
  simp only [oSome_i]
  have c1 : Cel M0 (mup M q (.lst (pileD p))) ([(pr, .lst (pgD done)), (q, .lst (pileD p))] ++ (a.cells (CO K) fl_Opened ++ p.flatMap (OA.cells (CO K) fl_Opened))) := Cel.put (pre := [(pr, .lst (pgD done))]) hc
  generalize mup M q (.lst (pileD p)) = M1 at c1 ⊢
  have ha := OA.s_ c1
  have c2 := c1.perm (List.perm_append_comm_assoc _ _ _)
  obtain ⟨e1, e2⟩ := c2.part
  generalize without M1 _ = Mo at e1 e2
  cases p with
  | nil =>
    have hpr : M1 pr = some (.lst (pgD done)) := c1.at_ (pr, _) (by simp)
    rw [if_pos (by rfl)]
    refine ⟨is_m hpr, ?_⟩
    unfold OA.obj at ha
    walk_at "vc"
    simp only [ha]
    walk_at "vc"
    refine ⟨a, k, Mo, rfl, e2, pile_at ok, ok.2, ?_⟩
    have hpr2 : Mo pr = some (.lst (pgD done)) := e1.at_ (pr, _) (by simp)
    have hl := sm.pg_
    dsimp only
    rw [mLst_at hpr2]
    simp only [oSome_i]
    refine ⟨by unfold pgD; rw [List.length_map]; omega, ?_⟩
    have e3 := Cel.put (o' := .lst (pgD done ++ [(a.o.df k).d])) (pre := []) e1
    refine h [] _ rfl ?_
    unfold nestC
    show Cel M0 _ ((pr, .lst (pgD (done ++ [a.o.df k]))) :: _)
    rw [show pgD (done ++ [a.o.df k]) = pgD done ++ [(a.o.df k).d] by unfold pgD; rw [List.map_append]; rfl]
    exact e3
  | cons b t =>
    rw [if_neg (by rw [pileD_len, List.length_cons]; omega), pileD_in]
    simp only [oSome_i]
    have hb : M1 b.s = some (b.obj (CO K) fl_Opened) := OA.s_ (pre := [(pr, .lst (pgD done)), (q, .lst (pileD (b :: t)))] ++ a.cells (CO K) fl_Opened) (post := t.flatMap (OA.cells (CO K) fl_Opened)) (by rw [List.append_assoc]; exact c1)
    have ht : M1 b.top = some (.lst (stD b.o.cur)) := OA.top_ (pre := [(pr, .lst (pgD done)), (q, .lst (pileD (b :: t)))] ++ a.cells (CO K) fl_Opened) (post := t.flatMap (OA.cells (CO K) fl_Opened)) (by rw [List.append_assoc]; exact c1)
    have hb1 := hb
    unfold OA.obj at hb1 ha
    walk_at "vc"
    simp only [hb1]
    walk_at "vc"
    refine ⟨b, rfl, hb, ?_⟩
    rw [show (if b.o.c.isSome = true then b.g else b.f) = b.top from rfl]
    refine ⟨is_m ht, ?_⟩
    walk_at "vc"
    simp only [ha]
    walk_at "vc"
    refine ⟨a, Mo, rfl, e2, pile_at ok, ok.2.1, ?_⟩
    walk_at "vc"
    rw [mLst_at (OA.top_ e1)]
    simp only [oSome_i]
    have h1 := sm.b_ b.o (by simp)
    have h2 := sm.c_ b.o (by simp)
    have h3 : b.o.cur.length ≤ n := by
      unfold Opn.cur
      cases hcc : b.o.c with
      | none => exact h1
      | some c => exact h2 c hcc
    exact ⟨by rw [stD_len]; omega, h ({ b with o := b.o.add a.o.st } :: t) _ rfl (OA.put_ (pre := [(pr, .lst (pgD done)), (q, .lst (pileD (b :: t)))]) e1)⟩
def spNested (K : PySem.W.Frag) : SpT := fun ds M Q _ => ∃ (ls : List Lin) (pg : Pg), ds = [.lst (ls.map Lin.d)] ∧ nestGo 1 ([], []) ls = some (pg, []) ∧ (∀ l ∈ ls, l.plain) ∧ ls.length ≤ 900 ∧ Q (.lst (pgD pg)) M
/-- behind i lines -/
def NestW (K : PySem.W.Frag) (ls : List Lin) (pr q : Addr) (M : MH) (i : Nat) (τ : Sg) (M' : MH) : Prop := i ≤ ls.length ∧ ∃ (p : List OA) (done : Pg) (x3 x4 x5 : Option D), τ = [some (.lst (ls.map Lin.d)), some (.ref pr), some (.ref q), x3, x4, x5] ∧ nestGo 1 ([], []) (ls.take i) = some (done, p.map (·.o)) ∧ Cel M M' (nestC (CO K) fl_Opened pr q done p) ∧ pileOk (p.map (·.o)) ∧ smallP i done (p.map (·.o))
theorem nest_next {ls : List Lin} {pr q : Addr} {M M' : MH} {i : Nat} {l : Lin} {p p' : List OA} {done done' : Pg} {r : Pg × List Opn} {x3 x4 x5 : Option D} (hg : nestGo 1 ([], []) ls = some r) (hl : ls[i]? = some l) (hn : nestGo 1 ([], []) (ls.take i) = some (done, p.map (·.o))) (ok : pileOk (p.map (·.o))) (sm : smallP i done (p.map (·.o)))
    (e : (done', p'.map (·.o)) = nestStep (1 + (i : Nat)) (done, p.map (·.o)) l) (hc : Cel M M' (nestC (CO K) fl_Opened pr q done' p')) : NestW K ls pr q M (i + 1) [some (.lst (ls.map Lin.d)), some (.ref pr), some (.ref q), x3, x4, x5] M' := by
  obtain ⟨m1, m2⟩ := nest_turn hg hl hn
  have ok2 := step_ok (k := 1 + (i : Nat)) (st := (done, p.map (·.o))) ok m1
  have sm2 := step_small (k := 1 + (i : Nat)) (l := l) (st := (done, p.map (·.o))) sm
  rw [← e] at m2 ok2 sm2
  exact ⟨(List.getElem?_eq_some_iff.mp hl).1, p', done', _, _, _, rfl, m2, hc, ok2, sm2⟩
theorem ok_nested (T : Tp K mg) : Fn P w K mg base CX0 3 "nested" (spNested K) := by
  refine fn_top T.top 40 e_nested (m_nested T) sc_nested (by rintro _ M Q Et ⟨_, _, rfl, _⟩; rfl) (fun cdv A outer s H E hr => ⟨_, (qss_cons (qs_set (i := 1) sc_nested.nd (q_lstM qa_nil))
 (qss_cons (qs_set (i := 2) sc_nested.nd (q_lstM qa_nil))
 (qss_cons (qs_for PassesOwn.never rfl (qi_enumS (m_enumerate T) (qa_cons (qv 0) qa_nil) (by decide)) (qg_tup (n := 2) rfl (qgs_cons (qg_name (i := 3) sc_nested.nd) (qgs_cons (qg_name (i := 4) sc_nested.nd) qgs_nil)))
  (qss_cons (qs_set (i := 5) sc_nested.nd (q_ix (qv 4) q_int))
 (qss_cons (qs_if (qt_not (qt_val (q_call (ok_may_stand T) (hr.mono (by decide)) (qa_cons (qv 2) (qa_cons (qv 5) qa_nil)))))
  (qss_one qs_never)
  qss_nil)
 (qss_one (qs_if (qt_w (qw_or (qt_cmp oq_eq (qv 5) q_str) (qw_or (qt_cmp oq_eq (qv 5) q_str) (qw_or1 (qt_cmp oq_eq (qv 5) q_str)))))
  (qss_one (qs_expr (q_append (qv 2) (qa_cons (q_make fl_Opened (ok_Opened___init T) (hr.mono (by decide)) (qa_cons (qv 3) (qa_cons (qv 4) qa_nil))) qa_nil))))
  (qss_one (qs_if (qt_cmp oq_eq (qv 5) q_str)
  (qss_one (qs_fld 3 fl_Opened (c_Opened_second T) (q_ix (qv 2) (q_un uq_neg q_int)) (q_lstM qa_nil)))
  (qss_one (qs_if (qt_cmp oq_eq (qv 5) q_str)
  (qss_one (qs_expr (q_call (ok_close_innermost T) (hr.mono (by decide)) (qa_cons (qv 2) (qa_cons (qv 1) (qa_cons (qv 3) qa_nil))))))
  (qss_one (qs_expr (q_append (q_meth0 fl_Opened (ok_Opened_newest T) (hr.mono (by decide)) (q_ix (qv 2) (q_un uq_neg q_int))) (qa_cons (q_op oq_catT (q_tup (qa_cons (qv 5) (qa_cons (qv 3) qa_nil))) (q_sliceT (qv 4) (qo_some q_int) qo_none)) qa_nil)))))))))))))
 (qss_cons (qs_if (qt_cmp oq_gt (q_callB cq_len (m_len T) (by decide +kernel) (qa_cons (qv 2) qa_nil)) q_int)
  (qss_one qs_never)
  qss_nil)
 (qss_one (qs_ret (q_re (qv 1)))))))), ?_⟩) (fun _ _ _ _ _ _ us hl => match us, hl with | [_], _ => rfl)
  rintro _ M Q Et ⟨ls, pg, rfl, hg, hpl, hl, h⟩
  walk_at "vc"
  intro pr hpr q hq
  have c0 := ((Cel.nil (M := M)).fresh (o := .lst []) hpr).fresh (o := .lst []) hq
  refine for_any (NestW K ls pr q M) ⟨Nat.zero_le _, [], [], _, _, _, rfl, rfl, c0.perm (List.Perm.swap _ _ _), trivial, ⟨Nat.le_refl _, Nat.le_refl _, (fun o ho => by cases ho), (fun o ho => by cases ho)⟩⟩ (fun i τ M' w => trivial) ?_ ?_
  · rintro i x τ M' hx ⟨hi, p, done, x3, x4, x5, rfl, hn, hc, ok, sm⟩
    obtain ⟨y, hy, rfl⟩ := enumS_get hx
    rw [List.getElem?_map] at hy
    obtain ⟨l, hl2, rfl⟩ := Option.map_eq_some_iff.mp hy
    have hq' : M' q = some (.lst (pileD p)) := hc.at_ (q, .lst (pileD p)) (by unfold nestC; simp)
    have hp : ∀ a ∈ p, M' a.s = some (a.obj (CO K) fl_Opened) := fun a ha => hc.at_ (a.s, a.obj (CO K) fl_Opened) (by
      unfold nestC
      exact List.mem_cons_of_mem _ (List.mem_cons_of_mem _ (List.mem_flatMap.mpr ⟨a, ha, List.mem_cons_self ..⟩)))
    have hpc : p.length ≤ 900 := by have := sm.p_; rw [List.length_map] at this; omega
    have hm := (nest_turn hg hl2 hn).1
    rw [show l.d = .tup (.str l.word :: l.rest) from rfl]
    walk_at "vc"
    refine ⟨p, q, l, rfl, hq', hp, ok, by omega, hpl l (List.mem_of_getElem? hl2), ?_⟩
    rw [hm]
    walk_at "vc"
    have opened : l.isDef = true ∨ l.isIf = true ∨ l.isWhl = true → ∀ (x dx : Addr), M' x = none → spInitO K [.ref x, .int (1 + (i : Nat)), .tup (.str l.word :: l.rest)] (mup M' x (.obj (CO K) dx fl_Opened [])) (fun v M2 => v = .non ∧ oSome (mLst M2 q) fun ds => ds.length < 16777216 ∧ NestW K ls pr q M (i + 1) [some (.lst (ls.map Lin.d)), some (.ref pr), some (.ref q), some (.int (1 + (i : Nat))), some (.tup (.str l.word :: l.rest)), some (.str l.word)] (mup M2 q (.lst (ds ++ [.ref x])))) Et0 := fun hh x dx hx => by
      refine ⟨x, dx, 1 + (i : Nat), l, M', rfl, Cel.nil.fresh hx, fun f M2 c1 => ⟨rfl, ?_⟩⟩
      have c2 := hc.glue c1
      have hq2 : M2 q = some (.lst (pileD p)) := c2.at_ (q, .lst (pileD p)) (by unfold nestC; simp)
      rw [mLst_at hq2]
      simp only [oSome_i]
      refine ⟨by rw [pileD_len]; omega, ?_⟩
      generalize ha : (⟨x, f, f, dx, ⟨1 + (i : Nat), l, [], none⟩⟩ : OA) = a at c2
      rw [show pileD p ++ [D.ref x] = pileD (a :: p) by rw [pileD_cons, ← ha]]
      have c3 : Cel M M2 ((a.cells (CO K) fl_Opened ++ [(pr, .lst (pgD done))]) ++ (q, .lst (pileD p)) :: p.flatMap (OA.cells (CO K) fl_Opened)) := by rw [List.append_assoc]; exact c2
      have c4 := Cel.put (o' := .lst (pileD (a :: p))) c3
      rw [List.append_assoc] at c4
      refine nest_next (p' := a :: p) hg hl2 hn ok sm ?_ (c4.perm (List.perm_append_comm_assoc (a.cells (CO K) fl_Opened) [(pr, .lst (pgD done)), (q, .lst (pileD (a :: p)))] (p.flatMap (OA.cells (CO K) fl_Opened))))
      rw [← ha]
      cases l with
      | dff x ps => rfl
      | iff e => rfl
      | whl e => rfl
      | els => rcases hh with z | z | z <;> cases z
      | fin => rcases hh with z | z | z <;> cases z
      | pln s => rcases hh with z | z | z <;> cases z
    cases l with
    | dff x ps =>
      rw [if_pos (show (Lin.dff x ps).word = Str.ofString "def" from rfl)]
      exact ⟨is_m hq', opened (.inl rfl)⟩
    | iff e =>
      rw [if_neg (show ¬ (Lin.iff e).word = Str.ofString "def" from (by decide +kernel : ¬ Str.ofString "if" = Str.ofString "def")), if_pos (show (Lin.iff e).word = Str.ofString "if" from rfl)]
      exact ⟨is_m hq', opened (.inr (.inl rfl))⟩
    | whl e =>
      rw [if_neg (show ¬ (Lin.whl e).word = Str.ofString "def" from (by decide +kernel : ¬ Str.ofString "while" = Str.ofString "def")), if_neg (show ¬ (Lin.whl e).word = Str.ofString "if" from (by decide +kernel : ¬ Str.ofString "while" = Str.ofString "if")), if_pos (show (Lin.whl e).word = Str.ofString "while" from rfl)]
      exact ⟨is_m hq', opened (.inr (.inr rfl))⟩
    | els =>
      rw [show Lin.els.word = Str.ofString "else" from rfl]
      walk_at "vc"
      intro g hg2
      cases p with
      | nil => exact absurd hm Bool.false_ne_true
      | cons a t =>
        have hm : (a.o.l.isIf && a.o.c.isNone) = true := hm
        rw [Bool.and_eq_true] at hm
        have c1 := hc.fresh (o := .lst []) hg2
        have hq2 : mup M' g (.lst []) q = some (.lst (pileD (a :: t))) := c1.at_ (q, .lst (pileD (a :: t))) (by unfold nestC; simp)
        have ha : mup M' g (.lst []) a.s = some (a.obj (CO K) fl_Opened) := c1.at_ (a.s, a.obj (CO K) fl_Opened) (by unfold nestC OA.cells; simp)
        rw [lstOf_at hq2]
        simp only [oSome_i]
        rw [pileD_in]
        simp only [oSome_i]
        obtain ⟨s0, f, g0, dx, ⟨k, l, b, c⟩⟩ := a
        cases c with
        | some c => exact absurd hm.2 Bool.false_ne_true
        | none =>
          unfold OA.obj at ha
          walk_at "vc"
          simp only [ha]
          walk_at "vc"
          have c2 := Cel.put (o' := .obj (CO K) dx fl_Opened [.int k, l.d, .ref f, .ref g]) (pre := [(g, .lst []), (pr, .lst (pgD done)), (q, .lst (pileD (⟨s0, f, g0, dx, ⟨k, l, b, none⟩⟩ :: t)))]) c1
          have c3 : Cel M (mup (mup M' g (.lst [])) s0 (.obj (CO K) dx fl_Opened [.int k, l.d, .ref f, .ref g])) ((g, MO.lst []) :: ([(pr, MO.lst (pgD done)), (q, MO.lst (pileD (⟨s0, f, g0, dx, ⟨k, l, b, none⟩⟩ :: t))), (s0, MO.obj (CO K) dx fl_Opened [.int k, l.d, .ref f, .ref g]), (f, MO.lst (stD b))] ++ t.flatMap (OA.cells (CO K) fl_Opened))) := c2
          exact nest_next (p' := ⟨s0, f, g, dx, ⟨k, l, b, some []⟩⟩ :: t) hg hl2 hn ok sm rfl (c3.perm List.perm_middle.symm)
    | fin =>
      rw [show Lin.fin.word = Str.ofString "end" from rfl]
      walk_at "vc"
      cases p with
      | nil => exact absurd hm Bool.false_ne_true
      | cons a t => exact ⟨a, t, q, pr, done, M, 1 + (i : Nat), i, rfl, hc, ok, sm, by omega, fun p' M2 e c => nest_next hg hl2 hn ok sm (Prod.ext rfl e) c⟩
    | pln s =>
      obtain ⟨w1, w2, w3⟩ := plain_wd (s := s)
      obtain ⟨w4, w5⟩ := plain_wd2 (hpl _ (List.mem_of_getElem? hl2))
      rw [show (Lin.pln s).word = s.word from rfl, if_neg w1, if_neg w4, if_neg w5, if_neg w2, if_neg w3]
      cases p with
      | nil => exact absurd hm (by cases s <;> exact Bool.false_ne_true)
      | cons a t =>
        rw [lstOf_at hq']
        simp only [oSome_i]
        rw [pileD_in]
        simp only [oSome_i]
        have ha := hp a (List.mem_cons_self ..)
        have ha1 := ha
        unfold OA.obj at ha1
        walk_at "vc"
        simp only [ha1]
        walk_at "vc"
        refine ⟨a, rfl, ha, ?_⟩
        rw [show (if a.o.c.isSome = true then a.g else a.f) = a.top from rfl]
        have hc2 : Cel M M' ([(pr, .lst (pgD done)), (q, .lst (pileD (a :: t)))] ++ (a.cells (CO K) fl_Opened ++ t.flatMap (OA.cells (CO K) fl_Opened))) := hc
        have ht := OA.top_ hc2
        have hr := rest_few s
        refine ⟨is_m ht, by show 2 + s.rest.length ≤ _; omega, ?_⟩
        walk_at "vc"
        rw [mLst_at ht]
        simp only [oSome_i]
        have h1 := sm.b_ a.o (by simp)
        have h2 := sm.c_ a.o (by simp)
        have h3 : a.o.cur.length ≤ i := by
          unfold Opn.cur
          cases hcc : a.o.c with
          | none => exact h1
          | some c => exact h2 c hcc
        rw [show D.tup (.str s.word :: .int (1 + (i : Nat)) :: (Lin.pln s).rest) = (s.at_ (1 + (i : Nat))).d from (at_d _ s).symm]
        exact ⟨by rw [stD_len]; omega, nest_next (p' := { a with o := a.o.add (s.at_ (1 + (i : Nat))) } :: t) hg hl2 hn ok sm rfl (OA.put_ hc2)⟩
  · rintro τ M' ⟨hi, p, done, x3, x4, x5, rfl, hn, hc, ok, sm⟩
    have hle : (enumS 1 (ls.map Lin.d)).length = ls.length := by unfold enumS; rw [List.length_mapIdx, List.length_map]
    have hn : nestGo 1 ([], []) (ls.take (enumS 1 (ls.map Lin.d)).length) = some (done, p.map (·.o)) := hn
    rw [hle, List.take_of_length_le (Nat.le_refl _), hg] at hn
    walk_at "vc"
    have hq' : M' q = some (.lst (pileD p)) := hc.at_ (q, .lst (pileD p)) (by unfold nestC; simp)
    cases p with
    | cons a t => cases hn
    | nil =>
      cases hn
      rw [lenOf_at hq']
      simp only [oSome_i]
      rw [if_neg (by decide)]
      have hpr' : M' pr = some (.lst (pgD pg)) := hc.at_ (pr, .lst (pgD pg)) (by unfold nestC; simp)
      exact ⟨_, M, (ReR.freeze hpr').trans (Cel.del (pre := []) hc).re, h⟩
end
end K23
namespace K23
open PySem PySem.Spec PyProof.Rows L2 Tl
section
variable {P : Program} {w : World} {K : PySem.W.Frag} {mg : Str → Option Value} {base : Heap}
def spCheck : SpT := fun ds M Q _ => ∃ pg : Pg, ds = [.lst (pgD pg)] ∧ namesOk pg ∧ pg.length ≤ 1000 ∧ (∀ o ∈ pg, deeps o.body < 10 ∧ (allBd o.body).length ≤ 100000) ∧ ∀ M', (∀ a o, M a = some o → M' a = some o) → Q .non M'
theorem ok_check_names (T : Tp K mg) : Fn P w K mg base CX0 13 "check_names" spCheck := by
  refine fn_top T.top 41 e_check_names (m_check_names T) sc_check_names (by rintro _ M Q Et ⟨n, rfl, _⟩; rfl) (fun cdv A outer s H E hr => ⟨_, (qss_cons (qs_set (i := 1) sc_check_names.nd q_dnewK)
 (qss_cons (qs_for PassesOwn.never rfl (qi_list (qv 0)) (qg_name (i := 2) sc_check_names.nd)
  (qss_cons (qs_if (qt_w (qw_or (qt_din (hu_of hr) (q_ix (qv 2) q_int) (qv 1)) (qw_or1 (qt_cmp oq_lt (q_lenSet rfl (m_len T) (m_set T) (q_ix (qv 2) q_int)) (q_callB cq_len (m_len T) (by decide +kernel) (qa_cons (q_ix (qv 2) q_int) qa_nil))))))
  (qss_one qs_never)
  qss_nil)
 (qss_one (qs_asg (q_callB cq_len (m_len T) (by decide +kernel) (qa_cons (q_ix (qv 2) q_int) qa_nil)) (qg_sub (qv 1) (q_ix (qv 2) q_int) (sq_dict (hu_of hr)))))))
 (qss_cons (qs_if (qt_cmp oq_gt (q_dget2 (hu_of hr) (qv 1) q_str q_int) q_int)
  (qss_one qs_never)
  qss_nil)
 (qss_one (qs_for PassesOwn.never rfl (qi_list (qv 0)) (qg_name (i := 2) sc_check_names.nd)
  (qss_one (qs_for PassesOwn.never rfl (qi_list (q_call (ok_all_of T 10) (hr.mono (by decide)) (qa_cons (q_ix (qv 2) q_int) qa_nil))) (qg_name (i := 3) sc_check_names.nd)
  (qss_one (qs_if (qt_w (qw_and (qt_cmp oq_eq (q_ix (qv 3) q_int) q_str) (qw_and1 (qt_w (qw_or (qt_cmp oq_eq (q_ix (qv 3) q_int) q_str) (qw_or1 (qt_cmp oq_ne (q_dget2 (hu_of hr) (qv 1) (q_ix (qv 3) q_int) (q_un uq_neg q_int)) (q_callB cq_len (m_len T) (by decide +kernel) (qa_cons (q_ix (qv 3) q_int) qa_nil)))))))))
  (qss_one qs_never)
  qss_nil))))))))), ?_⟩) (fun _ _ _ _ _ _ us hl => match us, hl with | [_], _ => rfl)
  rintro _ M Q Et ⟨pg, rfl, nm, hl, hb, h⟩
  walk_at "vc"
  intro r hr
  refine for_map pg Df.d rfl (fun ys τ M' => M' = mup M r (.dK (roomsD ys)) ∧ ∃ x2 x3, τ = [some (.lst (pgD pg)), some (.ref r), x2, x3]) ⟨rfl, _, _, rfl⟩ (fun _ _ _ _ => trivial) (fun ys o zs τ M1 Nx exs hw hN => ?_) (fun τ M1 hw => ?_)
  · obtain ⟨rfl, x2, x3, rfl⟩ := hw
    rw [show o.d = .tup [.str o.name, .lst (o.ps.map .str), .lst (stD o.body), .int o.first, .int o.last] from rfl]
    walk_at "vc"
    have hnin : o.name ∉ ys.map (·.name) := fun q => by
      have := nm.nd
      rw [exs, List.map_append, List.map_cons] at this
      exact (List.nodup_append.mp this).2.2 _ q _ (List.mem_cons_self ..) rfl
    have hlen : ys.length ≤ 1000 := by rw [exs, List.length_append] at hl; omega
    obtain ⟨p1, p2⟩ := nm.ps_ o (by rw [exs]; simp)
    rw [rooms_val, room_none hnin, if_neg (by simp)]
    exact ⟨o.ps, rfl, p1, by omega, by rw [if_neg (by omega)]; exact ⟨by unfold roomsD; rw [List.length_map]; omega, hN _ _ ⟨by rw [rooms_put hnin], _, _, rfl⟩⟩⟩
  · obtain ⟨rfl, x2, x3, rfl⟩ := hw
    have hM : ∀ a o, M a = some o → mup M r (.dK (roomsD pg)) a = some o := fun a o ha => by
      rw [mup_ne (fun q => by rw [q] at ha; rw [hr] at ha; cases ha)]
      exact ha
    walk_at "vc"
    refine ⟨⟨r, _, rfl, mup_same, trivial⟩, ?_⟩
    rw [rooms_val, nm.main]
    show oInt (.int ((0 : Nat) : Int)) _
    simp only [oInt_i]
    rw [if_neg (by omega)]
    refine for_map pg Df.d rfl (fun ys τ M' => M' = mup M r (.dK (roomsD pg)) ∧ ∃ x2 x3, τ = [some (.lst (pgD pg)), some (.ref r), x2, x3]) ⟨rfl, _, _, rfl⟩ (fun _ _ _ _ => trivial) (fun ys o zs τ M1 Nx exs hw hN => ?_) (fun τ M1 hw => ?_)
    · obtain ⟨rfl, x2, x3, rfl⟩ := hw
      rw [show o.d = .tup [.str o.name, .lst (o.ps.map .str), .lst (stD o.body), .int o.first, .int o.last] from rfl]
      have ho : o ∈ pg := by rw [exs]; simp
      walk_at "vc"
      refine ⟨o.body, rfl, (hb o ho).1, (hb o ho).2, ?_⟩
      walk_at "vc"
      refine for_map (allBd o.body) Sm.d rfl (fun _ τ M' => M' = mup M r (.dK (roomsD pg)) ∧ ∃ x3, τ = [some (.lst (pgD pg)), some (.ref r), some (.tup [.str o.name, .lst (o.ps.map .str), .lst (stD o.body), .int o.first, .int o.last]), x3]) ⟨rfl, _, rfl⟩ (fun _ _ _ _ => trivial) (fun as s bs τ M1 Nx2 exs2 hw hN2 => ?_) (fun τ M1 hw => ?_)
      · obtain ⟨rfl, x3, rfl⟩ := hw
        have hs : s ∈ allBd o.body := by rw [exs2]; simp
        rw [sm_d]
        walk_at "vc"
        have hcall : ∀ w : Str, w ∈ (["set", "put", "tell", "return", "stop", "break", "again", "meet", "join", "if", "while"] : List Str) → ¬ w = Str.ofString "call" := by decide +kernel
        by_cases hw : s.word = Str.ofString "call"
        · rw [if_pos hw]
          cases s with
          | call l x f es =>
            obtain ⟨c1, c2⟩ := nm.calls o ho l x f es hs
            have e1 : (D.str (Sm.call l x f es).word :: D.int (Sm.call l x f es).line :: (Sm.call l x f es).rest) = [.str "call", .int l, .str x, .str f, .lst (es.map Ex.d)] := rfl
            rw [e1]
            walk_at "vc"
            rw [if_neg c1]
            refine ⟨⟨r, _, rfl, mup_same, trivial⟩, ?_⟩
            rw [rooms_val, c2]
            show oSome (dScal (D.int ((es.length : Nat) : Int)) (D.int ((es.length : Nat) : Int))) _
            walk_at "vc"
            exact hN2 _ _ ⟨rfl, _, rfl⟩
          | _ => exact absurd hw (hcall _ (by simp [Sm.word]))
        · rw [if_neg hw]
          exact hN2 _ _ ⟨rfl, _, rfl⟩
      · obtain ⟨rfl, x3, rfl⟩ := hw
        exact hN _ _ ⟨rfl, _, _, rfl⟩
    · obtain ⟨rfl, x2, x3, rfl⟩ := hw
      exact h _ hM
end
end K23
namespace K23
open PySem PySem.Spec PyProof.Rows L2 Tl
section
variable {P : Program} {w : World} {K : PySem.W.Frag} {mg : Str → Option Value} {base : Heap}
def spRead : SpT := fun ds M Q _ => ∃ (ls : List Lin) (pg : Pg), ds = [.str (Txt.join lineEnd (ls.map Lin.txt))] ∧ ls ≠ [] ∧ ls.length ≤ 200 ∧ (∀ l ∈ ls, l.ok) ∧ nestGo 1 ([], []) ls = some (pg, []) ∧ namesOk pg ∧ pg.length ≤ 1000 ∧ (∀ o ∈ pg, deeps o.body < 10 ∧ (allBd o.body).length ≤ 100000) ∧
  ∀ M', (∀ a o, M a = some o → M' a = some o) → Q (.lst (pgD pg)) M'
theorem ok_read (T : Tp K mg) : Fn P w K mg base CX0 18 "read" spRead := by
  refine fn_top T.top 42 e_read (m_read T) sc_read (by rintro _ M Q Et ⟨n, _, rfl, _⟩; rfl) (fun cdv A outer s H E hr => ⟨_, (qss_cons (qs_set (i := 1) sc_read.nd (q_split (qv 0) q_str))
 (qss_cons (qs_if (qt_cmp oq_gt (q_callB cq_len (m_len T) (by decide +kernel) (qa_cons (qv 1) qa_nil)) (q_gint (m_MOST_texts T)))
  (qss_one qs_never)
  qss_nil)
 (qss_cons (qs_set (i := 2) sc_read.nd (q_call (ok_nested T) (hr.mono (by decide)) (qa_cons (q_lc rfl sc_read.nd (qi_list (qv 1)) (blkOk_by (N := nm_read) (sc := defScope s_read) (own := [(("line" : Str), 3)]) (by decide +kernel)) go_name (fun _ _ _ _ _ => (pg_name (i := 3) sc_read.nd rfl (Or.inl rfl))) (fun _ _ _ _ _ => qts_nil) (fun _ _ _ _ _ => (q_call (ok_parts_of T) (hr.mono (by decide)) (qa_cons (qv 3) qa_nil)))) qa_nil)))
 (qss_cons (qs_expr (q_call (ok_check_names T) (hr.mono (by decide)) (qa_cons (qv 2) qa_nil)))
 (qss_one (qs_ret (qv 2))))))), ?_⟩) (fun _ _ _ _ _ _ us hl => match us, hl with | [_], _ => rfl)
  rintro _ M Q Et ⟨ls, pg, rfl, hne, hl, hok, hg, hn, h1, h2, h⟩
  walk_at "vc"
  have htl := text_len hok
  have hb : Str.ofString "\n" = lineEnd := rfl
  refine ⟨by decide +kernel, by omega, ?_⟩
  rw [hb, split_lines hne hok, List.length_map, if_neg (by omega)]
  refine lc_map ls (fun l => D.str l.txt) Lin.d (by rw [List.map_map]; rfl) (by rw [sizeLine_eq]; omega) trivial (fun l R1 R0 hx hQ => ?_) ?_
  · exact ⟨l, rfl, hok l hx, hQ⟩
  · exact ⟨ls, pg, rfl, hg, (fun l hx => plain_ok (hok l hx)), by omega, pg, rfl, hn, h1, h2, h⟩
end
end K23
local macro_rules | `(tactic| walk_at "vc") => `(tactic| simp only [Tl.uDispC, Tl.utSdk, Tl.ugLs, Tl.uEnS, Tl.utLnT, Tl.utSm, Tl.umSplit, Tl.umStarts, Tl.umJoin, Tl.ucStr, Tl.ucIntS, Tl.ubInS, Tl.uZiT, Tl.uDisp1, Tl.uIsB, Tl.uSortDI, Tl.op_lane, Tl.op_lanes, Tl.op_mine, Tl.op_num, Tl.op_name, Tl.op_box, Tl.cut_tail, Tl.val_name, Tl.val_row, Tl.val_def, Tl.val_back, Tl.ofS_inj, String.reduceEq, Tl.uDic, Tl.oDA_ki, Tl.oDA_ks, Tl.oDA_t, Tl.oPA_ki, Tl.oPA_ks, Tl.oPA_t, Tl.consK_s, Tl.kT_nil, Tl.kT_i, Tl.kT_s, Tl.uzDict, Tl.uIn, Tl.uRepS, Tl.uRep, Tl.uRepM, Tl.uCatT, Tl.uSlT, Tl.oLD_k, Tl.oLD_t, Tl.uLenD, Tl.z_tDnK, Tl.z_tDnT, Tl.z_tDg, Tl.z_tDi, Tl.z_tDg2, Tl.z_tRe, Tl.z_sRe, Tl.wip, Tl.uObj, Tl.oAt_i, Tl.cxK, Tl.cxKn, true_or, or_true, or_false, false_or, Nat.zero_le, Nat.le_refl, Tl.mup_same, Tl.mup_mup, Tl.uAlt, Tl.z_tFd, Tl.z_sFd, Tl.z_sFa, Tl.z_tMe, Tl.z_tMk, Tl.nthD, Tl.putD, Tl.uFo, Tl.uLcF, Tl.uLcV', Tl.uAsRef, Tl.z_sNx, Tl.z_sSq, Tl.z_sBk, Tl.z_sCt, Tl.z_sDr, Tl.z_sRt, Tl.z_sRtN, Tl.z_sIf, Tl.z_sAs, Tl.z_gN, Tl.z_gSb, Tl.z_tK, Tl.z_tO, Tl.z_tU, Tl.z_tCa, Tl.z_tN, Tl.z_tCs, Tl.z_tAn, Tl.tOr', Tl.z_tNo, Tl.z_tIfE, Tl.z_tCl, Tl.z_tTu, Tl.z_tLi, Tl.z_tLm, Tl.z_tSc, Tl.z_oNo, Tl.z_tMt, Tl.z_tMt0, Tl.z_tYe, Tl.z_tLt, Tl.kit_ii, Tl.kit_ib, Tl.kit_bi, Tl.kit_bb, Tl.kit_si, Tl.kit_ss, Tl.kit_is, Tl.kit_tt, Tl.kit_ll, Tl.kit_lt, Tl.kit_tl, Tl.kit_ts, Tl.kit_ls, Tl.kit_sl, Tl.kit_st, Tl.kit_it, Tl.kit_il, Tl.kit_dd, Tl.kit_ni, Tl.kit_nb, Tl.begin_, Tl.nth, List.map, List.length, List.replicate, List.append, List.set, List.nil_append, List.cons_append, List.append_nil, Nat.reduceAdd, Nat.reduceSub, Nat.zero_add, reduceIte, Bool.false_eq_true, Bool.true_eq_false, Bool.not_eq_true', Bool.not_eq_false', Bool.not_true, Bool.not_false, not_true_eq_false, not_false_eq_true, decide_eq_true_eq, decide_eq_false_iff_not, decide_not, Option.isSome_some, true_and, and_true, Int.reduceLT, Int.reduceLE, Int.reduceNeg, List.cons.injEq, Option.some.injEq, PySem.sizeLine_eq, Nat.reduceLeDiff, List.length_map, List.length_append, List.length_cons, List.length_nil, Tl.oBl_i, Tl.oInt_i, Tl.oStr_i, Tl.oTup_i, Tl.oSome_i, Tl.oBl_if, Tl.uV, Tl.uBo, Tl.uAnV, Tl.uOrV, Tl.uNoV, Tl.uCh, Tl.uNl0, Tl.uCs1, Tl.uTp, Tl.uAg, Tl.uInt, Tl.uInt0, Tl.uNegI, Tl.uEq, Tl.uNe, Tl.dScal_ii, Tl.dScal_ss, Tl.dScal_bb, Tl.dScal_nn, Tl.dScal_ni, Tl.dScal_in, Tl.dScal_is, Tl.dScal_si, Tl.uIsN, Tl.uNotN, Tl.nonD_n, Tl.nonD_i, Tl.nonD_s, Tl.nonD_t, Tl.nonD_l, Tl.nonD_b, Tl.nonD_r, Tl.uCatS, Tl.uCatL, Tl.uCatM, Tl.lstOf_l, Tl.lstOf_c, Tl.lstOf_m, Tl.trkOf_l, Tl.trkOf_m, Tl.tupOf_t, Tl.tupOf_b, Tl.seqOf_t, Tl.seqOf_b, Tl.seqOf_l, Tl.seqOf_c, Tl.seqOf_r, Tl.uIx_t, Tl.uIx_b, Tl.uIx_l, Tl.uIx_c, Tl.uIx_s, Tl.uIx_r, Tl.uYes, Tl.uSlL, Tl.uSlM, Tl.uSlS, Tl.uIsi, Tl.dTy_n, Tl.dTy_b, Tl.dTy_i, Tl.dTy_s, Tl.dTy_t, Tl.dTy_l, Tl.uLen, Tl.lenOf_t, Tl.lenOf_b, Tl.lenOf_l, Tl.lenOf_c, Tl.lenOf_m, Tl.uIntI, Tl.uIntB, Tl.uLs, Tl.uTu, Tl.oL1_i, Tl.oL2_i, Tl.oL3_i, Tl.uR1, Tl.uR2, Tl.uR3, Tl.uEn, Tl.uZi, Tl.uSt, Tl.uRv, Tl.uDivmod, Tl.uList, Tl.uListM, Tl.uSum, Tl.uMax, Tl.uMin, Tl.intLst_l, Tl.intLst_c, Tl.blLst_l, Tl.uMax2, Tl.uMin2, Tl.uAbs, Tl.uAny, Tl.uAll, Tl.mLst_m, Tl.uAppend, Tl.uExtend, Tl.uPop, Tl.uSet, Tl.lMt_l, Tl.isS_m, Tl.atI_0, Tl.atI_1, Tl.atI_2, Tl.atI_3, Tl.atI_4, Tl.atI_5])
local macro_rules | `(tactic| walk_at "vh") => `(tactic| simp only [Tl.uDispC, Tl.utSdk, Tl.ugLs, Tl.uEnS, Tl.utLnT, Tl.utSm, Tl.umSplit, Tl.umStarts, Tl.umJoin, Tl.ucStr, Tl.ucIntS, Tl.ubInS, Tl.uZiT, Tl.uDisp1, Tl.uIsB, Tl.uSortDI, Tl.op_lane, Tl.op_lanes, Tl.op_mine, Tl.op_num, Tl.op_name, Tl.op_box, Tl.cut_tail, Tl.val_name, Tl.val_row, Tl.val_def, Tl.val_back, Tl.ofS_inj, String.reduceEq, Tl.uDic, Tl.oDA_ki, Tl.oDA_ks, Tl.oDA_t, Tl.oPA_ki, Tl.oPA_ks, Tl.oPA_t, Tl.consK_s, Tl.kT_nil, Tl.kT_i, Tl.kT_s, Tl.uzDict, Tl.uIn, Tl.uRepS, Tl.uRep, Tl.uRepM, Tl.uCatT, Tl.uSlT, Tl.oLD_k, Tl.oLD_t, Tl.uLenD, Tl.z_tDnK, Tl.z_tDnT, Tl.z_tDg, Tl.z_tDi, Tl.z_tDg2, Tl.z_tRe, Tl.z_sRe, Tl.wip, Tl.uObj, Tl.oAt_i, Tl.cxK, Tl.cxKn, true_or, or_true, or_false, false_or, Nat.zero_le, Nat.le_refl, Tl.mup_same, Tl.mup_mup, Tl.uAlt, Tl.z_tFd, Tl.z_sFd, Tl.z_sFa, Tl.z_tMe, Tl.z_tMk, Tl.nthD, Tl.putD, Tl.uFo, Tl.uLcF, Tl.uLcV', Tl.uAsRef, Tl.z_sNx, Tl.z_sSq, Tl.z_sBk, Tl.z_sCt, Tl.z_sDr, Tl.z_sRt, Tl.z_sRtN, Tl.z_sIf, Tl.z_sAs, Tl.z_gN, Tl.z_gSb, Tl.z_tK, Tl.z_tO, Tl.z_tU, Tl.z_tCa, Tl.z_tN, Tl.z_tCs, Tl.z_tAn, Tl.tOr', Tl.z_tNo, Tl.z_tIfE, Tl.z_tCl, Tl.z_tTu, Tl.z_tLi, Tl.z_tLm, Tl.z_tSc, Tl.z_oNo, Tl.z_tMt, Tl.z_tMt0, Tl.z_tYe, Tl.z_tLt, Tl.kit_ii, Tl.kit_ib, Tl.kit_bi, Tl.kit_bb, Tl.kit_si, Tl.kit_ss, Tl.kit_is, Tl.kit_tt, Tl.kit_ll, Tl.kit_lt, Tl.kit_tl, Tl.kit_ts, Tl.kit_ls, Tl.kit_sl, Tl.kit_st, Tl.kit_it, Tl.kit_il, Tl.kit_dd, Tl.kit_ni, Tl.kit_nb, Tl.begin_, Tl.nth, List.map, List.length, List.replicate, List.append, List.set, List.nil_append, List.cons_append, List.append_nil, Nat.reduceAdd, Nat.reduceSub, Nat.zero_add, reduceIte, Bool.false_eq_true, Bool.true_eq_false, Bool.not_eq_true', Bool.not_eq_false', Bool.not_true, Bool.not_false, not_true_eq_false, not_false_eq_true, decide_eq_true_eq, decide_eq_false_iff_not, decide_not, Option.isSome_some, true_and, and_true, Int.reduceLT, Int.reduceLE, Int.reduceNeg, List.cons.injEq, Option.some.injEq, PySem.sizeLine_eq, Nat.reduceLeDiff, List.length_map, List.length_append, List.length_cons, List.length_nil, Tl.oBl_i, Tl.oInt_i, Tl.oStr_i, Tl.oTup_i, Tl.oSome_i, Tl.oBl_if, Tl.uV, Tl.uBo, Tl.uAnV, Tl.uOrV, Tl.uNoV, Tl.uCh, Tl.uNl0, Tl.uCs1, Tl.uTp, Tl.uAg, Tl.uInt, Tl.uInt0, Tl.uNegI, Tl.uEq, Tl.uNe, Tl.dScal_ii, Tl.dScal_ss, Tl.dScal_bb, Tl.dScal_nn, Tl.dScal_ni, Tl.dScal_in, Tl.dScal_is, Tl.dScal_si, Tl.uIsN, Tl.uNotN, Tl.nonD_n, Tl.nonD_i, Tl.nonD_s, Tl.nonD_t, Tl.nonD_l, Tl.nonD_b, Tl.nonD_r, Tl.uCatS, Tl.uCatL, Tl.uCatM, Tl.lstOf_l, Tl.lstOf_c, Tl.lstOf_m, Tl.trkOf_l, Tl.trkOf_m, Tl.tupOf_t, Tl.tupOf_b, Tl.seqOf_t, Tl.seqOf_b, Tl.seqOf_l, Tl.seqOf_c, Tl.seqOf_r, Tl.uIx_t, Tl.uIx_b, Tl.uIx_l, Tl.uIx_c, Tl.uIx_s, Tl.uIx_r, Tl.uYes, Tl.uSlL, Tl.uSlM, Tl.uSlS, Tl.uIsi, Tl.dTy_n, Tl.dTy_b, Tl.dTy_i, Tl.dTy_s, Tl.dTy_t, Tl.dTy_l, Tl.uLen, Tl.lenOf_t, Tl.lenOf_b, Tl.lenOf_l, Tl.lenOf_c, Tl.lenOf_m, Tl.uIntI, Tl.uIntB, Tl.uLs, Tl.uTu, Tl.oL1_i, Tl.oL2_i, Tl.oL3_i, Tl.uR1, Tl.uR2, Tl.uR3, Tl.uEn, Tl.uZi, Tl.uSt, Tl.uRv, Tl.uDivmod, Tl.uList, Tl.uListM, Tl.uSum, Tl.uMax, Tl.uMin, Tl.intLst_l, Tl.intLst_c, Tl.blLst_l, Tl.uMax2, Tl.uMin2, Tl.uAbs, Tl.uAny, Tl.uAll, Tl.mLst_m, Tl.uAppend, Tl.uExtend, Tl.uPop, Tl.uSet, Tl.lMt_l, Tl.isS_m, Tl.atI_0, Tl.atI_1, Tl.atI_2, Tl.atI_3, Tl.atI_4, Tl.atI_5, *])
namespace K23
open PySem PySem.Spec PyProof.Rows L2 Tl
section
variable {P : Program} {w : World} {K : PySem.W.Frag} {mg : Str → Option Value} {base : Heap}
def spWhole : SpT := fun ds M Q _ => ∃ i : Int, ds = [.int i] ∧ Q (.bl true) M
theorem ok_l_whole (T : Tp K mg) : Fn P w K mg base CX0 1 "_law_whole" spWhole := by
  refine fn_top T.top 43 e_l_whole (m_l_whole T) sc_l_whole (by rintro _ M Q Et ⟨n, rfl, _⟩; rfl) (fun cdv A outer s H E hr => ⟨_, (qss_one (qs_ret (q_and (q_callB cq_isi (m_isinstance T) (by decide +kernel) (qa_cons (qv 0) (qa_cons (q_ty "int" (m_int T) (by decide +kernel)) qa_nil))) (q_one (q_not (q_callB cq_isi (m_isinstance T) (by decide +kernel) (qa_cons (qv 0) (qa_cons (q_ty "bool" (m_bool T) (by decide +kernel)) qa_nil)))))))), ?_⟩) (fun _ _ _ _ _ _ us hl => match us, hl with | [_], _ => rfl)
  rintro _ M Q Et ⟨i, rfl, h⟩
  walk_at "vc"
  exact h
def spMixed : SpT := fun ds M Q _ => ∃ (c : Int) (k : Nat), ds = [.int c, .int k] ∧ k ≤ 1000 ∧ Q (.int (mixG c k)) M
theorem ok_l_mixed (T : Tp K mg) : Fn P w K mg base CX0 1 "_law_mixed" spMixed := by
  refine fn_top T.top 44 e_l_mixed (m_l_mixed T) sc_l_mixed (by rintro _ M Q Et ⟨n, _, rfl, _⟩; rfl) (fun cdv A outer s H E hr => ⟨_, (qss_cons (qs_set (i := 2) sc_l_mixed.nd (q_op oq_mod (q_op oq_addI (q_op oq_addI (q_op oq_mulS (qv 0) q_int) (q_op oq_mulS (q_op oq_mulS (qv 1) (qv 1)) q_int)) q_int) q_int))
 (qss_one (qs_ret (q_op oq_mod (q_op oq_mulS (qv 2) (qv 2)) q_int)))), ?_⟩) (fun _ _ _ _ _ _ us hl => match us, hl with | [_, _], _ => rfl)
  rintro _ M Q Et ⟨c, k, rfl, hk, h⟩
  walk_at "vc"
  have b := modB (a := c * 48271 + (k : Int) * k * 7919 + 101) (b := 2147483647) (by decide)
  refine ⟨ms_r ⟨by decide, by decide⟩, ms_r ⟨by omega, by omega⟩, ms_r ⟨by decide, by decide⟩, ms_r ⟨by omega, by omega⟩, h⟩
def spLeafBy : SpT := fun ds M Q _ => ∃ c : Int, ds = [.int c] ∧ Q (leafK c).d M
theorem ok_l_leaf_by (T : Tp K mg) : Fn P w K mg base CX0 1 "_law_leaf_by" spLeafBy := by
  refine fn_top T.top 45 e_l_leaf_by (m_l_leaf_by T) sc_l_leaf_by (by rintro _ M Q Et ⟨n, rfl, _⟩; rfl) (fun cdv A outer s H E hr => ⟨_, (qss_cons (qs_if (qt_cmp oq_eq (q_op oq_mod (qv 0) q_int) q_int)
  (qss_one (qs_ret (q_tup (qa_cons q_str (qa_cons (q_op oq_sub (q_op oq_mod (q_op oq_fdiv (qv 0) q_int) q_int) q_int) qa_nil)))))
  qss_nil)
 (qss_cons (qs_if (qt_cmp oq_eq (q_op oq_mod (qv 0) q_int) q_int)
  (qss_one (qs_ret (q_tup (qa_cons (q_ix (q_lst (qa_cons q_str (qa_cons q_str (qa_cons q_str qa_nil)))) (q_op oq_mod (q_op oq_fdiv (qv 0) q_int) q_int)) qa_nil))))
  qss_nil)
 (qss_one (qs_ret (q_tup (qa_cons q_str (qa_cons (q_ix (q_lst (qa_lits (ds := [.str "n", .str "nn", .str "x", .str "t", .str "z"]) rfl)) (q_op oq_mod (q_op oq_fdiv (qv 0) q_int) q_int)) qa_nil))))))), ?_⟩) (fun _ _ _ _ _ _ us hl => match us, hl with | [_], _ => rfl)
  rintro _ M Q Et ⟨c, rfl, h⟩
  walk_at "vc"
  unfold leafK at h
  by_cases e : c % 3 = 0
  · rw [if_pos e] at h ⊢
    exact ⟨wd60 (by decide) (by decide), h⟩
  · rw [if_neg e] at h ⊢
    have b3 := modB (a := c / 3) (b := 3) (by decide)
    have b5 := modB (a := c / 3) (b := 5) (by decide)
    by_cases e1 : c % 3 = 1
    · rw [if_pos e1] at h ⊢
      refine ⟨wd60 (by decide) (by decide), ?_⟩
      obtain ⟨j, hj⟩ : ∃ j, j = c / 3 % 3 := ⟨_, rfl⟩
      rw [← hj] at h b3 ⊢
      have : j = 0 ∨ j = 1 ∨ j = 2 := by omega
      rcases this with rfl | rfl | rfl <;> exact h
    · rw [if_neg e1] at h ⊢
      refine ⟨wd60 (by decide) (by decide), ?_⟩
      refine pickX (f := D.str) fiveK "" rfl b5.1 b5.2 ?_
      exact h
def spToldBy : SpT := fun ds M Q _ => ∃ c : Int, ds = [.int c] ∧ 0 ≤ c ∧ Q (toldK c).d M
theorem ok_l_told_by (T : Tp K mg) : Fn P w K mg base CX0 2 "_law_told_by" spToldBy := by
  refine fn_top T.top 46 e_l_told_by (m_l_told_by T) sc_l_told_by (by rintro _ M Q Et ⟨n, rfl, _⟩; rfl) (fun cdv A outer s H E hr => ⟨_, (qss_cons (qs_set (i := 1) sc_l_told_by.nd (q_op oq_fdiv (qv 0) q_int))
 (qss_cons (qs_if (qt_cmp oq_eq (q_op oq_mod (qv 0) q_int) q_int)
  (qss_one (qs_ret (q_tup (qa_cons q_str (qa_cons (q_call (ok_l_leaf_by T) (hr.mono (by decide)) (qa_cons (qv 1) qa_nil)) qa_nil)))))
  qss_nil)
 (qss_cons (qs_if (qt_cmp oq_eq (q_op oq_mod (qv 0) q_int) q_int)
  (qss_one (qs_ret (q_call (ok_l_leaf_by T) (hr.mono (by decide)) (qa_cons (qv 1) qa_nil))))
  qss_nil)
 (qss_cons (qs_set (i := 2) sc_l_told_by.nd (q_ix (q_lst (qa_lits (ds := [.str "+", .str "-", .str "*", .str "div", .str "rem", .str "<", .str "="]) rfl)) (q_op oq_mod (q_op oq_fdiv (qv 0) q_int) q_int)))
 (qss_cons (qs_set (i := 3) sc_l_told_by.nd (q_op oq_mod (q_op oq_mulS (qv 1) q_int) q_int))
 (qss_cons (qs_set (i := 4) sc_l_told_by.nd (q_call (ok_l_leaf_by T) (hr.mono (by decide)) (qa_cons (qv 3) qa_nil)))
 (qss_cons (qs_if (qt_cmp oq_eq (q_op oq_mod (q_op oq_fdiv (qv 3) q_int) q_int) q_int)
  (qss_one (qs_set (i := 4) sc_l_told_by.nd (q_tup (qa_cons (q_ix (q_lst (qa_cons q_str (qa_cons q_str (qa_cons q_str qa_nil)))) (q_op oq_mod (qv 3) q_int)) (qa_cons (qv 4) (qa_cons (q_call (ok_l_leaf_by T) (hr.mono (by decide)) (qa_cons (q_op oq_fdiv (qv 3) q_int) qa_nil)) qa_nil))))))
  qss_nil)
 (qss_cons (qs_if (qt_cmp oq_eq (q_op oq_mod (q_op oq_fdiv (qv 3) q_int) q_int) q_int)
  (qss_one (qs_set (i := 4) sc_l_told_by.nd (q_tup (qa_cons q_str (qa_cons (qv 4) qa_nil)))))
  qss_nil)
 (qss_cons (qs_if (qt_cmp oq_eq (q_op oq_mod (qv 1) q_int) q_int)
  (qss_one (qs_ret (q_tup (qa_cons (qv 2) (qa_cons (qv 4) (qa_cons (q_call (ok_l_leaf_by T) (hr.mono (by decide)) (qa_cons (q_op oq_fdiv (qv 1) q_int) qa_nil)) qa_nil))))))
  qss_nil)
 (qss_one (qs_ret (q_tup (qa_cons (qv 2) (qa_cons (q_call (ok_l_leaf_by T) (hr.mono (by decide)) (qa_cons (q_op oq_fdiv (qv 1) q_int) qa_nil)) (qa_cons (qv 4) qa_nil))))))))))))))), ?_⟩) (fun _ _ _ _ _ _ us hl => match us, hl with | [_], _ => rfl)
  rintro _ M Q Et ⟨c, rfl, h0, h⟩
  walk_at "vc"
  refine ⟨wd60 (by decide) (by decide), ?_⟩
  have b7 := modB (a := c / 3) (b := 7) (by decide)
  unfold toldK at h
  by_cases e0 : c % 3 = 0
  · rw [if_pos e0] at h ⊢
    exact ⟨_, rfl, h⟩
  rw [if_neg e0] at h ⊢
  by_cases e1 : c % 3 = 1
  · rw [if_pos e1] at h ⊢
    exact ⟨_, rfl, h⟩
  rw [if_neg e1] at h ⊢
  refine ⟨wd60 (by decide) (by decide), ?_⟩
  refine pickX (f := fun o : Op7 => D.str o.s) op7K .add rfl b7.1 b7.2 ?_
  generalize op7K.getD (c / 3 % 7).toNat .add = o at h ⊢
  refine ⟨ms_r ⟨by decide, by decide⟩, _, rfl, ?_⟩
  generalize c / 21 * 48271 % 2147483647 = oth at h ⊢
  generalize c / 21 = r at h ⊢
  refine ⟨wd60 (by decide) (by decide), ?_⟩
  have fin : ∀ x : Ex, x = innerK oth → (if r % 2 = 0 then CDivW r 2 ∧ spLeafBy [D.int (r / 2)] M (fun x_2 M1 => Q (D.tup [D.str o.s, x.d, x_2]) M1) Et0
      else CDivW r 2 ∧ spLeafBy [D.int (r / 2)] M (fun x_2 M1 => Q (D.tup [D.str o.s, x_2, x.d]) M1) Et0) := fun x hx => by
    subst hx
    by_cases e2 : r % 2 = 0
    · rw [if_pos e2] at h ⊢
      exact ⟨wd60 (by decide) (by decide), _, rfl, h⟩
    · rw [if_neg e2] at h ⊢
      exact ⟨wd60 (by decide) (by decide), _, rfl, h⟩
  by_cases e3 : oth / 3 % 4 = 1
  · have b3 := modB (a := oth) (b := 3) (by decide)
    have e4 : ¬ oth / 3 % 4 = 2 := by omega
    rw [if_pos e3]
    refine pickX (f := fun o : Op7 => D.str o.s) op3K .add rfl b3.1 b3.2 ?_
    refine ⟨wd60 (by decide) (by decide), _, rfl, wd60 (by decide) (by decide), ?_⟩
    rw [if_neg e4]
    exact fin (.op (op3K.getD (oth % 3).toNat .add) (leafK oth) (leafK (oth / 31))) (by unfold innerK; rw [if_pos e3])
  · rw [if_neg e3]
    refine ⟨wd60 (by decide) (by decide), ?_⟩
    by_cases e4 : oth / 3 % 4 = 2
    · rw [if_pos e4]
      exact fin (.box (leafK oth)) (by unfold innerK; rw [if_neg e3, if_pos e4])
    · rw [if_neg e4]
      exact fin (leafK oth) (by unfold innerK; rw [if_neg e3, if_neg e4])
def pkD (k : Pk) : D := .str k.s
def spWordBy : SpT := fun ds M Q _ => ∃ (c : Int) (a : Addr) (p : List Pk) (main : Bool), ds = [.int c, .ref a, .bl main] ∧ M a = some (.lst (p.reverse.map pkD)) ∧ p.length ≤ 5 ∧ Q (.str (wordK c p main).s) M
theorem ok_l_word_by (T : Tp K mg) : Fn P w K mg base CX0 1 "_law_word_by" spWordBy := by
  refine fn_top T.top 47 e_l_word_by (m_l_word_by T) sc_l_word_by (by rintro _ M Q Et ⟨n, _, _, _, rfl, _⟩; rfl) (fun cdv A outer s H E hr => ⟨_, (qss_cons (qs_set (i := 3) sc_l_word_by.nd (q_op oq_mod (qv 0) q_int))
 (qss_cons (qs_if (qt_w (qw_and (qt_cmp oq_lt (qv 3) q_int) (qw_and1 (qt_cmp oq_lt (q_callB cq_len (m_len T) (by decide +kernel) (qa_cons (qv 1) qa_nil)) q_int))))
  (qss_one (qs_ret (q_ix (q_lst (qa_cons q_str (qa_cons q_str qa_nil))) (qv 3))))
  qss_nil)
 (qss_cons (qs_if (qt_w (qw_and (qt_cmp oq_eq (qv 3) q_int) (qw_and1 (qt_cmp (oq_eqD (un64 hr)) (q_sliceL (qv 1) (qo_some (q_un uq_neg q_int)) qo_none) (q_lst (qa_cons q_str qa_nil))))))
  (qss_one (qs_ret q_str))
  qss_nil)
 (qss_cons (qs_if (qt_w (qw_and (qt_cmp oq_gt (qv 3) q_int) (qw_and (qt_cmp oq_lt (qv 3) q_int) (qw_and1 (qt_cmp oq_gt (q_callB cq_len (m_len T) (by decide +kernel) (qa_cons (qv 1) qa_nil)) q_int)))))
  (qss_one (qs_ret q_str))
  qss_nil)
 (qss_cons (qs_if (qt_w (qw_and (qt_cmp oq_gt (qv 3) q_int) (qw_and (qt_cmp oq_lt (qv 3) q_int) (qw_and1 (qt_cmp oq_inQ q_str (qv 1))))))
  (qss_one (qs_ret (q_ix (q_lst (qa_cons q_str (qa_cons q_str qa_nil))) (q_op oq_sub (qv 3) q_int))))
  qss_nil)
 (qss_cons (qs_if (qt_w (qw_and (qt_cmp oq_eq (qv 3) q_int) (qw_and1 (qt_not (qt_val (qv 2))))))
  (qss_one (qs_ret q_str))
  qss_nil)
 (qss_one (qs_ret (q_ix (q_lst (qa_lits (ds := [.str "tell", .str "set", .str "put", .str "join", .str "meet", .str "stop", .str "set"]) rfl)) (q_op oq_mod (q_op oq_fdiv (qv 0) q_int) q_int)))))))))), ?_⟩) (fun _ _ _ _ _ _ us hl => match us, hl with | [_, _, _], _ => rfl)
  rintro _ M Q Et ⟨c, a, p, main, rfl, hM, hp, h⟩
  walk_at "vc"
  rw [lenOf_of hM]
  walk_at "vc"
  rw [List.length_reverse]
  have b12 := modB (a := c) (b := 12) (by decide)
  have b7 := modB (a := c / 12) (b := 7) (by decide)
  have tail : wordK c p main = othK.getD (c / 12 % 7).toNat .tell → (CDivW c 12 ∧ oSome (atI [D.str (Str.ofString "tell"), D.str (Str.ofString "set"), D.str (Str.ofString "put"), D.str (Str.ofString "join"), D.str (Str.ofString "meet"), D.str (Str.ofString "stop"), D.str (Str.ofString "set")] (c / 12 % 7)) fun d => Q d M) := fun e => by
    rw [e] at h
    exact ⟨wd60 (by decide) (by decide), pickX (f := fun k : Kw => D.str k.s) othK .tell rfl b7.1 b7.2 h⟩
  have hwd : wordK c p main = if c % 12 < 2 ∧ p.length < 5 then (if c % 12 = 0 then .iff else .whl)
    else if c % 12 = 2 ∧ p.head? = some .pi then .els
    else if 2 < c % 12 ∧ c % 12 < 5 ∧ 0 < p.length then .fin
    else if 4 < c % 12 ∧ c % 12 < 7 ∧ Pk.pw ∈ p then (if c % 12 = 5 then .brk else .agn)
    else if c % 12 = 7 ∧ main = false then .ret
    else othK.getD (c / 12 % 7).toNat .tell := rfl
  have hin : ((p.reverse.map pkD).any fun z => eqD z (D.str (Str.ofString "while"))) = decide (Pk.pw ∈ p) := by
    rw [Bool.eq_iff_iff, List.any_eq_true, decide_eq_true_eq]
    constructor
    · rintro ⟨x, hx, e⟩
      obtain ⟨k, hk, rfl⟩ := List.mem_map.mp hx
      cases k
      · exact absurd e (by decide +kernel)
      · exact List.mem_reverse.mp hk
      · exact absurd e (by decide +kernel)
    · exact fun q => ⟨pkD .pw, List.mem_map.mpr ⟨_, List.mem_reverse.mpr q, rfl⟩, by decide +kernel⟩
  have hfl : (p.reverse.map pkD).all flatD = true := by
    rw [List.all_eq_true]
    intro x hx
    obtain ⟨k, hk, rfl⟩ := List.mem_map.mp hx
    rfl
  have cs : c % 12 = 0 ∨ c % 12 = 1 ∨ c % 12 = 2 ∨ c % 12 = 3 ∨ c % 12 = 4 ∨ c % 12 = 5 ∨ c % 12 = 6 ∨ c % 12 = 7 ∨ c % 12 = 8 ∨ c % 12 = 9 ∨ c % 12 = 10 ∨ c % 12 = 11 := by omega
  have two : ∀ m : Int, (m = 0 ∨ m = 1) → wordK c p main = (if p.length < 5 then (if m = 0 then Kw.iff else .whl) else othK.getD (c / 12 % 7).toNat .tell) →
      (if ((p.length : Nat) : Int) < 5 then oSome (atI [D.str (Str.ofString "if"), D.str (Str.ofString "while")] m) fun d => Q d M else (CDivW c 12 ∧ oSome (atI [D.str (Str.ofString "tell"), D.str (Str.ofString "set"), D.str (Str.ofString "put"), D.str (Str.ofString "join"), D.str (Str.ofString "meet"), D.str (Str.ofString "stop"), D.str (Str.ofString "set")] (c / 12 % 7)) fun d => Q d M)) := fun m hm e => by
    by_cases l : p.length < 5
    · rw [if_pos (by omega)]
      rw [if_pos l] at e
      rw [e] at h
      rcases hm with rfl | rfl <;> exact h
    · rw [if_neg (by omega)]
      rw [if_neg l] at e
      exact tail e
  rcases cs with hm | hm | hm | hm | hm | hm | hm | hm | hm | hm | hm | hm <;> rw [hm] at hwd ⊢ <;> walk_at "vc" <;> simp only [Int.reduceLT, Int.reduceEq, true_and, false_and, reduceIte] at hwd
  · exact two 0 (.inl rfl) (by rw [hwd]; split <;> rfl)
  · exact two 1 (.inr rfl) (by rw [hwd]; split <;> rfl)
  · rw [lstOf_of hM]
    walk_at "vc"
    simp only [Int.reduceEq, reduceIte]
    have fin2 : ∀ k : Option Pk, p.head? = k → ∀ zs : List D, zs = (match k with | none => [] | some k => [pkD k]) → ∀ b : Bool, (b = true ↔ D.lst zs = .lst [.str (Str.ofString "if")]) → (if b = true then Q (D.str (Str.ofString "else")) M else (CDivW c 12 ∧ oSome (atI [D.str (Str.ofString "tell"), D.str (Str.ofString "set"), D.str (Str.ofString "put"), D.str (Str.ofString "join"), D.str (Str.ofString "meet"), D.str (Str.ofString "stop"), D.str (Str.ofString "set")] (c / 12 % 7)) fun d => Q d M)) := fun k hk zs hz b hb => by
      rw [hk] at hwd
      rw [hz] at hb
      rcases k with _ | _ | _ | _
      · rw [if_neg (fun q => by have := hb.mp q; simp at this)]
        exact tail hwd
      · rw [if_pos (hb.mpr rfl)]
        rw [hwd] at h
        exact h
      · rw [if_neg (fun q => by have := hb.mp q; unfold pkD Pk.s at this; simp [ofS_inj] at this)]
        exact tail hwd
      · rw [if_neg (fun q => by have := hb.mp q; unfold pkD Pk.s at this; simp [ofS_inj] at this)]
        exact tail hwd
    cases p with
    | nil =>
      rw [List.reverse_nil, List.map_nil, cut_last0]
      refine eqD_pl 3 rfl rfl ok_nil (ok_one (by decide +kernel)) pl_nil pl_one fun b hb => ?_
      walk_at "vc"
      exact fin2 none rfl _ rfl b hb
    | cons k t =>
      rw [List.reverse_cons, List.map_append, List.map_singleton, cut_last1]
      refine eqD_pl 3 rfl rfl (ok_one (by cases k <;> decide +kernel)) (ok_one (by decide +kernel)) pl_one pl_one fun b hb => ?_
      walk_at "vc"
      exact fin2 (some k) rfl _ rfl b hb
  · simp only [Int.reduceEq, reduceIte]
    by_cases l : 0 < p.length
    · rw [if_pos (by omega)]; rw [hwd, if_pos l] at h; exact h
    · rw [if_neg (by omega)]; exact tail (by rw [hwd, if_neg l])
  · simp only [Int.reduceEq, reduceIte]
    by_cases l : 0 < p.length
    · rw [if_pos (by omega)]; rw [hwd, if_pos l] at h; exact h
    · rw [if_neg (by omega)]; exact tail (by rw [hwd, if_neg l])
  · simp only [Int.reduceEq, reduceIte]
    rw [lstOf_of hM]
    walk_at "vc"
    refine ⟨rfl, hfl, ?_⟩
    rw [hin]
    by_cases l : Pk.pw ∈ p
    · rw [decide_eq_true l, if_pos rfl]; rw [hwd, if_pos l] at h; exact h
    · rw [decide_eq_false l, if_neg (by decide)]; exact tail (by rw [hwd, if_neg l])
  · simp only [Int.reduceEq, reduceIte]
    rw [lstOf_of hM]
    walk_at "vc"
    refine ⟨rfl, hfl, ?_⟩
    rw [hin]
    by_cases l : Pk.pw ∈ p
    · rw [decide_eq_true l, if_pos rfl]; rw [hwd, if_pos l] at h; exact h
    · rw [decide_eq_false l, if_neg (by decide)]; exact tail (by rw [hwd, if_neg l])
  · simp only [Int.reduceEq, reduceIte]
    by_cases l : main = false
    · rw [if_pos l]; rw [hwd, if_pos l] at h; exact h
    · rw [if_neg l]; exact tail (by rw [hwd, if_neg l])
  all_goals
    simp only [Int.reduceEq, reduceIte]
    exact tail hwd
def extM (M M' : MH) : Prop := ∀ a o, M a = some o → M' a = some o
def spLines : SpT := fun ds M Q _ => ∃ (ns : List Int) (main : Bool), ds = [.scr (ns.map .int), .bl main] ∧ ns.length ≤ 63 ∧ Q (.lst ((linesLK ns main).map Lw.d)) M
theorem ok_l_lines (T : Tp K mg) : Fn P w K mg base CX0 3 "_law_lines" spLines := by
  refine fn_top T.top 48 e_l_lines (m_l_lines T) sc_l_lines (by rintro _ M Q Et ⟨n, _, rfl, _⟩; rfl) (fun cdv A outer s H E hr => ⟨_, (qss_cons (qs_set (i := 2) sc_l_lines.nd (q_lstM qa_nil))
 (qss_cons (qs_set (i := 3) sc_l_lines.nd (q_lstM qa_nil))
 (qss_cons (qs_for PassesOwn.never rfl (qi_enum (m_enumerate T) (qa_cons (q_sliceL (qv 0) (qo_some q_int) (qo_some q_int)) qa_nil)) (qg_tup (n := 2) rfl (qgs_cons (qg_name (i := 4) sc_l_lines.nd) (qgs_cons (qg_name (i := 5) sc_l_lines.nd) qgs_nil)))
  (qss_cons (qs_set (i := 6) sc_l_lines.nd (q_call (ok_l_mixed T) (hr.mono (by decide)) (qa_cons (qv 5) (qa_cons (qv 4) qa_nil))))
 (qss_cons (qs_set (i := 7) sc_l_lines.nd (q_call (ok_l_word_by T) (hr.mono (by decide)) (qa_cons (qv 6) (qa_cons (qv 3) (qa_cons (qv 1) qa_nil)))))
 (qss_cut (qs_if (qt_cmp oq_eq (qv 7) q_str)
  (qss_one (qs_expr (q_pop (qv 3))))
  qss_nil)
 (qss_cut (qs_if (qt_cmp oq_eq (qv 7) q_str)
  (qss_one (qs_asg q_str (qg_sub (qv 3) (q_un uq_neg q_int) sq_list)))
  qss_nil)
 (qss_cut (qs_if (qt_cmp oq_inQ (qv 7) (q_tup (qa_cons q_str (qa_cons q_str qa_nil))))
  (qss_one (qs_expr (q_append (qv 3) (qa_cons (qv 7) qa_nil))))
  qss_nil)
 (qss_cons (qs_set (i := 8) sc_l_lines.nd (q_ix (q_lst (qa_lits (ds := [.str "sum", .str "most", .str "least", .str "ahead"]) rfl)) (q_op oq_mod (q_op oq_fdiv (qv 6) q_int) q_int)))
 (qss_cons (qs_set (i := 9) sc_l_lines.nd (q_call (ok_l_told_by T) (hr.mono (by decide)) (qa_cons (q_call (ok_l_mixed T) (hr.mono (by decide)) (qa_cons (qv 6) (qa_cons (q_op oq_addI q_int (qv 4)) qa_nil))) qa_nil)))
 (qss_one (qs_expr (q_append (qv 2) (qa_cons (q_tup (qa_cons (qv 7) (qa_cons (q_ix (q_lst (qa_cons q_str (qa_cons q_str (qa_cons q_str qa_nil)))) (q_op oq_mod (q_op oq_fdiv (qv 6) q_int) q_int)) (qa_cons (qv 8) (qa_cons (qv 9) (qa_cons (q_call (ok_l_told_by T) (hr.mono (by decide)) (qa_cons (q_call (ok_l_mixed T) (hr.mono (by decide)) (qa_cons (qv 6) (qa_cons (q_op oq_addI q_int (qv 4)) qa_nil))) qa_nil)) qa_nil)))))) qa_nil))))))))))))
 (qss_cons (qs_for PassesOwn.never rfl (qi_list (qv 3)) (qg_name (i := 7) sc_l_lines.nd)
  (qss_one (qs_expr (q_append (qv 2) (qa_cons (q_tup (qa_cons q_str (qa_cons q_str (qa_cons q_str (qa_cons (q_tup (qa_cons q_str (qa_cons q_int qa_nil))) (qa_cons (q_tup (qa_cons q_str (qa_cons q_int qa_nil))) qa_nil)))))) qa_nil)))))
 (qss_one (qs_ret (q_re (qv 2)))))))), ?_⟩) (fun _ _ _ _ _ _ us hl => match us, hl with | [_, _], _ => rfl)
  rintro _ M Q Et ⟨ns, main, rfl, hl, h⟩
  walk_at "vc"
  intro p hp p1 hp1
  have hne : p1 ≠ p := fun q => by rw [q, mup_same] at hp1; cases hp1
  have hp1M : M p1 = none := by rw [mup_ne hne] at hp1; exact hp1
  have hM2 : extM M M := fun a o e => e
  have hext : ∀ (M' : MH) o, extM M M' → extM M (mup M' p o) := fun M' o e a u ha => by
    rw [mup_ne (fun q => by rw [q, hp] at ha; cases ha)]
    exact e a u ha
  have hext1 : ∀ (M' : MH) o, extM M M' → extM M (mup M' p1 o) := fun M' o e a u ha => by
    rw [mup_ne (fun q => by rw [q, hp1M] at ha; cases ha)]
    exact e a u ha
  rw [show Tl.cutD (List.map D.int ns) (some 1) (some 91) = ((ns.take 91).drop 1).map D.int from by rw [show (some (1 : Int)) = some ((1 : Nat) : Int) from rfl, show (some (91 : Int)) = some ((91 : Nat) : Int) from rfl, cut_both, ← List.map_take, ← List.map_drop]]
  have hcl : ((ns.take 91).drop 1).length ≤ 62 := by rw [List.length_drop, List.length_take]; omega
  refine for_any (fun i τ M' => ∃ x4 x5 x6 x7 x8 x9, τ = [some (.scr (ns.map .int)), some (.bl main), some (.ref p), some (.ref p1), x4, x5, x6, x7, x8, x9] ∧ extM M M' ∧ M' p = some (.lst ((bodyLK ns main i).1.map Lw.d)) ∧ M' p1 = some (.lst ((bodyLK ns main i).2.reverse.map pkD))) ⟨_, _, _, _, _, _, rfl, hext1 _ _ (hext _ _ hM2), by rw [mup_ne hne.symm]; exact mup_same, mup_same⟩ (fun _ _ _ _ => trivial) ?_ ?_
  · rintro i x τ M' hx ⟨x4, x5, x6, x7, x8, x9, rfl, hE, h1, h2⟩
    obtain ⟨c, hc, rfl⟩ := enumD_map hx
    have hi : i < ((ns.take 91).drop 1).length := (List.getElem?_eq_some_iff.mp hc).1
    have hcd : ((ns.take 91).drop 1).getD i 0 = c := by rw [List.getD_eq_getElem?_getD, hc]; rfl
    have eb : bodyLK ns main (i + 1) = stepLK ns main (bodyLK ns main i) i := range_fold ..
    obtain ⟨g1, g2, g3, g4⟩ := bodyLK_may ns main i
    have gm := wordK_may (c := mixG c i) (k := i) (q := (bodyLK ns main i).2) (main := main)
    unfold stepLK at eb
    rw [hcd] at eb
    generalize bodyLK ns main i = st at *
    obtain ⟨L, q⟩ := st
    dsimp only at g1 g2 g3 g4 gm h1 h2 eb
    walk_at "vc"
    refine ⟨c, i, rfl, by omega, ?_⟩
    refine ⟨mixG c i, p1, q, main, rfl, h2, g4, ?_⟩
    have c0 : 0 ≤ mixG c i := Int.emod_nonneg _ (by decide)
    have hk : mayKw (wordK (mixG c i) q main) q main := gm
    rw [eb]
    unfold lineK
    dsimp only
    generalize wordK (mixG c i) q main = k at hk ⊢
    generalize mixG c i = m at c0 ⊢
    refine cut_by (fun τ M2 => τ = [some (.scr (ns.map .int)), some (.bl main), some (.ref p), some (.ref p1), some (.int (i : Nat)), some (.int c), some (.int m), some (.str k.s), x8, x9] ∧ extM M M2 ∧ M2 p = some (.lst (L.map Lw.d)) ∧ M2 p1 = some (.lst ((if k = .fin then q.tail else q).reverse.map pkD))) ?_ ?_
    · by_cases ek : k = .fin
      · subst ek
        have hq : 0 < q.length := hk
        obtain ⟨z, t, rfl⟩ : ∃ z t, q = z :: t := by cases q with
          | nil => cases hq
          | cons z t => exact ⟨z, t, rfl⟩
        unfold Kw.s
        walk_at "vc"
        refine ⟨is_m h2, ?_⟩
        rw [mLst_of h2, List.reverse_cons, List.map_append, List.map_singleton]
        simp only [oSome_i]
        rw [List.getLast?_concat, List.dropLast_concat]
        simp only [oSome_i]
        exact ⟨hext1 _ _ hE, by rw [mup_ne hne.symm]; exact h1, rfl⟩
      · rw [if_neg ek]
        have : ¬ k.s = Str.ofString "end" := by cases k <;> first | exact absurd rfl ek | decide +kernel
        walk_at "vc"
        rw [if_neg this]
        exact ⟨hE, h1, h2⟩
    rintro τ M2 ⟨rfl, hE2, k1, k2⟩
    refine cut_by (fun τ M2 => τ = [some (.scr (ns.map .int)), some (.bl main), some (.ref p), some (.ref p1), some (.int (i : Nat)), some (.int c), some (.int m), some (.str k.s), x8, x9] ∧ extM M M2 ∧ M2 p = some (.lst (L.map Lw.d)) ∧ M2 p1 = some (.lst ((if k = .fin ∨ k = .els then pilK k q else q).reverse.map pkD))) ?_ ?_
    · by_cases ek : k = .els
      · subst ek
        have hq : q.head? = some .pi := hk
        obtain ⟨z, t, rfl⟩ : ∃ z t, q = z :: t := by cases q with
          | nil => cases hq
          | cons z t => exact ⟨z, t, rfl⟩
        rw [if_neg (by decide)] at k2
        unfold Kw.s
        walk_at "vc"
        rw [List.reverse_cons, List.map_append, List.map_singleton] at k2
        rw [mLst_of k2]
        simp only [oSome_i]
        have : ixN (t.reverse.map pkD ++ [pkD z]).length (-1) = some (t.reverse.map pkD).length := by
          unfold ixN
          rw [List.length_append, List.length_singleton, if_neg (by omega), if_pos (by omega)]
          congr 1
          omega
        rw [this]
        simp only [oSome_i]
        rw [List.set_append_right _ _ (Nat.le_refl _), Nat.sub_self]
        refine ⟨hext1 _ _ hE2, by rw [mup_ne hne.symm]; exact k1, ?_⟩
        show _ = MO.lst (List.map pkD (Pk.pe :: t).reverse)
        rw [List.reverse_cons, List.map_append]
        rfl
      · have : ¬ k.s = Str.ofString "else" := by cases k <;> first | exact absurd rfl ek | decide +kernel
        walk_at "vc"
        rw [if_neg this]
        refine ⟨hE2, k1, ?_⟩
        rw [k2]
        by_cases e2 : k = .fin
        · rw [if_pos e2, if_pos (.inl e2), e2]
          rfl
        · rw [if_neg e2, if_neg (fun w => w.elim e2 ek)]
    rintro τ M3 ⟨rfl, hE3, k3, k4⟩
    refine cut_by (fun τ M2 => τ = [some (.scr (ns.map .int)), some (.bl main), some (.ref p), some (.ref p1), some (.int (i : Nat)), some (.int c), some (.int m), some (.str k.s), x8, x9] ∧ extM M M2 ∧ M2 p = some (.lst (L.map Lw.d)) ∧ M2 p1 = some (.lst ((pilK k q).reverse.map pkD))) ?_ ?_
    · have more : ∀ w : Pk, pilK k q = w :: q → k ≠ .fin → k ≠ .els → ((lstOf M3 (D.ref p1)).isSome = true ∧ oSome (mLst M3 p1) fun ds => ds.length < 16777216 ∧ extM M (mup M3 p1 (MO.lst (ds ++ [pkD w]))) ∧ mup M3 p1 (MO.lst (ds ++ [pkD w])) p = some (MO.lst (List.map Lw.d L)) ∧ MO.lst (ds ++ [pkD w]) = MO.lst (List.map pkD (pilK k q).reverse)) := fun w e1 e2 e3 => by
        rw [if_neg (fun z => z.elim e2 e3)] at k4
        refine ⟨is_m k4, ?_⟩
        rw [mLst_of k4]
        simp only [oSome_i]
        refine ⟨by rw [List.length_map, List.length_reverse]; omega, hext1 _ _ hE3, by rw [mup_ne hne.symm]; exact k3, ?_⟩
        rw [e1, List.reverse_cons, List.map_append]
        rfl
      cases k <;> (unfold Kw.s; walk_at "vc"; refine ⟨rfl, rfl, ?_⟩)
      · rw [if_pos (by decide +kernel)]
        exact more .pi rfl (by decide) (by decide)
      · rw [if_pos (by decide +kernel)]
        exact more .pw rfl (by decide) (by decide)
      all_goals
        rw [if_neg (by decide +kernel)]
        exact ⟨hE3, k3, k4⟩
    rintro τ M4 ⟨rfl, hE4, k5, k6⟩
    have b4 := modB (a := m / 84) (b := 4) (by decide)
    have b3 := modB (a := m / 336) (b := 3) (by decide)
    walk_at "vc"
    refine ⟨wd60 (by decide) (by decide), ?_⟩
    refine pickX (f := D.str) jtK "" rfl b4.1 b4.2 ?_
    refine ⟨m, 200 + i, rfl, by omega, ?_⟩
    refine ⟨mixG m (200 + i), rfl, Int.emod_nonneg _ (by decide), ?_⟩
    refine ⟨is_m k5, wd60 (by decide) (by decide), ?_⟩
    refine pickX (f := D.str) nmK "" rfl b3.1 b3.2 ?_
    refine ⟨m, 300 + i, rfl, by omega, ?_⟩
    refine ⟨mixG m (300 + i), rfl, Int.emod_nonneg _ (by decide), ?_⟩
    show oSome (mLst M4 p) _
    rw [mLst_of k5]
    simp only [oSome_i]
    refine ⟨by rw [List.length_map]; omega, _, _, _, _, _, _, ⟨rfl, rfl, rfl, rfl, rfl, rfl⟩, hext _ _ hE4, ?_, by rw [mup_ne hne]; exact k6⟩
    rw [List.map_append]
    rfl
  · rintro τ M' ⟨x4, x5, x6, x7, x8, x9, rfl, hE, h1, h2⟩
    have hil : (enumD (List.map D.int ((ns.take 91).drop 1))).length = ((ns.take 91).drop 1).length := by rw [enumD_range (0 : Int), List.length_map, List.length_range]
    rw [show ({ items := enumD (List.map D.int ((ns.take 91).drop 1)), src := fun M => True } : Its).items.length = ((ns.take 91).drop 1).length from hil] at h1 h2
    obtain ⟨g1, g2, g3, g4⟩ := bodyLK_may ns main ((ns.take 91).drop 1).length
    unfold linesLK at h
    dsimp only at h
    generalize bodyLK ns main ((ns.take 91).drop 1).length = st at *
    obtain ⟨L, q⟩ := st
    dsimp only at g1 g2 g3 g4 h1 h2 h
    walk_at "vc"
    rw [lstOf_of h2]
    simp only [oSome_i]
    refine for_map q.reverse pkD rfl (fun ys τ M2 => extM M M2 ∧ M2 p = some (.lst ((L ++ List.replicate ys.length endLw).map Lw.d)) ∧ M2 p1 = some (.lst (q.reverse.map pkD)) ∧ ∃ x4 x5 x6 x7 x8 x9, τ = [some (.scr (ns.map .int)), some (.bl main), some (.ref p), some (.ref p1), x4, x5, x6, x7, x8, x9]) ⟨hE, by rw [h1]; simp, h2, _, _, _, _, _, _, rfl⟩ (fun ys τ M2 w => lstOf_of w.2.2.1) ?_ ?_
    · rintro ys k zs τ M2 Nx hx ⟨hE2, k1, k2, x4, x5, x6, x7, x8, x9, rfl⟩ hN
      walk_at "vc"
      refine ⟨is_m k1, ?_⟩
      rw [mLst_of k1]
      simp only [oSome_i]
      have hyl : ys.length ≤ 5 := by have := congrArg List.length hx; rw [List.length_reverse, List.length_append] at this; omega
      refine ⟨by rw [List.length_map, List.length_append, List.length_replicate]; omega, hN _ _ ⟨hext _ _ hE2, ?_, by rw [mup_ne hne]; exact k2, _, _, _, _, _, _, rfl⟩⟩
      rw [mup_same, List.length_append, List.length_singleton, List.replicate_succ', ← List.append_assoc, List.map_append (l₂ := [endLw])]
      rfl
    · rintro τ M2 ⟨hE2, k1, k2, x4, x5, x6, x7, x8, x9, rfl⟩
      walk_at "vc"
      rw [List.length_reverse] at k1
      exact ⟨_, M, (ReR.freeze k1).trans (ReR.drop fun a o e => by unfold mdel; rw [if_neg (fun z => by rw [z, hp] at e; cases e)]; exact hE2 a o e), h⟩
def spWords (n : Nat) : SpT := fun ds M Q _ => ∃ (e : Ex), ds = [e.d] ∧ e.deep ≤ n ∧ n ≤ 8 ∧ okW e ∧ Q (.str (txtE e)) M
theorem ok_l_words (T : Tp K mg) : ∀ n, Fn P w K mg base CX0 (n + 1) "_law_words" (spWords n)
  | 0 => by
    refine fn_top T.top 49 e_l_words (m_l_words T) sc_l_words (by rintro _ M Q Et ⟨n, rfl, _⟩; rfl) (fun cdv A outer s H E hr => ⟨_, qss_never, ?_⟩) (fun _ _ _ _ _ _ us hl => match us, hl with | [_], _ => rfl)
    rintro _ M Q Et ⟨e, rfl, hd, _⟩
    cases e <;> unfold Ex.deep at hd <;> omega
  | n + 1 => by
    have ih := ok_l_words T n
    refine fn_top T.top 49 e_l_words (m_l_words T) sc_l_words (by rintro _ M Q Et ⟨n, rfl, _⟩; rfl) (fun cdv A outer s H E hr => ⟨_, (qss_cons (qs_if (qt_w (qw_or (qt_cmp oq_eq (q_ix (qv 0) q_int) q_str) (qw_or1 (qt_cmp oq_eq (q_ix (qv 0) q_int) q_str))))
  (qss_one (qs_ret (q_callTy cq_strX (m_str T) (by decide +kernel) (qa_cons (q_ix (qv 0) q_int) qa_nil))))
  qss_nil)
 (qss_one (qs_ret (q_join q_str (q_op oq_catL (q_lst (qa_cons (q_ix (qv 0) q_int) qa_nil)) (q_lc rfl sc_l_words.nd (qi_tup (q_sliceT (qv 0) (qo_some q_int) qo_none)) (blkOk_by (N := nm_l_words) (sc := defScope s_l_words) (own := [(("_law_part" : Str), 1)]) (by decide +kernel)) go_name (fun _ _ _ _ _ => (pg_name (i := 1) sc_l_words.nd rfl (Or.inl rfl))) (fun _ _ _ _ _ => qts_nil) (fun _ _ _ _ _ => (q_call ih (hr.mono (by omega)) (qa_cons (qv 1) qa_nil))))))))), ?_⟩) (fun _ _ _ _ _ _ us hl => match us, hl with | [_], _ => rfl)
    rintro _ M Q Et ⟨e, rfl, hd, hn, hw, h⟩
    have hb : Str.ofString " " = blank := rfl
    have hb1 : blank.length = 1 := by decide +kernel
    have h28 : ∀ e : Ex, e.deep ≤ 8 → 2 ^ e.deep ≤ 2 ^ 8 := fun e h => Nat.pow_le_pow_right (by decide) h
    cases e with
    | op o a b =>
      unfold Ex.deep at hd
      have ha := txt_len hw.1
      have hbb := txt_len hw.2
      have ha2 := h28 a (by omega)
      have hb2 := h28 b (by omega)
      have ho : o.s.length ≤ 3 := by cases o <;> decide +kernel
      unfold Ex.d
      walk_at "vc"
      refine lc_map [a, b] Ex.d (fun e => .str (txtE e)) rfl (by rw [sizeLine_eq]; simp) trivial (fun x R1 R0 hx h1 => ?_) ?_
      · have hm : x.deep ≤ n ∧ okW x := by
          simp only [List.mem_cons, List.not_mem_nil, or_false] at hx
          rcases hx with rfl | rfl
          · exact ⟨by omega, hw.1⟩
          · exact ⟨by omega, hw.2⟩
        walk_at "vc"
        exact ⟨x, rfl, hm.1, by omega, hm.2, h1⟩
      · rw [lstOf_l, oSome_i]
        refine ⟨by simp, [o.s, txtE a, txtE b], rfl, ?_, ?_⟩
        · rw [hb, hb1]
          simp only [List.map_cons, List.map_nil, List.sum_cons, List.sum_nil, List.length_cons, List.length_nil]
          omega
        · rw [hb, join_cons (by simp), join_cons (by simp), tjoin_one, ← str_assoc, ← str_assoc]
          rw [txt_op] at h
          exact h
    | box a =>
      unfold Ex.deep at hd
      have ha := txt_len (e := a) hw
      have ha2 := h28 a (by omega)
      unfold Ex.d
      walk_at "vc"
      refine lc_map [a] Ex.d (fun e => .str (txtE e)) rfl (by rw [sizeLine_eq]; simp) trivial (fun x R1 R0 hx h1 => ?_) ?_
      · rw [List.mem_singleton.mp hx] at h1 ⊢
        walk_at "vc"
        exact ⟨a, rfl, by omega, by omega, hw, h1⟩
      · rw [lstOf_l, oSome_i]
        refine ⟨by simp, ["box", txtE a], rfl, ?_, ?_⟩
        · rw [hb, hb1]
          simp only [List.map_cons, List.map_nil, List.sum_cons, List.sum_nil, List.length_cons, List.length_nil]
          have : ("box" : Str).length = 3 := by decide +kernel
          omega
        · rw [hb, join_cons (by simp), tjoin_one]
          rw [txt_box] at h
          exact h
    | num i =>
      unfold Ex.d
      walk_at "vc"
      rw [ucStrXi]
      have h1 : txtE (.num i) = numT i := tjoin_one _
      rw [h1] at h
      have hi : -999999999 ≤ i ∧ i ≤ 999999999 := hw
      refine ⟨?_, h⟩
      have : i.natAbs.log2 ≤ i.natAbs := Nat.log2_le_self _
      have h3 : i.natAbs.log2 < 60 := by
        by_cases hz : i.natAbs = 0
        · rw [hz]; decide
        · exact (Nat.log2_lt hz).mpr (by omega)
      omega
    | nam x =>
      unfold Ex.d
      walk_at "vc"
      rw [ucStrXs]
      have h1 : txtE (.nam x) = x := tjoin_one _
      rw [h1] at h
      exact h
    | lane =>
      unfold Ex.d
      walk_at "vc"
      refine lc_map ([] : List Ex) Ex.d (fun e => .str (txtE e)) rfl (by decide) trivial (fun e R1 R0 he h1 => by cases he) ?_
      rw [lstOf_l, oSome_i]
      refine ⟨by decide, ["lane"], rfl, by decide +kernel, ?_⟩
      exact h
    | lanes =>
      unfold Ex.d
      walk_at "vc"
      refine lc_map ([] : List Ex) Ex.d (fun e => .str (txtE e)) rfl (by decide) trivial (fun e R1 R0 he h1 => by cases he) ?_
      rw [lstOf_l, oSome_i]
      refine ⟨by decide, ["lanes"], rfl, by decide +kernel, ?_⟩
      exact h
    | mine =>
      unfold Ex.d
      walk_at "vc"
      refine lc_map ([] : List Ex) Ex.d (fun e => .str (txtE e)) rfl (by decide) trivial (fun e R1 R0 he h1 => by cases he) ?_
      rw [lstOf_l, oSome_i]
      refine ⟨by decide, ["mine"], rfl, by decide +kernel, ?_⟩
      exact h
def spLExprs : SpT := fun ds M Q _ => ∃ x : Lw, ds = [x.d] ∧ Q (.lst (x.exs.map Ex.d)) M
theorem ok_l_expressions (T : Tp K mg) : Fn P w K mg base CX0 1 "_law_expressions" spLExprs := by
  refine fn_top T.top 50 e_l_expressions (m_l_expressions T) sc_l_expressions (by rintro _ M Q Et ⟨n, rfl, _⟩; rfl) (fun cdv A outer s H E hr => ⟨_, (qss_cons (qs_if (qt_cmp oq_eq (q_ix (qv 0) q_int) q_str)
  (qss_one (qs_ret (q_lst (qa_cons (q_ix (qv 0) q_int) (qa_cons (q_ix (qv 0) q_int) qa_nil)))))
  qss_nil)
 (qss_cons (qs_if (qt_cmp oq_inQ (q_ix (qv 0) q_int) (q_tup (qa_lits (ds := [.str "set", .str "join", .str "if", .str "while", .str "tell", .str "return"]) rfl)))
  (qss_one (qs_ret (q_lst (qa_cons (q_ix (qv 0) q_int) qa_nil))))
  qss_nil)
 (qss_one (qs_ret (q_lst qa_nil))))), ?_⟩) (fun _ _ _ _ _ _ us hl => match us, hl with | [_], _ => rfl)
  rintro _ M Q Et ⟨x, rfl, h⟩
  obtain ⟨k, nm, jt, e1, e2⟩ := x
  unfold Lw.d
  dsimp only
  cases k
  case put => unfold Kw.s; dsimp only; walk_at "vc"; exact h
  all_goals
    unfold Kw.s; dsimp only; walk_at "vc"
    refine ⟨rfl, rfl, ?_⟩
    first
    | rw [if_pos (by decide +kernel)]; exact h
    | rw [if_neg (by decide +kernel)]; exact h
def spLText : SpT := fun ds M Q _ => ∃ x : Lw, ds = [x.d] ∧ okLw x ∧ Q (.str x.lin.txt) M
theorem ok_l_text (T : Tp K mg) : Fn P w K mg base CX0 10 "_law_text" spLText := by
  refine fn_top T.top 51 e_l_text (m_l_text T) sc_l_text (by rintro _ M Q Et ⟨n, rfl, _⟩; rfl) (fun cdv A outer s H E hr => ⟨_, (qss_cons (qs_setLc (i := 1) (own := [(("_law_told" : Str), 2)]) (lv_lcF go_name) rfl sc_l_text.nd (qi_list (q_call (ok_l_expressions T) (hr.mono (by decide)) (qa_cons (qv 0) qa_nil))) (blkOk_by (N := nm_l_text) (sc := defScope s_l_text) (own := [(("_law_told" : Str), 2)]) (by decide +kernel)) (fun _ _ _ _ _ => (pg_name (i := 2) sc_l_text.nd rfl (Or.inl rfl))) (fun _ _ _ _ _ => qts_nil) (fun _ _ _ _ _ => (q_call (ok_l_words T 4) (hr.mono (by decide)) (qa_cons (qv 2) qa_nil))) (sw_true rfl rfl rfl (by decide +kernel)))
 (qss_cons (qs_if (qt_cmp oq_eq (q_ix (qv 0) q_int) q_str)
  (qss_one (qs_set (i := 1) sc_l_text.nd (q_op oq_catL (q_lst (qa_cons (q_ix (qv 0) q_int) qa_nil)) (qv 1))))
  qss_nil)
 (qss_cons (qs_if (qt_cmp oq_eq (q_ix (qv 0) q_int) q_str)
  (qss_one (qs_set (i := 1) sc_l_text.nd (q_op oq_catL (q_lst (qa_cons (q_ix (qv 0) q_int) (qa_cons (q_ix (qv 0) q_int) qa_nil))) (qv 1))))
  qss_nil)
 (qss_one (qs_ret (q_join q_str (q_op oq_catL (q_lst (qa_cons (q_ix (qv 0) q_int) qa_nil)) (qv 1)))))))), ?_⟩) (fun _ _ _ _ _ _ us hl => match us, hl with | [_], _ => rfl)
  rintro _ M Q Et ⟨x, rfl, hx, h⟩
  have hfirst : atI [D.str x.k.s, .str x.nm, .str x.jt, x.e1.d, x.e2.d] 0 = some (.str x.k.s) := rfl
  rw [show x.d = .tup [.str x.k.s, .str x.nm, .str x.jt, x.e1.d, x.e2.d] from rfl]
  walk_at "vc"
  refine ⟨x, rfl, ?_⟩
  walk_at "vc"
  obtain ⟨hl1, hl2⟩ := lw_len hx
  have hb1 : (Str.ofString " ").length = 1 := by decide +kernel
  have htx := lw_txt x
  have hel : x.exs.length ≤ 2 := by unfold Lw.exs; split <;> exact Nat.le_of_ble_eq_true rfl
  have fin : ∀ ys : List Str, ys = x.k.s :: (preK x ++ x.exs.map txtE) → (ys.map (·.length)).sum + ys.length * (Str.ofString " ").length ≤ 16777216 ∧ Q (.str (Txt.join (Str.ofString " ") ys)) M := fun ys e => by
    rw [e, hb1]
    refine ⟨by omega, ?_⟩
    rw [htx] at h
    exact h
  have hxo : ∀ e ∈ x.exs, exK e := fun e he => by
    unfold Lw.exs at he
    split at he <;> simp only [List.mem_cons, List.not_mem_nil, or_false] at he
    · rcases he with rfl | rfl
      · exact hx.e1
      · exact hx.e2
    all_goals first | (rw [he]; exact hx.e1) | exact he.elim
  refine lc_map x.exs Ex.d (fun e => .str (txtE e)) rfl (by rw [sizeLine_eq]; omega) trivial (fun e R1 R0 he h1 => ?_) ?_
  · walk_at "vc"
    exact ⟨e, rfl, by have := (hxo e he).2.2; omega, by decide, (hxo e he).1, h1⟩
  · have hm : x.exs.map (fun e => D.str (txtE e)) = (x.exs.map txtE).map D.str := by rw [List.map_map]; rfl
    rw [hm]
    simp only [lstOf_l, oSome_i]
    by_cases c1 : x.k = .set
    · have p1 : preK x = [x.nm] := by unfold preK; rw [c1]
      rw [p1] at fin
      rw [if_pos (by rw [c1]; rfl), if_neg (by rw [c1]; decide +kernel)]
      refine ⟨by simp only [List.length_map]; omega, by simp only [List.length_map]; omega, _, rfl, fin _ rfl⟩
    · rw [if_neg (by cases hk : x.k <;> first | exact absurd hk c1 | decide +kernel)]
      by_cases c2 : x.k = .join
      · have p1 : preK x = [x.nm, x.jt] := by unfold preK; rw [c2]
        rw [p1] at fin
        rw [if_pos (by rw [c2]; rfl)]
        refine ⟨by simp only [List.length_map]; omega, by simp only [List.length_map]; omega, _, rfl, fin _ rfl⟩
      · have p1 : preK x = [] := by unfold preK; cases hk : x.k <;> first | exact absurd hk c1 | exact absurd hk c2 | rfl
        rw [p1] at fin
        rw [if_neg (by cases hk : x.k <;> first | exact absurd hk c2 | decide +kernel)]
        refine ⟨by simp only [List.length_map]; omega, _, rfl, fin _ rfl⟩
end
end K23
namespace K23
open PySem PySem.Spec PyProof.Rows L2 Tl
section
variable {P : Program} {w : World} {K : PySem.W.Frag} {mg : Str → Option Value} {base : Heap}
def spLNote (n : Nat) : SpT := fun ds M Q _ => ∃ (e : Ex) (a : Addr) (ss : List Str), ds = [e.d, .ref a] ∧ M a = some (.lst (ss.map .str)) ∧ e.deep ≤ n ∧ (noteE ss e).length < 10000 ∧ Q .non (mup M a (.lst ((noteE ss e).map .str)))
theorem ok_l_note (T : Tp K mg) : ∀ n, Fn P w K mg base CX0 (n + 1) "_law_note" (spLNote n)
  | 0 => by
    refine fn_top T.top 52 e_l_note (m_l_note T) sc_l_note (by rintro _ M Q Et ⟨n, _, _, rfl, _⟩; rfl) (fun cdv A outer s H E hr => ⟨_, qss_never, ?_⟩) (fun _ _ _ _ _ _ us hl => match us, hl with | [_, _], _ => rfl)
    rintro _ M Q Et ⟨e, a, ss, rfl, hM, hd, _⟩
    cases e <;> unfold Ex.deep at hd <;> omega
  | n + 1 => by
    have ih := ok_l_note T n
    refine fn_top T.top 52 e_l_note (m_l_note T) sc_l_note (by rintro _ M Q Et ⟨n, _, _, rfl, _⟩; rfl) (fun cdv A outer s H E hr => ⟨_, (qss_cons (qs_if (qt_w (qw_and (qt_cmp oq_eq (q_ix (qv 0) q_int) q_str) (qw_and1 (qt_cmp oq_inQN (q_ix (qv 0) q_int) (qv 1)))))
  (qss_one (qs_expr (q_append (qv 1) (qa_cons (q_ix (qv 0) q_int) qa_nil))))
  qss_nil)
 (qss_one (qs_if (qt_w (qw_and (qt_cmp oq_ne (q_ix (qv 0) q_int) q_str) (qw_and1 (qt_cmp oq_ne (q_ix (qv 0) q_int) q_str))))
  (qss_one (qs_for PassesOwn.never rfl (qi_tup (q_sliceT (qv 0) (qo_some q_int) qo_none)) (qg_name (i := 2) sc_l_note.nd)
  (qss_one (qs_expr (q_call ih (hr.mono (by omega)) (qa_cons (qv 2) (qa_cons (qv 1) qa_nil)))))))
  qss_nil))), ?_⟩) (fun _ _ _ _ _ _ us hl => match us, hl with | [_, _], _ => rfl)
    rintro _ M Q Et ⟨e, a, ss, rfl, hM, hd, hl, h⟩
    have hloop : ∀ (es : List Ex) (td : D), (∀ x ∈ es, x.deep ≤ n) → (es.foldl noteE ss).length < 10000 → Q .non (mup M a (.lst ((es.foldl noteE ss).map .str))) →
        ForGo (gN 2) (sDr (tCl (spLNote n) Et0 (tCs (tV 2) (tCs (tV 1) tN)))) { nx := fun _ M' => Q .non M', rt := Q } [some td, some (.ref a), none] { items := es.map Ex.d, src := fun _ => True } M := by
      intro es td hes hel hq
      refine for_map es Ex.d rfl (fun ys τ M1 => M1 = mup M a (.lst ((ys.foldl noteE ss).map .str)) ∧ ∃ v2, τ = [some td, some (.ref a), v2]) ⟨(mup_idem hM).symm, none, rfl⟩ (fun _ _ _ _ => trivial) ?_ ?_
      · rintro ys x zs τ M1 Nx hx ⟨rfl, v2, rfl⟩ hN
        rw [hx, List.foldl_append, List.foldl_cons] at hel
        have h1 := notes_len (f := noteE) (fun ss x => noteE_len) (l := zs) (ss := noteE (ys.foldl noteE ss) x)
        walk_at "vc"
        refine ⟨x, a, ys.foldl noteE ss, rfl, mup_same, hes x (by rw [hx]; simp), by omega, ?_⟩
        rw [mup_mup]
        exact hN _ _ ⟨by rw [List.foldl_append]; rfl, _, rfl⟩
      · rintro τ M1 ⟨rfl, v2, rfl⟩
        exact hq
    cases e with
    | nam x =>
      unfold Ex.d
      walk_at "vc"
      rw [lstOf_of hM]
      walk_at "vc"
      refine ⟨rfl, all_ws, ?_⟩
      rw [any_ws]
      have e1 : noteE ss (.nam x) = noteN ss x := rfl
      rw [e1] at hl h
      unfold noteN at hl h
      by_cases e2 : x ∈ ss
      · rw [decide_eq_true e2, if_neg (fun q => by cases q)]
        rw [if_pos e2, mup_idem hM] at h
        exact h
      · rw [decide_eq_false e2, if_pos rfl, mLst_of hM]
        rw [if_neg e2] at h hl
        rw [List.map_append] at h
        rw [List.length_append, List.length_singleton] at hl
        walk_at "vc"
        exact ⟨by omega, h⟩
    | num i => unfold Ex.d; walk_at "vc"; rw [show noteE ss (.num i) = ss from rfl, mup_idem hM] at h; exact h
    | box e =>
      unfold Ex.d; walk_at "vc"
      exact hloop [e] _ (fun x hx => by rw [List.mem_singleton.mp hx]; unfold Ex.deep at hd; omega) hl h
    | op w b c =>
      unfold Ex.d; walk_at "vc"
      exact hloop [b, c] _ (fun x hx => by
        unfold Ex.deep at hd
        rcases List.mem_cons.mp hx with rfl | hx
        · omega
        · rw [List.mem_singleton.mp hx]; omega) hl h
    | _ => unfold Ex.d; walk_at "vc"; exact hloop [] _ (fun x hx => by cases hx) hl h
def spLNames : SpT := fun ds M Q _ => ∃ (L : List Lw) (ps : List Str), ds = [.lst (L.map Lw.d), .lst (ps.map .str)] ∧ ps.length ≤ 6 ∧ L.length ≤ 100 ∧ (∀ x ∈ L, okLw x) ∧ Q (.lst ((slotsL ps L).map .str)) M
theorem ok_l_names (T : Tp K mg) : Fn P w K mg base CX0 10 "_law_names" spLNames := by
  refine fn_top T.top 53 e_l_names (m_l_names T) sc_l_names (by rintro _ M Q Et ⟨n, _, rfl, _⟩; rfl) (fun cdv A outer s H E hr => ⟨_, (qss_cons (qs_set (i := 2) sc_l_names.nd (q_callTy cq_listM (m_list T) (by decide +kernel) (qa_cons (qv 1) qa_nil)))
 (qss_cons (qs_for PassesOwn.never rfl (qi_list (qv 0)) (qg_name (i := 3) sc_l_names.nd)
  (qss_cons (qs_if (qt_w (qw_or (qt_cmp oq_eq (q_ix (qv 3) q_int) q_str) (qw_or1 (qt_cmp oq_eq (q_ix (qv 3) q_int) q_str))))
  (qss_one (qs_expr (q_call (ok_l_note T 4) (hr.mono (by decide)) (qa_cons (q_tup (qa_cons q_str (qa_cons (q_ix (qv 3) q_int) qa_nil))) (qa_cons (qv 2) qa_nil)))))
  qss_nil)
 (qss_one (qs_for PassesOwn.never rfl (qi_list (q_call (ok_l_expressions T) (hr.mono (by decide)) (qa_cons (qv 3) qa_nil))) (qg_name (i := 4) sc_l_names.nd)
  (qss_one (qs_expr (q_call (ok_l_note T 4) (hr.mono (by decide)) (qa_cons (qv 4) (qa_cons (qv 2) qa_nil)))))))))
 (qss_one (qs_ret (q_re (qv 2)))))), ?_⟩) (fun _ _ _ _ _ _ us hl => match us, hl with | [_, _], _ => rfl)
  rintro _ M Q Et ⟨L, ps, rfl, hps, hL, hok, h⟩
  walk_at "vc"
  intro p hp
  refine for_map L Lw.d rfl (fun ys τ M' => M' = mup M p (.lst ((slotsL ps ys).map .str)) ∧ ∃ x3 x4, τ = [some (.lst (L.map Lw.d)), some (.lst (ps.map .str)), some (.ref p), x3, x4]) ⟨rfl, _, _, rfl⟩ (fun _ _ _ _ => trivial) ?_ ?_
  · rintro ys x zs τ M1 Nx hx ⟨rfl, x3, x4, rfl⟩ hN
    have hx1 : x ∈ L := by rw [hx]; simp
    have hle : (slotsL ps (ys ++ [x])).length ≤ 2000 := by
      have := slotsL_le (ps := ps) (L := ys ++ [x]) fun y hy => hok y (by
        rw [hx]
        rcases List.mem_append.mp hy with h | h
        · exact List.mem_append_left _ h
        · rw [List.mem_singleton.mp h]; simp)
      have h2 := congrArg List.length hx
      rw [List.length_append, List.length_cons] at h2
      rw [List.length_append, List.length_singleton] at this
      omega
    have e1 : slotsL ps (ys ++ [x]) = noteLw (slotsL ps ys) x := by unfold slotsL; rw [List.foldl_append]; rfl
    rw [e1] at hle
    have hN2 : ∀ x3 x4, Nx [some (.lst (L.map Lw.d)), some (.lst (ps.map .str)), some (.ref p), x3, x4] (mup M p (.lst ((noteLw (slotsL ps ys) x).map .str))) := fun x3 x4 => hN _ _ ⟨by rw [e1], _, _, rfl⟩
    generalize slotsL ps ys = ss at *
    have tail : ∀ (bk : Sg → MH → Prop) (s1 : List Str), x.exs.foldl noteE s1 = noteLw ss x → spLExprs [x.d] (mup M p (.lst (s1.map .str))) (fun v M2 => oSome (lstOf M2 v) fun ds => ForGo (gN 4) (sDr (tCl (spLNote 4) Et0 (tCs (tV 4) (tCs (tV 2) tN)))) { nx := Nx, ct := Nx, bk := bk, rt := Q } [some (.lst (L.map Lw.d)), some (.lst (ps.map .str)), some (.ref p), some x.d, x4] { items := ds, src := fun M => lstOf M v = some ds } M2) Et0 := fun bk s1 es => by
      refine ⟨x, rfl, ?_⟩
      walk_at "vc"
      refine for_map x.exs Ex.d rfl (fun us τ M' => M' = mup M p (.lst ((us.foldl noteE s1).map .str)) ∧ ∃ x4, τ = [some (.lst (L.map Lw.d)), some (.lst (ps.map .str)), some (.ref p), some x.d, x4]) ⟨rfl, _, rfl⟩ (fun _ _ _ _ => trivial) ?_ ?_
      · rintro us e vs τ M1 Nx2 hx2 ⟨rfl, x4, rfl⟩ hNx
        have he := lw_exs (hok x hx1) e (by rw [hx2]; simp)
        rw [hx2, List.foldl_append, List.foldl_cons] at es
        have h2 := notes_len (f := noteE) (fun ss x => noteE_len) (l := vs) (ss := noteE (us.foldl noteE s1) e)
        rw [es] at h2
        walk_at "vc"
        refine ⟨e, p, us.foldl noteE s1, rfl, mup_same, by have := he.2.2; omega, by omega, ?_⟩
        rw [mup_mup]
        exact hNx _ _ ⟨by rw [List.foldl_append]; rfl, _, rfl⟩
      · rintro τ M1 ⟨rfl, x4, rfl⟩
        rw [es]
        exact hN2 _ _
    have hd : x.d = .tup [.str x.k.s, .str x.nm, .str x.jt, x.e1.d, x.e2.d] := rfl
    rw [hd] at tail ⊢
    walk_at "vc"
    have named : (x.k = .set ∨ x.k = .join) → ∀ (R : VD) (bk : Sg → MH → Prop), (∀ M1, M1 = mup M p (.lst ((noteN ss x.nm).map .str)) → R .non M1) → spLNote 4 [D.tup [D.str (Str.ofString "name"), D.str x.nm], D.ref p] (mup M p (MO.lst (List.map D.str ss))) R Et0 := fun q R bk hR => by
      have h1 : (noteN ss x.nm).length ≤ (noteLw ss x).length := by
        unfold noteLw
        rw [if_pos q]
        exact notes_len (f := noteE) (fun ss x => noteE_len)
      refine ⟨.nam x.nm, p, ss, rfl, mup_same, Nat.le_of_ble_eq_true rfl, by show (noteN ss x.nm).length < _; omega, ?_⟩
      rw [mup_mup]
      exact hR _ rfl
    have tl2 : (x.k = .set ∨ x.k = .join) → x.exs.foldl noteE (noteN ss x.nm) = noteLw ss x := fun q => by unfold noteLw; rw [if_pos q]
    by_cases c1 : x.k = .set
    · rw [if_pos (by rw [c1]; rfl)]
      exact named (.inl c1) _ (fun _ _ => True) fun M1 e => by subst e; exact tail _ _ (tl2 (.inl c1))
    · rw [if_neg (by cases hk : x.k <;> first | exact absurd hk c1 | decide +kernel)]
      by_cases c2 : x.k = .join
      · rw [if_pos (by rw [c2]; rfl)]
        exact named (.inr c2) _ (fun _ _ => True) fun M1 e => by subst e; exact tail _ _ (tl2 (.inr c2))
      · rw [if_neg (by cases hk : x.k <;> first | exact absurd hk c2 | decide +kernel)]
        exact tail _ _ (by unfold noteLw; rw [if_neg (fun q => q.elim c1 c2)])
  · rintro τ M1 ⟨rfl, x3, x4, rfl⟩
    walk_at "vc"
    exact ⟨_, _, ReR.made hp, h⟩
def spRowsOf (n : Nat) : SpT := fun ds M Q _ => ∃ (e : Ex) (l a : Int) (ss : List Str), ds = [e.d, .int l, .int a, .lst (ss.map .str)] ∧ e.deep ≤ n ∧ n ≤ 8 ∧ e.inS ss ∧ ss.length ≤ 10000 ∧ Q (.lst ((exRows ss l e a).map Rw.d)) M
theorem ok_l_rows_of (T : Tp K mg) : ∀ n, Fn P w K mg base CX0 (n + 1) "_law_rows_of" (spRowsOf n)
  | 0 => by
    refine fn_top T.top 54 e_l_rows_of (m_l_rows_of T) sc_l_rows_of (by rintro _ M Q Et ⟨n, _, _, _, rfl, _⟩; rfl) (fun cdv A outer s H E hr => ⟨_, qss_never, ?_⟩) (fun _ _ _ _ _ _ us hl => match us, hl with | [_, _, _, _], _ => rfl)
    rintro _ M Q Et ⟨e, l, a, ss, rfl, hd, _⟩
    cases e <;> unfold Ex.deep at hd <;> omega
  | n + 1 => by
    have ih := ok_l_rows_of T n
    refine fn_top T.top 54 e_l_rows_of (m_l_rows_of T) sc_l_rows_of (by rintro _ M Q Et ⟨n, _, _, _, rfl, _⟩; rfl) (fun cdv A outer s H E hr => ⟨_, (qss_cons (qs_if (qt_cmp oq_eq (q_ix (qv 0) q_int) q_str)
  (qss_one (qs_ret (q_lst (qa_cons (q_tup (qa_cons q_str (qa_cons (qv 1) (qa_cons (qv 2) (qa_cons (q_ix (qv 0) q_int) qa_nil))))) qa_nil))))
  qss_nil)
 (qss_cons (qs_if (qt_cmp oq_eq (q_ix (qv 0) q_int) q_str)
  (qss_one (qs_ret (q_lst (qa_cons (q_tup (qa_cons q_str (qa_cons (qv 1) (qa_cons (qv 2) (qa_cons (q_op oq_addI (q_index (qv 3) (qa_cons (q_ix (qv 0) q_int) qa_nil)) q_int) qa_nil))))) qa_nil))))
  qss_nil)
 (qss_cons (qs_if (qt_cmp oq_eq (q_callB cq_len (m_len T) (by decide +kernel) (qa_cons (qv 0) qa_nil)) q_int)
  (qss_one (qs_ret (q_lst (qa_cons (q_tup (qa_cons q_str (qa_cons (qv 1) (qa_cons (qv 2) (qa_cons (q_ix (qv 0) q_int) qa_nil))))) qa_nil))))
  qss_nil)
 (qss_cons (qs_set (i := 4) sc_l_rows_of.nd (q_call ih (hr.mono (by omega)) (qa_cons (q_ix (qv 0) q_int) (qa_cons (qv 1) (qa_cons (qv 2) (qa_cons (qv 3) qa_nil))))))
 (qss_cons (qs_if (qt_cmp oq_eq (q_ix (qv 0) q_int) q_str)
  (qss_one (qs_ret (q_op oq_catL (qv 4) (q_lst (qa_cons (q_tup (qa_cons q_str (qa_cons (qv 1) (qa_cons (qv 2) (qa_cons (qv 2) qa_nil))))) qa_nil)))))
  qss_nil)
 (qss_one (qs_ret (q_op oq_catL (q_op oq_catL (qv 4) (q_call ih (hr.mono (by omega)) (qa_cons (q_ix (qv 0) q_int) (qa_cons (qv 1) (qa_cons (q_op oq_addI (qv 2) q_int) (qa_cons (qv 3) qa_nil)))))) (q_lst (qa_cons (q_tup (qa_cons q_str (qa_cons (qv 1) (qa_cons (qv 2) (qa_cons (q_ix (qv 0) q_int) (qa_cons (qv 2) (qa_cons (q_op oq_addI (qv 2) q_int) qa_nil))))))) qa_nil)))))))))), ?_⟩) (fun _ _ _ _ _ _ us hl => match us, hl with | [_, _, _, _], _ => rfl)
    rintro _ M Q Et ⟨e, l, a, ss, rfl, hd, hn, hi, hs, h⟩
    cases e with
    | num i => unfold Ex.d; walk_at "vc"; exact h
    | nam x =>
      unfold Ex.d; walk_at "vc"
      exact ⟨ss, by walk_at "vc", hi, h⟩
    | lane => unfold Ex.d; walk_at "vc"; exact h
    | lanes => unfold Ex.d; walk_at "vc"; exact h
    | mine => unfold Ex.d; walk_at "vc"; exact h
    | box e =>
      unfold Ex.deep at hd
      unfold Ex.d; walk_at "vc"
      refine ⟨e, l, a, ss, rfl, by omega, by omega, hi, hs, ?_⟩
      walk_at "vc"
      have := exN_deep (e := e) (by omega)
      refine ⟨by rw [exRows_n]; omega, ?_⟩
      unfold exRows at h
      rw [List.map_append] at h
      exact h
    | op o b c =>
      unfold Ex.deep at hd
      unfold Ex.d; walk_at "vc"
      refine ⟨b, l, a, ss, rfl, by omega, by omega, hi.1, hs, ?_⟩
      walk_at "vc"
      have := exN_deep (e := b) (by omega)
      have := exN_deep (e := c) (by omega)
      refine ⟨c, l, a + 1, ss, rfl, by omega, by omega, hi.2, hs, ?_⟩
      walk_at "vc"
      refine ⟨by rw [exRows_n, exRows_n]; omega, by rw [exRows_n, exRows_n]; omega, ?_⟩
      unfold exRows at h
      rw [List.map_append, List.map_append] at h
      exact h
def spLPlain : SpT := fun ds M Q _ => ∃ F : List Rw, ds = [.lst (F.map Rw.d)] ∧ Q (.bl true) M
theorem ok_l_plain (T : Tp K mg) : Fn P w K mg base CX0 2 "_law_plain" spLPlain := by
  refine fn_top T.top 55 e_l_plain (m_l_plain T) sc_l_plain (by rintro _ M Q Et ⟨n, rfl, _⟩; rfl) (fun cdv A outer s H E hr => ⟨_, (qss_cons (qs_if (qt_not (qt_val (q_callB cq_isi (m_isinstance T) (by decide +kernel) (qa_cons (qv 0) (qa_cons (q_ty "list" (m_list T) (by decide +kernel)) qa_nil)))))
  (qss_one (qs_ret q_bl))
  qss_nil)
 (qss_cons (qs_for PassesOwn.never rfl (qi_list (qv 0)) (qg_name (i := 1) sc_l_plain.nd)
  (qss_one (qs_if (qt_w (qw_or (qt_not (qt_val (q_callB cq_isi (m_isinstance T) (by decide +kernel) (qa_cons (qv 1) (qa_cons (q_ty "tuple" (m_tuple T) (by decide +kernel)) qa_nil))))) (qw_or1 (qt_not (qt_val (q_callB (cq_all rfl) (m_all T) (by decide +kernel) (qa_cons (q_lc rfl sc_l_plain.nd (qi_tup (qv 1)) (blkOk_by (N := nm_l_plain) (sc := defScope s_l_plain) (own := [(("_law_part" : Str), 2)]) (by decide +kernel)) go_name (fun _ _ _ _ _ => (pg_name (i := 2) sc_l_plain.nd rfl (Or.inl rfl))) (fun _ _ _ _ _ => qts_nil) (fun _ _ _ _ _ => (q_or (q_callB cq_isi (m_isinstance T) (by decide +kernel) (qa_cons (qv 2) (qa_cons (q_ty "str" (m_str T) (by decide +kernel)) qa_nil))) (q_one (q_call (ok_l_whole T) (hr.mono (by decide)) (qa_cons (qv 2) qa_nil)))))) qa_nil)))))))
  (qss_one (qs_ret q_bl))
  qss_nil)))
 (qss_one (qs_ret q_bl)))), ?_⟩) (fun _ _ _ _ _ _ us hl => match us, hl with | [_], _ => rfl)
  rintro _ M Q Et ⟨F, rfl, h⟩
  walk_at "vc"
  refine for_map F Rw.d rfl (fun ys τ M' => M' = M ∧ ∃ x1 x2, τ = [some (.lst (F.map Rw.d)), x1, x2]) ⟨rfl, _, _, rfl⟩ (fun _ _ _ _ => trivial) ?_ ?_
  · rintro ys r zs τ M1 Nx hx ⟨rfl, x1, x2, rfl⟩ hN
    obtain ⟨ps, hps, hp⟩ : ∃ ps, r.d = .tup ps ∧ ∀ x ∈ ps, (∃ s, x = .str s) ∨ ∃ i, x = .int i := by
      cases r <;> exact ⟨_, rfl, by simp⟩
    have hall : ∀ M1 : MH, blLst M1 (.lst (ps.map fun _ => D.bl true)) = some (ps.map fun _ => true) := fun M1 => by
      rw [show (ps.map fun _ => D.bl true) = (ps.map fun _ => true).map D.bl from by rw [List.map_map]; rfl]
      exact blLst_l
    have hlen : ps.length ≤ 6 := by
      have : (match r.d with | .tup ps => ps | _ => []).length ≤ 6 := by cases r <;> exact Nat.le_of_ble_eq_true rfl
      rw [hps] at this
      exact this
    rw [hps]
    walk_at "vc"
    refine lc_map ps (fun x => x) (fun _ => .bl true) (by simp) (by rw [sizeLine_eq]; omega) trivial (fun x R1 R0 hx h1 => ?_) ?_
    · rcases hp x hx with ⟨s, rfl⟩ | ⟨i, rfl⟩
      · walk_at "vc"
        exact h1
      · walk_at "vc"
        exact ⟨i, rfl, h1⟩
    · rw [hall]
      walk_at "vc"
      rw [show (ps.map fun _ => true).all id = true from by rw [List.all_map]; exact List.all_eq_true.mpr fun _ _ => rfl]
      rw [if_neg (by decide)]
      exact hN _ _ ⟨rfl, _, _, rfl⟩
  · rintro τ M1 ⟨rfl, x1, x2, rfl⟩
    walk_at "vc"
    exact h
def okF (F : List Rw) : Prop := (∀ r ∈ F, okD 1 r.d) ∧ F.length < 16777215
def spBegun : SpT := fun ds M Q _ => ∃ (F : List Rw) (at_ : Nat) (l : Int) (x : Lw) (ss : List Str), ds = [.lst (F.map Rw.d), .int (at_ : Nat), .int l, x.d, .lst (ss.map .str)] ∧ okF F ∧ okLw x ∧ (∀ e ∈ x.exs, e.inS ss) ∧ ss.length ≤ 2000 ∧ subAt F at_ (begW ss l x) ∧ Q (.int (at_ + (begW ss l x).length : Nat)) M
theorem ok_l_begun (T : Tp K mg) : Fn P w K mg base CX0 10 "_law_begun" spBegun := by
  refine fn_top T.top 56 e_l_begun (m_l_begun T) sc_l_begun (by rintro _ M Q Et ⟨n, _, _, _, _, rfl, _⟩; rfl) (fun cdv A outer s H E hr => ⟨_, (qss_cons (qs_set (i := 5) sc_l_begun.nd (q_lstM (qa_cons (q_tup (qa_cons q_str (qa_cons (qv 2) qa_nil))) qa_nil)))
 (qss_cons (qs_for PassesOwn.never rfl (qi_enum (m_enumerate T) (qa_cons (q_call (ok_l_expressions T) (hr.mono (by decide)) (qa_cons (qv 3) qa_nil)) qa_nil)) (qg_tup (n := 2) rfl (qgs_cons (qg_name (i := 6) sc_l_begun.nd) (qgs_cons (qg_name (i := 7) sc_l_begun.nd) qgs_nil)))
  (qss_one (qs_set (i := 5) sc_l_begun.nd (q_op oq_catM (qv 5) (q_call (ok_l_rows_of T 4) (hr.mono (by decide)) (qa_cons (qv 7) (qa_cons (qv 2) (qa_cons (q_op oq_addI (q_op oq_addI (q_callB cq_len (m_len T) (by decide +kernel) (qa_cons (qv 4) qa_nil)) q_int) (qv 6)) (qa_cons (qv 4) qa_nil)))))))))
 (qss_cut (qs_if (qt_cmp oq_eq (q_ix (qv 3) q_int) q_str)
  (qss_one (qs_expr (q_append (qv 5) (qa_cons (q_tup (qa_cons q_str (qa_cons (qv 2) (qa_cons q_int (qa_cons (q_op oq_addI (q_callB cq_len (m_len T) (by decide +kernel) (qa_cons (qv 4) qa_nil)) q_int) qa_nil))))) qa_nil))))
  qss_nil)
 (qss_cons (qs_if (qt_cmp (oq_neD (un64 hr)) (q_sliceL (qv 0) (qo_some (qv 1)) (qo_some (q_op oq_addI (qv 1) (q_callB cq_len (m_len T) (by decide +kernel) (qa_cons (qv 5) qa_nil))))) (qv 5))
  (qss_one (qs_ret (q_re (q_un uq_neg q_int))))
  qss_nil)
 (qss_one (qs_ret (q_re (q_op oq_addI (qv 1) (q_callB cq_len (m_len T) (by decide +kernel) (qa_cons (qv 5) qa_nil)))))))))), ?_⟩) (fun _ _ _ _ _ _ us hl => match us, hl with | [_, _, _, _, _], _ => rfl)
  rintro _ M Q Et ⟨F, at_, l, x, ss, rfl, hF, hx, hin, hsl, hsub, h⟩
  have hd : x.d = .tup [.str x.k.s, .str x.nm, .str x.jt, x.e1.d, x.e2.d] := rfl
  walk_at "vc"
  intro p hp
  refine ⟨x, rfl, ?_⟩
  walk_at "vc"
  have hext : ∀ (q : Addr) (M' : MH) o, M q = none → extM M M' → extM M (mup M' q o) := fun q M' o hq e a u ha => by
    rw [mup_ne (fun z => by rw [z, hq] at ha; cases ha)]
    exact e a u ha
  have hen : ∀ e ∈ x.exs, exN e ≤ 256 := fun e he => exN_deep (by have := (lw_exs hx e he).2.2; omega)
  have hexn : ∀ es : List Ex, (∀ e ∈ es, exN e ≤ 256) → exsN es ≤ 256 * es.length := fun es => by
    induction es with
    | nil => intro _; exact Nat.le_refl _
    | cons e t ih => intro q; have h1 := q e (List.mem_cons_self ..); have h2 := ih fun e he => q e (List.mem_cons_of_mem _ he); unfold exsN; rw [List.length_cons]; omega
  have h2 := exs_two (x := x)
  refine for_any (fun i τ M' => ∃ p x6 x7, M p = none ∧ extM M M' ∧ M' p = some (.lst ((Rw.tick l :: exsRows ss l (x.exs.take i) ((ss.length : Int) + 1)).map Rw.d)) ∧ τ = [some (.lst (F.map Rw.d)), some (.int (at_ : Nat)), some (.int l), some x.d, some (.lst (ss.map .str)), some (.ref p), x6, x7]) ⟨p, _, _, hp, hext _ _ _ hp (fun a o e => e), mup_same, rfl⟩ (fun _ _ _ _ => trivial) ?_ ?_
  · rintro i y τ M' hy ⟨p, x6, x7, hp, hE, h1, rfl⟩
    obtain ⟨e, he, rfl⟩ := enumD_map hy
    have hi := (List.getElem?_eq_some_iff.mp he).1
    have hem := List.mem_of_getElem? he
    have hxe := lw_exs hx e hem
    have n1 := hen e hem
    have n2 := hexn (x.exs.take i) fun e he => hen e (List.mem_of_mem_take he)
    rw [List.length_take] at n2
    walk_at "vc"
    refine ⟨e, l, _, ss, rfl, by have := hxe.2.2; omega, by decide, hin e hem, by omega, ?_⟩
    show oSome (lstOf M' (.ref p)) _
    rw [lstOf_of h1]
    walk_at "vc"
    refine ⟨by rw [exsRows_n, exRows_n]; omega, fun p2 hp2 => ?_⟩
    have hp2M : M p2 = none := by
      cases e0 : M p2 with
      | none => rfl
      | some o => rw [hE _ _ e0] at hp2; cases hp2
    refine ⟨p2, _, _, hp2M, hext _ _ _ hp2M hE, ?_, rfl, rfl, rfl⟩
    rw [mup_same, List.take_add_one, he, Option.toList_some, exs_app, exs_one, List.length_take, Nat.min_eq_left (Nat.le_of_lt hi)]
    simp only [List.map_cons, List.map_append]
    try rfl
  · rintro τ M' ⟨p, x6, x7, hp, hE, h1, rfl⟩
    have hll : ({ items := enumD (x.exs.map Ex.d), src := fun M => True } : Its).items.length = x.exs.length := by
      show (enumD (x.exs.map Ex.d)).length = _
      simp only [enumD_len, List.length_map]
    rw [hll, List.take_length] at h1
    have n3 := hexn x.exs hen
    have n4 : (begW ss l x).length ≤ 515 := by
      unfold begW
      rw [List.length_cons, List.length_append, exsRows_n]
      split <;> simp only [List.length_cons, List.length_nil] <;> omega
    refine cut_by (fun τ M2 => extM M M2 ∧ M2 p = some (.lst ((begW ss l x).map Rw.d)) ∧ τ = [some (.lst (F.map Rw.d)), some (.int (at_ : Nat)), some (.int l), some x.d, some (.lst (ss.map .str)), some (.ref p), x6, x7]) ?_ ?_
    · rw [hd]
      by_cases c : x.k = .ret
      · have hb : begW ss l x = (.tick l :: exsRows ss l x.exs ((ss.length : Int) + 1)) ++ [.copy l 0 ((ss.length : Int) + 1)] := by unfold begW; rw [if_pos c]; rfl
        rw [hb]
        walk_at "vc"
        rw [if_pos (by rw [c]; rfl)]
        refine ⟨is_m h1, ?_⟩
        rw [mLst_of h1]
        simp only [oSome_i]
        refine ⟨by rw [List.length_map, List.length_cons, exsRows_n]; omega, hext _ _ _ hp hE, ?_⟩
        rw [List.map_append]
        rfl
      · have hb : begW ss l x = .tick l :: exsRows ss l x.exs ((ss.length : Int) + 1) := by unfold begW; rw [if_neg c, List.append_nil]
        rw [hb]
        walk_at "vc"
        rw [if_neg (by cases hk : x.k <;> first | exact absurd hk c | decide +kernel)]
        exact ⟨hE, h1⟩
    rintro τ M2 ⟨hE2, h3, rfl⟩
    walk_at "vc"
    rw [lenOf_of h3]
    walk_at "vc"
    have hcut : Tl.cutD (F.map Rw.d) (some (at_ : Nat)) (some ((at_ : Nat) + ((begW ss l x).length : Nat))) = (begW ss l x).map Rw.d := by
      rw [show ((at_ : Nat) : Int) + ((begW ss l x).length : Nat) = ((at_ + (begW ss l x).length : Nat) : Int) by omega, cut_both, List.drop_take, Nat.add_sub_cancel_left, ← List.map_drop, ← List.map_take]
      unfold subAt at hsub
      rw [hsub]
    rw [hcut]
    have hbo : okD 2 (.lst ((begW ss l x).map Rw.d)) := okD_lst (okDs_of fun d hd => by
      obtain ⟨r, hr, rfl⟩ := List.mem_map.mp hd
      refine hF.1 r ?_
      unfold subAt at hsub
      rw [← hsub] at hr
      exact List.mem_of_mem_drop (List.mem_of_mem_take hr))
    refine neD_same 2 rfl (asD_of h3) hbo ?_
    walk_at "vc"
    rw [lenOf_of h3]
    walk_at "vc"
    refine ⟨_, M, ReR.drop hE2, ?_⟩
    rw [show ((at_ : Nat) : Int) + ((begW ss l x).length : Nat) = ((at_ + (begW ss l x).length : Nat) : Int) by omega]
    exact h
end
end K23
namespace K23
open PySem PySem.Spec PyProof.Rows L2 Tl
section
variable {P : Program} {w : World} {K : PySem.W.Frag} {mg : Str → Option Value} {base : Heap}
theorem slice_one {F : List Rw} {at_ : Nat} {r : Rw} (h : F[at_]? = some r) : Tl.cutD (F.map Rw.d) (some (at_ : Nat)) (some ((at_ : Nat) + 1)) = [r.d] := by
  rw [show ((at_ : Nat) : Int) + 1 = ((at_ + 1 : Nat) : Int) by omega, cut_both, List.drop_take, Nat.add_sub_cancel_left, ← List.map_drop, ← List.map_take]
  obtain ⟨h1, h2⟩ := List.getElem?_eq_some_iff.mp h
  rw [List.drop_eq_getElem_cons h1, h2]
  rfl
theorem atI_F {F : List Rw} {j : Nat} {r : Rw} (h : F[j]? = some r) : atI (F.map Rw.d) (j : Nat) = some r.d := atI_nat (by rw [List.getElem?_map, h]; rfl)
theorem end_last {r : Rw} {t : Int} (h : r.endV = some t) : ∃ ps, r.d = .tup ps ∧ atI ps (-1) = some (.int t) := by
  cases r <;> cases h <;> exact ⟨_, rfl, rfl⟩
def spClosed : SpT := fun ds M Q _ => ∃ (F : List Rw) (at_ at2 : Nat) (a w : Addr) (e : EntW), ds = [.lst (F.map Rw.d), .int (at_ : Nat), .ref a] ∧ okF F ∧ M a = some (entO (a, w, e)) ∧ M w = some (waitO (a, w, e)) ∧ e.wait.length ≤ 1000 ∧
  (e.wh = true → F[at_]? = some (.jump e.line (e.beg : Nat)) ∧ at2 = at_ + 1) ∧ (e.wh = false → at2 = at_) ∧ (∀ j ∈ e.wait, (F[j]?).bind Rw.endV = some (at2 : Int)) ∧ Q (.int (at2 : Nat)) M
theorem ok_l_closed (T : Tp K mg) : Fn P w K mg base CX0 1 "_law_closed" spClosed := by
  refine fn_top T.top 57 e_l_closed (m_l_closed T) sc_l_closed (by rintro _ M Q Et ⟨n, _, _, _, _, _, rfl, _⟩; rfl) (fun cdv A outer s H E hr => ⟨_, (qss_cons (qs_asg (qv 2) (qg_lst (n := 4) rfl (qgs_cons (qg_name (i := 3) sc_l_closed.nd) (qgs_cons (qg_name (i := 4) sc_l_closed.nd) (qgs_cons (qg_name (i := 5) sc_l_closed.nd) (qgs_cons (qg_name (i := 6) sc_l_closed.nd) qgs_nil))))))
 (qss_cons (qs_if (qt_cmp oq_eq (qv 3) q_str)
  (qss_cons (qs_if (qt_cmp (oq_neD (un64 hr)) (q_sliceL (qv 0) (qo_some (qv 1)) (qo_some (q_op oq_addI (qv 1) q_int))) (q_lst (qa_cons (q_tup (qa_cons q_str (qa_cons (qv 4) (qa_cons (qv 5) qa_nil)))) qa_nil)))
  (qss_one (qs_ret (q_un uq_neg q_int)))
  qss_nil)
 (qss_one (qs_set (i := 1) sc_l_closed.nd (q_op oq_addI (qv 1) q_int))))
  qss_nil)
 (qss_cons (qs_if (qt_not (qt_val (q_callB (cq_all rfl) (m_all T) (by decide +kernel) (qa_cons (q_lc rfl sc_l_closed.nd (qi_list (qv 6)) (blkOk_by (N := nm_l_closed) (sc := defScope s_l_closed) (own := [(("_law_k" : Str), 7)]) (by decide +kernel)) go_name (fun _ _ _ _ _ => (pg_name (i := 7) sc_l_closed.nd rfl (Or.inl rfl))) (fun _ _ _ _ _ => qts_nil) (fun _ _ _ _ _ => (q_cmp oq_eq (q_ix (q_ix (qv 0) (qv 7)) (q_un uq_neg q_int)) (qv 1)))) qa_nil))))
  (qss_one (qs_ret (q_un uq_neg q_int)))
  qss_nil)
 (qss_one (qs_ret (qv 1)))))), ?_⟩) (fun _ _ _ _ _ _ us hl => match us, hl with | [_, _, _], _ => rfl)
  rintro _ M Q Et ⟨F, at_, at2, a, w, e, rfl, hF, ha, hw, hwl, h1, h2, h3, h⟩
  walk_at "vc"
  rw [lstOf_of ha]
  walk_at "vc"
  have tl : ∀ x4 x5 x6 x7, LcGo (gN 7) tYe (tO bEq (tO bIx (tO bIx (tV 0) (tV 7)) (tU uNeg (tK (D.int 1)))) (tV 1)) [7]
              [some (D.lst (List.map Rw.d F)), some (D.int (at2 : Nat)), some (D.ref a), x4, x5, x6, x7, none]
              (fun x M1 =>
                oSome (blLst M1 x) fun is => if is.all id = false then Q (D.int (-1)) M1 else Q (D.int (at2 : Nat)) M1)
              { items := e.wait.map natD, src := fun M => lstOf M (D.ref w) = some (e.wait.map natD) } M := fun x4 x5 x6 x7 => by
    refine lc_map e.wait natD (fun _ => .bl true) rfl (by rw [sizeLine_eq]; omega) (lstOf_of hw) (fun j R1 R0 hj hR => ?_) ?_
    · obtain ⟨r, hr⟩ : ∃ r, F[j]? = some r := by
        have := h3 j hj
        cases e0 : F[j]? with
        | none => rw [e0] at this; cases this
        | some r => exact ⟨r, rfl⟩
      have h4 := h3 j hj
      rw [hr] at h4
      obtain ⟨ps, e1, e2⟩ := end_last (show r.endV = some (at2 : Int) from h4)
      unfold natD
      walk_at "vc"
      rw [atI_F hr, e1]
      walk_at "vc"
      rw [e2]
      walk_at "vc"
      simpa using hR
    · rw [show (e.wait.map fun _ => D.bl true) = (e.wait.map fun _ => true).map D.bl from by rw [List.map_map]; rfl, blLst_l]
      walk_at "vc"
      rw [show (e.wait.map fun _ => true).all id = true from by rw [List.all_map]; exact List.all_eq_true.mpr fun _ _ => rfl, if_neg (by decide)]
      exact h
  by_cases c : e.wh = true
  · obtain ⟨h4, h5⟩ := h1 c
    rw [if_pos c]
    rw [if_pos rfl, slice_one h4]
    refine neD_same 2 rfl rfl (okD_lst (okDs_cons (hF.1 _ (List.mem_of_getElem? h4)) okDs_nil)) ?_
    walk_at "vc"
    rw [lstOf_of hw]
    simp only [oSome_i]
    rw [show ((at_ : Nat) : Int) + 1 = ((at2 : Nat) : Int) by omega]
    exact tl _ _ _ _
  · have h5 := h2 (by simpa using c)
    rw [if_neg c, if_neg (by decide +kernel), lstOf_of hw]
    simp only [oSome_i]
    rw [← h5]
    exact tl _ _ _ _
def spOtherwise : SpT := fun ds M Q _ => ∃ (F : List Rw) (at_ j : Nat) (t : Int) (a w : Addr) (e : EntW) (ws : List Nat), ds = [.lst (F.map Rw.d), .int (at_ : Nat), .ref a] ∧ okF F ∧ M a = some (entO (a, w, e)) ∧ M w = some (waitO (a, w, e)) ∧ e.wait.length ≤ 1000 ∧ a ≠ w ∧
  e.wait = ws ++ [j] ∧ F[at_]? = some (.jump e.line t) ∧ (F[j]?).bind Rw.endV = some ((at_ + 1 : Nat) : Int) ∧ Q (.int (at_ + 1 : Nat)) (mup M w (.lst ((ws ++ [at_]).map natD)))
theorem ok_l_otherwise (T : Tp K mg) : Fn P w K mg base CX0 1 "_law_otherwise" spOtherwise := by
  refine fn_top T.top 58 e_l_otherwise (m_l_otherwise T) sc_l_otherwise (by rintro _ M Q Et ⟨n, _, _, _, _, _, _, _, rfl, _⟩; rfl) (fun cdv A outer s H E hr => ⟨_, (qss_cons (qs_if (qt_w (qw_or (qt_cmp (oq_eqD (un64 hr)) (q_sliceL (qv 0) (qo_some (qv 1)) (qo_some (q_op oq_addI (qv 1) q_int))) (q_lst qa_nil)) (qw_or (qt_cmp oq_ne (q_callB cq_len (m_len T) (by decide +kernel) (qa_cons (q_ix (qv 0) (qv 1)) qa_nil)) q_int) (qw_or1 (qt_cmp (oq_neD (un64 hr)) (q_sliceT (q_ix (qv 0) (qv 1)) qo_none (qo_some q_int)) (q_tup (qa_cons q_str (qa_cons (q_ix (qv 2) q_int) qa_nil))))))))
  (qss_one (qs_ret (q_un uq_neg q_int)))
  qss_nil)
 (qss_cons (qs_if (qt_cmp oq_ne (q_ix (q_ix (qv 0) (q_pop (q_ix (qv 2) q_int))) (q_un uq_neg q_int)) (q_op oq_addI (qv 1) q_int))
  (qss_one (qs_ret (q_un uq_neg q_int)))
  qss_nil)
 (qss_cons (qs_expr (q_append (q_ix (qv 2) q_int) (qa_cons (qv 1) qa_nil)))
 (qss_one (qs_ret (q_op oq_addI (qv 1) q_int)))))), ?_⟩) (fun _ _ _ _ _ _ us hl => match us, hl with | [_, _, _], _ => rfl)
  rintro _ M Q Et ⟨F, at_, j, t, a, w, e, ws, rfl, hF, ha, hw, hwl, hne, hwe, h1, h2, h⟩
  walk_at "vc"
  rw [slice_one h1]
  refine eqD_nil 2 (okDs_cons (okD_mono (hF.1 _ (List.mem_of_getElem? h1)) (by decide)) okDs_nil) ?_
  walk_at "vc"
  rw [if_neg (by simp), atI_F h1, show (Rw.jump e.line t).d = .tup [.str (Str.ofString "jump"), .int e.line, .int t] from rfl]
  walk_at "vc"
  rw [lstOf_of ha]
  walk_at "vc"
  rw [if_neg (by decide), show Tl.cutD [D.str (Str.ofString "jump"), D.int e.line, D.int t] none (some 2) = [D.str (Str.ofString "jump"), D.int e.line] from rfl]
  refine neD_same 2 rfl rfl (okD_tup (okDs_cons (okD_str (by decide +kernel)) (okDs_cons okD_int okDs_nil))) ?_
  walk_at "vc"
  rw [lstOf_of ha]
  walk_at "vc"
  obtain ⟨r, hr⟩ : ∃ r, F[j]? = some r := by
    cases e0 : F[j]? with
    | none => rw [e0] at h2; cases h2
    | some r => exact ⟨r, rfl⟩
  rw [hr] at h2
  obtain ⟨ps, q1, q2⟩ := end_last (show r.endV = some ((at_ + 1 : Nat) : Int) from h2)
  refine ⟨is_m hw, ?_⟩
  rw [mLst_of hw]
  simp only [oSome_i]
  rw [hwe, List.map_append, List.map_singleton, List.getLast?_concat, List.dropLast_concat]
  unfold natD
  walk_at "vc"
  rw [atI_F hr, q1]
  walk_at "vc"
  rw [q2]
  walk_at "vc"
  rw [if_neg (by simp)]
  have ha2 : ∀ o, mup M w o a = some (entO (a, w, e)) := fun o => by rw [mup_ne hne]; exact ha
  rw [lstOf_of (ha2 _)]
  walk_at "vc"
  have hwl2 := congrArg List.length hwe
  rw [List.length_append, List.length_singleton] at hwl2
  refine ⟨by omega, ?_⟩
  rw [List.map_append] at h
  exact h
def spPlainEnd : SpT := fun ds M Q _ => ∃ (F : List Rw) (l : Int) (x : Lw) (ss : List Str), ds = [.lst (F.map Rw.d), .int l, x.d, .lst (ss.map .str)] ∧ (x.k = .set ∨ x.k = .join → x.nm ∈ ss) ∧ x.k ≠ .iff ∧ x.k ≠ .whl ∧ x.k ≠ .brk ∧ x.k ≠ .agn ∧ x.k ≠ .fin ∧ x.k ≠ .els ∧ Q (endW F ss l x).d M
theorem ok_l_plain_end (T : Tp K mg) : Fn P w K mg base CX0 1 "_law_plain_end" spPlainEnd := by
  refine fn_top T.top 59 e_l_plain_end (m_l_plain_end T) sc_l_plain_end (by rintro _ M Q Et ⟨n, _, _, _, rfl, _⟩; rfl) (fun cdv A outer s H E hr => ⟨_, (qss_cons (qs_set (i := 4) sc_l_plain_end.nd (q_op oq_addI (q_callB cq_len (m_len T) (by decide +kernel) (qa_cons (qv 3) qa_nil)) q_int))
 (qss_cons (qs_if (qt_cmp oq_eq (q_ix (qv 2) q_int) q_str)
  (qss_one (qs_ret (q_tup (qa_cons q_str (qa_cons (qv 1) (qa_cons (qv 4) qa_nil))))))
  qss_nil)
 (qss_cons (qs_if (qt_cmp oq_eq (q_ix (qv 2) q_int) q_str)
  (qss_one (qs_ret (q_tup (qa_cons q_str (qa_cons (qv 1) (qa_cons (q_op oq_addI (q_index (qv 3) (qa_cons (q_ix (qv 2) q_int) qa_nil)) q_int) (qa_cons (qv 4) qa_nil)))))))
  qss_nil)
 (qss_cons (qs_if (qt_cmp oq_eq (q_ix (qv 2) q_int) q_str)
  (qss_one (qs_ret (q_tup (qa_cons q_str (qa_cons (qv 1) (qa_cons (qv 4) (qa_cons (q_op oq_addI (qv 4) q_int) qa_nil)))))))
  qss_nil)
 (qss_cons (qs_if (qt_cmp oq_eq (q_ix (qv 2) q_int) q_str)
  (qss_one (qs_ret (q_tup (qa_cons q_str (qa_cons (qv 1) (qa_cons (q_op oq_addI (q_index (qv 3) (qa_cons (q_ix (qv 2) q_int) qa_nil)) q_int) (qa_cons (q_ix (qv 2) q_int) (qa_cons (qv 4) qa_nil))))))))
  qss_nil)
 (qss_cons (qs_if (qt_cmp oq_eq (q_ix (qv 2) q_int) q_str)
  (qss_one (qs_ret (q_tup (qa_cons q_str (qa_cons (qv 1) (qa_cons (q_op oq_sub (q_callB cq_len (m_len T) (by decide +kernel) (qa_cons (qv 0) qa_nil)) q_int) qa_nil))))))
  qss_nil)
 (qss_one (qs_ret (q_tup (qa_cons (q_ix (qv 2) q_int) (qa_cons (qv 1) qa_nil))))))))))), ?_⟩) (fun _ _ _ _ _ _ us hl => match us, hl with | [_, _, _, _], _ => rfl)
  rintro _ M Q Et ⟨F, l, x, ss, rfl, hn, c1, c2, c3, c4, c5, c6, h⟩
  obtain ⟨k, nm, jt, e1, e2⟩ := x
  unfold Lw.d
  dsimp only at hn c1 c2 c3 c4 c5 c6 ⊢
  cases k
  case iff => exact absurd rfl c1
  case whl => exact absurd rfl c2
  case brk => exact absurd rfl c3
  case agn => exact absurd rfl c4
  case fin => exact absurd rfl c5
  case els => exact absurd rfl c6
  case set => unfold Kw.s; dsimp only; walk_at "vc"; exact ⟨ss, rfl, hn (.inl rfl), h⟩
  case join => unfold Kw.s; dsimp only; walk_at "vc"; exact ⟨ss, rfl, hn (.inr rfl), h⟩
  all_goals (unfold Kw.s; dsimp only; walk_at "vc"; exact h)
def newE (x : Lw) (l : Int) (a0 : Nat) : EntW := ⟨decide (x.k = .whl), l, a0, []⟩
def spEnded : SpT := fun ds M Q _ => ∃ (F : List Rw) (at_ a0 : Nat) (l : Int) (x : Lw) (ss : List Str) (E : Addr) (M0 : MH) (L : Ens) (es es' : List EntW) (r : Rw), ds = [.lst (F.map Rw.d), .int (at_ : Nat), .int l, x.d, .lst (ss.map .str), .ref E] ∧ okF F ∧ ss.length ≤ 2000 ∧ EnS E M0 M L ∧ L.length ≤ 100 ∧ (∀ e ∈ L, e.2.2.wait.length ≤ 1000) ∧
  okLw x ∧ (x.k = .set ∨ x.k = .join → x.nm ∈ ss) ∧ x.k ≠ .fin ∧ x.k ≠ .els ∧ F[at_]? = some r ∧ lastW F ss l a0 x at_ r es es' ∧
  (x.k = .iff ∨ x.k = .whl → ∃ a w L0, L = (a, w, newE x l a0) :: L0 ∧ L0.map (·.2.2) = es) ∧ (¬ (x.k = .iff ∨ x.k = .whl) → L.map (·.2.2) = es) ∧
  ∀ M' L', EnS E M0 M' L' → L'.map (·.2.2) = es' → L'.length = L.length → Q (.bl true) M'
theorem ok_l_ended (T : Tp K mg) : Fn P w K mg base CX0 2 "_law_ended" spEnded := by
  refine fn_top T.top 60 e_l_ended (m_l_ended T) sc_l_ended (by rintro _ M Q Et ⟨n, _, _, _, _, _, _, _, _, _, _, _, rfl, _⟩; rfl) (fun cdv A outer s H E hr => ⟨_, (qss_cons (qs_set (i := 6) sc_l_ended.nd (q_ix (qv 0) (qv 1)))
 (qss_cons (qs_if (qt_cmp oq_inQ (q_ix (qv 3) q_int) (q_tup (qa_cons q_str (qa_cons q_str qa_nil))))
  (qss_cons (qs_expr (q_append (q_ix (q_ix (qv 5) (q_un uq_neg q_int)) q_int) (qa_cons (qv 1) qa_nil)))
 (qss_one (qs_ret (q_and (q_cmp oq_eq (q_callB cq_len (m_len T) (by decide +kernel) (qa_cons (qv 6) qa_nil)) q_int) (q_one (q_cmp (oq_eqD (un64 hr)) (q_sliceT (qv 6) qo_none (qo_some q_int)) (q_tup (qa_cons q_str (qa_cons (qv 2) (qa_cons (q_op oq_addI (q_callB cq_len (m_len T) (by decide +kernel) (qa_cons (qv 4) qa_nil)) q_int) qa_nil))))))))))
  qss_nil)
 (qss_cons (qs_if (qt_cmp oq_inQN (q_ix (qv 3) q_int) (q_tup (qa_cons q_str (qa_cons q_str qa_nil))))
  (qss_one (qs_ret (q_cmp (oq_eqD (un64 hr)) (qv 6) (q_call (ok_l_plain_end T) (hr.mono (by decide)) (qa_cons (qv 0) (qa_cons (qv 2) (qa_cons (qv 3) (qa_cons (qv 4) qa_nil))))))))
  qss_nil)
 (qss_cons (qs_set (i := 7) sc_l_ended.nd (q_ix (q_lc rfl sc_l_ended.nd (qi_list (qv 5)) (blkOk_by (N := nm_l_ended) (sc := defScope s_l_ended) (own := [(("_law_entry" : Str), 8)]) (by decide +kernel)) go_name (fun _ _ _ _ _ => (pg_name (i := 8) sc_l_ended.nd rfl (Or.inl rfl))) (fun _ _ _ _ _ => (qts_one (qt_cmp oq_eq (q_ix (qv 8) q_int) q_str))) (fun _ _ _ _ _ => (qv 8))) (q_un uq_neg q_int)))
 (qss_cons (qs_if (qt_cmp oq_eq (q_ix (qv 3) q_int) q_str)
  (qss_one (qs_ret (q_cmp (oq_eqD (un64 hr)) (qv 6) (q_tup (qa_cons q_str (qa_cons (qv 2) (qa_cons (q_ix (qv 7) q_int) qa_nil)))))))
  qss_nil)
 (qss_cons (qs_expr (q_append (q_ix (qv 7) q_int) (qa_cons (qv 1) qa_nil)))
 (qss_one (qs_ret (q_and (q_cmp oq_eq (q_callB cq_len (m_len T) (by decide +kernel) (qa_cons (qv 6) qa_nil)) q_int) (q_one (q_cmp (oq_eqD (un64 hr)) (q_sliceT (qv 6) qo_none (qo_some q_int)) (q_tup (qa_cons q_str (qa_cons (qv 2) qa_nil)))))))))))))), ?_⟩) (fun _ _ _ _ _ _ us hl => match us, hl with | [_, _, _, _, _, _], _ => rfl)
  rintro _ M Q Et ⟨F, at_, a0, l, x, ss, E1, M0, L, es, es', r, rfl, hF, hsl, hE, hLl, hwl, hx, hn, c1, c2, hr1, hlast, hif, hnif, h⟩
  have hd : x.d = .tup [.str x.k.s, .str x.nm, .str x.jt, x.e1.d, x.e2.d] := rfl
  rw [hd]
  walk_at "vc"
  rw [atI_F hr1]
  walk_at "vc"
  refine ⟨rfl, rfl, ?_⟩
  by_cases ci : x.k = .iff ∨ x.k = .whl
  · rw [if_pos (by rcases ci with c | c <;> rw [c] <;> decide +kernel)]
    obtain ⟨a, w, L0, rfl, hes⟩ := hif ci
    have hm : ((a, w, newE x l a0) : Addr × Addr × EntW) ∈ (a, w, newE x l a0) :: L0 := List.mem_cons_self ..
    have hEe := hE.e_
    rw [List.reverse_cons, List.map_append, List.map_singleton] at hEe
    rw [lstOf_of hEe]
    simp only [oSome_i]
    rw [atI_end1]
    unfold entD
    walk_at "vc"
    rw [lstOf_of (hE.a_ hm)]
    walk_at "vc"
    refine ⟨is_m (hE.w_ hm), ?_⟩
    rw [mLst_of (hE.w_ hm)]
    simp only [oSome_i]
    have hl2 : (∃ t, r = .split l ((ss.length : Int) + 1) t) ∧ es' = ⟨decide (x.k = .whl), l, a0, [at_]⟩ :: es := by
      unfold lastW at hlast
      rcases ci with c | c <;> rw [c] at hlast ⊢ <;> exact hlast
    obtain ⟨⟨t, rfl⟩, hes'⟩ := hl2
    have hcell := hE.wait (A := []) (ws := [at_])
    rw [show (Rw.split l ((ss.length : Int) + 1) t).d = .tup [.str (Str.ofString "split"), .int l, .int ((ss.length : Int) + 1), .int t] from rfl]
    refine ⟨Nat.le_of_ble_eq_true rfl, ?_⟩
    walk_at "vc"
    rw [if_pos (by decide), show Tl.cutD [D.str (Str.ofString "split"), D.int l, D.int ((ss.length : Int) + 1), D.int t] none (some 3) = [D.str (Str.ofString "split"), D.int l, D.int ((ss.length : Int) + 1)] from rfl]
    refine eqD_same 2 rfl rfl (okD_tup (okDs_cons (okD_str (by decide +kernel)) (okDs_cons okD_int (okDs_cons okD_int okDs_nil)))) ?_
    refine h _ _ hcell ?_ rfl
    rw [hes', List.nil_append, List.map_cons, hes]
    rfl
  · rw [if_neg (by cases hk : x.k <;> first | exact (ci (.inl hk)).elim | exact (ci (.inr hk)).elim | decide +kernel)]
    refine ⟨rfl, rfl, ?_⟩
    have hLe := hnif ci
    by_cases cb : x.k = .brk ∨ x.k = .agn
    · rw [if_neg (by rcases cb with c | c <;> rw [c] <;> decide +kernel), lstOf_of hE.e_]
      simp only [oSome_i]
      have hfw : ∃ e, firstW es = some e ∧ (x.k = .agn → r = .jump l (e.beg : Nat) ∧ es' = es) ∧ (x.k = .brk → (∃ t, r = .jump l t) ∧ es' = addWs es [at_]) := by
        unfold lastW at hlast
        rcases cb with c | c <;> rw [c] at hlast ⊢
        · obtain ⟨q1, ⟨e, q2⟩, q3⟩ := hlast
          exact ⟨e, q2, fun z => (by cases z), fun _ => ⟨q1, q3⟩⟩
        · obtain ⟨⟨e, q1, q2⟩, q3⟩ := hlast
          exact ⟨e, q1, fun _ => ⟨q2, q3⟩, fun z => (by cases z)⟩
      obtain ⟨e, hfw, hagn, hbrk⟩ := hfw
      rw [← hLe] at hfw
      obtain ⟨A, a, w, B, rfl, hA, hwh⟩ := first_ens hfw
      obtain ⟨C, hC⟩ := filt_ens (B := B) (a := a) (w := w) hA hwh
      have hm : ((a, w, e) : Addr × Addr × EntW) ∈ A ++ (a, w, e) :: B := by simp
      refine lc_filter (A ++ (a, w, e) :: B).reverse entD (fun x => x.2.2.wh) entD rfl (by rw [List.length_reverse, sizeLine_eq]; omega) (lstOf_of hE.e_) (fun y R1 R0 hy h1 h0 => ?_) ?_
      · unfold entD at h1 ⊢
        walk_at "vc"
        rw [lstOf_of (hE.a_ (List.mem_reverse.mp hy))]
        walk_at "vc"
        by_cases cy : y.2.2.wh = true
        · rw [if_pos cy, if_pos rfl]; exact h1 cy
        · rw [if_neg cy, if_neg (by decide +kernel)]; exact h0 (by simpa using cy)
      rw [hC, List.map_append, List.map_singleton]
      walk_at "vc"
      rw [atI_end1]
      unfold entD
      walk_at "vc"
      by_cases c : x.k = .agn
      · rw [if_pos (by rw [c]; rfl), lstOf_of (hE.a_ hm)]
        obtain ⟨rfl, he⟩ := hagn c
        walk_at "vc"
        refine eqD_same 2 rfl rfl (okD_tup (okDs_cons (okD_str (by decide +kernel)) (okDs_cons okD_int (okDs_cons okD_int okDs_nil)))) ?_
        exact h _ _ hE (by rw [he]; exact hLe) rfl
      · have c' : x.k = .brk := cb.elim id fun z => absurd z c
        rw [if_neg (by rw [c']; decide +kernel), lstOf_of (hE.a_ hm)]
        obtain ⟨⟨t, rfl⟩, he⟩ := hbrk c'
        walk_at "vc"
        refine ⟨is_m (hE.w_ hm), ?_⟩
        rw [mLst_of (hE.w_ hm)]
        simp only [oSome_i]
        have h9 := hwl _ hm
        refine ⟨by rw [List.length_map]; exact Nat.lt_of_le_of_lt h9 (by decide), ?_⟩
        rw [show (Rw.jump l t).d = .tup [.str (Str.ofString "jump"), .int l, .int t] from rfl]
        walk_at "vc"
        rw [if_pos (by decide), show Tl.cutD [D.str (Str.ofString "jump"), D.int l, D.int t] none (some 2) = [D.str (Str.ofString "jump"), D.int l] from rfl]
        refine eqD_same 2 rfl rfl (okD_tup (okDs_cons (okD_str (by decide +kernel)) (okDs_cons okD_int okDs_nil))) ?_
        refine h _ _ (by rw [show e.wait.map natD ++ [D.int (at_ : Nat)] = (e.wait ++ [at_]).map natD by rw [List.map_append]; rfl]; exact hE.wait) ?_ (by simp)
        rw [he, ← hLe]
        exact add_ens hA hwh
    · rw [if_pos (by cases hk : x.k <;> first | exact (ci (.inl hk)).elim | exact (ci (.inr hk)).elim | exact (cb (.inl hk)).elim | exact (cb (.inr hk)).elim | decide +kernel)]
      have hl2 : r = endW F ss l x ∧ es' = es := by
        unfold lastW at hlast
        cases hk : x.k <;> first | exact (ci (.inl hk)).elim | exact (ci (.inr hk)).elim | exact (cb (.inl hk)).elim | exact (cb (.inr hk)).elim | exact (c1 hk).elim | exact (c2 hk).elim | (rw [hk] at hlast; exact hlast)
      obtain ⟨rfl, he⟩ := hl2
      refine ⟨F, l, x, ss, rfl, hn, fun z => ci (.inl z), fun z => ci (.inr z), fun z => cb (.inl z), fun z => cb (.inr z), c1, c2, ?_⟩
      refine eqD_same 2 (by cases endW F ss l x <;> rfl) (by cases endW F ss l x <;> rfl) (okD_mono (hF.1 _ (List.mem_of_getElem? hr1)) (by decide)) ?_
      exact h _ _ hE (by rw [he]; exact hLe) rfl
end
end K23
namespace K23
open PySem PySem.Spec PyProof.Rows L2 Tl
section
variable {P : Program} {w : World} {K : PySem.W.Frag} {mg : Str → Option Value} {base : Heap}
def spWent : SpT := fun ds M Q _ => ∃ (F : List Rw) (at_ at2 : Nat) (l : Int) (L : List Lw) (ss : List Str), ds = [.lst (F.map Rw.d), .int (at_ : Nat), .int l, .lst (L.map Lw.d), .lst (ss.map .str)] ∧ okF F ∧ ss.length ≤ 2000 ∧ L.length ≤ 67 ∧ (∀ x ∈ L, okLw x ∧ (x.k = .set ∨ x.k = .join → x.nm ∈ ss) ∧ ∀ e ∈ x.exs, e.inS ss) ∧
  goR F ss l (at_, []) 0 L (at2, []) ∧ Q (.int (at2 : Nat)) M
theorem ok_l_went (T : Tp K mg) : Fn P w K mg base CX0 11 "_law_went" spWent := by
  refine fn_top T.top 61 e_l_went (m_l_went T) sc_l_went (by rintro _ M Q Et ⟨n, _, _, _, _, _, rfl, _⟩; rfl) (fun cdv A outer s H E hr => ⟨_, (qss_cons (qs_set (i := 5) sc_l_went.nd (q_lstM qa_nil))
 (qss_cons (qs_for PassesOwn.never rfl (qi_enum (m_enumerate T) (qa_cons (qv 3) qa_nil)) (qg_tup (n := 2) rfl (qgs_cons (qg_name (i := 6) sc_l_went.nd) (qgs_cons (qg_name (i := 7) sc_l_went.nd) qgs_nil)))
  (qss_cons (qs_set (i := 8) sc_l_went.nd (qv 1))
 (qss_cons (qs_if (qt_cmp oq_eq (q_ix (qv 7) q_int) q_str)
  (qss_one (qs_set (i := 1) sc_l_went.nd (q_call (ok_l_closed T) (hr.mono (by decide)) (qa_cons (qv 0) (qa_cons (qv 1) (qa_cons (q_pop (qv 5)) qa_nil))))))
  (qss_one (qs_if (qt_cmp oq_eq (q_ix (qv 7) q_int) q_str)
  (qss_one (qs_set (i := 1) sc_l_went.nd (q_call (ok_l_otherwise T) (hr.mono (by decide)) (qa_cons (qv 0) (qa_cons (qv 1) (qa_cons (q_ix (qv 5) (q_un uq_neg q_int)) qa_nil))))))
  (qss_cons (qs_if (qt_cmp oq_inQ (q_ix (qv 7) q_int) (q_tup (qa_cons q_str (qa_cons q_str qa_nil))))
  (qss_one (qs_expr (q_append (qv 5) (qa_cons (q_lstM (qa_cons (q_ix (qv 7) q_int) (qa_cons (q_op oq_addI (qv 2) (qv 6)) (qa_cons (qv 8) (qa_cons (q_lstM qa_nil) qa_nil))))) qa_nil))))
  qss_nil)
 (qss_cons (qs_set (i := 1) sc_l_went.nd (q_call (ok_l_begun T) (hr.mono (by decide)) (qa_cons (qv 0) (qa_cons (qv 1) (qa_cons (q_op oq_addI (qv 2) (qv 6)) (qa_cons (qv 7) (qa_cons (qv 4) qa_nil)))))))
 (qss_cons (qs_if (qt_w (qw_or (qt_cmp oq_lt (qv 1) q_int) (qw_or (qt_cmp oq_ge (qv 1) (q_callB cq_len (m_len T) (by decide +kernel) (qa_cons (qv 0) qa_nil))) (qw_or1 (qt_not (qt_val (q_call (ok_l_ended T) (hr.mono (by decide)) (qa_cons (qv 0) (qa_cons (qv 1) (qa_cons (q_op oq_addI (qv 2) (qv 6)) (qa_cons (qv 7) (qa_cons (qv 4) (qa_cons (qv 5) qa_nil)))))))))))))
  (qss_one (qs_ret (q_re (q_un uq_neg q_int))))
  qss_nil)
 (qss_one (qs_set (i := 1) sc_l_went.nd (q_op oq_addI (qv 1) q_int)))))))))
 (qss_one (qs_if (qt_cmp oq_lt (qv 1) q_int)
  (qss_one (qs_ret (q_re (q_un uq_neg q_int))))
  qss_nil)))))
 (qss_one (qs_ret (q_re (qv 1)))))), ?_⟩) (fun _ _ _ _ _ _ us hl => match us, hl with | [_, _, _, _, _], _ => rfl)
  rintro _ M Q Et ⟨F, at_, at2, l, L, ss, rfl, hF, hsl, hLl, hok, hgo, h⟩
  walk_at "vc"
  intro p hp
  have h0 : EnS p M (mup M p (.lst [])) [] := Cel.fresh Cel.nil hp
  refine for_any (fun i τ M' => ∃ (a1 : Nat) (es : List EntW) (N : Ens), ∃ x6 x7 x8, goR F ss l (a1, es) i (L.drop i) (at2, []) ∧ EnS p M M' N ∧ N.map (·.2.2) = es ∧ es.length ≤ i ∧ (∀ e ∈ es, e.wait.length ≤ i) ∧ τ = [some (.lst (F.map Rw.d)), some (.int (a1 : Nat)), some (.int l), some (.lst (L.map Lw.d)), some (.lst (ss.map .str)), some (.ref p), x6, x7, x8]) ⟨at_, [], [], _, _, _, hgo, h0, rfl, Nat.le_refl _, fun e he => (by cases he), rfl⟩ (fun _ _ _ _ => trivial) ?_ ?_
  · rintro i y τ M' hy ⟨a1, es, N, x6, x7, x8, hgo, hE, hN, hNl, hNw, rfl⟩
    obtain ⟨x, hx, rfl⟩ := enumD_map hy
    obtain ⟨hi, hxi⟩ := List.getElem?_eq_some_iff.mp hx
    obtain ⟨hxo, hxn, hxe⟩ := hok x (List.mem_of_getElem? hx)
    rw [List.drop_eq_getElem_cons hi, hxi] at hgo
    obtain ⟨st1, hstep, hgo2⟩ := hgo
    have hd : x.d = .tup [.str x.k.s, .str x.nm, .str x.jt, x.e1.d, x.e2.d] := rfl
    rw [hd]
    walk_at "vc"
    by_cases cf : x.k = .fin
    · rw [if_pos (by rw [cf]; rfl)]
      unfold GoS at hstep
      rw [cf] at hstep
      obtain ⟨e, rr, hes, hw1, hw2, hw3, hr⟩ := hstep
      dsimp only at hes hw1 hw2 hw3
      rw [← hN] at hes
      obtain ⟨⟨a, w, e0⟩, N0, rfl, he0, hN0⟩ := List.map_eq_cons_iff.mp hes
      dsimp only at he0
      subst he0
      have hm : ((a, w, e0) : Addr × Addr × EntW) ∈ (a, w, e0) :: N0 := List.mem_cons_self ..
      have hEe := hE.e_
      refine ⟨is_m hEe, ?_⟩
      rw [mLst_of hEe, List.reverse_cons, List.map_append, List.map_singleton]
      simp only [oSome_i]
      rw [List.getLast?_concat, List.dropLast_concat]
      simp only [oSome_i]
      have hp2 := hE.pop
      obtain ⟨n1, n2, n3⟩ := hE.ne
      have ha : mup M' p (.lst (N0.reverse.map entD)) a = some (entO (a, w, e0)) := by rw [mup_ne n1]; exact hE.a_ hm
      have hwa : mup M' p (.lst (N0.reverse.map entD)) w = some (waitO (a, w, e0)) := by rw [mup_ne n2]; exact hE.w_ hm
      refine ⟨F, a1, st1.1, a, w, e0, rfl, hF, ha, hwa, by have := hNw e0 (by rw [← hN]; simp); omega, fun q => hw1 q, hw2, hw3, ?_⟩
      simp only [oInt_i]
      rw [if_neg (by omega)]
      refine ⟨st1.1, st1.2, N0, _, _, _, hgo2, hp2, by rw [hN0, hr], ?_, fun e he => ?_, rfl, rfl, rfl, rfl⟩
      · rw [hr, ← hN0]; rw [← hN] at hNl; simp only [List.map_cons, List.length_cons] at hNl; omega
      · rw [hr, ← hN0] at he
        have := hNw e (by rw [← hN]; exact List.mem_cons_of_mem _ he)
        omega
    · rw [if_neg (by cases hk : x.k <;> first | exact (cf hk).elim | decide +kernel)]
      by_cases ce : x.k = .els
      · rw [if_pos (by rw [ce]; rfl)]
        unfold GoS at hstep
        rw [ce] at hstep
        obtain ⟨e, rr, wts, j, hes, hwt, ⟨t, hjr⟩, hend, hs1, hs2⟩ := hstep
        dsimp only at hes hjr hend hs1
        rw [← hN] at hes
        obtain ⟨⟨a, w, e0⟩, N0, rfl, he0, hN0⟩ := List.map_eq_cons_iff.mp hes
        dsimp only at he0
        subst he0
        have hm : ((a, w, e0) : Addr × Addr × EntW) ∈ (a, w, e0) :: N0 := List.mem_cons_self ..
        have hEe := hE.e_
        rw [List.reverse_cons, List.map_append, List.map_singleton] at hEe
        rw [lstOf_of hEe]
        simp only [oSome_i]
        rw [atI_end1]
        simp only [oSome_i]
        have hne : a ≠ w := hE.ne.2.2
        refine ⟨F, a1, j, t, a, w, e0, wts, rfl, hF, hE.a_ hm, hE.w_ hm, by have := hNw e0 (by rw [← hN]; simp); omega, hne, hwt, hjr, hend, ?_⟩
        simp only [oInt_i]
        rw [if_neg (by omega)]
        refine ⟨a1 + 1, _, (a, w, { e0 with wait := wts ++ [a1] }) :: N0, _, _, _, (by rw [← hs1]; exact hgo2), hE.wait (A := []), ?_, ?_, fun e he => ?_, rfl, rfl, rfl, rfl⟩
        · rw [hs2, List.map_cons, hN0]
        · rw [hs2, ← hN0]; rw [← hN] at hNl; simp only [List.map_cons, List.length_cons] at hNl ⊢; omega
        · rw [hs2, ← hN0] at he
          rcases List.mem_cons.mp he with rfl | he
          · have := hNw e0 (by rw [← hN]; simp)
            rw [hwt] at this
            simpa using Nat.le_succ_of_le this
          · have := hNw e (by rw [← hN]; exact List.mem_cons_of_mem _ he)
            omega
      · rw [if_neg (by cases hk : x.k <;> first | exact (ce hk).elim | decide +kernel)]
        have hst : subAt F a1 (begW ss (l + i) x) ∧ ∃ r, F[a1 + (begW ss (l + i) x).length]? = some r ∧ lastW F ss (l + i) a1 x (a1 + (begW ss (l + i) x).length) r es st1.2 ∧ st1.1 = a1 + (begW ss (l + i) x).length + 1 := by
          unfold GoS at hstep
          cases hk : x.k <;> first | exact (cf hk).elim | exact (ce hk).elim | (rw [hk] at hstep; exact hstep)
        obtain ⟨hsub, r, hr1, hlast, hs1⟩ := hst
        have hat := (List.getElem?_eq_some_iff.mp hr1).1
        obtain ⟨hb1, hb2⟩ := lastW_len (b := i) hlast
        have fin : ∀ (M2 : MH) (N2 : Ens), EnS p M M2 N2 → (x.k = .iff ∨ x.k = .whl → ∃ a w L0, N2 = (a, w, newE x (l + i) a1) :: L0 ∧ L0.map (·.2.2) = es) → (¬ (x.k = .iff ∨ x.k = .whl) → N2.map (·.2.2) = es) → spBegun
          [D.lst (List.map Rw.d F), D.int ↑a1, D.int (l + ↑i),
            D.tup [D.str x.k.s, D.str x.nm, D.str x.jt, x.e1.d, x.e2.d], D.lst (List.map D.str ss)]
          M2
          (fun x_1 M1 =>
            oInt x_1 fun i_1 =>
              if i_1 < 0 then ∃ d' M2, ReR K (D.int (-1)) M1 d' M2 ∧ Q d' M2
              else
                oInt x_1 fun i_2 =>
                  if (F.length : Int) ≤ i_2 then ∃ d' M2, ReR K (D.int (-1)) M1 d' M2 ∧ Q d' M2
                  else
                    spEnded
                      [D.lst (List.map Rw.d F), x_1, D.int (l + ↑i),
                        D.tup [D.str x.k.s, D.str x.nm, D.str x.jt, x.e1.d, x.e2.d], D.lst (List.map D.str ss), D.ref p]
                      M1
                      (fun x_2 M1 =>
                        oBl x_2 fun c =>
                          if c = false then ∃ d' M2, ReR K (D.int (-1)) M1 d' M2 ∧ Q d' M2
                          else
                            oInt x_1 fun i_3 =>
                              if i_3 + 1 < 0 then ∃ d' M2, ReR K (D.int (-1)) M1 d' M2 ∧ Q d' M2
                              else
                                ∃ (a1_1 : Nat) (es : List EntW) (N : Ens), ∃ x6 x7 x8,
                                  goR F ss l (a1_1, es) (i + 1) (List.drop (i + 1) L) (at2, []) ∧
                                    EnS p M M1 N ∧
                                      List.map (fun x => x.snd.snd) N = es ∧
                                        es.length ≤ i + 1 ∧
                                          (∀ e ∈ es, e.wait.length ≤ i + 1) ∧
                                            D.int (i_3 + 1) = D.int ↑a1_1 ∧
                                              some (D.int ↑i) = x6 ∧
                                                some (D.tup [D.str x.k.s, D.str x.nm, D.str x.jt, x.e1.d, x.e2.d]) =
                                                    x7 ∧
                                                  some (D.int ↑a1) = x8)
                      Et0)
          Et0 := fun M2 N2 hE2 q1 q2 => by
          refine ⟨F, a1, l + i, x, ss, rfl, hF, hxo, hxe, hsl, hsub, ?_⟩
          simp only [oInt_i]
          rw [if_neg (by omega), if_neg (by omega)]
          have hN2 : N2.length ≤ es.length + 1 ∧ ∀ e ∈ N2, e.2.2.wait.length ≤ i := by
            by_cases ci : x.k = .iff ∨ x.k = .whl
            · obtain ⟨a, w, L0, rfl, hL0⟩ := q1 ci
              rw [← hL0]
              refine ⟨by simp, fun e he => ?_⟩
              rcases List.mem_cons.mp he with rfl | he
              · exact Nat.zero_le _
              · exact hNw _ (by rw [← hL0]; exact List.mem_map.mpr ⟨e, he, rfl⟩)
            · rw [← q2 ci]
              refine ⟨by simp, fun e he => ?_⟩
              exact hNw _ (by rw [← q2 ci]; exact List.mem_map.mpr ⟨e, he, rfl⟩)
          refine ⟨F, a1 + (begW ss (l + i) x).length, a1, l + i, x, ss, p, M, N2, es, st1.2, r, rfl, hF, hsl, hE2, by omega, fun e he => by have := hN2.2 e he; omega, hxo, hxn, cf, ce, hr1, hlast, q1, q2, fun M3 N3 hE3 hN3 hN3l => ?_⟩
          simp only [oInt_i, oBl_i]
          rw [if_neg (by decide), if_neg (by omega)]
          refine ⟨st1.1, st1.2, N3, _, _, _, hgo2, hE3, hN3, by omega, hb2 hNw, by rw [hs1]; rfl, rfl, rfl, rfl⟩
        refine ⟨rfl, rfl, ?_⟩
        by_cases ci : x.k = .iff ∨ x.k = .whl
        · rw [if_pos (by rcases ci with c | c <;> rw [c] <;> decide +kernel)]
          refine ⟨is_m hE.e_, fun w hw a ha => ?_⟩
          have hpu := hE.push (e := newE x (l + i) a1) hw ha
          have hpE : mup (mup M' w (.lst [])) a (.lst [D.str x.k.s, D.int (l + ↑i), D.int ↑a1, D.ref w]) p = some (.lst (N.reverse.map entD)) := by
            have hEe := hE.e_
            have w1 : p ≠ w := fun q => by rw [q, hw] at hEe; cases hEe
            have w2 : p ≠ a := fun q => by rw [← q, mup_ne w1, hEe] at ha; cases ha
            rw [mup_ne w2, mup_ne w1]
            exact hEe
          rw [mLst_of hpE]
          simp only [oSome_i]
          refine ⟨by rw [List.length_map, List.length_reverse, ← List.length_map (f := (·.2.2)), hN]; omega, ?_⟩
          have e1 : entO (a, w, newE x (l + i) a1) = .lst [D.str x.k.s, D.int (l + ↑i), D.int ↑a1, D.ref w] := by
            unfold entO newE
            rcases ci with c | c <;> rw [c] <;> rfl
          rw [e1] at hpu
          refine fin _ _ ?_ (fun _ => ⟨a, w, N, rfl, hN⟩) (fun z => absurd ci z)
          rw [List.reverse_cons, List.map_append] at hpu
          exact hpu
        · rw [if_neg (by cases hk : x.k <;> first | exact (ci (.inl hk)).elim | exact (ci (.inr hk)).elim | decide +kernel)]
          exact fin _ N hE (fun z => absurd z ci) (fun _ => hN)
  · rintro τ M' ⟨a1, es, N, x6, x7, x8, hgo, hE, hN, hNl, hNw, rfl⟩
    have hil : ({ items := enumD (L.map Lw.d), src := fun M => True } : Its).items.length = L.length := by
      show (enumD (L.map Lw.d)).length = _
      simp only [enumD_len, List.length_map]
    rw [hil, List.drop_length] at hgo
    have hgo : (at2, []) = (a1, es) := hgo
    cases hgo
    walk_at "vc"
    exact ⟨_, M, ReR.drop fun a o e => hE.old e, h⟩
end
end K23
namespace K23
open PySem PySem.Spec PyProof.Rows L2 Tl
section
variable {P : Program} {w : World} {K : PySem.W.Frag} {mg : Str → Option Value} {base : Heap}
def cellK (ns : List Int) : Int := match ns with | [] => 0 | n :: _ => n
def wayK (ns : List Int) : Nat := if 0 < ns.length then (mixG (cellK ns) 0 % 3).toNat else 0
theorem wayK_lt (ns : List Int) : wayK ns < 3 := by
  unfold wayK
  have := modB (a := mixG (cellK ns) 0) (b := 3) (by decide)
  split <;> omega
def textsK (way : Nat) (L : List Lw) : List Str :=
  if way = 0 then ("def main" : Str) :: ((L.map fun x => x.lin.txt) ++ ([("end" : Str)] : List Str)) else if way = 1 then ([("def main" : Str), "call x f 5 lane", "end", "def f x nn"] : List Str) ++ ((L.map fun x => x.lin.txt) ++ ([("end" : Str)] : List Str)) else ("def f x nn" : Str) :: ((L.map fun x => x.lin.txt) ++ ([("end" : Str), "def main", "call x f 5 lane", "end"] : List Str))
theorem texts_prog (way : Nat) (L : List Lw) : (progLines way L).map Lin.txt = textsK way L := by
  have a1 : (Lin.dff "main" []).txt = "def main" := by decide +kernel
  have a2 : Lin.fin.txt = "end" := by decide +kernel
  have a3 : (Lin.pln (.call 0 "x" "f" [.num 5, .lane])).txt = "call x f 5 lane" := by decide +kernel
  have a4 : (Lin.dff "f" ["x", "nn"]).txt = "def f x nn" := by decide +kernel
  unfold progLines textsK mainL
  split
  · simp [a1, a2, List.map_map, Function.comp_def]
  · split
    · simp [a1, a2, a3, a4, List.map_map, Function.comp_def]
    · simp [a1, a2, a3, a4, List.map_map, Function.comp_def]
theorem ok_law (T : Tp K mg) {f : Addr} {fd : FuncData} (F : FunD K e_law.name e_law.qual e_law.params e_law.body e_law.scope [] [] f fd) : FnOk P w K mg base CX0 53 f fd ["_law_script"] (lSp K spLaw) := by
  refine fn_ok e_law fd F sc_law (by rintro _ M Q Et ⟨n, rfl, _⟩; rfl) (fun cdv A outer s H E hr => ⟨_, (qss_cons (qs_set (i := 1) sc_law.nd q_int)
 (qss_cut (qs_if (qt_cmp oq_gt (q_callB cq_len (m_len T) (by decide +kernel) (qa_cons (qv 0) qa_nil)) q_int)
  (qss_one (qs_set (i := 1) sc_law.nd (q_op oq_mod (q_call (ok_l_mixed T) (hr.mono (by decide)) (qa_cons (q_ix (qv 0) q_int) (qa_cons q_int qa_nil))) q_int)))
  qss_nil)
 (qss_cons (qs_set (i := 2) sc_law.nd (q_call (ok_l_lines T) (hr.mono (by decide)) (qa_cons (qv 0) (qa_cons (q_cmp oq_eq (qv 1) q_int) qa_nil))))
 (qss_cut (qs_set (i := 3) sc_law.nd (q_op oq_catL (q_lc rfl sc_law.nd (qi_list (qv 2)) (blkOk_by (N := nm_law) (sc := defScope s_law) (own := [(("_law_one" : Str), 13)]) (by decide +kernel)) go_name (fun _ _ _ _ _ => (pg_name (i := 13) sc_law.nd rfl (Or.inl rfl))) (fun _ _ _ _ _ => qts_nil) (fun _ _ _ _ _ => (q_call (ok_l_text T) (hr.mono (by decide)) (qa_cons (qv 13) qa_nil)))) (q_lst (qa_cons q_str qa_nil))))
 (qss_cons (qs_set (i := 4) sc_law.nd (q_lst (qa_cons q_str (qa_cons q_str (qa_cons q_str qa_nil)))))
 (qss_cut (qs_set (i := 5) sc_law.nd (q_ix (q_lst (qa_cons (q_op oq_catL (q_lst (qa_cons q_str qa_nil)) (qv 3)) (qa_cons (q_op oq_catL (q_op oq_catL (qv 4) (q_lst (qa_cons q_str qa_nil))) (qv 3)) (qa_cons (q_op oq_catL (q_op oq_catL (q_lst (qa_cons q_str qa_nil)) (qv 3)) (qv 4)) qa_nil)))) (qv 1)))
 (qss_cut (qs_set (i := 6) sc_law.nd (q_call (ok_made T) (hr.mono (by decide)) (qa_cons (q_call (ok_read T) (hr.mono (by decide)) (qa_cons (q_join q_str (qv 5)) qa_nil)) qa_nil)))
 (qss_cut (qs_if (qt_not (qt_val (q_call (ok_l_plain T) (hr.mono (by decide)) (qa_cons (qv 6) qa_nil))))
  (qss_one (qs_ret q_bl))
  qss_nil)
 (qss_cons (qs_set (i := 7) sc_law.nd (q_ix (q_lst (qa_cons q_int (qa_cons q_int (qa_cons q_int qa_nil)))) (qv 1)))
 (qss_cons (qs_set (i := 8) sc_law.nd (q_ix (q_lst (qa_cons q_int (qa_cons q_int (qa_cons q_int qa_nil)))) (qv 1)))
 (qss_cons (qs_set (i := 9) sc_law.nd (q_op oq_sub (q_callB cq_len (m_len T) (by decide +kernel) (qa_cons (qv 5) qa_nil)) q_int))
 (qss_cut (qs_if (qt_cmp oq_eq (qv 1) q_int)
  (qss_one (qs_set (i := 9) sc_law.nd q_int))
  qss_nil)
 (qss_cons (qs_set (i := 10) sc_law.nd (q_lst (qa_cons (q_tup (qa_cons q_str (qa_cons (q_op oq_addI (qv 9) q_int) qa_nil))) (qa_cons (q_tup (qa_cons q_str (qa_cons (q_op oq_addI (qv 9) q_int) (qa_cons q_int (qa_cons q_int qa_nil))))) (qa_cons (q_tup (qa_cons q_str (qa_cons (q_op oq_addI (qv 9) q_int) (qa_cons q_int (qa_cons q_str qa_nil))))) qa_nil)))))
 (qss_cons (qs_set (i := 10) sc_law.nd (q_op oq_catL (qv 10) (q_lst (qa_cons (q_tup (qa_cons q_str (qa_cons (q_op oq_addI (qv 9) q_int) (qa_cons q_int (qa_cons q_int (qa_cons q_int (qa_cons q_int qa_nil))))))) (qa_cons (q_tup (qa_cons q_str (qa_cons (q_op oq_addI (qv 9) q_int) qa_nil))) qa_nil)))))
 (qss_cut (qs_if (qt_w (qw_and (qt_cmp oq_gt (qv 1) q_int) (qw_and1 (qt_cmp (oq_neD (un64 hr)) (q_sliceL (qv 6) qo_none (qo_some q_int)) (qv 10)))))
  (qss_one (qs_ret q_bl))
  qss_nil)
 (qss_cons (qs_set (i := 11) sc_law.nd (q_call (ok_l_names T) (hr.mono (by decide)) (qa_cons (qv 2) (qa_cons (q_ix (q_lst (qa_cons (q_lst qa_nil) (qa_cons (q_lst (qa_cons q_str (qa_cons q_str qa_nil))) (qa_cons (q_lst (qa_cons q_str (qa_cons q_str qa_nil))) qa_nil)))) (qv 1)) qa_nil))))
 (qss_cons (qs_set (i := 12) sc_law.nd (q_call (ok_l_went T) (hr.mono (by decide)) (qa_cons (qv 6) (qa_cons (qv 8) (qa_cons (qv 7) (qa_cons (qv 2) (qa_cons (qv 11) qa_nil)))))))
 (qss_one (qs_ret (q_and (q_cmp oq_ge (qv 12) q_int) (q_one (q_cmp (oq_eqD (un64 hr)) (q_sliceL (qv 6) (qo_some (qv 12)) qo_none) (q_lst (qa_cons (q_tup (qa_cons q_str (qa_cons (q_op oq_addI (qv 7) (q_callB cq_len (m_len T) (by decide +kernel) (qa_cons (qv 2) qa_nil))) qa_nil))) qa_nil)))))))))))))))))))))))), ?_⟩)
  rintro _ M Q Et ⟨ns, rfl, hl, h⟩
  walk_at "vc"
  refine cut_by (fun τ M' => M' = M ∧ τ = [some (.scr (ns.map .int)), some (.int (wayK ns : Nat)), none, none, none, none, none, none, none, none, none, none, none, none]) ?_ ?_
  · by_cases h0 : 0 < ns.length
    · have hat : atI (List.map D.int ns) 0 = some (.int (cellK ns)) := by
        unfold cellK
        cases ns with
        | nil => cases h0
        | cons n t => exact atI_nat (j := 0) rfl
      walk_at "vc"
      rw [if_pos (by omega), hat]
      walk_at "vc"
      refine ⟨cellK ns, 0, rfl, by decide, ?_⟩
      simp only [oInt_i]
      have := modB (a := mixG (cellK ns) 0) (b := 3) (by decide)
      have e : ((wayK ns : Nat) : Int) = mixG (cellK ns) 0 % 3 := by unfold wayK; rw [if_pos h0]; omega
      rw [e]
      exact ⟨trivial, rfl⟩
    · walk_at "vc"
      rw [if_neg (by omega)]
      have e : wayK ns = 0 := by unfold wayK; rw [if_neg h0]
      rw [e]
      rfl
  rintro τ M ⟨rfl, rfl⟩
  have hw3 := wayK_lt ns
  generalize wayK ns = way at hw3 ⊢
  walk_at "vc"
  have hdw : decide ((way : Int) = 0) = decide (way = 0) := by simp
  refine ⟨ns, decide (way = 0), by rw [hdw], hl, ?_⟩
  obtain ⟨hm1, hm2⟩ := linesLK_may ns (decide (way = 0))
  have hok := linesLK_ok ns (decide (way = 0))
  have hll := linesLK_len ns (decide (way = 0)) hl
  generalize linesLK ns (decide (way = 0)) = L at *
  have hat : ∀ a b c : D, atI [a, b, c] (way : Nat) = some (if way = 0 then a else if way = 1 then b else c) := fun a b c => by
    have : way = 0 ∨ way = 1 ∨ way = 2 := by omega
    rcases this with rfl | rfl | rfl <;> rfl
  refine cut_by (fun τ M' => M' = M ∧ ∃ x13, τ = [some (.scr (ns.map .int)), some (.int (way : Nat)), some (.lst (L.map Lw.d)), some (.lst (((L.map fun x => x.lin.txt) ++ ([("end" : Str)] : List Str)).map .str)), none, none, none, none, none, none, none, none, none, x13]) ?_ ?_
  · walk_at "vc"
    refine lc_map L Lw.d (fun x => .str x.lin.txt) rfl (by rw [sizeLine_eq]; omega) trivial (fun x R1 R0 hx hR => ?_) ?_
    · walk_at "vc"
      exact ⟨x, rfl, hok x hx, hR⟩
    · walk_at "vc"
      refine ⟨by omega, _, ?_, rfl⟩
      rw [List.map_append, List.map_map]
      rfl
  rintro τ M ⟨rfl, x13, rfl⟩
  walk_at "vc"
  refine cut_by (fun τ M' => M' = M ∧ ∃ x4, τ = [some (.scr (ns.map .int)), some (.int (way : Nat)), some (.lst (L.map Lw.d)), some (.lst (((L.map fun x => x.lin.txt) ++ ([("end" : Str)] : List Str)).map .str)), x4, some (.lst ((textsK way L).map .str)), none, none, none, none, none, none, none, x13]) ?_ ?_
  · walk_at "vc"
    refine ⟨by omega, by omega, by omega, by omega, ?_⟩
    rw [hat]
    simp only [oSome_i]
    refine ⟨_, rfl, ?_⟩
    unfold textsK
    by_cases h0 : way = 0
    · rw [if_pos h0, if_pos h0]; rfl
    · rw [if_neg h0, if_neg h0]
      by_cases h1 : way = 1
      · rw [if_pos h1, if_pos h1]; rfl
      · rw [if_neg h1, if_neg h1]
        simp only [List.map_append, List.map_cons, List.map_nil, List.append_assoc, List.cons_append, List.nil_append]
  rintro τ M ⟨rfl, x4, rfl⟩
  refine cut_by (fun τ M' => ∃ body, FactK (k0K way) L body ∧ τ = [some (.scr (ns.map .int)), some (.int (way : Nat)), some (.lst (L.map Lw.d)), some (.lst (((L.map fun x => x.lin.txt) ++ ([("end" : Str)] : List Str)).map .str)), x4, some (.lst ((textsK way L).map .str)), some (.lst ((rowsF (pgK way L body)).map Rw.d)), none, none, none, none, none, none, x13]) ?_ ?_
  · obtain ⟨body, f, e⟩ := prog_K (way := way) hm1 hm2
    have hplen := progL_len (way := way) (L := L)
    have hpok := progL_ok (way := way) hok
    have hsl := sum_le_mul (k := 10000) (ws := textsK way L) fun w hw => by
      rw [← texts_prog] at hw
      obtain ⟨l, hlm, rfl⟩ := List.mem_map.mp hw
      exact lin_len (hpok l hlm)
    have htl : (textsK way L).length ≤ 72 := by rw [← texts_prog, List.length_map]; omega
    have hsm := pgK_small f hok hll
    walk_at "vc"
    refine ⟨textsK way L, rfl, by rw [show (Str.ofString "\n").length = 1 by decide +kernel]; omega, ?_⟩
    refine ⟨progLines way L, pgK way L body, by rw [texts_prog]; rfl, hplen.2, by omega, hpok, e, pgK_names f hok, hsm.few, fun o ho => ⟨(hsm.bd o ho).1, Nat.le_trans (hsm.bd o ho).2.1 (by decide)⟩, fun M' hM' => ?_⟩
    refine ⟨pgK way L body, rfl, pgK_rows f hok hll, ?_⟩
    exact ⟨body, f, rfl⟩
  rintro τ M2 ⟨body, f, rfl⟩
  have hokr := pgK_rows f hok hll
  have hF : okF (rowsF (pgK way L body)) := by
    refine ⟨fun r hr => rw_okD (rows_jw (pg := pgK way L body) (fun o ho t ht => ?_) r hr), rows_len hokr⟩
    rcases pgK_mem ho with rfl | ⟨k, rfl, _⟩
    · rw [dfK_body] at ht
      have hs := (f.sim hok t ht).2.1
      cases t with
      | join => exact hs.2
      | _ => exact trivial
    · rw [main_all] at ht
      rw [List.mem_singleton.mp ht]
      trivial
  refine cut_by (fun τ M' => M' = M2 ∧ τ = [some (.scr (ns.map .int)), some (.int (way : Nat)), some (.lst (L.map Lw.d)), some (.lst (((L.map fun x => x.lin.txt) ++ ([("end" : Str)] : List Str)).map .str)), x4, some (.lst ((textsK way L).map .str)), some (.lst ((rowsF (pgK way L body)).map Rw.d)), none, none, none, none, none, none, x13]) ?_ ?_
  · walk_at "vc"
    refine ⟨_, rfl, ?_⟩
    simp only [oBl_i]
    rw [if_neg (by decide)]
    try trivial
  rintro τ M3 ⟨rfl, rfl⟩
  walk_at "vc"
  rw [hat, hat]
  simp only [oSome_i]
  have hline : (if way = 0 then D.int 2 else if way = 1 then D.int 5 else D.int 2) = .int (k0K way + 1) := by
    unfold k0K
    by_cases h0 : way = 0
    · rw [if_pos h0, if_neg (by omega)]; rfl
    · rw [if_neg h0]
      by_cases h1 : way = 1
      · rw [if_pos h1, if_pos h1]; rfl
      · rw [if_neg h1, if_neg h1]; rfl
  obtain ⟨pos, hpos⟩ : ∃ pos : Nat, pos = if way = 0 then 0 else 5 := ⟨_, rfl⟩
  have hbeg : (if way = 0 then D.int 0 else if way = 1 then D.int 5 else D.int 5) = .int (pos : Nat) := by
    rw [hpos]
    by_cases h0 : way = 0
    · rw [if_pos h0, if_pos h0]; rfl
    · rw [if_neg h0, if_neg h0, ite_self]; rfl
  rw [hline, hbeg]
  have hst : ((textsK way L).length : Int) - 2 = (if way = 1 then ((L.length : Nat) : Int) + 3 else if way = 0 then (L.length : Nat) else (L.length : Nat) + 3) := by
    unfold textsK
    by_cases h0 : way = 0
    · rw [if_pos h0, if_pos h0, if_neg (by omega)]
      simp only [List.length_append, List.length_cons, List.length_map, List.length_nil]
      omega
    · rw [if_neg h0, if_neg h0]
      by_cases h1 : way = 1
      · rw [if_pos h1, if_pos h1]
        simp only [List.length_append, List.length_cons, List.length_map, List.length_nil]
        omega
      · rw [if_neg h1, if_neg h1]
        simp only [List.length_append, List.length_cons, List.length_map, List.length_nil]
        omega
  rw [hst]
  refine cut_by (fun τ M' => M' = M3 ∧ ∃ z, (way ≠ 0 → z = k1K way L) ∧ τ = [some (.scr (ns.map .int)), some (.int (way : Nat)), some (.lst (L.map Lw.d)), some (.lst (((L.map fun x => x.lin.txt) ++ ([("end" : Str)] : List Str)).map .str)), x4, some (.lst ((textsK way L).map .str)), some (.lst ((rowsF (pgK way L body)).map Rw.d)), some (.int (k0K way + 1)), some (.int (pos : Nat)), some (.int z), none, none, none, x13]) ?_ ?_
  · walk_at "vc"
    by_cases h1 : way = 1
    · rw [if_pos (by omega)]
      exact ⟨1, fun _ => by unfold k1K; rw [if_pos h1], rfl⟩
    · rw [if_neg (by omega), if_neg h1]
      refine ⟨_, fun h0 => ?_, rfl⟩
      unfold k1K
      rw [if_neg h0, if_neg h1]
  rintro τ M3 ⟨rfl, z, hz, rfl⟩
  walk_at "vc"
  have hrows : ∃ bg A, A.length = pos ∧ rowsF (pgK way L body) = A ++ defR bg pos (dfK way L body) ∧ (way ≠ 0 → A = aheadK z) := by
    by_cases h0 : way = 0
    · subst h0
      obtain ⟨bg, e⟩ := rows_K0 f
      rw [if_pos rfl] at hpos
      subst hpos
      exact ⟨bg, [], rfl, by rw [List.nil_append]; exact e, fun q => absurd rfl q⟩
    · obtain ⟨bg, e⟩ := rows_K1 h0 f
      rw [if_neg h0] at hpos
      subst hpos
      rw [hz h0]
      exact ⟨bg, aheadK (k1K way L), rfl, e, fun _ => rfl⟩
  obtain ⟨bg, A, hA, hFe, hAz⟩ := hrows
  obtain ⟨hgo, hdrop, hlt⟩ := go_K f hok hA hFe
  have hslots := slots_K (way := way) f
  generalize rowsF (pgK way L body) = F0 at *
  refine cut_by (fun τ M' => M' = M3 ∧ ∃ x10, τ = [some (.scr (ns.map .int)), some (.int (way : Nat)), some (.lst (L.map Lw.d)), some (.lst (((L.map fun x => x.lin.txt) ++ ([("end" : Str)] : List Str)).map .str)), x4, some (.lst ((textsK way L).map .str)), some (.lst (F0.map Rw.d)), some (.int (k0K way + 1)), some (.int (pos : Nat)), some (.int z), x10, none, none, x13]) ?_ ?_
  · walk_at "vc"
    by_cases h0 : way = 0
    · rw [if_neg (by omega)]
      exact ⟨_, rfl⟩
    · rw [if_pos (by omega)]
      have e5 : Tl.cutD (F0.map Rw.d) none (some 5) = (aheadK z).map Rw.d := by
        rw [show (some (5 : Int)) = some ((5 : Nat) : Int) from rfl, cut_take, ← List.map_take, hFe, hAz h0]
        rfl
      rw [e5]
      refine neD_same 3 (z := .lst ((aheadK z).map Rw.d)) rfl rfl (okD_lst (okDs_of fun d hd => ?_)) ?_
      · obtain ⟨r, hr, rfl⟩ := List.mem_map.mp hd
        refine okD_mono (hF.1 r ?_) (by decide)
        rw [hFe, hAz h0]
        exact List.mem_append_left _ hr
      · walk_at "vc"
        try exact ⟨_, rfl⟩
  rintro τ M3 ⟨rfl, x10, rfl⟩
  walk_at "vc"
  rw [hat]
  simp only [oSome_i]
  have hps : (if way = 0 then D.lst [] else if way = 1 then D.lst [D.str (Str.ofString "x"), D.str (Str.ofString "nn")] else D.lst [D.str (Str.ofString "x"), D.str (Str.ofString "nn")]) = .lst ((dfK way L body).ps.map .str) := by
    rcases dfK_ps (way := way) (L := L) (body := body) with ⟨e, _, e0⟩ | ⟨e, _, e0⟩
    · rw [if_pos e0, e]; rfl
    · rw [if_neg e0, ite_self, e]; rfl
  rw [hps]
  have hpl : (dfK way L body).ps.length ≤ 2 := by
    rcases dfK_ps (way := way) (L := L) (body := body) with ⟨e, _⟩ | ⟨e, _⟩ <;> rw [e] <;> decide
  refine ⟨L, (dfK way L body).ps, rfl, by omega, by omega, hok, ?_⟩
  have hsle := slotsL_le (ps := (dfK way L body).ps) hok
  rw [← hslots] at hsle ⊢
  have hin : ∀ x ∈ L, okLw x ∧ (x.k = .set ∨ x.k = .join → x.nm ∈ slotsF (dfK way L body)) ∧ ∀ e ∈ x.exs, e.inS (slotsF (dfK way L body)) := fun x hx => by
    rw [hslots]
    exact ⟨hok x hx, slotsL_in x hx⟩
  refine ⟨F0, pos, pos + szB body, k0K way + 1, L, slotsF (dfK way L body), rfl, hF, by omega, hll, hin, hgo, ?_⟩
  walk_at "vc"
  rw [if_pos (by omega), cut_drop, ← List.map_drop, hdrop]
  refine eqD_same 3 rfl rfl (okD_lst (okDs_cons (okD_tup (okDs_cons (okD_str (by decide +kernel)) (okDs_cons okD_int okDs_nil))) okDs_nil)) ?_
  exact h _
end
end K23
namespace K23
open PySem PySem.Spec PyProof.Rows L2 Tl
theorem facts {P : Program} {w : World} {K : PySem.W.Frag} {h : Heap} {mg : Str → Option Value} {f : Addr} (X : K.In h) (G : h.Ns mainGlobals mg) (hfa : mg ("law" : Str) = some (.ref f)) (hh : Heap) (c0 : He.SaysX fa fn [] [] exB w hh K) :
    ∃ fd : FuncData, (∀ (s : Shared) (v : Value), BindsTo s fd ⟨[v], []⟩ [("_law_script", v)]) ∧ ∀ base : Heap, K.In base → base.Ns mainGlobals mg → FnOk P w K mg base CX0 53 f fd ["_law_script"] (lSp K spLaw) := by
  have T : Tp K mg := ⟨⟨c0.t.d, h, X, G⟩, c0.more⟩
  obtain ⟨fd, F⟩ := c0.t.d.def_ 62 (d := e_law) rfl
  have e := hfa.symm.trans (m_law T)
  cases e
  have b := FunD.bindsA (ps := ["_law_script"]) F fun _ _ _ _ _ _ us hl => match us, hl with | [_], _ => rfl
  exact ⟨fd, fun s v => b s [v] rfl, fun base _ _ => ok_law T F⟩
end K23
open PySem PySem.W PySem.Calls PyProof.Rows
theorem PySem.Challenge.cw_widelanes_k23_rows_of_branches_holds : PySem.Challenge.rw_widelanes_k23_rows_of_branches.Holds := by
  w_on; o_law
  refine HandSHeadRun.head_any (r := OpenLaw.row PySem.Challenge.rw_widelanes_k23_rows_of_branches) (q := view (OpenLaw.row PySem.Challenge.rw_widelanes_k23_rows_of_branches).prog [82]) (H := K23.hk) (ob := K23.ob) (M := 6000) (loose := ("__name__" :: "expressions_of" :: "given_by" :: "blocks_of" :: "all_of" :: "note_names" :: "slots_of" :: "add_expression" :: "Maker" :: "last_row" :: "make_way" :: "make_plain" :: "make_if" :: "make_while" :: "make_block" :: "make_def" :: "made" :: "LaneError" :: "TooMuch" :: "NoLine" :: "NoNest" :: "NoName" :: "LETTERS" :: "FIGURES" :: "SIGNS" :: "WORKINGS" :: "DEEDS" :: "KEPT" :: "LONGEST" :: "MANY" :: "DEEPEST" :: "all_of_these" :: "is_name" :: "is_number" :: "read_number" :: "plain_of" :: "expression_at" :: "expressions_at" :: "BARE" :: "ONES" :: "JOININGS" :: "MOST_lines" :: "name_at" :: "just_so_many" :: "six_at_most" :: "joining_of" :: "named_of" :: "parts_of" :: "MOST_nests" :: "Opened" :: "may_stand" :: "close_innermost" :: "nested" :: "MOST_texts" :: "check_names" :: "read" :: "_law_whole" :: "_law_mixed" :: "_law_leaf_by" :: "_law_told_by" :: "_law_word_by" :: "_law_lines" :: "_law_words" :: "_law_text" :: "_law_expressions" :: "_law_note" :: "_law_names" :: "_law_rows_of" :: "_law_plain" :: "_law_begun" :: "_law_closed" :: "_law_otherwise" :: "_law_plain_end" :: "_law_ended" :: "_law_went" :: [])) (d := HandSHeadRun.topDef (OpenLaw.row PySem.Challenge.rw_widelanes_k23_rows_of_branches).prog 82) (kwd := []) K23.ob_eq
    (by kernel_rfl) (fun s => by kernel_rfl) K23.run (by kernel_rfl) (by kernel_rfl) (by kernel_rfl) (by rfl) (by first | assumption | decide +kernel) (by decide +kernel) ⟨rfl, rfl, rfl, rfl, rfl, by decide +kernel⟩ ?hw ?hc
  case hw => w_witness2
  case hc =>
    refine L2.walk_ofE (l := PySem.Challenge.rw_widelanes_k23_rows_of_branches) (n := 63) (k := 53) (x := "_law_script") (CX := L2.CX0) rfl (by decide) (by kernel_rfl) ⟨rfl, by decide, by decide⟩ ?F (fun _ _ _ _ z => z)
    intro w mg fa h Y G hmg0
    obtain ⟨K, KX, c⟩ := Y
    have hmg : mg ("law" : PySem.Str) = some (.ref fa) := by
      have e : (HandSHeadRun.topDef (OpenLaw.row PySem.Challenge.rw_widelanes_k23_rows_of_branches).prog 82).name = ("law" : PySem.Str) := by kernel_rfl
      rw [← e]
      exact hmg0
    obtain ⟨fd, hb, hF⟩ := K23.facts (P := (PySem.Challenge.rw_widelanes_k23_rows_of_branches).prog) (w := w) KX G hmg _ c
    exact ⟨K, fd, Tl.lSp K Tl.spLaw, KX, hb, fun H a ns hl _ hS => Tl.end_sp hS ⟨ns, rfl, hl, fun _ => rfl⟩, hF⟩
#print axioms PySem.Challenge.cw_widelanes_k23_rows_of_branches_holds
