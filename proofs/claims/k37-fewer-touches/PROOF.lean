import PyProof.Rows.All
import Wide.All
import OpenK.AllK
import Wide.FinOn
import HandS.ForMost
import HandS.ForExc
import HandS.Wide
import HandS.IsInst
import HandS.HeadHook2
import HandS.Head2
import HandS.HeadEnd
import PyProof.Rows.SeqMore
import HandS.SortInts
import PyProof.Rows.RuleDivmod
import HandS.TupLen
import HandS.TupAny
import HandS.TupMul
import HandS.More
import HandS.Conv
import HandS.SetKeys
import HandS.WideBits
import HandS.SortRule
import KE.BitLaws
import HandS.Deep
import PySem.Challenge.RW_widelanes_k37_fewer_touches
set_option Elab.async false
set_option linter.all false
set_option maxRecDepth 100000
set_option maxHeartbeats 4000000
namespace Tl
open PySem PySem.Spec PyProof.Rows L2
/-! ### data as trees -/
inductive D where
  | non | bl (b : Bool) | int (i : Int) | str (s : Str) | tup (l : List D) | lst (l : List D) | tab (l : List D) | scr (l : List D) | ref (a : Addr) | ty (n : String)
/-- what may still change -/
inductive MO where
  | lst (l : List D) | dK (kvs : List (Key × D)) | dT (kvs : List (List Key × D)) | obj (C dx : Addr) (fl : List Str) (ds : List D) | lk (o : Obj) (ks : List (Key × V)) (kvs : List (Key × D))
abbrev MH := Addr → Option MO
def mup (M : MH) (a : Addr) (o : MO) : MH := fun b => if b = a then some o else M b
def mdel (M : MH) (a : Addr) : MH := fun b => if b = a then none else M b
theorem mup_same {M : MH} {a : Addr} {o : MO} : mup M a o a = some o := by unfold mup; rw [if_pos rfl]
theorem mup_ne {M : MH} {a b : Addr} {o : MO} (h : b ≠ a) : mup M a o b = M b := by unfold mup; rw [if_neg h]
theorem mup_mup {M : MH} {a : Addr} {o u : MO} : mup (mup M a o) a u = mup M a u := by
  funext b; unfold mup; split <;> rfl
theorem mdel_mup {M : MH} {a : Addr} {o : MO} (h : M a = none) : mdel (mup M a o) a = M := by
  funext b; unfold mdel mup
  by_cases e : b = a
  · rw [if_pos e, e, h]
  · rw [if_neg e, if_neg e]
section
variable (K : PySem.W.Frag)
mutual
inductive Rp (F : Hp) : V → D → Prop
  | non : Rp F .non .non
  | bl (b : Bool) : Rp F (.bl b) (.bl b)
  | int (i : Int) : Rp F (.int i) (.int i)
  | str (s : Str) : Rp F (.str s) (.str s)
  | ty (n : String) : Rp F (.ty n) (.ty n)
  | ref (a : Addr) : Rp F (.ref a) (.ref a)
  | tup {a : Addr} {vs : List V} {ds : List D} (h : F a = some (.tup vs)) (r : Rps F vs ds) : Rp F (.ref a) (.tup ds)
  | tab {a : Addr} {vs : List V} {ds : List D} (h : SqT K F a vs) (r : Rps F vs ds) : Rp F (.ref a) (.tab ds)
  | lst {a : Addr} {vs : List V} {ds : List D} (h : F a = some (.lst vs)) (r : Rps F vs ds) : Rp F (.ref a) (.lst ds)
  | scr {a : Addr} {vs : List V} {ds : List D} (h : SqL K F a vs) (r : Rps F vs ds) : Rp F (.ref a) (.scr ds)
inductive Rps (F : Hp) : List V → List D → Prop
  | nil : Rps F [] []
  | cons {v : V} {d : D} {vs : List V} {ds : List D} (h : Rp F v d) (t : Rps F vs ds) : Rps F (v :: vs) (d :: ds)
end
end
section
variable {K : PySem.W.Frag}
theorem SameT {H H' : Hp} {a : Addr} {xs : List V} (e : Same H H') (h : SqT K H a xs) : SqT K H' a xs := by
  rcases h with (h | ⟨o, h⟩) | h
  · exact .inl (.inl (e _ _ h))
  · exact .inl (.inr ⟨o, e _ _ h⟩)
  · exact .inr h
mutual
theorem Rp.mono {F F' : Hp} (s : Same F F') : ∀ {v : V} {d : D}, Rp K F v d → Rp K F' v d
  | _, _, .non => .non
  | _, _, .bl b => .bl b
  | _, _, .int i => .int i
  | _, _, .str x => .str x
  | _, _, .ty n => .ty n
  | _, _, .ref a => .ref a
  | _, _, .tup h r => .tup (s _ _ h) (Rps.mono s r)
  | _, _, .tab h r => .tab (SameT s h) (Rps.mono s r)
  | _, _, .lst h r => .lst (s _ _ h) (Rps.mono s r)
  | _, _, .scr h r => .scr (s.seq h) (Rps.mono s r)
theorem Rps.mono {F F' : Hp} (s : Same F F') : ∀ {vs : List V} {ds : List D}, Rps K F vs ds → Rps K F' vs ds
  | _, _, .nil => .nil
  | _, _, .cons h t => .cons (Rp.mono s h) (Rps.mono s t)
end
theorem Rps.length {F : Hp} : ∀ {vs : List V} {ds : List D}, Rps K F vs ds → vs.length = ds.length
  | _, _, .nil => rfl
  | _, _, .cons _ t => by rw [List.length_cons, List.length_cons, Rps.length t]
theorem Rps.get {F : Hp} : ∀ {vs : List V} {ds : List D} {i : Nat} {v : V}, Rps K F vs ds → vs[i]? = some v → ∃ d, ds[i]? = some d ∧ Rp K F v d
  | _, _, _, _, .nil, e => by simp at e
  | _, _, 0, _, .cons h _, e => by simp at e; subst e; exact ⟨_, rfl, h⟩
  | _, _, i + 1, v, .cons _ t, e => by
    obtain ⟨d, h1, h2⟩ := Rps.get (i := i) (v := v) t (by simpa using e)
    exact ⟨d, by simpa using h1, h2⟩
theorem Rps.getD {F : Hp} : ∀ {vs : List V} {ds : List D} {i : Nat} {d : D}, Rps K F vs ds → ds[i]? = some d → ∃ v, vs[i]? = some v ∧ Rp K F v d
  | _, _, _, _, .nil, e => by simp at e
  | _, _, 0, _, .cons h _, e => by simp at e; subst e; exact ⟨_, rfl, h⟩
  | _, _, i + 1, v, .cons _ t, e => by
    obtain ⟨d, h1, h2⟩ := Rps.getD (i := i) (d := v) t (by simpa using e)
    exact ⟨d, by simpa using h1, h2⟩
theorem Rps.append {F : Hp} : ∀ {vs ws : List V} {ds es : List D}, Rps K F vs ds → Rps K F ws es → Rps K F (vs ++ ws) (ds ++ es)
  | _, _, _, _, .nil, s => s
  | _, _, _, _, .cons h t, s => .cons h (Rps.append t s)
theorem Rps.take {F : Hp} : ∀ {vs : List V} {ds : List D} (n : Nat), Rps K F vs ds → Rps K F (vs.take n) (ds.take n)
  | _, _, 0, _ => .nil
  | _, _, _ + 1, .nil => .nil
  | _, _, n + 1, .cons r t => .cons r (Rps.take n t)
theorem Rps.drop {F : Hp} : ∀ {vs : List V} {ds : List D} (n : Nat), Rps K F vs ds → Rps K F (vs.drop n) (ds.drop n)
  | _, _, 0, r => r
  | _, _, _ + 1, .nil => .nil
  | _, _, n + 1, .cons _ t => Rps.drop n t
theorem Rps.set {F : Hp} {v : V} {d : D} (r : Rp K F v d) : ∀ {vs : List V} {ds : List D} (n : Nat), Rps K F vs ds → Rps K F (vs.set n v) (ds.set n d)
  | _, _, _, .nil => .nil
  | _, _, 0, .cons _ t => .cons r t
  | _, _, n + 1, .cons q t => .cons q (Rps.set r n t)
theorem Rps.dropLast {F : Hp} {vs : List V} {ds : List D} (h : Rps K F vs ds) : Rps K F vs.dropLast ds.dropLast := by
  rw [List.dropLast_eq_take, List.dropLast_eq_take, h.length]
  exact h.take _
theorem Rps.reverse {F : Hp} : ∀ {vs : List V} {ds : List D}, Rps K F vs ds → Rps K F vs.reverse ds.reverse
  | _, _, .nil => .nil
  | _, _, .cons h t => by
    rw [List.reverse_cons, List.reverse_cons]
    exact (Rps.reverse t).append (.cons h .nil)
/-- what stands at a mutable place -/
def RpLk (K : PySem.W.Frag) (F : Hp) (u : HO) (ks : List (Key × V)) (ls : List (Key × D)) : Prop := u = .dK ks ∧ Paired (fun (p : Key × V) (q : Key × D) => p.1 = q.1 ∧ Rp K F p.2 q.2) ks ls
def RpO (K : PySem.W.Frag) (F : Hp) : HO → MO → Prop
  | .lst vs, .lst ds => Rps K F vs ds
  | .dK ks, .dK ls => Paired (fun (p : Key × V) (q : Key × D) => p.1 = q.1 ∧ Rp K F p.2 q.2) ks ls
  | .dT ks, .dT ls => Paired (fun (p : List Key × V) (q : List Key × D) => p.1 = q.1 ∧ Rp K F p.2 q.2) ks ls
  | .ins C dx fs, .obj C' dx' fl ds => C = C' ∧ dx = dx' ∧ fl.Nodup ∧ fs.map (·.1) = fl.take ds.length ∧ Rps K F (fs.map (·.2)) ds
  | .frz ob u, .lk o ks ls => ob = o ∧ RpLk K F u ks ls
  | _, _ => False
theorem Paired.imp {α β : Type} {R S : α → β → Prop} (h : ∀ a b, R a b → S a b) : ∀ {xs : List α} {ys : List β}, Paired R xs ys → Paired S xs ys
  | _, _, .nil => .nil
  | _, _, .cons r t => .cons (h _ _ r) (Paired.imp h t)
theorem RpO.mono {F F' : Hp} (s : Same F F') : ∀ {u : HO} {o : MO}, RpO K F u o → RpO K F' u o
  | .lst _, .lst _, h => Rps.mono s h
  | .dK _, .dK _, h => Paired.imp (fun _ _ q => ⟨q.1, q.2.mono s⟩) h
  | .dT _, .dT _, h => Paired.imp (fun _ _ q => ⟨q.1, q.2.mono s⟩) h
  | .ins _ _ _, .obj _ _ _ _, h => ⟨h.1, h.2.1, h.2.2.1, h.2.2.2.1, Rps.mono s h.2.2.2.2⟩
  | .lst _, .dK _, h => h.elim
  | .lst _, .dT _, h => h.elim
  | .lst _, .obj _ _ _ _, h => h.elim
  | .dK _, .lst _, h => h.elim
  | .dK _, .dT _, h => h.elim
  | .dK _, .obj _ _ _ _, h => h.elim
  | .dT _, .lst _, h => h.elim
  | .dT _, .dK _, h => h.elim
  | .dT _, .obj _ _ _ _, h => h.elim
  | .ins _ _ _, .lst _, h => h.elim
  | .ins _ _ _, .dK _, h => h.elim
  | .ins _ _ _, .dT _, h => h.elim
  | .tup _, _, h => (h : False).elim
  | .set _ _, _, h => (h : False).elim
  | .own _, _, h => (h : False).elim
  | .xd _, _, h => (h : False).elim
  | .met _ _, _, h => (h : False).elim
  | .rng _ _, _, h => (h : False).elim
  | .lst _, .lk _ _ _, h => h.elim
  | .dK _, .lk _ _ _, h => h.elim
  | .dT _, .lk _ _ _, h => h.elim
  | .ins _ _ _, .lk _ _ _, h => h.elim
  | .frz _ u, .lk _ ks ls, h => ⟨h.1, h.2.1, Paired.imp (fun _ _ q => ⟨q.1, q.2.mono s⟩) h.2.2⟩
  | .frz _ _, .lst _, h => (h : False).elim
  | .frz _ _, .dK _, h => (h : False).elim
  | .frz _ _, .dT _, h => (h : False).elim
  | .frz _ _, .obj _ _ _ _, h => (h : False).elim
  | .tbl _, _, h => (h : False).elim
  | .ext _, _, h => (h : False).elim
/-- what a caller hides G, the frozen part F, the heap H, the changing part M -/
structure Rel (K : PySem.W.Frag) (G F H : Hp) (M : MH) : Prop where
  sub : Same F H
  chg : ∀ a o, M a = some o → F a = none ∧ ∃ u, H a = some u ∧ RpO K F u o
  hid : ∀ a o, G a = some o → H a = some o ∧ F a = none ∧ M a = none
  hidt : ∀ a vs, G a ≠ some (.tup vs)
theorem same_upd {H : Hp} {p : Addr} {o : HO} (h : H p = none) : Same H (upd H p o) := fun b x e => by
  rw [upd_ne (ne_of_none e h)]
  exact e
section
variable {G F H : Hp} {M : MH}
theorem Rel.free (R : Rel K G F H M) {p : Addr} (h : H p = none) : F p = none ∧ M p = none := by
  refine ⟨R.sub.free h, ?_⟩
  cases e : M p with
  | none => rfl
  | some o =>
    obtain ⟨_, u, hu, _⟩ := R.chg p o e
    rw [h] at hu
    cases hu
theorem Rel.freeG (R : Rel K G F H M) {p : Addr} (h : H p = none) : G p = none := by
  cases e : G p with
  | none => rfl
  | some o =>
    rw [(R.hid p o e).1] at h
    cases h
/-- a new frozen thing -/
theorem Rel.newF (R : Rel K G F H M) {p : Addr} {o : HO} (h : H p = none) : Same F (upd F p o) ∧ Rel K G (upd F p o) (upd H p o) M := by
  have s : Same F (upd F p o) := same_upd (R.free h).1
  refine ⟨s, ⟨fun b u e => ?_, fun a m e => ?_, fun a u e => ?_, R.hidt⟩⟩
  · by_cases q : b = p
    · subst q
      rw [upd_same] at e ⊢
      exact e
    · rw [upd_ne q] at e ⊢
      exact R.sub _ _ e
  · obtain ⟨f, u, hu, r⟩ := R.chg a m e
    have q : a ≠ p := ne_of_none hu h
    exact ⟨by rw [upd_ne q]; exact f, u, by rw [upd_ne q]; exact hu, r.mono s⟩
  · obtain ⟨h1, h2, h3⟩ := R.hid a u e
    have q : a ≠ p := ne_of_none h1 h
    exact ⟨by rw [upd_ne q]; exact h1, by rw [upd_ne q]; exact h2, h3⟩
/-- a new changing thing -/
theorem Rel.newM (R : Rel K G F H M) {p : Addr} {u : HO} {o : MO} (h : H p = none) (r : RpO K F u o) : Rel K G F (upd H p u) (mup M p o) := by
  refine ⟨fun b x e => same_upd h _ _ (R.sub _ _ e), fun a m e => ?_, fun a x e => ?_, R.hidt⟩
  · by_cases q : a = p
    · subst q
      rw [mup_same] at e
      cases e
      exact ⟨(R.free h).1, u, upd_same, r⟩
    · rw [mup_ne q] at e
      obtain ⟨f, x, hx, r⟩ := R.chg a m e
      exact ⟨f, x, by rw [upd_ne q]; exact hx, r⟩
  · obtain ⟨h1, h2, h3⟩ := R.hid a x e
    have q : a ≠ p := ne_of_none h1 h
    exact ⟨by rw [upd_ne q]; exact h1, h2, by rw [mup_ne q]; exact h3⟩
/-- a store -/
theorem Rel.put (R : Rel K G F H M) {p : Addr} {u : HO} {o o0 : MO} (h : M p = some o0) (r : RpO K F u o) : Rel K G F (upd H p u) (mup M p o) := by
  obtain ⟨f0, _, _, _⟩ := R.chg p o0 h
  refine ⟨fun b x e => ?_, fun a m e => ?_, fun a x e => ?_, R.hidt⟩
  · rw [upd_ne (ne_of_none e f0)]
    exact R.sub _ _ e
  · by_cases q : a = p
    · subst q
      rw [mup_same] at e
      cases e
      exact ⟨f0, u, upd_same, r⟩
    · rw [mup_ne q] at e
      obtain ⟨f, x, hx, r⟩ := R.chg a m e
      exact ⟨f, x, by rw [upd_ne q]; exact hx, r⟩
  · obtain ⟨h1, h2, h3⟩ := R.hid a x e
    have q : a ≠ p := fun q => by
      rw [q, h] at h3
      cases h3
    exact ⟨by rw [upd_ne q]; exact h1, h2, by rw [mup_ne q]; exact h3⟩
/-- less is known -/
theorem Rel.drop {M' : MH} (R : Rel K G F H M) (h : ∀ a o, M' a = some o → M a = some o) : Rel K G F H M' := ⟨R.sub, fun a o e => R.chg a o (h a o e), (fun a o e => by
  obtain ⟨h1, h2, h3⟩ := R.hid a o e
  refine ⟨h1, h2, ?_⟩
  cases q : M' a with
  | none => rfl
  | some x =>
    rw [h a x q] at h3
    cases h3), R.hidt⟩
/-- a changing list will change no more -/
theorem Rel.freeze (R : Rel K G F H M) {p : Addr} {ds : List D} (h : M p = some (.lst ds)) : ∃ F', Same F F' ∧ Rel K G F' H (mdel M p) ∧ Rp K F' (.ref p) (.lst ds) := by
  obtain ⟨f, u, hu, r⟩ := R.chg p _ h
  cases u with
  | lst vs =>
    have r' : Rps K F vs ds := r
    have s : Same F (upd F p (.lst vs)) := same_upd f
    refine ⟨upd F p (.lst vs), s, ⟨fun b x e => ?_, fun a m e => ?_, fun a x e => ?_, R.hidt⟩, .lst upd_same (r'.mono s)⟩
    · by_cases q : b = p
      · subst q
        rw [upd_same] at e
        rw [hu]
        exact e
      · rw [upd_ne q] at e
        exact R.sub _ _ e
    · unfold mdel at e
      by_cases q : a = p
      · rw [if_pos q] at e
        cases e
      · rw [if_neg q] at e
        obtain ⟨f2, x, hx, r2⟩ := R.chg a m e
        exact ⟨by rw [upd_ne q]; exact f2, x, hx, r2.mono s⟩
    · obtain ⟨h1, h2, h3⟩ := R.hid a x e
      have q : a ≠ p := fun q => by
        rw [q, h] at h3
        cases h3
      refine ⟨h1, by rw [upd_ne q]; exact h2, ?_⟩
      unfold mdel
      rw [if_neg q]
      exact h3
  | _ => exact (r : False).elim
/-- a new thing, hidden -/
theorem Rel.newG (R : Rel K G F H M) {p : Addr} {u : HO} (h : H p = none) (hu : ∀ vs, u ≠ .tup vs := by intro vs; exact HO.noConfusion) : Rel K (upd G p u) F (upd H p u) M := by
  have q0 : ∀ a x, H a = some x → a ≠ p := fun a x e => ne_of_none e h
  refine ⟨fun b x e => same_upd h _ _ (R.sub _ _ e), fun a m e => ?_, fun a x e => ?_, fun a vs e => ?_⟩
  · obtain ⟨f, x, hx, r⟩ := R.chg a m e
    exact ⟨f, x, by rw [upd_ne (q0 _ _ hx)]; exact hx, r⟩
  · by_cases q : a = p
    · subst q
      rw [upd_same] at e
      cases e
      exact ⟨upd_same, (R.free h).1, (R.free h).2⟩
    · rw [upd_ne q] at e
      obtain ⟨h1, h2, h3⟩ := R.hid a x e
      exact ⟨by rw [upd_ne q]; exact h1, h2, h3⟩
  · by_cases q : a = p
    · subst q
      rw [upd_same] at e
      exact hu vs (Option.some.inj e)
    · rw [upd_ne q] at e
      exact R.hidt a vs e
/-- the hidden thing is changed -/
theorem Rel.putG {u u' : HO} {p : Addr} (R : Rel K (upd G p u) F H M) (hu : ∀ vs, u' ≠ .tup vs := by intro vs; exact HO.noConfusion) : Rel K (upd G p u') F (upd H p u') M := by
  obtain ⟨h1, h2, h3⟩ := R.hid p u upd_same
  refine ⟨fun b x e => ?_, fun a m e => ?_, fun a x e => ?_, fun a vs e => ?_⟩
  · rw [upd_ne (ne_of_none e h2)]
    exact R.sub _ _ e
  · obtain ⟨f, x, hx, r⟩ := R.chg a m e
    have q : a ≠ p := fun q => by
      rw [q, h3] at e
      cases e
    exact ⟨f, x, by rw [upd_ne q]; exact hx, r⟩
  · by_cases q : a = p
    · subst q
      rw [upd_same] at e
      cases e
      exact ⟨upd_same, h2, h3⟩
    · rw [upd_ne q] at e
      obtain ⟨g1, g2, g3⟩ := R.hid a x (by rw [upd_ne q]; exact e)
      exact ⟨by rw [upd_ne q]; exact g1, g2, g3⟩
  · by_cases q : a = p
    · subst q
      rw [upd_same] at e
      exact hu vs (Option.some.inj e)
    · rw [upd_ne q] at e
      exact R.hidt a vs (by rw [upd_ne q]; exact e)
/-- the hidden thing is shown, frozen | changing -/
theorem Rel.showF {u : HO} {p : Addr} (hg : G p = none) (R : Rel K (upd G p u) F H M) : Same F (upd F p u) ∧ Rel K G (upd F p u) H M := by
  obtain ⟨h1, h2, h3⟩ := R.hid p u upd_same
  have s : Same F (upd F p u) := same_upd h2
  refine ⟨s, fun b x e => ?_, fun a m e => ?_, fun a x e => ?_, fun a vs e => R.hidt a vs (by rw [upd_ne (ne_of_none e hg)]; exact e)⟩
  · by_cases q : b = p
    · subst q
      rw [upd_same] at e
      rw [h1]
      exact e
    · rw [upd_ne q] at e
      exact R.sub _ _ e
  · obtain ⟨f, x, hx, r⟩ := R.chg a m e
    have q : a ≠ p := fun q => by
      rw [q, h3] at e
      cases e
    exact ⟨by rw [upd_ne q]; exact f, x, hx, r.mono s⟩
  · have q : a ≠ p := ne_of_none e hg
    obtain ⟨g1, g2, g3⟩ := R.hid a x (by rw [upd_ne q]; exact e)
    exact ⟨g1, by rw [upd_ne q]; exact g2, g3⟩
end
end
end Tl
namespace Tl
open PySem PySem.Spec PyProof.Rows L2
/-! ### judgements over trees -/
abbrev Sg := List (Option D)
abbrev VD := D → MH → Prop
abbrev XT := Value → MH → Prop
abbrev TEt := Sg → MH → VD → Prop
abbrev TTt := Sg → MH → (Bool → MH → Prop) → Prop
abbrev TAt := Sg → MH → (List D → MH → Prop) → Prop
structure En where
  nx : Sg → MH → Prop
  rt : VD
  bk : Sg → MH → Prop := fun _ _ => False
  ct : Sg → MH → Prop := fun _ _ => False
abbrev TSt := En → Sg → MH → Prop
def nth : Sg → Nat → Option D
  | [], _ => none
  | x :: _, 0 => x
  | _ :: t, n + 1 => nth t n
theorem nth_get : ∀ {t : Sg} {i : Nat} {d : D}, nth t i = some d → t[i]? = some (some d)
  | [], _, _, h => by cases h
  | x :: _, 0, d, h => by
    show some x = some (some d)
    exact congrArg some h
  | _ :: t, n + 1, d, h => by
    rw [List.getElem?_cons_succ]
    exact nth_get (t := t) h
abbrev Et0 : XT := fun _ _ => False
def Sgr (K : PySem.W.Frag) (F : Hp) (σ : L2.St) (τ : Sg) : Prop := σ.length = τ.length ∧ ∀ (i : Nat) (d : D), τ[i]? = some (some d) → ∃ v, σ[i]? = some (some v) ∧ Rp K F v d
/-- what is wished of exceptions -/
def EL (K : PySem.W.Frag) (G F : Hp) (E : XK) (Et : XT) : Prop := ∀ cls F' H' M', Same F F' → Rel K G F' H' M' → Et cls M' → E cls none H'
structure At (K : PySem.W.Frag) (E : XK) (Et : XT) (G F H : Hp) (M : MH) (σ : L2.St) (τ : Sg) : Prop where
  rel : Rel K G F H M
  sg : Sgr K F σ τ
  el : EL K G F E Et
section
variable {K : PySem.W.Frag} {E : XK} {Et : XT} {G F F' H H' : Hp} {M M' : MH} {σ : L2.St} {τ : Sg}
theorem Sgr.mono (h : Sgr K F σ τ) (s : Same F F') : Sgr K F' σ τ := ⟨h.1, fun i d e => by
  obtain ⟨v, a, b⟩ := h.2 i d e
  exact ⟨v, a, b.mono s⟩⟩
theorem Sgr.set (h : Sgr K F σ τ) {i : Nat} {v : V} {d : D} (r : Rp K F v d) : Sgr K F (σ.set i (some v)) (τ.set i (some d)) := by
  refine ⟨by rw [List.length_set, List.length_set]; exact h.1, fun j e q => ?_⟩
  by_cases hij : i = j
  · subst hij
    by_cases hl : i < τ.length
    · rw [List.getElem?_set_self hl] at q
      rw [List.getElem?_set_self (by rw [h.1]; exact hl)]
      cases q
      exact ⟨v, rfl, r⟩
    · rw [List.getElem?_eq_none (by rw [List.length_set]; omega)] at q
      cases q
  · rw [List.getElem?_set_ne hij] at q ⊢
    exact h.2 j e q
theorem Sgr.unset (h : Sgr K F σ τ) {i : Nat} : Sgr K F (σ.set i none) (τ.set i none) := by
  refine ⟨by rw [List.length_set, List.length_set]; exact h.1, fun j e q => ?_⟩
  by_cases hij : i = j
  · subst hij
    by_cases hl : i < τ.length
    · rw [List.getElem?_set_self hl] at q
      cases q
    · rw [List.getElem?_eq_none (by rw [List.length_set]; omega)] at q
      cases q
  · rw [List.getElem?_set_ne hij] at q ⊢
    exact h.2 j e q
theorem EL.mono (h : EL K G F E Et) (s : Same F F') : EL K G F' E Et := fun cls F2 H2 M2 s2 => h cls F2 H2 M2 (s.trans s2)
theorem EL.never {E : XK} : EL K G F E Et0 := fun _ _ _ _ _ _ h => h.elim
theorem At.step (a : At K E Et G F H M σ τ) (s : Same F F') (r : Rel K G F' H' M') : At K E Et G F' H' M' σ τ := ⟨r, a.sg.mono s, a.el.mono s⟩
theorem At.store (a : At K E Et G F H M σ τ) {i : Nat} {v : V} {d : D} (r : Rp K F v d) : At K E Et G F H M (σ.set i (some v)) (τ.set i (some d)) := ⟨a.rel, a.sg.set r, a.el⟩
end
section
variable (K : PySem.W.Frag) (E : XK) (Et : XT)
def liftE (t : TEt) : TE := fun σ H Q => ∃ G F M τ Qt, At K E Et G F H M σ τ ∧ t τ M Qt ∧ ∀ v F' H' M' d, Same F F' → Rel K G F' H' M' → Rp K F' v d → Qt d M' → Q v H'
def liftT (t : TTt) : TT := fun σ H Q => ∃ G F M τ Qt, At K E Et G F H M σ τ ∧ t τ M Qt ∧ ∀ b F' H' M', Same F F' → Rel K G F' H' M' → Qt b M' → Q b H'
def liftA (t : TAt) : TA := fun σ H Q => ∃ G F M τ Qt, At K E Et G F H M σ τ ∧ t τ M Qt ∧ ∀ vs F' H' M' ds, Same F F' → Rel K G F' H' M' → Rps K F' vs ds → Qt ds M' → Q vs H'
structure EnL (G F : Hp) (D : Ends) (Dt : En) : Prop where
  nx : ∀ F' H' M' σ τ, Same F F' → At K E Et G F' H' M' σ τ → Dt.nx τ M' → D.nx σ H'
  rt : ∀ F' H' M' v d, Same F F' → Rel K G F' H' M' → Rp K F' v d → Dt.rt d M' → D.rt v H'
  bk : ∀ F' H' M' σ τ, Same F F' → At K E Et G F' H' M' σ τ → Dt.bk τ M' → D.bk σ H'
  ct : ∀ F' H' M' σ τ, Same F F' → At K E Et G F' H' M' σ τ → Dt.ct τ M' → D.ct σ H'
def liftS (t : TSt) : TS := fun D σ H => ∃ G F M τ Dt, At K E Et G F H M σ τ ∧ EnL K E Et G F D Dt ∧ t Dt τ M
end
theorem EnL.mono {K : PySem.W.Frag} {E : XK} {Et : XT} {G F F' : Hp} {D : Ends} {Dt : En} (h : EnL K E Et G F D Dt) (s : Same F F') : EnL K E Et G F' D Dt :=
  ⟨fun F2 H2 M2 σ τ s2 => h.nx F2 H2 M2 σ τ (s.trans s2), fun F2 H2 M2 v d s2 => h.rt F2 H2 M2 v d (s.trans s2), fun F2 H2 M2 σ τ s2 => h.bk F2 H2 M2 σ τ (s.trans s2), fun F2 H2 M2 σ τ s2 => h.ct F2 H2 M2 σ τ (s.trans s2)⟩
abbrev QE (X : Cx) (E : XK) (Et : XT) (e : Expr) (t : TEt) : Prop := PE X e (liftE X.K E Et t)
abbrev QT (X : Cx) (E : XK) (Et : XT) (e : Expr) (t : TTt) : Prop := PT X e (liftT X.K E Et t)
abbrev QW (X : Cx) (E : XK) (Et : XT) (e : Expr) (t : TTt) : Prop := PW X e (liftT X.K E Et t)
abbrev QA (X : Cx) (E : XK) (Et : XT) (es : List Expr) (t : TAt) : Prop := PA X es (liftA X.K E Et t)
abbrev QS (X : Cx) (E : XK) (Et : XT) (st : Stmt) (t : TSt) : Prop := PS X st (liftS X.K E Et t)
abbrev QSs (X : Cx) (E : XK) (Et : XT) (st : List Stmt) (t : TSt) : Prop := PSs X st (liftS X.K E Et t)
section
variable {X : Cx}
theorem PEimp {e : Expr} {t t' : TE} (h : PE X e t) (i : ∀ σ H Q, t' σ H Q → t σ H Q) : PE X e t' := ⟨fun pins s σ H Q I w => h.run pins s σ H Q I (i _ _ _ w)⟩
theorem PTimp {e : Expr} {t t' : TT} (h : PT X e t) (i : ∀ σ H Q, t' σ H Q → t σ H Q) : PT X e t' := ⟨fun pins s σ H Q I w => h.run pins s σ H Q I (i _ _ _ w)⟩
theorem PWimp {e : Expr} {t t' : TT} (h : PW X e t) (i : ∀ σ H Q, t' σ H Q → t σ H Q) : PW X e t' := ⟨fun wh pins s σ H Q I w => h.run wh pins s σ H Q I (i _ _ _ w)⟩
theorem PAimp {e : List Expr} {t t' : TA} (h : PA X e t) (i : ∀ σ H Q, t' σ H Q → t σ H Q) : PA X e t' := ⟨fun pos pins s σ H Q I w => h.run pos pins s σ H Q I (i _ _ _ w)⟩
theorem PSimp {e : Stmt} {t t' : TS} (h : PS X e t) (i : ∀ D σ H, t' D σ H → t D σ H) : PS X e t' := ⟨fun pins s σ H D I w => h.run pins s σ H D I (i _ _ _ w)⟩
theorem PSsimp {e : List Stmt} {t t' : TS} (h : PSs X e t) (i : ∀ D σ H, t' D σ H → t D σ H) : PSs X e t' := ⟨fun pins s σ H D I w => h.run pins s σ H D I (i _ _ _ w)⟩
theorem OpRimp {f : Value → Value → Sem Value} {r r' : R2} (h : OpR X f r) (i : ∀ x y H Q, r' x y H Q → r x y H Q) : OpR X f r' := fun pins s σ H x y u v Q I rx ry w => h pins s σ H x y u v Q I rx ry (i _ _ _ _ w)
theorem UnRimp {f : Value → Sem Value} {r r' : V → Hp → VK → Prop} (h : UnR X f r) (i : ∀ x H Q, r' x H Q → r x H Q) : UnR X f r' := fun pins s σ H x u Q I rx w => h pins s σ H x u Q I rx (i _ _ _ w)
theorem CallRimp {f : Value} {r r' : List V → Hp → VK → Prop} (h : CallR X f r) (i : ∀ x H Q, r' x H Q → r x H Q) : CallR X f r' := fun pins s σ H x u Q I rx w => h pins s σ H x u Q I rx (i _ _ _ w)
end
/-! ### names, constants -/
def tV (i : Nat) : TEt := fun τ M Q => match nth τ i with
  | some d => Q d M
  | none => False
def tK (d : D) : TEt := fun _ M Q => Q d M
section
variable {X : Cx} {E : XK} {Et : XT}
theorem lv_var {i : Nat} : ∀ σ H Q, liftE X.K E Et (tV i) σ H Q → tVar i σ H Q := by
  rintro σ H Q ⟨G, F, M, τ, Qt, a, h, k⟩
  unfold tV at h
  cases e : nth τ i with
  | none => rw [e] at h; exact h.elim
  | some d =>
    rw [e] at h
    obtain ⟨v, h1, h2⟩ := a.sg.2 i d (nth_get e)
    exact ⟨v, h1, k v F H M d (Same.refl _) a.rel h2 h⟩
theorem qv (i : Nat) {x : Str} {pos : Pos} (hN : X.N[i]? = some x := by rfl) (hv : Vis X.env.scope x := by first | exact Or.inl rfl | exact Or.inr (Or.inl rfl) | exact Or.inr (Or.inr rfl)) (hd : (x == ("__debug__" : Str)) = false := by decide)
    (hcd : (x == ("__classdict__" : Str)) = false := by decide) : QE X E Et (.Name x pos) (tV i) := PEimp (pe_var hN hv hd hcd) lv_var
theorem lv_c {v : V} {d : D} (r : ∀ F, Rp X.K F v d) : ∀ σ H Q, liftE X.K E Et (tK d) σ H Q → tC v σ H Q := by
  rintro σ H Q ⟨G, F, M, τ, Qt, a, h, k⟩
  exact k v F H M d (Same.refl _) a.rel (r F) h
theorem q_int {i j pos} : QE X E Et (.Constant (.int i) j pos) (tK (.int i)) := PEimp pe_int (lv_c fun _ => .int i)
theorem q_bl {b j pos} : QE X E Et (.Constant (.bool b) j pos) (tK (.bl b)) := PEimp pe_bl (lv_c fun _ => .bl b)
theorem q_non {j pos} : QE X E Et (.Constant .none j pos) (tK .non) := PEimp pe_non (lv_c fun _ => .non)
theorem q_str {x j pos} : QE X E Et (.Constant (.str x) j pos) (tK (.str x)) := PEimp pe_str (lv_c fun _ => .str x)
theorem q_ty {x : Str} (T : String) {pos : Pos} (hm : X.mg x = none) (hv : bootBuiltins x = some (.type T)) (hg : Gl X x := by rfl) (hn : x ≠ "__name__" := by decide) (hd : (x == ("__debug__" : Str)) = false := by decide) : QE X E Et (.Name x pos) (tK (.ty T)) :=
  PEimp (pe_bltn (v := .ty T) hg hm hv rfl hn hd) (lv_c fun _ => .ty T)
end
/-! ### operators by values -/
abbrev R2t := D → D → MH → VD → Prop
abbrev R1t := D → MH → VD → Prop
abbrev RLt := List D → MH → VD → Prop
def lr2 (K : PySem.W.Frag) (r : R2t) : R2 := fun x y H Q => ∃ G F M dx dy Qt, Rel K G F H M ∧ Rp K F x dx ∧ Rp K F y dy ∧ r dx dy M Qt ∧ ∀ v F' H' M' d, Same F F' → Rel K G F' H' M' → Rp K F' v d → Qt d M' → Q v H'
def lr1 (K : PySem.W.Frag) (r : R1t) : V → Hp → VK → Prop := fun x H Q => ∃ G F M dx Qt, Rel K G F H M ∧ Rp K F x dx ∧ r dx M Qt ∧ ∀ v F' H' M' d, Same F F' → Rel K G F' H' M' → Rp K F' v d → Qt d M' → Q v H'
def lrL (K : PySem.W.Frag) (r : RLt) : List V → Hp → VK → Prop := fun xs H Q => ∃ G F M ds Qt, Rel K G F H M ∧ Rps K F xs ds ∧ r ds M Qt ∧ ∀ v F' H' M' d, Same F F' → Rel K G F' H' M' → Rp K F' v d → Qt d M' → Q v H'
abbrev OpQ (X : Cx) (f : Value → Value → Sem Value) (r : R2t) : Prop := OpR X f (lr2 X.K r)
abbrev UnQ (X : Cx) (f : Value → Sem Value) (r : R1t) : Prop := UnR X f (lr1 X.K r)
abbrev CallQ (X : Cx) (f : Value) (r : RLt) : Prop := CallR X f (lrL X.K r)
def tO (r : R2t) (ta tb : TEt) : TEt := fun τ M Q => ta τ M fun x M1 => tb τ M1 fun y M2 => r x y M2 Q
def tU (r : R1t) (ta : TEt) : TEt := fun τ M Q => ta τ M fun x M1 => r x M1 Q
def tCa (r : RLt) (ta : TAt) : TEt := fun τ M Q => ta τ M fun xs M1 => r xs M1 Q
section
variable {X : Cx} {E : XK} {Et : XT} {e a b : Expr} {es : List Expr} {ta tb : TEt} {t : TAt} {pos : Pos}
theorem lv_op {r : R2t} : ∀ σ H Q, liftE X.K E Et (tO r ta tb) σ H Q → tOp (lr2 X.K r) (liftE X.K E Et ta) (liftE X.K E Et tb) σ H Q := by
  rintro σ H Q ⟨G, F, M, τ, Qt, a, h, k⟩
  refine ⟨G, F, M, τ, _, a, h, fun v F1 H1 M1 d s1 r1 p1 q1 => ?_⟩
  refine ⟨G, F1, M1, τ, _, a.step s1 r1, q1, fun v2 F2 H2 M2 d2 s2 r2 p2 q2 => ?_⟩
  exact ⟨G, F2, M2, d, d2, Qt, r2, p1.mono s2, p2, q2, fun v F' H' M' d s => k v F' H' M' d ((s1.trans s2).trans s)⟩
theorem q_op {op : Operator} {r : R2t} (ho : OpQ X (binaryOp op) r) (ha : QE X E Et a ta) (hb : QE X E Et b tb) : QE X E Et (.BinOp a op b pos) (tO r ta tb) := PEimp (pe_op ho ha hb) lv_op
theorem q_cmp {op : CmpOp} {r : R2t} (ho : OpQ X (compareOp op) r) (ha : QE X E Et a ta) (hb : QE X E Et b tb) (hm : behindInMarks op b = false := by first | exact nomark _ | rfl) : QE X E Et (.Compare a [op] [b] pos) (tO r ta tb) := PEimp (pe_cmpR ho ha hb hm) lv_op
theorem q_un {op : UnaryOp} {r : R1t} (ho : UnQ X (unaryOp op) r) (ha : QE X E Et a ta) : QE X E Et (.UnaryOp op a pos) (tU r ta) := PEimp (pe_un ho ha) (by
  rintro σ H Q ⟨G, F, M, τ, Qt, a, h, k⟩
  refine ⟨G, F, M, τ, _, a, h, fun v F1 H1 M1 d s1 r1 p1 q1 => ?_⟩
  exact ⟨G, F1, M1, d, Qt, r1, p1, q1, fun v F' H' M' d s => k v F' H' M' d (s1.trans s)⟩)
/-! ### arguments -/
def tN : TAt := fun _ M Q => Q [] M
def tCs (ta : TEt) (tr : TAt) : TAt := fun τ M Q => ta τ M fun x M1 => tr τ M1 fun xs M2 => Q (x :: xs) M2
theorem qa_nil : QA X E Et [] tN := PAimp pa_nil (by
  rintro σ H Q ⟨G, F, M, τ, Qt, a, h, k⟩
  exact k [] F H M [] (Same.refl _) a.rel .nil h)
theorem qa_cons (ha : QE X E Et e ta) (hr : QA X E Et es t) (hs : starEach (e :: es) X.env = (false, eval e X.env) :: starEach es X.env := by rfl) : QA X E Et (e :: es) (tCs ta t) := PAimp (pa_cons ha hr hs) (by
  rintro σ H Q ⟨G, F, M, τ, Qt, a, h, k⟩
  refine ⟨G, F, M, τ, _, a, h, fun v F1 H1 M1 d s1 r1 p1 q1 => ?_⟩
  refine ⟨G, F1, M1, τ, _, a.step s1 r1, q1, fun vs F2 H2 M2 ds s2 r2 p2 q2 => ?_⟩
  exact k (v :: vs) F2 H2 M2 (d :: ds) (s1.trans s2) r2 (.cons (p1.mono s2) p2) q2)
theorem lv_cb {r : RLt} : ∀ σ H Q, liftE X.K E Et (tCa r t) σ H Q → tCB (lrL X.K r) (liftA X.K E Et t) σ H Q := by
  rintro σ H Q ⟨G, F, M, τ, Qt, a, h, k⟩
  refine ⟨G, F, M, τ, _, a, h, fun vs F1 H1 M1 ds s1 r1 p1 q1 => ?_⟩
  exact ⟨G, F1, M1, ds, Qt, r1, p1, q1, fun v F' H' M' d s => k v F' H' M' d (s1.trans s)⟩
theorem q_callB {id : String} {x : Str} {p : Pos} {r : RLt} (hc : CallQ X (.builtin id) r) (hm : X.mg x = none) (hv : bootBuiltins x = some (.builtin id)) (ha : QA X E Et (e :: es) t) (hg : Gl X x := by rfl) (hn : x ≠ "__name__" := by decide) (hdb : (x == ("__debug__" : Str)) = false := by decide)
    (he : starEach (e :: es) X.env = (false, eval e X.env) :: starEach es X.env := by rfl) (hpl : (backTo pos (starEach es X.env)).any (·.1) = false := by rfl) : QE X E Et (.Call (.Name x p) (e :: es) [] pos) (tCa r t) :=
  PEimp (pe_callB hc hg hm hv ha hn hdb he hpl) lv_cb
theorem q_callTy {T : String} {x : Str} {p : Pos} {r : RLt} (hc : CallQ X (.type T) r) (hm : X.mg x = none) (hv : bootBuiltins x = some (.type T)) (ha : QA X E Et (e :: es) t) (hg : Gl X x := by rfl) (hn : x ≠ "__name__" := by decide) (hdb : (x == ("__debug__" : Str)) = false := by decide)
    (he : starEach (e :: es) X.env = (false, eval e X.env) :: starEach es X.env := by rfl) (hpl : (backTo pos (starEach es X.env)).any (·.1) = false := by rfl) : QE X E Et (.Call (.Name x p) (e :: es) [] pos) (tCa r t) :=
  PEimp (pe_callTy hc hg hm hv ha hn hdb he hpl) lv_cb
end
/-! ### tests -/
def tBo (t : TEt) : TTt := fun τ M Q => t τ M fun x M1 => match x with
  | .bl c => Q c M1
  | _ => False
def tAn (t u : TTt) : TTt := fun τ M Q => t τ M fun c M1 => if c = true then u τ M1 Q else Q false M1
def tOr' (t u : TTt) : TTt := fun τ M Q => t τ M fun c M1 => if c = true then Q true M1 else u τ M1 Q
def tNo (t : TTt) : TTt := fun τ M Q => t τ M fun c M1 => Q (!c) M1
def tAnV (ta tb : TEt) : TEt := fun τ M Q => ta τ M fun x M1 => match x with
  | .bl c => if c = true then tb τ M1 Q else Q (.bl false) M1
  | _ => False
def tOrV' (ta tb : TEt) : TEt := fun τ M Q => ta τ M fun x M1 => match x with
  | .bl c => if c = true then Q (.bl true) M1 else tb τ M1 Q
  | _ => False
def tNoV (ta : TEt) : TEt := fun τ M Q => ta τ M fun x M1 => match x with
  | .bl c => Q (.bl (!c)) M1
  | _ => False
def tIfE (t : TTt) (ta tb : TEt) : TEt := fun τ M Q => t τ M fun c M1 => if c = true then ta τ M1 Q else tb τ M1 Q
section
variable {X : Cx} {E : XK} {Et : XT} {e a b c : Expr} {rest : List Expr} {ta tb : TEt} {t u : TTt} {pos : Pos}
theorem Rp.bl_inv {K : PySem.W.Frag} {F : Hp} {v : V} {c : Bool} (h : Rp K F v (.bl c)) : v = .bl c := by cases h; rfl
theorem lv_bo : ∀ σ H Q, liftT X.K E Et (tBo ta) σ H Q → tB (liftE X.K E Et ta) σ H Q := by
  rintro σ H Q ⟨G, F, M, τ, Qt, a, h, k⟩
  refine ⟨G, F, M, τ, _, a, h, fun v F1 H1 M1 d s1 r1 p1 q1 => ?_⟩
  cases d with
  | bl c => exact ⟨c, p1.bl_inv, k c F1 H1 M1 s1 r1 q1⟩
  | _ => exact q1.elim
theorem qt_val (h : QE X E Et e ta) (he : ∀ whole, isTrue e X.env whole = (do let v ← whole; standAt e.pos; holding [v] (truthy v)) := by intro _; rfl) : QT X E Et e (tBo ta) := PTimp (pt_val h he) lv_bo
theorem qt_cmp {op : CmpOp} {r : R2t} (ho : OpQ X (compareOp op) r) (ha : QE X E Et a ta) (hb : QE X E Et b tb) (hm : behindInMarks op b = false := by first | exact nomark _ | rfl) : QT X E Et (.Compare a [op] [b] pos) (tBo (tO r ta tb)) := PTimp (pt_cmpR ho ha hb hm) (by
  rintro σ H Q ⟨G, F, M, τ, Qt, a, h, k⟩
  refine lv_op _ _ _ ⟨G, F, M, τ, _, a, h, fun v F1 H1 M1 d s1 r1 p1 q1 => ?_⟩
  cases d with
  | bl c => exact ⟨c, p1.bl_inv, k c F1 H1 M1 s1 r1 q1⟩
  | _ => exact q1.elim)
theorem qw_and1 (ha : QT X E Et a t) : QW X E Et (.BoolOp .And [a] pos) t := pw_and1 ha
theorem qw_or1 (ha : QT X E Et a t) : QW X E Et (.BoolOp .Or [a] pos) t := pw_or1 ha
theorem qw_and (ha : QT X E Et a t) (hb : QW X E Et (.BoolOp .And (b :: rest) pos) u) : QW X E Et (.BoolOp .And (a :: b :: rest) pos) (tAn t u) := PWimp (pw_and ha hb) (by
  rintro σ H Q ⟨G, F, M, τ, Qt, a, h, k⟩
  refine ⟨G, F, M, τ, _, a, h, fun b F1 H1 M1 s1 r1 q1 => ?_⟩
  cases b with
  | true =>
    rw [if_pos rfl] at q1 ⊢
    exact ⟨G, F1, M1, τ, Qt, a.step s1 r1, q1, fun b F2 H2 M2 s2 => k b F2 H2 M2 (s1.trans s2)⟩
  | false =>
    rw [if_neg Bool.false_ne_true] at q1 ⊢
    exact k false F1 H1 M1 s1 r1 q1)
theorem qw_or (ha : QT X E Et a t) (hb : QW X E Et (.BoolOp .Or (b :: rest) pos) u) : QW X E Et (.BoolOp .Or (a :: b :: rest) pos) (tOr' t u) := PWimp (pw_or ha hb) (by
  rintro σ H Q ⟨G, F, M, τ, Qt, a, h, k⟩
  refine ⟨G, F, M, τ, _, a, h, fun b F1 H1 M1 s1 r1 q1 => ?_⟩
  cases b with
  | true =>
    rw [if_pos rfl] at q1 ⊢
    exact k true F1 H1 M1 s1 r1 q1
  | false =>
    rw [if_neg Bool.false_ne_true] at q1 ⊢
    exact ⟨G, F1, M1, τ, Qt, a.step s1 r1, q1, fun b F2 H2 M2 s2 => k b F2 H2 M2 (s1.trans s2)⟩)
theorem qt_w (h : QW X E Et e t) : QT X E Et e t := h.pt
theorem qt_not (ha : QT X E Et a t) : QT X E Et (.UnaryOp .Not a pos) (tNo t) := PTimp (pt_not ha) (by
  rintro σ H Q ⟨G, F, M, τ, Qt, a, h, k⟩
  exact ⟨G, F, M, τ, _, a, h, fun b F1 H1 M1 s1 r1 q1 => k _ F1 H1 M1 s1 r1 q1⟩)
theorem q_one {op} (h : QE X E Et a ta) : QE X E Et (.BoolOp op [a] pos) ta := pe_one h
theorem q_and (ha : QE X E Et a ta) (hb : QE X E Et (.BoolOp .And (b :: rest) pos) tb) : QE X E Et (.BoolOp .And (a :: b :: rest) pos) (tAnV ta tb) := PEimp (pe_and ha hb) (by
  rintro σ H Q ⟨G, F, M, τ, Qt, a, h, k⟩
  refine ⟨G, F, M, τ, _, a, h, fun v F1 H1 M1 d s1 r1 p1 q1 => ?_⟩
  cases d with
  | bl c =>
    refine ⟨c, p1.bl_inv, ?_⟩
    cases c with
    | true =>
      rw [if_pos rfl]
      exact ⟨G, F1, M1, τ, Qt, a.step s1 r1, q1, fun v F2 H2 M2 d s2 => k v F2 H2 M2 d (s1.trans s2)⟩
    | false =>
      rw [if_neg Bool.false_ne_true]
      exact k _ F1 H1 M1 _ s1 r1 (.bl false) q1
  | _ => exact q1.elim)
theorem q_or (ha : QE X E Et a ta) (hb : QE X E Et (.BoolOp .Or (b :: rest) pos) tb) : QE X E Et (.BoolOp .Or (a :: b :: rest) pos) (tOrV' ta tb) := PEimp (pe_or ha hb) (by
  rintro σ H Q ⟨G, F, M, τ, Qt, a, h, k⟩
  refine ⟨G, F, M, τ, _, a, h, fun v F1 H1 M1 d s1 r1 p1 q1 => ?_⟩
  cases d with
  | bl c =>
    refine ⟨c, p1.bl_inv, ?_⟩
    cases c with
    | true =>
      rw [if_pos rfl]
      exact k _ F1 H1 M1 _ s1 r1 (.bl true) q1
    | false =>
      rw [if_neg Bool.false_ne_true]
      exact ⟨G, F1, M1, τ, Qt, a.step s1 r1, q1, fun v F2 H2 M2 d s2 => k v F2 H2 M2 d (s1.trans s2)⟩
  | _ => exact q1.elim)
theorem q_not (ha : QE X E Et a ta) : QE X E Et (.UnaryOp .Not a pos) (tNoV ta) := PEimp (pe_not ha) (by
  rintro σ H Q ⟨G, F, M, τ, Qt, a, h, k⟩
  refine ⟨G, F, M, τ, _, a, h, fun v F1 H1 M1 d s1 r1 p1 q1 => ?_⟩
  cases d with
  | bl c => exact ⟨c, p1.bl_inv, k _ F1 H1 M1 _ s1 r1 (.bl _) q1⟩
  | _ => exact q1.elim)
/-- a < b < c -/
def tCh (r r' : R2t) (ta tb tc : TEt) : TEt := fun τ M Q => ta τ M fun x M1 => tb τ M1 fun y M2 => r x y M2 fun z M3 => match z with
  | .bl k => if k = true then tc τ M3 fun w M4 => r' y w M4 Q else Q (.bl false) M3
  | _ => False
end
end Tl
namespace Tl
open PySem PySem.Spec PyProof.Rows L2
/-! ### calls of the text's own defs -/
abbrev SpT := List D → MH → VD → XT → Prop
def lSp (K : PySem.W.Frag) (sp : SpT) : Sp := fun vs H Q E => ∃ G F M ds Qt Et, Rel K G F H M ∧ Rps K F vs ds ∧ EL K G F E Et ∧ sp ds M Qt Et ∧ ∀ v F' H' M' d, Same F F' → Rel K G F' H' M' → Rp K F' v d → Qt d M' → Q v H'
/-- a def of the text, called by its name x -/
structure Fn (P : Program) (w : World) (K : PySem.W.Frag) (mg : Str → Option Value) (base : Heap) (CX : CXT) (k : Nat) (x : Str) (sp : SpT) : Prop where
  ok : ∃ fd ps, FnOk P w K mg base CX k (He.ga K x) fd ps (lSp K sp) ∧ Binds K fd ps []
  m : mg x = some (.ref (He.ga K x))
  kp : PySem.W.keepIn K (.ref (He.ga K x)) = true
def tCl (sp : SpT) (Et : XT) (t : TAt) : TEt := fun τ M Q => t τ M fun ds M1 => sp ds M1 Q Et
section
variable {X : Cx} {E E' : XK} {Et Et' : XT} {e : Expr} {es : List Expr} {t : TAt} {pos p : Pos} {sp : SpT} {k : Nat} {x : Str}
theorem lv_call (hE : ∀ G F, EL X.K G F E Et → EL X.K G F E' Et') : ∀ σ H Q, liftE X.K E Et (tCl sp Et' t) σ H Q → tCall (lSp X.K sp) [] E' (liftA X.K E Et t) σ H Q := by
  rintro σ H Q ⟨G, F, M, τ, Qt, a, h, k⟩
  refine ⟨G, F, M, τ, _, a, h, fun vs F1 H1 M1 ds s1 r1 p1 q1 => ?_⟩
  show lSp X.K sp (vs ++ []) H1 Q E'
  rw [List.append_nil]
  exact ⟨G, F1, M1, ds, Qt, Et', r1, p1, hE G F1 (a.el.mono s1), q1, fun v F' H' M' d s => k v F' H' M' d (s1.trans s)⟩
theorem q_call (Fo : Fn X.prog X.w X.K X.mg X.base CX0 k x sp) (hr : Room k X.A) (ha : QA X E Et (e :: es) t) (hg : Gl X x := by rfl) (hdb : (x == ("__debug__" : Str)) = false := by decide)
    (he : starEach (e :: es) X.env = (false, eval e X.env) :: starEach es X.env := by rfl) (hpl : (backTo pos (starEach es X.env)).any (·.1) = false := by rfl) : QE X E Et (.Call (.Name x p) (e :: es) [] pos) (tCl sp Et0 t) := by
  obtain ⟨⟨fd, ps, F1, b⟩, m, kp⟩ := Fo
  exact PEimp (pe_call F1 hr hg m kp b .nil pass0 ha hdb he hpl) (lv_call fun _ _ _ => .never)
end
/-! ### statements -/
def sNx : TSt := fun D τ M => D.nx τ M
def sSq (t u : TSt) : TSt := fun D τ M => t { D with nx := u D } τ M
def sBk : TSt := fun D τ M => D.bk τ M
def sCt : TSt := fun D τ M => D.ct τ M
def sDr (t : TEt) : TSt := fun D τ M => t τ M fun _ M1 => D.nx τ M1
def sRt (t : TEt) : TSt := fun D τ M => t τ M D.rt
def sRtN : TSt := fun D _ M => D.rt .non M
def sIf (c : TTt) (t u : TSt) : TSt := fun D τ M => c τ M fun b M1 => if b = true then t D τ M1 else u D τ M1
abbrev TGt := D → Sg → MH → (Sg → MH → Prop) → Prop
abbrev TGst := List D → Sg → MH → (Sg → MH → Prop) → Prop
def liftG (K : PySem.W.Frag) (E : XK) (Et : XT) (t : TGt) : TG := fun v σ H Q => ∃ G F M τ d Qt, At K E Et G F H M σ τ ∧ Rp K F v d ∧ t d τ M Qt ∧ ∀ F' H' M' σ' τ', Same F F' → At K E Et G F' H' M' σ' τ' → Qt τ' M' → Q σ' H'
def liftGs (K : PySem.W.Frag) (E : XK) (Et : XT) (t : TGst) : TGs := fun vs σ H Q => ∃ G F M τ ds Qt, At K E Et G F H M σ τ ∧ Rps K F vs ds ∧ t ds τ M Qt ∧ ∀ F' H' M' σ' τ', Same F F' → At K E Et G F' H' M' σ' τ' → Qt τ' M' → Q σ' H'
def gN (i : Nat) : TGt := fun d τ M Q => Q (τ.set i (some d)) M
def gNl : TGst := fun ds τ M Q => match ds with
  | [] => Q τ M
  | _ :: _ => False
def gCs (t : TGt) (u : TGst) : TGst := fun ds τ M Q => match ds with
  | [] => False
  | d :: r => t d τ M fun τ' M' => u r τ' M' Q
def gTp (n : Nat) (t : TGst) : TGt := fun d τ M Q => match d with
  | .tup ds => ds.length = n ∧ t ds τ M Q
  | _ => False
/-- o[i] = v by values -/
abbrev TSett := D → D → D → MH → (MH → Prop) → Prop
def lSet (K : PySem.W.Frag) (t : TSett) : TSet := fun o i v H Q => ∃ G F M od idd vd Qt, Rel K G F H M ∧ Rp K F o od ∧ Rp K F i idd ∧ Rp K F v vd ∧ t od idd vd M Qt ∧ ∀ F' H' M', Same F F' → Rel K G F' H' M' → Qt M' → Q H'
def gSb (to ti : TEt) (t : TSett) : TGt := fun v τ M Q => to τ M fun o M1 => ti τ M1 fun i M2 => t o i v M2 fun M3 => Q τ M3
abbrev QG (X : Cx) (E : XK) (Et : XT) (e : Expr) (t : TGt) : Prop := PG X e (liftG X.K E Et t)
abbrev QGs (X : Cx) (E : XK) (Et : XT) (e : List Expr) (t : TGst) : Prop := PGs X e (liftGs X.K E Et t)
def sAs (te : TEt) (g : TGt) : TSt := fun D τ M => te τ M fun x M1 => g x τ M1 D.nx
section
variable {X : Cx} {E : XK} {Et : XT} {st : Stmt} {rest : List Stmt} {t u : TSt} {e : Expr} {te : TEt} {pos : Pos}
theorem qss_nil : QSs X E Et [] sNx := PSsimp pss_nil (by
  rintro D σ H ⟨G, F, M, τ, Dt, a, en, h⟩
  exact en.nx F H M σ τ (Same.refl _) a h)
theorem qss_cons (h1 : QS X E Et st t) (h2 : QSs X E Et rest u) : QSs X E Et (st :: rest) (sSq t u) := PSsimp (pss_cons h1 h2) (by
  rintro D σ H ⟨G, F, M, τ, Dt, a, en, h⟩
  exact ⟨G, F, M, τ, { Dt with nx := u Dt }, a, ⟨fun F' H' M' σ' τ' s a' h' => ⟨G, F', M', τ', Dt, a', en.mono s, h'⟩, en.rt, en.bk, en.ct⟩, h⟩)
theorem qss_one (h1 : QS X E Et st t) : QSs X E Et [st] t := pss_one h1
theorem qs_continue : QS X E Et (.Continue pos) sCt := PSimp ps_continue (by
  rintro D σ H ⟨G, F, M, τ, Dt, a, en, h⟩
  exact en.ct F H M σ τ (Same.refl _) a h)
theorem qs_expr (he : QE X E Et e te) (hs : swapsWith e none pos.line X.env = pure false := by rfl) : QS X E Et (.Expr e pos) (sDr te) := PSimp (ps_expr he hs) (by
  rintro D σ H ⟨G, F, M, τ, Dt, a, en, h⟩
  exact ⟨G, F, M, τ, _, a, h, fun v F' H' M' d s r p q => en.nx F' H' M' σ τ s (a.step s r) q⟩)
theorem qs_ret (he : QE X E Et e te) : QS X E Et (.Return (some e) pos) (sRt te) := PSimp (ps_ret he) (by
  rintro D σ H ⟨G, F, M, τ, Dt, a, en, h⟩
  exact ⟨G, F, M, τ, _, a, h, fun v F' H' M' d s r p q => en.rt F' H' M' v d s r p q⟩)
theorem qs_if {c : Expr} {a b : List Stmt} {tc : TTt} (hc : QT X E Et c tc) (ha : QSs X E Et a t) (hb : QSs X E Et b u) : QS X E Et (.If c a b pos) (sIf tc t u) := PSimp (ps_if hc ha hb) (by
  rintro D σ H ⟨G, F, M, τ, Dt, a, en, h⟩
  refine ⟨G, F, M, τ, _, a, h, fun b F' H' M' s r q => ?_⟩
  cases b with
  | true =>
    rw [if_pos rfl] at q ⊢
    exact ⟨G, F', M', τ, Dt, a.step s r, en.mono s, q⟩
  | false =>
    rw [if_neg Bool.false_ne_true] at q ⊢
    exact ⟨G, F', M', τ, Dt, a.step s r, en.mono s, q⟩)
/-! targets -/
theorem qg_name {i : Nat} {x : Str} (hN : X.N.Nodup) (hi : X.N[i]? = some x := by rfl) (hx : Loc X.env.scope x := by first | exact Or.inl rfl | exact Or.inr rfl) (hf : X.fn x = true ∨ X.env.scope.names.lookup x = some .local := by first | exact .inl rfl | exact .inr rfl | assumption) : QG X E Et (.Name x pos) (gN i) := by
  refine ⟨fun pins s σ H v u Q I r h => ?_⟩
  obtain ⟨G, F, M, τ, d, Qt, a, p, h, k⟩ := h
  exact (pg_name hN hi hx hf).run pins s σ H v u Q I r (k F H M _ _ (Same.refl _) (a.store p) h)
theorem qgs_nil : QGs X E Et [] gNl := by
  refine ⟨fun pins s σ H vs us Q I r h => ?_⟩
  obtain ⟨G, F, M, τ, ds, Qt, a, p, h, k⟩ := h
  cases p with
  | nil => exact pgs_nil.run pins s σ H [] us Q I r ⟨rfl, k F H M _ _ (Same.refl _) a h⟩
  | cons _ _ => exact (show False from h).elim
theorem qgs_cons {es : List Expr} {t : TGt} {u : TGst} (h1 : QG X E Et e t) (h2 : QGs X E Et es u)
    (hs : (assignEach (e :: es) X.env).map (·.2) = assign e X.env :: (assignEach es X.env).map (·.2) := by rfl) : QGs X E Et (e :: es) (gCs t u) := by
  refine ⟨fun pins s σ H vs us Q I r h => ?_⟩
  obtain ⟨G, F, M, τ, ds, Qt, a, p, h, k⟩ := h
  cases p with
  | nil => exact (show False from h).elim
  | cons p1 p2 =>
    refine (pgs_cons h1 h2 hs).run pins s σ H _ us Q I r ⟨_, _, rfl, G, F, M, τ, _, _, a, p1, h, fun F1 H1 M1 σ1 τ1 s1 a1 q1 => ?_⟩
    exact ⟨G, F1, M1, τ1, _, Qt, a1, p2.mono s1, q1, fun F' H' M' σ' τ' s => k F' H' M' σ' τ' (s1.trans s)⟩
theorem qg_tup {es : List Expr} {k : Nat} {t : TGst} {n : Nat} (hc : X.calm = true) (h : QGs X E Et es t)
    (hn : (assignEach es X.env).length = n := by rfl) (hst : (assignEach es X.env).findIdx? (·.1) = none := by rfl) : QG X E Et (.Tuple es k pos) (gTp n t) := by
  refine ⟨fun pins s σ H v u Q I r hw => ?_⟩
  obtain ⟨G, F, M, τ, d, Qt, a, p, hw, k⟩ := hw
  cases p with
  | tup h0 r0 =>
    obtain ⟨hl, hw⟩ := (show _ ∧ _ from hw)
    exact (pg_tup hc h hn hst).run pins s σ H _ u Q I r ⟨_, _, rfl, SqT.of (a.rel.sub _ _ h0), by rw [r0.length]; exact hl, G, F, M, τ, _, Qt, a, r0, hw, k⟩
  | _ => exact (show False from hw).elim
theorem qg_sub {o i : Expr} {to ti : TEt} {t : TSett} (ho : QE X E Et o to) (hi : QE X E Et i ti) (hs : PSet X (lSet X.K t))
    (ha : ∀ v, assign (.Subscript o i pos) X.env v = (do
      let ov ← holding [v] (eval o X.env)
      let iv ← holding [v, ov] (eval i X.env)
      standAt pos
      holding [v, ov, iv] (setItem ov iv v)
      release [v, ov, iv] []) := by intro _; rfl) : QG X E Et (.Subscript o i pos) (gSb to ti t) := by
  refine ⟨fun pins s σ H v u Q I r hw => ?_⟩
  obtain ⟨G, F, M, τ, d, Qt, a, p, hw, k⟩ := hw
  refine (pg_sub ho hi hs ha).run pins s σ H v u Q I r ?_
  refine ⟨G, F, M, τ, _, a, hw, fun v1 F1 H1 M1 d1 s1 r1 p1 q1 => ?_⟩
  refine ⟨G, F1, M1, τ, _, a.step s1 r1, q1, fun v2 F2 H2 M2 d2 s2 r2 p2 q2 => ?_⟩
  exact ⟨G, F2, M2, d1, d2, d, _, r2, p1.mono s2, p2, p.mono (s1.trans s2), q2, fun F3 H3 M3 s3 r3 q3 => k F3 H3 M3 σ τ ((s1.trans s2).trans s3) (a.step ((s1.trans s2).trans s3) r3) q3⟩
theorem lv_asg {g : TGt} : ∀ D σ H, liftS X.K E Et (sAs te g) D σ H → tAsg (liftE X.K E Et te) (liftG X.K E Et g) D σ H := by
  rintro D σ H ⟨G, F, M, τ, Dt, a, en, h⟩
  refine ⟨G, F, M, τ, _, a, h, fun v F1 H1 M1 d s1 r1 p1 q1 => ?_⟩
  exact ⟨G, F1, M1, τ, d, _, a.step s1 r1, p1, q1, fun F' H' M' σ' τ' s a' q => en.nx F' H' M' σ' τ' (s1.trans s) a' q⟩
theorem qs_asg {tg : Expr} {g : TGt} (he : QE X E Et e te) (hg : QG X E Et tg g) (hs : swapsWithSole [tg] e pos.line X.env = pure false := by rfl) (hw : swappedStores [tg] e X.env = pure none := by rfl)
    (h1 : (assignEach [tg] X.env).map (·.2) = [assign tg X.env] := by rfl) : QS X E Et (.Assign [tg] e pos) (sAs te g) := PSimp (ps_asg he hg hs hw h1) lv_asg
theorem qs_set {i : Nat} {x : Str} {pos' : Pos} (hN : X.N.Nodup) (he : QE X E Et e te) (hi : X.N[i]? = some x := by rfl) (hx : Loc X.env.scope x := by first | exact Or.inl rfl | exact Or.inr rfl) (hs : swapsWith e (some (.Name x pos')) pos.line X.env = pure false := by rfl) (hf : X.fn x = true ∨ X.env.scope.names.lookup x = some .local := by first | exact .inl rfl | exact .inr rfl | assumption) :
    QS X E Et (.Assign [.Name x pos'] e pos) (sAs te (gN i)) := PSimp (ps_set hN hi hx he hs hf) (by
  rintro D σ H ⟨G, F, M, τ, Dt, a, en, h⟩
  refine ⟨G, F, M, τ, _, a, h, fun v F1 H1 M1 d s1 r1 p1 q1 => ?_⟩
  exact en.nx F1 H1 M1 _ _ s1 ((a.step s1 r1).store p1) q1)
/-- x += e -/
def sAg (i : Nat) (te : TEt) (r : R2t) : TSt := fun D τ M => match nth τ i with
  | some x => te τ M fun y M1 => r x y M1 fun z M2 => D.nx (τ.set i (some z)) M2
  | none => False
theorem qs_aug {i : Nat} {x : Str} {op : Operator} {r : R2t} {pos' : Pos} (hN : X.N.Nodup) (ho : OpQ X (inplaceOp op) r) (he : QE X E Et e te) (hi : X.N[i]? = some x := by rfl) (hx : Loc X.env.scope x := by first | exact Or.inl rfl | exact Or.inr rfl) (hf : X.fn x = true ∨ X.env.scope.names.lookup x = some .local := by first | exact .inl rfl | exact .inr rfl | assumption) :
    QS X E Et (.AugAssign (.Name x pos') op e pos) (sAg i te r) := PSimp (ps_aug hN hi hx he (fun pins s σ H x y v u Q I rx ry h => ho pins s σ H x y v u Q I rx ry h) hf) (by
  rintro D σ H ⟨G, F, M, τ, Dt, a, en, h⟩
  unfold sAg at h
  cases q : nth τ i with
  | none => rw [q] at h; exact h.elim
  | some d =>
    rw [q] at h
    obtain ⟨v, h1, h2⟩ := a.sg.2 i d (nth_get q)
    refine ⟨v, h1, G, F, M, τ, _, a, h, fun v1 F1 H1 M1 d1 s1 r1 p1 q1 => ?_⟩
    exact ⟨G, F1, M1, d, d1, _, r1, h2.mono s1, p1, q1, fun v2 F2 H2 M2 d2 s2 r2 p2 q2 => en.nx F2 H2 M2 _ _ (s1.trans s2) ((a.step (s1.trans s2) r2).store p2) q2⟩)
end
/-! ### loops -/
/-- while: W by a measure -/
def sWh (c : TTt) (tb : TSt) : TSt := fun D τ M => ∃ W : Nat → Sg → MH → Prop, (∃ m, W m τ M) ∧ ∀ m τ M, W m τ M →
  c τ M fun b M1 => if b = true then tb { D with nx := fun τ' M' => ∃ m', m' < m ∧ W m' τ' M', ct := fun τ' M' => ∃ m', m' < m ∧ W m' τ' M', bk := D.nx } τ M1 else D.nx τ M1
section
variable {X : Cx} {E : XK} {Et : XT} {pos : Pos}
theorem qs_while {c : Expr} {body : List Stmt} {tc : TTt} {tb : TSt} (hp : PassesOwn (model X.prog X.w) X.A X.env X.xe) (hc : QT X E Et c tc) (hb : QSs X E Et body tb) : QS X E Et (.While c body [] pos) (sWh tc tb) := PSimp (ps_while hp hc hb) (by
  rintro D σ H ⟨G, F0, M0, τ0, Dt, a0, en0, W, ⟨m0, w0⟩, turn⟩
  refine ⟨fun m σ H => ∃ F M τ, Same F0 F ∧ At X.K E Et G F H M σ τ ∧ W m τ M, ⟨m0, F0, M0, τ0, Same.refl _, a0, w0⟩, ?_⟩
  rintro m σ H ⟨F, M, τ, s, a, hw⟩
  have en := en0.mono s
  refine ⟨G, F, M, τ, _, a, turn m τ M hw, fun b F1 H1 M1 s1 r1 q1 => ?_⟩
  cases b with
  | true =>
    rw [if_pos rfl] at q1 ⊢
    refine ⟨fun σ' H' => ∃ m', m' < m ∧ ∃ F M τ, Same F0 F ∧ At X.K E Et G F H' M σ' τ ∧ W m' τ M, fun σ' H' z => z, G, F1, M1, τ, _, a.step s1 r1, ?_, q1⟩
    exact ⟨fun F' H' M' σ' τ' s2 a2 ⟨m', hm, w'⟩ => ⟨m', hm, F', M', τ', (s.trans s1).trans s2, a2, w'⟩, (en.mono s1).rt, fun F' H' M' σ' τ' s2 a2 q => (en.mono s1).nx F' H' M' σ' τ' s2 a2 q,
      fun F' H' M' σ' τ' s2 a2 ⟨m', hm, w'⟩ => ⟨m', hm, F', M', τ', (s.trans s1).trans s2, a2, w'⟩⟩
  | false =>
    rw [if_neg Bool.false_ne_true] at q1 ⊢
    exact en.nx F1 H1 M1 σ τ s1 (a.step s1 r1) q1)
end
/-- what is walked: its items, as long as src holds -/
structure Its where
  items : List D
  src : MH → Prop
abbrev TIt := Sg → MH → (Its → MH → Prop) → Prop
/-- J walks the items: at any state in which src holds -/
structure ItOk (K : PySem.W.Frag) (F0 : Hp) (J : It) (I : Its) : Prop where
  go : ∀ i G F H M x, Same F0 F → Rel K G F H M → I.src M → I.items[i]? = some x → J.go i H
  yld : ∀ i G F H M x v H', Same F0 F → Rel K G F H M → I.src M → I.items[i]? = some x → J.yld i H v H' → ∃ F', Same F F' ∧ Rel K G F' H' M ∧ Rp K F' v x
  stop : ∀ i G F H M, Same F0 F → Rel K G F H M → I.src M → I.items.length ≤ i → J.stop i H
def liftI (K : PySem.W.Frag) (E : XK) (Et : XT) (t : TIt) : TI := fun σ H R => ∃ G F M τ Qt, At K E Et G F H M σ τ ∧ t τ M Qt ∧ ∀ J I F' H' M', Same F F' → Rel K G F' H' M' → ItOk K F' J I → Qt I M' → R J H'
abbrev QI (X : Cx) (E : XK) (Et : XT) (tg iter : Expr) (t : TIt) : Prop := PI X tg iter (liftI X.K E Et t)
def sFo (ti : TIt) (g : TGt) (tb : TSt) : TSt := fun D τ M => ti τ M fun I M1 => ∃ W : Nat → Sg → MH → Prop, W 0 τ M1 ∧ (∀ i τ M, W i τ M → I.src M) ∧
  (∀ i x τ M, I.items[i]? = some x → W i τ M → g x τ M fun τ2 M2 => tb { D with nx := W (i + 1), ct := W (i + 1), bk := D.nx } τ2 M2) ∧ ∀ τ M, W I.items.length τ M → D.nx τ M
section
variable {X : Cx} {E : XK} {Et : XT} {pos : Pos}
theorem qs_for {tg iter : Expr} {body : List Stmt} {ti : TIt} {g : TGt} {tb : TSt} (hp : PassesOwn (model X.prog X.w) X.A X.env X.xe) (hc : X.calm = true) (hi : QI X E Et tg iter ti) (hg : QG X E Et tg g) (hb : QSs X E Et body tb)
    (hs : ∀ x, foldedSetIterable iter X.env x = pure x := by intro _; rfl) : QS X E Et (.For tg iter body [] pos) (sFo ti g tb) := PSimp (ps_for hp hc hi hg hb hs) (by
  rintro D σ H ⟨G, F0, M0, τ0, Dt, a0, en0, h⟩
  refine ⟨G, F0, M0, τ0, _, a0, h, fun J I F1 H1 M1 s1 r1 ok q1 => ?_⟩
  obtain ⟨W, w0, ws, turn, done⟩ := q1
  refine ⟨fun i m σ H => m = I.items.length - i ∧ i ≤ I.items.length ∧ ∃ F M τ, Same F1 F ∧ At X.K E Et G F H M σ τ ∧ W i τ M, ⟨I.items.length, by simp, Nat.zero_le _, F1, M1, τ0, Same.refl _, a0.step s1 r1, w0⟩, ?_⟩
  rintro i m σ H ⟨rfl, hi, F, M, τ, s, a, hw⟩
  have en := en0.mono (s1.trans s)
  by_cases hlt : i < I.items.length
  · have hx : I.items[i]? = some I.items[i] := List.getElem?_eq_getElem hlt
    refine .inr ⟨ok.go i G F H M _ s a.rel (ws i τ M hw) hx, fun σ' H' => I.items.length - (i + 1) < I.items.length - i ∧ ∃ F M τ, Same F1 F ∧ At X.K E Et G F H' M σ' τ ∧ W (i + 1) τ M, fun σ' H' z => ⟨_, z.1, rfl, hlt, z.2⟩, fun v H' y => ?_⟩
    obtain ⟨F2, s2, r2, p2⟩ := ok.yld i G F H M _ v H' s a.rel (ws i τ M hw) hx y
    have hm : I.items.length - (i + 1) < I.items.length - i := by omega
    refine ⟨G, F2, M, τ, _, _, a.step s2 r2, p2, turn i _ τ M hx hw, fun F3 H3 M3 σ3 τ3 s3 a3 q3 => ?_⟩
    refine ⟨G, F3, M3, τ3, _, a3, ?_, q3⟩
    exact ⟨fun F' H' M' σ' τ' s4 a4 w' => ⟨hm, F', M', τ', ((s.trans s2).trans s3).trans s4, a4, w'⟩, (en.mono (s2.trans s3)).rt, fun F' H' M' σ' τ' s4 a4 q => (en.mono (s2.trans s3)).nx F' H' M' σ' τ' s4 a4 q,
      fun F' H' M' σ' τ' s4 a4 w' => ⟨hm, F', M', τ', ((s.trans s2).trans s3).trans s4, a4, w'⟩⟩
  · have e : i = I.items.length := by omega
    subst e
    exact .inl ⟨ok.stop _ G F H M s a.rel (ws _ τ M hw) (Nat.le_refl _), en.nx F H M σ τ (Same.refl _) a (done τ M hw)⟩)
end
/-- the items of a list that stands, frozen or not -/
def lstOf (M : MH) : D → Option (List D)
  | .lst ds => some ds
  | .scr ds => some ds
  | .ref a => match M a with
    | some (.lst ds) => some ds
    | _ => none
  | _ => none
def tupOf : D → Option (List D)
  | .tup ds => some ds
  | .tab ds => some ds
  | _ => none
section
variable {K : PySem.W.Frag}
theorem lst_of {G F H : Hp} {M : MH} {v : V} {d : D} {ds : List D} (R : Rel K G F H M) (p : Rp K F v d) (e : lstOf M d = some ds) : ∃ a vs, v = .ref a ∧ SqL K H a vs ∧ Rps K F vs ds := by
  cases p with
  | lst h r =>
    cases e
    exact ⟨_, _, rfl, SqL.of (R.sub _ _ h), r⟩
  | scr h r =>
    cases e
    exact ⟨_, _, rfl, R.sub.seq h, r⟩
  | ref a =>
    unfold lstOf at e
    cases q : M a with
    | none => simp only [q] at e; cases e
    | some o =>
      simp only [q] at e
      obtain ⟨_, u, hu, r⟩ := R.chg a o q
      cases o with
      | lst xs =>
        cases e
        cases u with
        | lst vs => exact ⟨a, vs, rfl, SqL.of hu, r⟩
        | _ => exact (r : False).elim
      | _ => cases e
  | _ => cases e
theorem tup_of {G F H : Hp} {M : MH} {v : V} {d : D} {ds : List D} (R : Rel K G F H M) (p : Rp K F v d) (e : tupOf d = some ds) : ∃ a vs, v = .ref a ∧ SqT K H a vs ∧ Rps K F vs ds := by
  cases p with
  | tup h r =>
    cases e
    exact ⟨_, _, rfl, SqT.of (R.sub _ _ h), r⟩
  | tab h r =>
    cases e
    exact ⟨_, _, rfl, SameT R.sub h, r⟩
  | _ => cases e
end
/-- for x in xs -/
def iLs (te : TEt) : TIt := fun τ M Q => te τ M fun d M1 => match lstOf M1 d with
  | some ds => Q ⟨ds, fun M => lstOf M d = some ds⟩ M1
  | none => False
def iTu (te : TEt) : TIt := fun τ M Q => te τ M fun d M1 => match tupOf d with
  | some ds => Q ⟨ds, fun _ => True⟩ M1
  | none => False
def iR1 (ta : TAt) : TIt := fun τ M Q => ta τ M fun ds M1 => match ds with
  | [.int j] => (-(2 ^ 62) ≤ j ∧ j < 2 ^ 62) ∧ Q ⟨(List.range j.toNat).map fun i => .int (i : Nat), fun _ => True⟩ M1
  | _ => False
def iR2 (ta : TAt) : TIt := fun τ M Q => ta τ M fun ds M1 => match ds with
  | [.int i, .int j] => (-(2 ^ 62) ≤ i ∧ i < 2 ^ 62 ∧ -(2 ^ 62) ≤ j ∧ j < 2 ^ 62) ∧ Q ⟨(List.range (j - i).toNat).map fun k => .int (i + (k : Nat)), fun _ => True⟩ M1
  | _ => False
theorem SqL_get {K : PySem.W.Frag} {H : Hp} {a : Addr} {vs : List V} (h : SqL K H a vs) {i : Nat} {v x : V} (hx : vs[i]? = some x) (f : ∀ xs, SqL K H a xs → xs[i]? = some v) : v = x := Option.some.inj ((f _ h).symm.trans hx)
theorem SqT_get {K : PySem.W.Frag} {H : Hp} {a : Addr} {vs : List V} (h : SqT K H a vs) {i : Nat} {v x : V} (hx : vs[i]? = some x) (f : ∀ xs, SqT K H a xs → xs[i]? = some v) : v = x := Option.some.inj ((f _ h).symm.trans hx)
section
variable {X : Cx} {E : XK} {Et : XT} {pos : Pos} {tg e : Expr} {te : TEt}
theorem itOk_list {K : PySem.W.Frag} {F0 : Hp} {a : Addr} {d : D} {ds : List D} (p : Rp K F0 (.ref a) d) : ItOk K F0 (Itl K a) ⟨ds, fun M => lstOf M d = some ds⟩ where
  go := fun i G F H M x s R h hx => by
    obtain ⟨b, vs, e, hs, r⟩ := lst_of R (p.mono s) h
    cases e
    obtain ⟨v, hv, _⟩ := r.getD hx
    exact ⟨vs, v, hs, hv⟩
  yld := fun i G F H M x v H' s R h hx y => by
    obtain ⟨b, vs, e, hs, r⟩ := lst_of R (p.mono s) h
    cases e
    obtain ⟨v', hv, rv⟩ := r.getD hx
    obtain ⟨rfl, f⟩ := y
    have := SqL_get hs hv f
    subst this
    exact ⟨F, Same.refl _, R, rv⟩
  stop := fun i G F H M s R h hl => by
    obtain ⟨b, vs, e, hs, r⟩ := lst_of R (p.mono s) h
    cases e
    exact ⟨vs, hs, by rw [r.length]; exact hl⟩
theorem itOk_tup {K : PySem.W.Frag} {F0 : Hp} {a : Addr} {d : D} {ds : List D} (p : Rp K F0 (.ref a) d) (h : tupOf d = some ds) : ItOk K F0 (Itt K a) ⟨ds, fun _ => True⟩ where
  go := fun i G F H M x s R _ hx => by
    obtain ⟨b, vs, e, hs, r⟩ := tup_of R (p.mono s) h
    cases e
    obtain ⟨v, hv, _⟩ := r.getD hx
    exact ⟨vs, v, hs, hv⟩
  yld := fun i G F H M x v H' s R _ hx y => by
    obtain ⟨b, vs, e, hs, r⟩ := tup_of R (p.mono s) h
    cases e
    obtain ⟨v', hv, rv⟩ := r.getD hx
    obtain ⟨rfl, f⟩ := y
    have := SqT_get hs hv f
    subst this
    exact ⟨F, Same.refl _, R, rv⟩
  stop := fun i G F H M s R _ hl => by
    obtain ⟨b, vs, e, hs, r⟩ := tup_of R (p.mono s) h
    cases e
    exact ⟨vs, hs, by rw [r.length]; exact hl⟩
theorem qi_list (he : QE X E Et e te) : QI X E Et tg e (iLs te) := by
  refine ⟨fun pins s σ H R I h => (pi_list he).run pins s σ H R I ?_⟩
  obtain ⟨G, F, M, τ, Qt, a, h, k⟩ := h
  refine ⟨G, F, M, τ, _, a, h, fun v F1 H1 M1 d s1 r1 p1 q1 => ?_⟩
  cases q : lstOf M1 d with
  | none => simp only [q] at q1
  | some ds =>
    simp only [q] at q1
    obtain ⟨b, vs, rfl, hs, r⟩ := lst_of r1 p1 q
    exact ⟨b, rfl, ⟨vs, hs⟩, k _ _ F1 H1 M1 s1 r1 (itOk_list p1) q1⟩
theorem qi_tup (he : QE X E Et e te) : QI X E Et tg e (iTu te) := by
  refine ⟨fun pins s σ H R I h => (pi_tup he).run pins s σ H R I ?_⟩
  obtain ⟨G, F, M, τ, Qt, a, h, k⟩ := h
  refine ⟨G, F, M, τ, _, a, h, fun v F1 H1 M1 d s1 r1 p1 q1 => ?_⟩
  cases q : tupOf d with
  | none => simp only [q] at q1
  | some ds =>
    simp only [q] at q1
    obtain ⟨b, vs, rfl, hs, r⟩ := tup_of r1 p1 q
    exact ⟨b, rfl, ⟨vs, hs⟩, k _ _ F1 H1 M1 s1 r1 (itOk_tup p1 q) q1⟩
theorem range_at {n i : Nat} {f : Nat → D} {x : D} (h : ((List.range n).map f)[i]? = some x) : i < n ∧ x = f i := by
  rw [List.getElem?_map] at h
  by_cases hi : i < n
  · rw [List.getElem?_range hi] at h
    exact ⟨hi, (Option.some.inj h).symm⟩
  · rw [List.getElem?_eq_none (by rw [List.length_range]; omega)] at h
    cases h
theorem itOk_range {K : PySem.W.Frag} {F0 : Hp} {lo : Int} {n : Nat} : ItOk K F0 (Itr lo n) ⟨(List.range n).map fun k => .int (lo + (k : Nat)), fun _ => True⟩ where
  go := fun i G F H M x s R _ hx => (range_at hx).1
  yld := fun i G F H M x v H' s R _ hx y => by
    obtain ⟨rfl, rfl⟩ := y
    obtain ⟨_, rfl⟩ := range_at hx
    exact ⟨F, Same.refl _, R, .int _⟩
  stop := fun i G F H M s R _ hl => by
    rw [List.length_map, List.length_range] at hl
    exact hl
theorem Rp.int_inv {K : PySem.W.Frag} {F : Hp} {v : V} {c : Int} (h : Rp K F v (.int c)) : v = .int c := by cases h; rfl
theorem qi_range1 {a : Expr} {ta : TAt} {p : Pos} (hm : X.mg "range" = none) (ha : QA X E Et [a] ta) (hg : Gl X "range" := by rfl) (hs : starEach [a] X.env = [(false, eval a X.env)] := by rfl) : QI X E Et tg (.Call (.Name "range" p) [a] [] pos) (iR1 ta) := by
  refine ⟨fun pins s σ H R I h => (pi_range1 hg hm ha hs).run pins s σ H R I ?_⟩
  obtain ⟨G, F, M, τ, Qt, a, h, k⟩ := h
  refine ⟨G, F, M, τ, _, a, h, fun vs F1 H1 M1 ds s1 r1 p1 q1 => ?_⟩
  match ds, p1, q1 with
  | [.int j], .cons h1 .nil, q1 =>
    cases h1
    obtain ⟨⟨b1, b2⟩, q1⟩ := q1
    refine ⟨j, rfl, b1, b2, k _ _ F1 H1 M1 s1 r1 itOk_range ?_⟩
    simpa using q1
end
end Tl
namespace Tl
open PySem PySem.Spec PyProof.Rows L2
/-! ### numbers -/
section
variable {K : PySem.W.Frag}
theorem lr2_int {C : Int → Int → Prop} {g : Int → Int → V} {gD : Int → Int → D} {r : R2t} (hg : ∀ F i j, Rp K F (g i j) (gD i j))
    (hr : ∀ x y M Q, r x y M Q → ∃ i j, x = .int i ∧ y = .int j ∧ C i j ∧ Q (gD i j) M) : ∀ x y H Q, lr2 K r x y H Q → rI C g x y H Q := by
  rintro x y H Q ⟨G, F, M, dx, dy, Qt, R, px, py, h, k⟩
  obtain ⟨i, j, rfl, rfl, c, q⟩ := hr dx dy M Qt h
  exact ⟨i, j, px.int_inv, py.int_inv, c, k _ F H M _ (Same.refl _) R (hg F i j) q⟩
theorem lr2_int0 {g : Int → Int → V} {gD : Int → Int → D} {r : R2t} (hg : ∀ F i j, Rp K F (g i j) (gD i j))
    (hr : ∀ x y M Q, r x y M Q → ∃ i j, x = .int i ∧ y = .int j ∧ Q (gD i j) M) : ∀ x y H Q, lr2 K r x y H Q → rI0 g x y H Q := by
  rintro x y H Q ⟨G, F, M, dx, dy, Qt, R, px, py, h, k⟩
  obtain ⟨i, j, rfl, rfl, q⟩ := hr dx dy M Qt h
  exact ⟨i, j, px.int_inv, py.int_inv, k _ F H M _ (Same.refl _) R (hg F i j) q⟩
end
/-- x op y on whole numbers -/
def bInt (C : Int → Int → Prop) (g : Int → Int → D) : R2t := fun x y M Q => match x, y with
  | .int i, .int j => C i j ∧ Q (g i j) M
  | _, _ => False
def bInt0 (g : Int → Int → D) : R2t := fun x y M Q => match x, y with
  | .int i, .int j => Q (g i j) M
  | _, _ => False
theorem bInt_inv {C : Int → Int → Prop} {g : Int → Int → D} : ∀ x y M Q, bInt C g x y M Q → ∃ i j, x = .int i ∧ y = .int j ∧ C i j ∧ Q (g i j) M := by
  intro x y M Q h
  cases x <;> cases y <;> first | exact ⟨_, _, rfl, rfl, h⟩ | exact (show False from h).elim
theorem bInt0_inv {g : Int → Int → D} : ∀ x y M Q, bInt0 g x y M Q → ∃ i j, x = .int i ∧ y = .int j ∧ Q (g i j) M := by
  intro x y M Q h
  cases x <;> cases y <;> first | exact ⟨_, _, rfl, rfl, h⟩ | exact (show False from h).elim
section
variable {X : Cx}
abbrev bSub : R2t := bInt0 fun i j => .int (i - j)
theorem oq_addI : OpQ X (binaryOp .Add) (bInt0 fun i j => .int (i + j)) := OpRimp op_add (lr2_int0 (fun _ _ _ => .int _) bInt0_inv)
theorem oq_sub : OpQ X (binaryOp .Sub) bSub := OpRimp op_sub (lr2_int0 (fun _ _ _ => .int _) bInt0_inv)
theorem oq_mul : OpQ X (binaryOp .Mult) (bInt CMulW fun i j => .int (i * j)) := OpRimp op_mulW (lr2_int (fun _ _ _ => .int _) bInt_inv)
theorem oq_fdiv : OpQ X (binaryOp .FloorDiv) (bInt CDivW fun i j => .int (i / j)) := OpRimp op_fdivW (lr2_int (fun _ _ _ => .int _) bInt_inv)
theorem oq_mod : OpQ X (binaryOp .Mod) (bInt (fun _ j => 0 < j) fun i j => .int (i % j)) := OpRimp op_mod (lr2_int (fun _ _ _ => .int _) bInt_inv)
theorem oq_pow : OpQ X (binaryOp .Pow) (bInt CPow fun i j => .int (i ^ j.toNat)) := OpRimp op_pow (lr2_int (fun _ _ _ => .int _) bInt_inv)
theorem oq_shr : OpQ X (binaryOp .RShift) (bInt (fun _ j => 0 ≤ j) fun i j => .int (i / 2 ^ j.toNat)) := OpRimp op_shr (lr2_int (fun _ _ _ => .int _) bInt_inv)
theorem oq_band : OpQ X (binaryOp .BitAnd) (bInt0 fun i j => .int (Builtin.bitAnd i j)) := OpRimp op_and (lr2_int0 (fun _ _ _ => .int _) bInt0_inv)
theorem oq_bor : OpQ X (binaryOp .BitOr) (bInt0 fun i j => .int (Builtin.bitOr i j)) := OpRimp op_or (lr2_int0 (fun _ _ _ => .int _) bInt0_inv)
theorem oq_iaddI : OpQ X (inplaceOp .Add) (bInt0 fun i j => .int (i + j)) := OpRimp iop_add (lr2_int0 (fun _ _ _ => .int _) bInt0_inv)
theorem oq_lt : OpQ X (compareOp .Lt) (bInt0 fun i j => .bl (decide (i < j))) := OpRimp op_lt (lr2_int0 (fun _ _ _ => .bl _) bInt0_inv)
theorem oq_gt : OpQ X (compareOp .Gt) (bInt0 fun i j => .bl (decide (j < i))) := OpRimp op_gt (lr2_int0 (fun _ _ _ => .bl _) bInt0_inv)
def uNeg : R1t := fun x M Q => match x with
  | .int i => Q (.int (-i)) M
  | _ => False
theorem uq_neg : UnQ X (unaryOp .USub) uNeg := UnRimp un_neg (by
  rintro x H Q ⟨G, F, M, dx, Qt, R, px, h, k⟩
  cases dx <;> first | exact (show False from h).elim | exact ⟨_, px.int_inv, k _ F H M _ (Same.refl _) R (.int _) h⟩)
end
/-! ### == and != of scalars -/
def dScal : D → D → Option Bool
  | .non, .non => some true
  | .int i, .int j => some (decide (i = j))
  | .str x, .str y => some (decide (x = y))
  | .bl x, .bl y => some (decide (x = y))
  | .non, .int _ => some false
  | .int _, .non => some false
  | .non, .str _ => some false
  | .str _, .non => some false
  | .non, .bl _ => some false
  | .bl _, .non => some false
  | .int _, .str _ => some false
  | .str _, .int _ => some false
  | _, _ => none
def bEq : R2t := fun x y M Q => match dScal x y with
  | some b => Q (.bl b) M
  | none => False
def bNe : R2t := fun x y M Q => match dScal x y with
  | some b => Q (.bl (!b)) M
  | none => False
theorem dScal_of {K : PySem.W.Frag} {F : Hp} {v w : V} {x y : D} {b : Bool} (px : Rp K F v x) (py : Rp K F w y) (e : dScal x y = some b) : scal v w = true ∧ decide (v = w) = b := by
  cases x <;> cases y <;> first
    | (cases e; done)
    | (cases px; cases py; cases e; exact ⟨rfl, by first | rfl | (congr 1; simp)⟩)
section
variable {X : Cx}
theorem oq_eq : OpQ X (compareOp .Eq) bEq := OpRimp op_eq (by
  rintro x y H Q ⟨G, F, M, dx, dy, Qt, R, px, py, h, k⟩
  unfold bEq at h
  cases e : dScal dx dy with
  | none => simp only [e] at h
  | some b =>
    simp only [e] at h
    obtain ⟨h1, h2⟩ := dScal_of px py e
    exact ⟨h1, k _ F H M _ (Same.refl _) R (by rw [h2]; exact .bl b) h⟩)
theorem oq_ne : OpQ X (compareOp .NotEq) bNe := OpRimp op_ne (by
  rintro x y H Q ⟨G, F, M, dx, dy, Qt, R, px, py, h, k⟩
  unfold bNe at h
  cases e : dScal dx dy with
  | none => simp only [e] at h
  | some b =>
    simp only [e] at h
    obtain ⟨h1, h2⟩ := dScal_of px py e
    exact ⟨h1, k _ F H M _ (Same.refl _) R (by rw [h2]; exact .bl _) h⟩)
def isNonD : D → Bool
  | .non => true
  | _ => false
theorem isNonD_of {K : PySem.W.Frag} {F : Hp} {v : V} {x : D} (px : Rp K F v x) : decide (v = .non) = isNonD x := by
  cases px <;> rfl
def bIsN : R2t := fun x y M Q => match y with
  | .non => Q (.bl (isNonD x)) M
  | _ => False
def bNotN : R2t := fun x y M Q => match y with
  | .non => Q (.bl (!isNonD x)) M
  | _ => False
theorem oq_isN : OpQ X (compareOp .Is) bIsN := OpRimp op_isN (by
  rintro x y H Q ⟨G, F, M, dx, dy, Qt, R, px, py, h, k⟩
  cases py <;> first | exact (show False from h).elim | exact ⟨rfl, k _ F H M _ (Same.refl _) R (by rw [isNonD_of px]; exact .bl _) h⟩)
theorem oq_notN : OpQ X (compareOp .IsNot) bNotN := OpRimp op_notN (by
  rintro x y H Q ⟨G, F, M, dx, dy, Qt, R, px, py, h, k⟩
  cases py <;> first | exact (show False from h).elim | exact ⟨rfl, k _ F H M _ (Same.refl _) R (by rw [isNonD_of px]; exact .bl _) h⟩)
end
/-! ### texts, lists, tuples joined -/
def bCatS : R2t := fun x y M Q => match x, y with
  | .str a, .str b => a.length + b.length ≤ sizeLine ∧ Q (.str (a ++ b)) M
  | _, _ => False
/-- a new frozen list -/
def bCatL : R2t := fun x y M Q => match lstOf M x, lstOf M y with
  | some a, some b => a.length + b.length ≤ sizeLine ∧ Q (.lst (a ++ b)) M
  | _, _ => False
/-- a new changing list -/
def bCatM : R2t := fun x y M Q => match lstOf M x, lstOf M y with
  | some a, some b => a.length + b.length ≤ sizeLine ∧ ∀ p, M p = none → Q (.ref p) (mup M p (.lst (a ++ b)))
  | _, _ => False
section
variable {X : Cx}
/-- list + list, frozen ones too -/
def rCatR (K : PySem.W.Frag) : R2 := fun x y H Q => ∃ l b xs zs, x = .ref l ∧ y = .ref b ∧ SqL K H l xs ∧ SqL K H b zs ∧ xs.length + zs.length ≤ sizeLine ∧ ∀ p, H p = none → Q (.ref p) (upd H p (.lst (xs ++ zs)))
theorem op_catR : OpR X (binaryOp .Add) (rCatR X.K) := by
  intro pins s σ H x y v u Q I rx ry h
  obtain ⟨l, b, xs, zs, rfl, rfl, hH, hB, hz, q⟩ := h
  cases rx
  cases ry
  obtain ⟨its, r, ⟨⟨cls, dd, data, sl⟩, n, ho, hc, hdd, hd⟩, z⟩ := I.list hH
  obtain ⟨its2, r2, ⟨⟨cls2, dd2, data2, sl2⟩, n2, ho2, hc2, hdd2, hd2⟩, z2⟩ := I.list hB
  simp only at hc hd hc2 hd2
  subst hc hd hc2 hd2
  have e1 := r.length
  have e2 := r2.length
  refine PySem.concat_meets ⟨_, ho, rfl⟩ ⟨_, ho2, rfl⟩ PySem.noFill_list_add PySem.seq_list_add PySem.F.slot_list_add PySem.F.entry_list_add (PySem.F.args_list_add_2 _ _) (PyProof.Rows.list_addW l b its.toArray its2.toArray n n2 dd dd2 sl sl2 (by rw [List.size_toArray, List.size_toArray]; omega)) ⟨ho, ho2, ?_⟩
  have ea : its.toArray ++ its2.toArray = (its ++ its2).toArray := by simp
  rw [ea]
  exact ⟨.ref _, _, I.lnew (t' := s.toks) (r.append r2) (by rw [List.length_append]; omega), rfl, q _ I.fresh⟩
theorem oq_addS : OpQ X (binaryOp .Add) bCatS := OpRimp op_add_str (by
  rintro x y H Q ⟨G, F, M, dx, dy, Qt, R, px, py, h, k⟩
  cases px <;> first
    | exact (show False from h).elim
    | (cases py <;> first | exact (show False from h).elim | exact ⟨_, _, rfl, rfl, h.1, k _ F H M _ (Same.refl _) R (.str _) h.2⟩))
end
section
variable {K : PySem.W.Frag}
theorem lst_two {r : R2t} {G F H : Hp} {M : MH} {x y : V} {dx dy : D} (R : Rel K G F H M) (px : Rp K F x dx) (py : Rp K F y dy) {a b : List D} (e1 : lstOf M dx = some a) (e2 : lstOf M dy = some b) :
    ∃ l m xs zs, x = .ref l ∧ y = .ref m ∧ SqL K H l xs ∧ SqL K H m zs ∧ Rps K F xs a ∧ Rps K F zs b := by
  obtain ⟨l, xs, h1, h2, h3⟩ := lst_of R px e1
  obtain ⟨m, zs, h4, h5, h6⟩ := lst_of R py e2
  exact ⟨l, m, xs, zs, h1, h4, h2, h5, h3, h6⟩
end
section
variable {X : Cx}
theorem oq_catL : OpQ X (binaryOp .Add) bCatL := OpRimp op_catR (by
  rintro x y H Q ⟨G, F, M, dx, dy, Qt, R, px, py, h, k⟩
  unfold bCatL at h
  cases e1 : lstOf M dx with
  | none => simp only [e1] at h
  | some a =>
    cases e2 : lstOf M dy with
    | none => simp only [e1, e2] at h
    | some b =>
      simp only [e1, e2] at h
      obtain ⟨l, m, xs, zs, rfl, rfl, h2, h5, h3, h6⟩ := lst_two (r := bCatL) R px py e1 e2
      refine ⟨l, m, xs, zs, rfl, rfl, h2, h5, by rw [h3.length, h6.length]; exact h.1, fun p np => ?_⟩
      obtain ⟨s, r⟩ := R.newF (o := .lst (xs ++ zs)) np
      exact k _ _ _ M _ s r (.lst upd_same ((h3.append h6).mono s)) h.2)
theorem oq_catM : OpQ X (binaryOp .Add) bCatM := OpRimp op_catR (by
  rintro x y H Q ⟨G, F, M, dx, dy, Qt, R, px, py, h, k⟩
  unfold bCatM at h
  cases e1 : lstOf M dx with
  | none => simp only [e1] at h
  | some a =>
    cases e2 : lstOf M dy with
    | none => simp only [e1, e2] at h
    | some b =>
      simp only [e1, e2] at h
      obtain ⟨l, m, xs, zs, rfl, rfl, h2, h5, h3, h6⟩ := lst_two (r := bCatM) R px py e1 e2
      refine ⟨l, m, xs, zs, rfl, rfl, h2, h5, by rw [h3.length, h6.length]; exact h.1, fun p np => ?_⟩
      exact k _ _ _ _ _ (Same.refl _) (R.newM (u := .lst (xs ++ zs)) (o := .lst (a ++ b)) np (h3.append h6)) (.ref p) (h.2 p (R.free np).2))
end
/-! ### displays -/
/-- (a, b) -/
def tTu (t : TAt) : TEt := fun τ M Q => t τ M fun ds M1 => ds.length ≤ sizeLine ∧ Q (.tup ds) M1
/-- [a, b]: it stays as it is -/
def tLi (t : TAt) : TEt := fun τ M Q => t τ M fun ds M1 => ds.length ≤ sizeLine ∧ Q (.lst ds) M1
/-- [a, b]: it may change -/
def tLm (t : TAt) : TEt := fun τ M Q => t τ M fun ds M1 => ds.length ≤ sizeLine ∧ ∀ p, M1 p = none → Q (.ref p) (mup M1 p (.lst ds))
section
variable {X : Cx} {E : XK} {Et : XT} {es : List Expr} {t : TAt} {pos : Pos}
theorem q_tup {x1} (h : QA X E Et es t) : QE X E Et (.Tuple es x1 pos) (tTu t) := PEimp (pe_tup h) (by
  rintro σ H Q ⟨G, F, M, τ, Qt, a, h, k⟩
  refine ⟨G, F, M, τ, _, a, h, fun vs F1 H1 M1 ds s1 r1 p1 q1 => ⟨by rw [p1.length]; exact q1.1, fun p np => ?_⟩⟩
  obtain ⟨s, r⟩ := r1.newF (o := .tup vs) np
  exact k _ _ _ M1 _ (s1.trans s) r (.tup upd_same (p1.mono s)) q1.2)
theorem q_lst (h : QA X E Et es t) : QE X E Et (.List es pos) (tLi t) := PEimp (pe_lst h) (by
  rintro σ H Q ⟨G, F, M, τ, Qt, a, h, k⟩
  refine ⟨G, F, M, τ, _, a, h, fun vs F1 H1 M1 ds s1 r1 p1 q1 => ⟨by rw [p1.length]; exact q1.1, fun p np => ?_⟩⟩
  obtain ⟨s, r⟩ := r1.newF (o := .lst vs) np
  exact k _ _ _ M1 _ (s1.trans s) r (.lst upd_same (p1.mono s)) q1.2)
theorem q_lstM (h : QA X E Et es t) : QE X E Et (.List es pos) (tLm t) := PEimp (pe_lst h) (by
  rintro σ H Q ⟨G, F, M, τ, Qt, a, h, k⟩
  refine ⟨G, F, M, τ, _, a, h, fun vs F1 H1 M1 ds s1 r1 p1 q1 => ⟨by rw [p1.length]; exact q1.1, fun p np => ?_⟩⟩
  exact k _ _ _ _ _ s1 (r1.newM (u := .lst vs) (o := .lst ds) np p1) (.ref p) (q1.2 p (r1.free np).2))
end
/-! ### what is as it was, told otherwise -/
/-- at M the value d may as well be told as d' at M' -/
def ReR (K : PySem.W.Frag) (d : D) (M : MH) (d' : D) (M' : MH) : Prop := ∀ G F H v, Rel K G F H M → Rp K F v d → ∃ F', Same F F' ∧ Rel K G F' H M' ∧ Rp K F' v d'
def tRe (K : PySem.W.Frag) (t : TEt) : TEt := fun τ M Q => t τ M fun d M1 => ∃ d' M2, ReR K d M1 d' M2 ∧ Q d' M2
section
variable {K : PySem.W.Frag}
theorem ReR.refl {d : D} {M : MH} : ReR K d M d M := fun G F H v R p => ⟨F, Same.refl _, R, p⟩
theorem ReR.trans {d d1 d2 : D} {M M1 M2 : MH} (a : ReR K d M d1 M1) (b : ReR K d1 M1 d2 M2) : ReR K d M d2 M2 := fun G F H v R p => by
  obtain ⟨F1, s1, R1, p1⟩ := a G F H v R p
  obtain ⟨F2, s2, R2, p2⟩ := b G F1 H v R1 p1
  exact ⟨F2, s1.trans s2, R2, p2⟩
theorem ReR.drop {d : D} {M M' : MH} (h : ∀ a o, M' a = some o → M a = some o) : ReR K d M d M' := fun G F H v R p => ⟨F, Same.refl _, R.drop h, p⟩
theorem ReR.freeze {a : Addr} {ds : List D} {M : MH} (h : M a = some (.lst ds)) : ReR K (.ref a) M (.lst ds) (mdel M a) := fun G F H v R p => by
  obtain ⟨F', s, R', r⟩ := R.freeze h
  cases p
  exact ⟨F', s, R', r⟩
/-- the commonest: a list made here is handed back -/
theorem ReR.made {a : Addr} {ds : List D} {M : MH} (h : M a = none) : ReR K (.ref a) (mup M a (.lst ds)) (.lst ds) M := by
  have := ReR.freeze (K := K) (a := a) (ds := ds) (M := mup M a (.lst ds)) mup_same
  rw [mdel_mup h] at this
  exact this
/-- any other value, while a list is frozen -/
theorem ReR.other {d : D} {a : Addr} {ds : List D} {M : MH} (h : M a = some (.lst ds)) : ReR K d M d (mdel M a) := fun G F H v R p => by
  obtain ⟨F', s, R', r⟩ := R.freeze h
  exact ⟨F', s, R', p.mono s⟩
end
section
variable {X : Cx} {E : XK} {Et : XT} {e : Expr} {t : TEt}
theorem q_re (h : QE X E Et e t) : QE X E Et e (tRe X.K t) := PEimp h (by
  rintro σ H Q ⟨G, F, M, τ, Qt, a, h, k⟩
  refine ⟨G, F, M, τ, _, a, h, fun v F1 H1 M1 d s1 r1 p1 ⟨d', M2, re, q⟩ => ?_⟩
  obtain ⟨F', s, R', p'⟩ := re G F1 H1 v r1 p1
  exact k v F' H1 M2 d' (s1.trans s) R' p' q)
end
/-- the same of all slots -/
def ReS (K : PySem.W.Frag) (τ : Sg) (M : MH) (τ' : Sg) (M' : MH) : Prop := ∀ G F H σ, Rel K G F H M → Sgr K F σ τ → ∃ F', Same F F' ∧ Rel K G F' H M' ∧ Sgr K F' σ τ'
def sRe (K : PySem.W.Frag) (u : TSt) : TSt := fun D τ M => ∃ τ' M', ReS K τ M τ' M' ∧ u D τ' M'
section
variable {X : Cx} {E : XK} {Et : XT} {sts : List Stmt} {u : TSt}
theorem qss_re (h : QSs X E Et sts u) : QSs X E Et sts (sRe X.K u) := PSsimp h (by
  rintro D σ H ⟨G, F, M, τ, Dt, a, en, τ', M', re, h⟩
  obtain ⟨F', s, R', sg⟩ := re G F H σ a.rel a.sg
  exact ⟨G, F', M', τ', Dt, ⟨R', sg, a.el.mono s⟩, en.mono s, h⟩)
/-- slot i's list is frozen -/
theorem ReS.freeze {K : PySem.W.Frag} {τ : Sg} {M : MH} {i : Nat} {a : Addr} {ds : List D} (h : nth τ i = some (.ref a)) (hm : M a = some (.lst ds)) : ReS K τ M (τ.set i (some (.lst ds))) (mdel M a) := fun G F H σ R sg => by
  obtain ⟨F', s, R', r⟩ := R.freeze hm
  refine ⟨F', s, R', ?_⟩
  have g := sg.mono s
  obtain ⟨v, h1, h2⟩ := g.2 i _ (nth_get h)
  cases h2
  have e : σ = σ.set i (some (.ref a)) := by
    apply List.ext_getElem?
    intro j
    by_cases hij : i = j
    · subst hij
      rw [h1, List.getElem?_set_self (List.getElem?_eq_some_iff.mp h1).1]
    · rw [List.getElem?_set_ne hij]
  rw [e]
  exact g.set r
theorem ReS.drop {K : PySem.W.Frag} {τ : Sg} {M M' : MH} (h : ∀ a o, M' a = some o → M a = some o) : ReS K τ M τ M' := fun G F H σ R sg => ⟨F, Same.refl _, R.drop h, sg⟩
theorem ReS.refl {K : PySem.W.Frag} {τ : Sg} {M : MH} : ReS K τ M τ M := fun G F H σ R sg => ⟨F, Same.refl _, R, sg⟩
theorem ReS.trans {K : PySem.W.Frag} {τ τ1 τ2 : Sg} {M M1 M2 : MH} (a : ReS K τ M τ1 M1) (b : ReS K τ1 M1 τ2 M2) : ReS K τ M τ2 M2 := fun G F H v R p => by
  obtain ⟨F1, s1, R1, p1⟩ := a G F H v R p
  obtain ⟨F2, s2, R2, p2⟩ := b G F1 H v R1 p1
  exact ⟨F2, s1.trans s2, R2, p2⟩
end
/-! ### items -/
/-- x[i]: of a tuple, a list, a text -/
def bIx : R2t := fun x y M Q => match y with
  | .int i => match x with
    | .str z => z.length ≤ sizeLine ∧ match atI z.cps.toList i with
      | some c => Q (.str ⟨#[c]⟩) M
      | none => False
    | .tup ds => match atI ds i with
      | some d => Q d M
      | none => False
    | .tab ds => match atI ds i with
      | some d => Q d M
      | none => False
    | x => match lstOf M x with
      | some ds => match atI ds i with
        | some d => Q d M
        | none => False
      | none => False
  | _ => False
theorem Rps.at {K : PySem.W.Frag} {F : Hp} {vs : List V} {ds : List D} {i : Int} {d : D} (r : Rps K F vs ds) (h : atI ds i = some d) : ∃ v, atI vs i = some v ∧ Rp K F v d := by
  unfold atI at h ⊢
  rw [r.length]
  cases e : ixN ds.length i with
  | none => rw [e] at h; cases h
  | some j =>
    rw [e] at h
    exact r.getD (i := j) h
section
variable {X : Cx} {E : XK} {Et : XT} {a b : Expr} {ta tb : TEt} {pos : Pos}
theorem ixq : ∀ x y H Q, lr2 X.K bIx x y H Q → rIx X.K x y H Q := by
  rintro x y H Q ⟨G, F, M, dx, dy, Qt, R, px, py, h, k⟩
  cases py with
  | int i =>
    cases px with
    | str z =>
      obtain ⟨h1, h2⟩ := (show _ ∧ _ from h)
      cases e : atI z.cps.toList i with
      | none => rw [e] at h2; exact h2.elim
      | some c =>
        rw [e] at h2
        exact .inr (.inr ⟨z, i, c, rfl, rfl, h1, e, k _ F H M _ (Same.refl _) R (.str _) h2⟩)
    | @tup aa vs ds h0 r0 =>
      have h2 : (match atI ds i with | some d => Qt d M | none => False) := h
      cases e : atI ds i with
      | none => rw [e] at h2; exact h2.elim
      | some c =>
        rw [e] at h2
        obtain ⟨v, hv, rv⟩ := r0.at e
        exact .inr (.inl ⟨aa, vs, i, v, rfl, rfl, SqT.of (R.sub _ _ h0), hv, k _ F H M _ (Same.refl _) R rv h2⟩)
    | @tab aa vs ds h0 r0 =>
      have h2 : (match atI ds i with | some d => Qt d M | none => False) := h
      cases e : atI ds i with
      | none => rw [e] at h2; exact h2.elim
      | some c =>
        rw [e] at h2
        obtain ⟨v, hv, rv⟩ := r0.at e
        exact .inr (.inl ⟨aa, vs, i, v, rfl, rfl, SameT R.sub h0, hv, k _ F H M _ (Same.refl _) R rv h2⟩)
    | @lst aa vs ds h0 r0 =>
      have h2 : (match atI ds i with | some d => Qt d M | none => False) := h
      cases e : atI ds i with
      | none => rw [e] at h2; exact h2.elim
      | some c =>
        rw [e] at h2
        obtain ⟨v, hv, rv⟩ := r0.at e
        exact .inl ⟨aa, vs, i, v, rfl, rfl, SqL.of (R.sub _ _ h0), hv, k _ F H M _ (Same.refl _) R rv h2⟩
    | @scr aa vs ds h0 r0 =>
      have h2 : (match atI ds i with | some d => Qt d M | none => False) := h
      cases e : atI ds i with
      | none => rw [e] at h2; exact h2.elim
      | some c =>
        rw [e] at h2
        obtain ⟨v, hv, rv⟩ := r0.at e
        exact .inl ⟨aa, vs, i, v, rfl, rfl, R.sub.seq h0, hv, k _ F H M _ (Same.refl _) R rv h2⟩
    | ref aa =>
      have h2 : (match lstOf M (.ref aa) with | some ds => (match atI ds i with | some d => Qt d M | none => False) | none => False) := h
      cases q : lstOf M (.ref aa) with
      | none => rw [q] at h2; exact h2.elim
      | some ds =>
        rw [q] at h2
        obtain ⟨b, vs, eb, hs, r⟩ := lst_of R (.ref aa) q
        cases eb
        have h2 : (match atI ds i with | some d => Qt d M | none => False) := h2
        cases e : atI ds i with
        | none => rw [e] at h2; exact h2.elim
        | some c =>
          rw [e] at h2
          obtain ⟨v, hv, rv⟩ := r.at e
          exact .inl ⟨aa, vs, i, v, rfl, rfl, hs, hv, k _ F H M _ (Same.refl _) R rv h2⟩
    | _ => exact (show False from h).elim
  | _ => exact (show False from h).elim
theorem q_ix (ha : QE X E Et a ta) (hb : QE X E Et b tb) (hs : PlainIx b := by exact fun _ _ => rfl) : QE X E Et (.Subscript a b pos) (tO bIx ta tb) := PEimp (pe_ix ix_seq ha hb hs) (fun σ H Q h => by
  have := lv_op _ _ _ h
  obtain ⟨G, F, M, τ, Qt, a, h, k⟩ := this
  refine ⟨G, F, M, τ, Qt, a, h, fun v F' H' M' d s r p q => ?_⟩
  obtain ⟨G, F2, M2, τ2, Q2, a2, h2, k2⟩ := k v F' H' M' d s r p q
  exact ⟨G, F2, M2, τ2, Q2, a2, h2, fun v2 F3 H3 M3 d2 s2 r2 p2 q2 => ixq _ _ _ _ (k2 v2 F3 H3 M3 d2 s2 r2 p2 q2)⟩)
end
/-! ### slices -/
abbrev TOt := Sg → MH → (Option Int → MH → Prop) → Prop
def liftO (K : PySem.W.Frag) (E : XK) (Et : XT) (t : TOt) : TO := fun σ H Q => ∃ G F M τ Qt, At K E Et G F H M σ τ ∧ t τ M Qt ∧ ∀ b F' H' M', Same F F' → Rel K G F' H' M' → Qt b M' → Q b H'
abbrev QO (X : Cx) (E : XK) (Et : XT) (e : Option Expr) (t : TOt) : Prop := PO X e (liftO X.K E Et t)
def oNo : TOt := fun _ M Q => Q none M
def oYes (t : TEt) : TOt := fun τ M Q => t τ M fun d M1 => match d with
  | .int i => Q (some i) M1
  | _ => False
def cutD (xs : List D) (lo hi : Option Int) : List D := (xs.drop (HT.sIx xs.length 0 lo)).take (HT.sIx xs.length xs.length hi - HT.sIx xs.length 0 lo)
def tSc (r : D → Option Int → Option Int → MH → VD → Prop) (te : TEt) (tl th : TOt) : TEt := fun τ M Q => te τ M fun x M1 => tl τ M1 fun l M2 => th τ M2 fun u M3 => r x l u M3 Q
/-- of a list: a new frozen one -/
def cSlL : D → Option Int → Option Int → MH → VD → Prop := fun x lo hi M Q => match lstOf M x with
  | some ds => Q (.lst (cutD ds lo hi)) M
  | none => False
def cSlM : D → Option Int → Option Int → MH → VD → Prop := fun x lo hi M Q => match lstOf M x with
  | some ds => ∀ p, M p = none → Q (.ref p) (mup M p (.lst (cutD ds lo hi)))
  | none => False
def cSlS : D → Option Int → Option Int → MH → VD → Prop := fun x lo hi M Q => match x with
  | .str z => z.length ≤ sizeLine ∧ Q (.str (cutS z lo hi)) M
  | _ => False
theorem Rps.cut {K : PySem.W.Frag} {F : Hp} {vs : List V} {ds : List D} {lo hi : Option Int} (r : Rps K F vs ds) : Rps K F (cutV vs lo hi) (cutD ds lo hi) := by
  unfold cutV cutD
  rw [r.length]
  exact (r.drop _).take _
section
variable {X : Cx} {E : XK} {Et : XT} {e : Expr} {te : TEt} {lo hi : Option Expr} {tl th : TOt} {pos p2 : Pos}
theorem qo_none : QO X E Et none oNo := ⟨fun pins s σ H Q I h => po_none.run pins s σ H Q I (by
  obtain ⟨G, F, M, τ, Qt, a, h, k⟩ := h
  exact k none F H M (Same.refl _) a.rel h)⟩
theorem qo_some (h : QE X E Et e te) : QO X E Et (some e) (oYes te) := ⟨fun pins s σ H Q I w => (po_some h).run pins s σ H Q I (by
  obtain ⟨G, F, M, τ, Qt, a, w, k⟩ := w
  refine ⟨G, F, M, τ, _, a, w, fun v F1 H1 M1 d s1 r1 p1 q1 => ?_⟩
  cases p1 <;> first | exact (show False from q1).elim | exact ⟨_, rfl, k _ F1 H1 M1 s1 r1 q1⟩)⟩
def lSl (K : PySem.W.Frag) (r : D → Option Int → Option Int → MH → VD → Prop) : V → Option Int → Option Int → Hp → VK → Prop := fun x lo hi H Q => ∃ G F M dx Qt, Rel K G F H M ∧ Rp K F x dx ∧ r dx lo hi M Qt ∧ ∀ v F' H' M' d, Same F F' → Rel K G F' H' M' → Rp K F' v d → Qt d M' → Q v H'
theorem q_slice {r : D → Option Int → Option Int → MH → VD → Prop} {rr : V → Option Int → Option Int → Hp → VK → Prop} (hr : SlR X rr) (hi0 : ∀ x lo hi H Q, lSl X.K r x lo hi H Q → rr x lo hi H Q) (he : QE X E Et e te) (hl : QO X E Et lo tl) (hu : QO X E Et hi th) :
    QE X E Et (.Subscript e (.Slice lo hi none p2) pos) (tSc r te tl th) := PEimp (pe_slice hr he hl hu) (by
  rintro σ H Q ⟨G, F, M, τ, Qt, a, h, k⟩
  refine ⟨G, F, M, τ, _, a, h, fun v F1 H1 M1 d s1 r1 p1 q1 => ?_⟩
  refine ⟨G, F1, M1, τ, _, a.step s1 r1, q1, fun l F2 H2 M2 s2 r2 q2 => ?_⟩
  refine ⟨G, F2, M2, τ, _, a.step (s1.trans s2) r2, q2, fun u F3 H3 M3 s3 r3 q3 => hi0 _ _ _ _ _ ?_⟩
  exact ⟨G, F3, M3, d, Qt, r3, p1.mono (s2.trans s3), q3, fun v F' H' M' d s => k v F' H' M' d (((s1.trans s2).trans s3).trans s)⟩)
theorem q_sliceL (he : QE X E Et e te) (hl : QO X E Et lo tl) (hu : QO X E Et hi th) : QE X E Et (.Subscript e (.Slice lo hi none p2) pos) (tSc cSlL te tl th) := q_slice sl_list (by
  rintro x lo hi H Q ⟨G, F, M, dx, Qt, R, p, h, k⟩
  unfold cSlL at h
  cases q : lstOf M dx with
  | none => simp only [q] at h
  | some ds =>
    simp only [q] at h
    obtain ⟨b, vs, rfl, hs, r⟩ := lst_of R p q
    refine ⟨b, vs, rfl, hs, fun p np => ?_⟩
    obtain ⟨s, r1⟩ := R.newF (o := .lst (cutV vs lo hi)) np
    exact k _ _ _ M _ s r1 (.lst upd_same (r.cut.mono s)) h) he hl hu
theorem q_sliceS (he : QE X E Et e te) (hl : QO X E Et lo tl) (hu : QO X E Et hi th) : QE X E Et (.Subscript e (.Slice lo hi none p2) pos) (tSc cSlS te tl th) := q_slice sl_str (by
  rintro x lo hi H Q ⟨G, F, M, dx, Qt, R, p, h, k⟩
  cases p <;> first | exact (show False from h).elim | exact ⟨_, rfl, h.1, k _ F H M _ (Same.refl _) R (.str _) h.2⟩) he hl hu
end
end Tl
namespace Tl
open PySem PySem.Spec PyProof.Rows L2
/-! ### a def of the text -/
def begin_ (N : List Str) (ds : List D) : Sg := ds.map some ++ List.replicate (N.length - ds.length) none
theorem sg_start {K : PySem.W.Frag} {F : Hp} {N : List Str} {vs : List V} {ds : List D} (r : Rps K F vs ds) : Sgr K F (L2.start N vs) (begin_ N ds) := by
  refine ⟨by unfold L2.start begin_; rw [List.length_append, List.length_append, List.length_map, List.length_map, List.length_replicate, List.length_replicate, r.length], fun i d e => ?_⟩
  unfold begin_ at e
  unfold L2.start
  by_cases hi : i < ds.length
  · rw [List.getElem?_append_left (by rw [List.length_map]; exact hi), List.getElem?_map] at e
    rw [List.getElem?_append_left (by rw [List.length_map, r.length]; exact hi), List.getElem?_map]
    cases q : ds[i]? with
    | none => rw [q] at e; cases e
    | some x =>
      rw [q] at e
      have ex : x = d := Option.some.inj (Option.some.inj e)
      subst ex
      obtain ⟨v, h1, h2⟩ := r.getD q
      exact ⟨v, by rw [h1]; rfl, h2⟩
  · rw [List.getElem?_append_right (by rw [List.length_map]; omega)] at e
    have := List.mem_of_getElem? e
    rw [List.mem_replicate] at this
    exact absurd this.2 (by simp)
section
variable {P : Program} {w : World} {K : PySem.W.Frag} {mg : Str → Option Value} {base : Heap} {x qual : Str} {params : Arguments} {body : List Stmt} {scope : Scope} {f : Addr} {fd : FuncData} {N ps : List Str} {k : Nat} {sp : SpT}
/-- a def that raises nothing -/
theorem fn_ok (F : He.DefD) (fd : FuncData) (hF : FunD K F.name F.qual F.params F.body F.scope [] [] f fd) (S : FnScope N ps F.scope) (len : ∀ ds M Q Et, sp ds M Q Et → ds.length = ps.length)
    (hb : ∀ (cdv : Value) (A : Around) (outer : List Env) (s : Shared) (H : Hp) (E : XK), Room k (A.deeper (envOfC F.qual F.scope s.heap.objs.size f cdv)) →
      ∃ t, QSs (cxOf CX0 P w K mg base N F.qual F.scope f cdv A outer s H E).nox E0 Et0 F.body t ∧ ∀ ds M Q Et, sp ds M Q Et → t { nx := fun _ M' => Q .non M', rt := Q } (begin_ N ds) M) : FnOk P w K mg base CX0 (k + 1) f fd ps (lSp K sp) := by
  refine hF.ok S (fun vs H Q E h => ?_) fun cdv A outer s H vs Q E hr h => ?_
  · obtain ⟨G, F, M, ds, Qt, Et, R, r, _, h, _⟩ := h
    rw [r.length]
    exact len _ _ _ _ h
  · obtain ⟨t, ht, hw⟩ := hb cdv A outer s H E hr
    obtain ⟨G, F, M, ds, Qt, Et, R, r, el, h, kk⟩ := h
    refine ⟨_, PSs.nox ht, G, F, M, begin_ N ds, { nx := fun _ M' => Qt .non M', rt := Qt }, ⟨R, sg_start r, .never⟩, ?_, hw ds M Qt Et h⟩
    exact ⟨fun F' H' M' σ τ s a q => kk .non F' H' M' .non s a.rel .non q, fun F' H' M' v d s R' p q => kk v F' H' M' d s R' p q, fun _ _ _ _ _ _ _ q => q.elim, fun _ _ _ _ _ _ _ q => q.elim⟩
end
/-! ### facts of the top -/
/-- what the head tells -/
structure Top (fa : List He.Fa) (fn : List He.DefD) (K : PySem.W.Frag) (mg : Str → Option Value) : Prop where
  says : He.SaysD fa fn K
  at_ : ∃ h : Heap, K.In h ∧ h.Ns mainGlobals mg
section
variable {fa : List He.Fa} {fn : List He.DefD} {K : PySem.W.Frag} {mg : Str → Option Value}
theorem Top.glo (T : Top fa fn K mg) (i : Nat) {x : Str} (h : fa[i]? = some (.glo x) := by rfl) : mg x = some (.ref (He.ga K x)) := by
  obtain ⟨_, X, G⟩ := T.at_
  exact He.glo_ok X G (T.says.fact i h)
theorem Top.free (T : Top fa fn K mg) (i : Nat) {x : Str} (h : fa[i]? = some (.free x) := by rfl) : mg x = none := by
  obtain ⟨_, X, G⟩ := T.at_
  exact He.free_ok X G (T.says.fact i h)
theorem Top.int (T : Top fa fn K mg) (i : Nat) {x : Str} {z : Int} (h : fa[i]? = some (.int x z) := by rfl) : ∃ t, mg x = some (.int z t) := by
  obtain ⟨_, X, G⟩ := T.at_
  exact He.int_ok X G (T.says.fact i h)
theorem Top.str (T : Top fa fn K mg) (i : Nat) {x : Str} {z : Str} (h : fa[i]? = some (.str x z) := by rfl) : ∃ t, mg x = some (.str z t) := by
  obtain ⟨_, X, G⟩ := T.at_
  exact He.str_ok X G (T.says.fact i h)
end
section
variable {P : Program} {w : World} {K : PySem.W.Frag} {mg : Str → Option Value} {base : Heap} {x : Str} {N ps : List Str} {k : Nat} {sp : SpT} {fa : List He.Fa} {fn : List He.DefD}
/-- THE RULE of a def at the top, called by its name -/
theorem fn_top (T : Top fa fn K mg) (i : Nat) (d : He.DefD) (m : mg x = some (.ref (He.ga K x))) (S : FnScope N ps d.scope) (len : ∀ ds M Q Et, sp ds M Q Et → ds.length = ps.length)
    (hb : ∀ (cdv : Value) (A : Around) (outer : List Env) (s : Shared) (H : Hp) (E : XK), Room k (A.deeper (envOfC d.qual d.scope s.heap.objs.size (He.ga K x) cdv)) →
      ∃ t, QSs (cxOf CX0 P w K mg base N d.qual d.scope (He.ga K x) cdv A outer s H E).nox E0 Et0 d.body t ∧ ∀ ds M Q Et, sp ds M Q Et → t { nx := fun _ M' => Q .non M', rt := Q } (begin_ N ds) M)
    (bd : ∀ (kV doc pm : Value) (an : Option Addr) (cdv ct : Value) (us : List Value), us.length = ps.length → bindArgs (PySem.W.fnOf d.name d.qual d.params d.body d.scope .none kV doc pm an cdv ct) ⟨us, []⟩ = pure (ps.zip us))
    (h : fn[i]? = some d := by rfl) (h0 : d.dfl = [] := by rfl) (h1 : d.kwd = [] := by rfl) (hx : He.fAd K d.at_ = He.ga K x := by rfl) : Fn P w K mg base CX0 (k + 1) x sp := by
  obtain ⟨fd, F⟩ := T.says.def_ i h
  have e0 : d.dvs K = [] := by unfold He.DefD.dvs; rw [h0]; rfl
  have e1 : d.kws K = [] := by unfold He.DefD.kws; rw [h1]; rfl
  rw [e0, e1, hx] at F
  exact ⟨⟨fd, ps, fn_ok d fd F S len hb, F.bindsN bd⟩, m, F.kp⟩
end
/-! ### kinds -/
def dTy (M : MH) : D → Option String
  | .non => some "NoneType"
  | .bl _ => some "bool"
  | .int _ => some "int"
  | .str _ => some "str"
  | .tup _ => some "tuple"
  | .tab _ => some "tuple"
  | .lst _ => some "list"
  | .ref a => match M a with
    | some (.lst _) => some "list"
    | some (.dK _) => some "dict"
    | some (.dT _) => some "dict"
    | _ => none
  | _ => none
def cIsi : RLt := fun ds M Q => match ds with
  | [x, .ty T] => match dTy M x with
    | some t => match kitB t T with
      | some b => Q (.bl b) M
      | none => False
    | none => False
  | _ => False
theorem tyX_of {K : PySem.W.Frag} {G F H : Hp} {M : MH} {v : V} {x : D} {t : String} (R : Rel K G F H M) (p : Rp K F v x) (e : dTy M x = some t) : TyX K H v (.type t) := by
  cases p with
  | non => cases e; exact .base .non
  | bl b => cases e; exact .base (.bl b)
  | int i => cases e; exact .base (.int i)
  | str z => cases e; exact .base (.str z)
  | tup h r => cases e; exact .base (.tup (R.sub _ _ h))
  | lst h r => cases e; exact .base (.lst (R.sub _ _ h))
  | tab h r =>
    cases e
    rcases SameT R.sub h with (h | ⟨o, h⟩) | ⟨o, its, n, h, hc, _⟩
    · exact .base (.tup h)
    · exact .fTuple h
    · exact .kTuple h hc
  | ref a =>
    unfold dTy at e
    cases q : M a with
    | none => simp only [q] at e; cases e
    | some o =>
      simp only [q] at e
      obtain ⟨_, u, hu, r⟩ := R.chg a o q
      cases o with
      | lst xs => cases e; cases u <;> first | exact .base (.lst hu) | exact (r : False).elim
      | dK xs => cases e; cases u <;> first | exact .base (.dK hu) | exact (r : False).elim
      | dT xs => cases e; cases u <;> first | exact .base (.dT hu) | exact (r : False).elim
      | obj => cases e
      | lk => cases e
  | _ => cases e
section
variable {X : Cx}
theorem cq_isi : CallQ X (.builtin "isinstance") cIsi := CallRimp call_isi (by
  rintro xs H Q ⟨G, F, M, ds, Qt, R, r, h, k⟩
  match ds, r, h with
  | [x, .ty T], .cons h1 (.cons (.ty _) .nil), h =>
    have h : (match dTy M x with | some t => (match kitB t T with | some b => Qt (.bl b) M | none => False) | none => False) := h
    cases e : dTy M x with
    | none => rw [e] at h; exact h.elim
    | some t =>
      rw [e] at h
      have h : (match kitB t T with | some b => Qt (.bl b) M | none => False) := h
      cases e2 : kitB t T with
      | none => rw [e2] at h; exact h.elim
      | some b =>
        rw [e2] at h
        exact ⟨_, _, _, _, b, rfl, .ty T, tyX_of R h1 e, kit_ty e2, k _ F H M _ (Same.refl _) R (.bl b) h⟩)
/-- len -/
def lenOf (M : MH) : D → Option Nat
  | .str z => if z.length ≤ sizeLine then some z.length else none
  | .tup ds => some ds.length
  | .tab ds => some ds.length
  | .lst ds => some ds.length
  | .scr ds => some ds.length
  | .ref a => match M a with
    | some (.lst ds) => some ds.length
    | _ => none
  | _ => none
def cLen : RLt := fun ds M Q => match ds with
  | [x] => match lenOf M x with
    | some n => Q (.int (n : Int)) M
    | none => False
  | _ => False
theorem lenV_of {K : PySem.W.Frag} {G F H : Hp} {M : MH} {v : V} {x : D} {n : Nat} (R : Rel K G F H M) (p : Rp K F v x) (e : lenOf M x = some n) : LenV K v H n := by
  cases p with
  | str z =>
    unfold lenOf at e
    by_cases hz : z.length ≤ sizeLine
    · simp only [if_pos hz] at e; cases e; exact ⟨hz, rfl⟩
    · simp only [if_neg hz] at e; cases e
  | tup h r => cases e; exact .inr ⟨_, SqT.of (R.sub _ _ h), by rw [r.length]⟩
  | tab h r => cases e; exact .inr ⟨_, SameT R.sub h, by rw [r.length]⟩
  | lst h r => cases e; exact .inl ⟨_, SqL.of (R.sub _ _ h), by rw [r.length]⟩
  | scr h r => cases e; exact .inl ⟨_, R.sub.seq h, by rw [r.length]⟩
  | ref a =>
    unfold lenOf at e
    cases q : M a with
    | none => simp only [q] at e; cases e
    | some o =>
      simp only [q] at e
      obtain ⟨_, u, hu, r⟩ := R.chg a o q
      cases o with
      | lst xs =>
        cases e
        cases u with
        | lst vs => exact .inl ⟨vs, SqL.of hu, by rw [Rps.length (show Rps K F vs xs from r)]⟩
        | _ => exact (r : False).elim
      | _ => cases e
  | _ => cases e
theorem cq_len : CallQ X (.builtin "len") cLen := CallRimp call_len (by
  rintro xs H Q ⟨G, F, M, ds, Qt, R, r, h, k⟩
  match ds, r, h with
  | [x], .cons h1 .nil, h =>
    have h : (match lenOf M x with | some n => Qt (.int (n : Int)) M | none => False) := h
    cases e : lenOf M x with
    | none => rw [e] at h; exact h.elim
    | some n =>
      rw [e] at h
      exact ⟨_, n, rfl, lenV_of R h1 e, k _ F H M _ (Same.refl _) R (.int _) h⟩)
/-- int of an int, of a truth -/
def cInt : RLt := fun ds M Q => match ds with
  | [.int i] => Q (.int i) M
  | [.bl b] => Q (.int (if b then 1 else 0)) M
  | _ => False
end
/-! ### methods of lists -/
abbrev RMt := D → List D → MH → VD → Prop
def lMt (K : PySem.W.Frag) (r : RMt) : V → List V → Hp → VK → Prop := fun x xs H Q => ∃ G F M dx ds Qt, Rel K G F H M ∧ Rp K F x dx ∧ Rps K F xs ds ∧ r dx ds M Qt ∧ ∀ v F' H' M' d, Same F F' → Rel K G F' H' M' → Rp K F' v d → Qt d M' → Q v H'
def tMt (r : RMt) (to : TEt) (t : TAt) : TEt := fun τ M Q => to τ M fun x M1 => (lstOf M1 x).isSome = true ∧ t τ M1 fun xs M2 => r x xs M2 Q
def tMt0 (r : RMt) (to : TEt) : TEt := fun τ M Q => to τ M fun x M1 => (lstOf M1 x).isSome = true ∧ r x [] M1 Q
theorem ty_list {K : PySem.W.Frag} {G F H : Hp} {M : MH} {v : V} {x : D} (R : Rel K G F H M) (p : Rp K F v x) (e : (lstOf M x).isSome = true) : tyV K "list" v H := by
  obtain ⟨ds, e⟩ := Option.isSome_iff_exists.mp e
  obtain ⟨a, vs, rfl, h, _⟩ := lst_of R p e
  exact .inl ⟨rfl, vs, h⟩
def mAppend : RMt := fun x xs M Q => match x, xs with
  | .ref l, [y] => match M l with
    | some (.lst ds) => ds.length < sizeLine ∧ Q .non (mup M l (.lst (ds ++ [y])))
    | _ => False
  | _, _ => False
section
variable {X : Cx} {E : XK} {Et : XT} {o e : Expr} {es : List Expr} {to : TEt} {t : TAt} {apos cpos : Pos} {name : Str} {id : String} {r : RMt} {rr : V → List V → Hp → VK → Prop}
theorem lv_bm (hi : ∀ x xs H Q, lMt X.K r x xs H Q → rr x xs H Q) : ∀ σ H Q, liftE X.K E Et (tMt r to t) σ H Q → tBM X.K "list" rr (liftE X.K E Et to) (liftA X.K E Et t) σ H Q := by
  rintro σ H Q ⟨G, F, M, τ, Qt, a, h, k⟩
  refine ⟨G, F, M, τ, _, a, h, fun v F1 H1 M1 d s1 r1 p1 q1 => ⟨ty_list r1 p1 q1.1, ?_⟩⟩
  refine ⟨G, F1, M1, τ, _, a.step s1 r1, q1.2, fun vs F2 H2 M2 ds s2 r2 p2 q2 => hi _ _ _ _ ?_⟩
  exact ⟨G, F2, M2, d, ds, Qt, r2, p1.mono s2, p2, q2, fun v F' H' M' d s => k v F' H' M' d ((s1.trans s2).trans s)⟩
theorem lv_bm0 (hi : ∀ x xs H Q, lMt X.K r x xs H Q → rr x xs H Q) : ∀ σ H Q, liftE X.K E Et (tMt0 r to) σ H Q → tBM0 X.K "list" rr (liftE X.K E Et to) σ H Q := by
  rintro σ H Q ⟨G, F, M, τ, Qt, a, h, k⟩
  refine ⟨G, F, M, τ, _, a, h, fun v F1 H1 M1 d s1 r1 p1 q1 => ⟨ty_list r1 p1 q1.1, hi _ _ _ _ ?_⟩⟩
  exact ⟨G, F1, M1, d, [], Qt, r1, p1, .nil, q1.2, fun v F' H' M' d s => k v F' H' M' d (s1.trans s)⟩
theorem q_append (ho : QE X E Et o to) (ha : QA X E Et (e :: es) t)
    (hbase : attributeBase o "append" X.env (eval o X.env) = eval o X.env := by rfl)
    (hfew : ((backTo cpos (starEach (e :: es) X.env)).all (fun x => !x.1) && (backToKw cpos (keywordEach [] X.env)).all (fun x => x.1.isSome)
      && decide ((e :: es).length + ([] : List Keyword).length + (if ([] : List Keyword).isEmpty then 0 else 1) < 30)) = true := by rfl)
    (hline : (apos.endLine == cpos.line) = true := by rfl) (hs : starEach (e :: es) X.env = (false, eval e X.env) :: starEach es X.env := by rfl) (hplain : (backTo cpos (starEach es X.env)).any (·.1) = false := by rfl) :
    QE X E Et (.Call (.Attribute o "append" apos) (e :: es) [] cpos) (tMt mAppend to t) :=
  PEimp (pe_bm PySem.F.plainAttrs_list PySem.F.slot_list_append PySem.F.type_list_append mt_append ho ha hbase hfew hline hs hplain) (lv_bm (by
    rintro x xs H Q ⟨G, F, M, dx, ds, Qt, R, p, ps, h, k⟩
    match dx, ds, p, ps, h with
    | .ref l, [y], .ref _, .cons py .nil, h =>
      have h : (match M l with | some (.lst ds) => ds.length < sizeLine ∧ Qt .non (mup M l (.lst (ds ++ [y]))) | _ => False) := h
      cases q : M l with
      | none => simp only [q] at h
      | some mo =>
        cases mo with
        | lst ds =>
          simp only [q] at h
          obtain ⟨_, u, hu, r⟩ := R.chg l _ q
          cases u with
          | lst vs =>
            have r : Rps X.K F vs ds := r
            refine ⟨l, vs, _, rfl, rfl, hu, by rw [r.length]; exact h.1, ?_⟩
            exact k .non F _ _ .non (Same.refl _) (R.put (u := .lst (vs ++ [_])) (o := .lst (ds ++ [y])) q (r.append (.cons py .nil))) .non h.2
          | _ => exact (r : False).elim
        | _ => simp only [q] at h))
end
/-! ### comprehensions -/
def wip (τ : Sg) : List Nat → Sg
  | [] => τ
  | v :: vs => (wip τ vs).set v none
theorem sg_wipe {K : PySem.W.Frag} {F : Hp} {σ : L2.St} {τ : Sg} (h : Sgr K F σ τ) : ∀ vs : List Nat, Sgr K F (wipe σ vs) (wip τ vs)
  | [] => h
  | v :: vs => by
    have := (sg_wipe h vs).unset (i := v)
    unfold wip wipe
    exact this
abbrev QTs (X : Cx) (E : XK) (Et : XT) (es : List Expr) (t : TTt) : Prop := PTs X es (liftT X.K E Et t)
def tYe : TTt := fun _ M Q => Q true M
theorem qts_nil {X : Cx} {E : XK} {Et : XT} : QTs X E Et [] tYe := ⟨fun pins s σ H Q I h => pts_nil.run pins s σ H Q I (by
  obtain ⟨G, F, M, τ, Qt, a, h, k⟩ := h
  exact k true F H M (Same.refl _) a.rel h)⟩
theorem qts_one {X : Cx} {E : XK} {Et : XT} {c : Expr} {t : TTt} (h : QT X E Et c t) : QTs X E Et [c] t := pts_one h
/-- [elt for target in iter if ..], frozen: W by the turn and what is made so far; block slots vs; own: σ2 wipes as σ -/
def tLcF (ti : TIt) (g : TGt) (tt : TTt) (te : TEt) (vs : List Nat) : TEt := fun τ M Q => ti τ M fun I M1 => I.items.length < sizeLine ∧ ∃ W : Nat → List D → MH → Prop, W 0 [] M1 ∧ (∀ i acc M, W i acc M → I.src M ∧ acc.length ≤ i) ∧
  (∀ i x acc M, I.items[i]? = some x → W i acc M → g x (wip τ vs) M fun τ2 M2 => tt τ2 M2 fun b M3 => if b = true then te τ2 M3 fun y M4 => W (i + 1) (acc ++ [y]) M4 else W (i + 1) acc M3) ∧ ∀ acc M, W I.items.length acc M → Q (.lst acc) M
theorem wipe_get (σ : L2.St) : ∀ (vs : List Nat) (i : Nat), (wipe σ vs)[i]? = if i ∈ vs then (σ[i]?).map (fun _ => none) else σ[i]?
  | [], i => by rw [if_neg (by simp)]; rfl
  | v :: vs, i => by
    unfold wipe
    by_cases hv : v = i
    · subst hv
      rw [if_pos (List.mem_cons_self ..)]
      by_cases hl : v < σ.length
      · rw [List.getElem?_set_self (by rw [wipe_length]; exact hl), List.getElem?_eq_getElem hl]
        rfl
      · rw [List.getElem?_eq_none (by rw [List.length_set, wipe_length]; omega), List.getElem?_eq_none (by omega)]
        rfl
    · rw [List.getElem?_set_ne hv, wipe_get σ vs i]
      by_cases hm : i ∈ vs
      · rw [if_pos hm, if_pos (List.mem_cons_of_mem _ hm)]
      · rw [if_neg hm, if_neg (fun q => by
          rcases List.mem_cons.mp q with q | q
          · exact hv q.symm
          · exact hm q)]
theorem wipe_set {σ : L2.St} {vs : List Nat} {j : Nat} {x : Option V} (h : j ∈ vs) : wipe (σ.set j x) vs = wipe σ vs := by
  apply List.ext_getElem?
  intro i
  rw [wipe_get, wipe_get]
  by_cases hm : i ∈ vs
  · rw [if_pos hm, if_pos hm]
    by_cases hij : j = i
    · subst hij
      by_cases hl : j < σ.length
      · rw [List.getElem?_set_self hl, List.getElem?_eq_getElem hl]
        rfl
      · rw [List.getElem?_eq_none (by rw [List.length_set]; omega), List.getElem?_eq_none (by omega)]
    · rw [List.getElem?_set_ne hij]
  · rw [if_neg hm, if_neg hm, List.getElem?_set_ne (fun q => hm (by rw [← q]; exact h))]
theorem wipe_wipe (σ : L2.St) (vs : List Nat) : wipe (wipe σ vs) vs = wipe σ vs := by
  apply List.ext_getElem?
  intro i
  rw [wipe_get]
  by_cases hm : i ∈ vs
  · rw [if_pos hm, wipe_get, if_pos hm]
    cases σ[i]? <;> rfl
  · rw [if_neg hm]
/-- a target whose stores are the block's own -/
structure GOwn (K : PySem.W.Frag) (g : TG) (gt : TGt) (vs : List Nat) : Prop where
  lift : ∀ {G F H M σ τ v d Q Qt}, At K E0 Et0 G F H M σ τ → Rp K F v d → gt d τ M Qt →
    (∀ F' H' M' σ' τ', Same F F' → At K E0 Et0 G F' H' M' σ' τ' → wipe σ' vs = wipe σ vs → Qt τ' M' → Q σ' H') → g v σ H Q
structure GOwns (K : PySem.W.Frag) (g : TGs) (gt : TGst) (vs : List Nat) : Prop where
  lift : ∀ {G F H M σ τ v d Q Qt}, At K E0 Et0 G F H M σ τ → Rps K F v d → gt d τ M Qt →
    (∀ F' H' M' σ' τ', Same F F' → At K E0 Et0 G F' H' M' σ' τ' → wipe σ' vs = wipe σ vs → Qt τ' M' → Q σ' H') → g v σ H Q
section
variable {K : PySem.W.Frag} {vs : List Nat}
theorem go_name {j : Nat} (h : j ∈ vs := by decide) : GOwn K (gName j) (gN j) vs := ⟨fun {G F H M σ τ v d Q Qt} a p q k => k F H M _ _ (Same.refl _) (a.store p) (wipe_set h) q⟩
theorem gos_nil : GOwns K gNil gNl vs := ⟨fun {G F H M σ τ v d Q Qt} a p q k => by
  cases p with
  | nil => exact ⟨rfl, k F H M _ _ (Same.refl _) a rfl q⟩
  | cons _ _ => exact (show False from q).elim⟩
theorem gos_cons {g : TG} {gt : TGt} {gs : TGs} {gts : TGst} (h1 : GOwn K g gt vs) (h2 : GOwns K gs gts vs) : GOwns K (gCons g gs) (gCs gt gts) vs := ⟨fun {G F H M σ τ v d Q Qt} a p q k => by
  cases p with
  | nil => exact (show False from q).elim
  | cons p1 p2 => exact ⟨_, _, rfl, h1.lift a p1 q fun F1 H1 M1 σ1 τ1 s1 a1 e1 q1 => h2.lift a1 (p2.mono s1) q1 fun F' H' M' σ' τ' s a' e q' => k F' H' M' σ' τ' (s1.trans s) a' (e.trans e1) q'⟩⟩
theorem go_tup {n : Nat} {gs : TGs} {gts : TGst} (h : GOwns K gs gts vs) : GOwn K (gTup K n gs) (gTp n gts) vs := ⟨fun {G F H M σ τ v d Q Qt} a p q k => by
  cases p with
  | tup h0 r0 => exact ⟨_, _, rfl, SqT.of (a.rel.sub _ _ h0), by rw [r0.length]; exact q.1, h.lift a r0 q.2 k⟩
  | _ => exact (show False from q).elim⟩
end
section
variable {X : Cx} {E : XK} {Et : XT} {elt tg iter : Expr} {ifs : List Expr} {scope : Scope} {own : List (Str × Nat)} {pos : Pos} {ti : TIt} {g : TG} {gt : TGt} {tt : TTt} {te : TEt}
/-- what a comprehension's reading asks of the layer below; show_: what is told of the new list -/
theorem lv_lc {vs : List Nat} (go : GOwn X.K g gt vs) {R : List D → MH → V → Hp → Prop} {σ : L2.St} {H : Hp} {Q : VK} {G F : Hp} {M : MH} {τ : Sg} {Qt : VD} (a : At X.K E Et G F H M σ τ) (h : tLcF ti gt tt te vs τ M Qt)
    (k : ∀ (F' H' : Hp) (M' : MH) (p : Addr) (vacc : List V) (acc : List D), Same F F' → Rel X.K (upd G p (.lst vacc)) F' H' M' → G p = none → Rps X.K F' vacc acc → Qt (.lst acc) M' → Q (.ref p) H') :
    tLc (liftI X.K E Et ti) g (liftT X.K E0 Et0 tt) (liftE X.K E0 Et0 te) vs σ H Q := by
  refine ⟨G, F, M, τ, _, a, h, fun J I F1 H1 M1 s1 r1 ok q1 => ?_⟩
  obtain ⟨hz, W, w0, ws, turn, done⟩ := q1
  intro Dl hD
  have hG : G Dl = none := r1.freeG hD
  refine ⟨fun i m H => m = I.items.length - i ∧ i ≤ I.items.length ∧ ∃ F' M' vacc acc, Same F1 F' ∧ Rel X.K (upd G Dl (.lst vacc)) F' H M' ∧ Rps X.K F' vacc acc ∧ W i acc M', ⟨_, rfl, Nat.zero_le _, F1, M1, [], [], Same.refl _, r1.newG hD, .nil, w0⟩, ?_⟩
  rintro i m H2 ⟨rfl, hi, F2, M2, vacc, acc, s2, r2, p2, hw⟩
  obtain ⟨hsrc, hlen⟩ := ws i acc M2 hw
  by_cases hlt : i < I.items.length
  · have hx : I.items[i]? = some I.items[i] := List.getElem?_eq_getElem hlt
    refine .inr ⟨ok.go i _ F2 H2 M2 _ s2 r2 hsrc hx, fun H' => ∃ F' M' vacc acc, Same F1 F' ∧ Rel X.K (upd G Dl (.lst vacc)) F' H' M' ∧ Rps X.K F' vacc acc ∧ W (i + 1) acc M', fun H' z => ⟨I.items.length - (i + 1), by omega, rfl, hlt, z⟩, fun v H3 y => ?_⟩
    obtain ⟨F3, s3, r3, p3⟩ := ok.yld i _ F2 H2 M2 _ v H3 s2 r2 hsrc hx y
    have a3 : At X.K E0 Et0 (upd G Dl (.lst vacc)) F3 H3 M2 (wipe σ vs) (wip τ vs) := ⟨r3, sg_wipe (a.sg.mono ((s1.trans s2).trans s3)) vs, .never⟩
    refine go.lift a3 p3 (turn i _ acc M2 hx hw) fun F4 H4 M4 σ4 τ4 s4 a4 e4 q4 => ⟨e4.trans (wipe_wipe σ vs), ?_⟩
    refine ⟨_, F4, M4, τ4, _, a4, q4, fun b F5 H5 M5 s5 r5 q5 => ?_⟩
    cases b with
    | true =>
      rw [if_pos rfl] at q5 ⊢
      refine ⟨_, F5, M5, τ4, _, a4.step s5 r5, q5, fun y F6 H6 M6 d s6 r6 p6 q6 => ?_⟩
      refine ⟨vacc, (r6.hid Dl _ upd_same).1, by rw [p2.length]; omega, F6, M6, vacc ++ [y], acc ++ [d], ((((s2.trans s3).trans s4).trans s5).trans s6), r6.putG, (p2.mono (((s3.trans s4).trans s5).trans s6)).append (.cons p6 .nil), q6⟩
    | false =>
      rw [if_neg Bool.false_ne_true] at q5 ⊢
      exact ⟨F5, M5, vacc, acc, ((s2.trans s3).trans s4).trans s5, r5, p2.mono ((s3.trans s4).trans s5), q5⟩
  · have e : i = I.items.length := by omega
    subst e
    exact .inl ⟨ok.stop _ _ F2 H2 M2 s2 r2 hsrc (Nat.le_refl _), k F2 H2 M2 Dl vacc acc (s1.trans s2) r2 hG p2 (done acc M2 hw)⟩
theorem lv_lcF {vs : List Nat} (go : GOwn X.K g gt vs) : ∀ σ H Q, liftE X.K E Et (tLcF ti gt tt te vs) σ H Q → tLc (liftI X.K E Et ti) g (liftT X.K E0 Et0 tt) (liftE X.K E0 Et0 te) vs σ H Q := by
  rintro σ H Q ⟨G, F, M, τ, Qt, a, h, k⟩
  refine lv_lc (R := fun _ _ _ _ => True) go a h fun F' H' M' p vacc acc s r hg ps q => ?_
  obtain ⟨s2, r2⟩ := r.showF hg
  exact k _ _ H' M' _ (s.trans s2) r2 (.lst upd_same (ps.mono s2)) q
/-- a changing list -/
def tLcV (ti : TIt) (g : TGt) (tt : TTt) (te : TEt) (vs : List Nat) : TEt := fun τ M Q => tLcF ti g tt te vs τ M fun d M1 => match d with
  | .lst acc => ∀ p, M1 p = none → Q (.ref p) (mup M1 p (.lst acc))
  | _ => False
theorem q_lc (hc : X.calm = true) (hN : X.N.Nodup) (hi : QI X E Et tg iter ti) (ok : BlkOk X.N X.env.scope scope own) (go : GOwn X.K g gt (own.map (·.2)))
    (hg : ∀ (s : Shared) (H : Hp) (C : Addr) (cl : List (Str × Addr)) (fp : List Addr), PG (X.blk s H scope (compEnvC scope cl C X.env) fp) tg g) (ht : ∀ (s : Shared) (H : Hp) (C : Addr) (cl : List (Str × Addr)) (fp : List Addr), QTs (X.blk s H scope (compEnvC scope cl C X.env) fp) E0 Et0 ifs tt)
    (he : ∀ (s : Shared) (H : Hp) (C : Addr) (cl : List (Str × Addr)) (fp : List Addr), QE (X.blk s H scope (compEnvC scope cl C X.env) fp) E0 Et0 elt te) (hs : ∀ x, foldedSetIterable iter X.env x = pure x := by intro _; rfl) :
    QE X E Et (.ListComp elt [⟨tg, iter, ifs, 0⟩] scope pos) (tLcF ti gt tt te (own.map (·.2))) := PEimp (pe_lc hc hN hi ok hg ht he hs) (lv_lcF go)
/-- x = [..] -/
theorem qs_setLc {i : Nat} {y : Str} {py spos : Pos} {tl : TEt} (lv : ∀ σ H Q, liftE X.K E Et tl σ H Q → tLc (liftI X.K E Et ti) g (liftT X.K E0 Et0 tt) (liftE X.K E0 Et0 te) (own.map (·.2)) σ H Q) (hc : X.calm = true) (hN : X.N.Nodup) (hi : QI X E Et tg iter ti) (ok : BlkOk X.N X.env.scope scope own)
    (hg : ∀ (s : Shared) (H : Hp) (C : Addr) (cl : List (Str × Addr)) (fp : List Addr), PG (X.blk s H scope (compEnvC scope cl C X.env) fp) tg g) (ht : ∀ (s : Shared) (H : Hp) (C : Addr) (cl : List (Str × Addr)) (fp : List Addr), QTs (X.blk s H scope (compEnvC scope cl C X.env) fp) E0 Et0 ifs tt)
    (he : ∀ (s : Shared) (H : Hp) (C : Addr) (cl : List (Str × Addr)) (fp : List Addr), QE (X.blk s H scope (compEnvC scope cl C X.env) fp) E0 Et0 elt te)
    (hsw : swapsWith (.ListComp elt [⟨tg, iter, ifs, 0⟩] scope pos) (some (.Name y py)) spos.line X.env = pure true) (hy : X.N[i]? = some y := by rfl) (hyl : X.env.scope.names.lookup y = some .local := by rfl) (hs : ∀ x, foldedSetIterable iter X.env x = pure x := by intro _; rfl) :
    QS X E Et (.Assign [.Name y py] (.ListComp elt [⟨tg, iter, ifs, 0⟩] scope pos) spos) (sAs tl (gN i)) := PSimp (ps_setLc hc hN hy hyl hsw hi ok hg ht he hs) (by
  rintro D σ H ⟨G, F, M, τ, Dt, a, en, h⟩
  refine lv _ _ _ ⟨G, F, M, τ, _, a, h, fun v F1 H1 M1 d s1 r1 p1 q1 => ?_⟩
  exact en.nx F1 H1 M1 _ _ s1 ((a.step s1 r1).store p1) q1)
end
/-! ### the law's end -/
def spLaw : SpT := fun ds M Q _ => ∃ ns : List Int, ds = [.scr (ns.map D.int)] ∧ ns.length ≤ 63 ∧ ∀ M', Q (.bl true) M'
theorem rps_ints {K : PySem.W.Frag} {F : Hp} : ∀ ns : List Int, Rps K F (ns.map V.int) (ns.map D.int)
  | [] => .nil
  | n :: ns => .cons (.int n) (rps_ints ns)
theorem end_sp {K : PySem.W.Frag} {sp : SpT} {H : Hp} {a : Addr} {ns : List Int} (hS : SqL K H a (ns.map V.int)) (h : sp [.scr (ns.map D.int)] (fun _ => none) (fun d _ => d = .bl true) Et0) :
    lSp K sp [.ref a] H (fun v _ => v = .bl true) fun _ _ _ => False :=
  ⟨fun _ => none, H, fun _ => none, _, _, Et0, ⟨Same.refl _, fun _ _ e => (nomatch (show (none : Option MO) = some _ from e)), fun _ _ e => (nomatch (show (none : Option HO) = some _ from e)), fun _ _ e => (nomatch (show (none : Option HO) = some _ from e))⟩, .cons (.scr hS (rps_ints ns)) .nil, .never, h, fun v F' H' M' d _ _ p q => by
    subst q
    exact p.bl_inv⟩
end Tl
namespace Tl
open PySem PySem.Spec PyProof.Rows L2
theorem kit_ii : kitB "int" "int" = some true := by decide +kernel
theorem kit_ib : kitB "int" "bool" = some false := by decide +kernel
theorem kit_bi : kitB "bool" "int" = some true := by decide +kernel
theorem kit_bb : kitB "bool" "bool" = some true := by decide +kernel
theorem kit_si : kitB "str" "int" = some false := by decide +kernel
theorem kit_ss : kitB "str" "str" = some true := by decide +kernel
theorem kit_is : kitB "int" "str" = some false := by decide +kernel
theorem kit_tt : kitB "tuple" "tuple" = some true := by decide +kernel
theorem kit_ll : kitB "list" "list" = some true := by decide +kernel
theorem kit_lt : kitB "list" "tuple" = some false := by decide +kernel
theorem kit_tl : kitB "tuple" "list" = some false := by decide +kernel
theorem kit_ts : kitB "tuple" "str" = some false := by decide +kernel
theorem kit_ls : kitB "list" "str" = some false := by decide +kernel
theorem kit_sl : kitB "str" "list" = some false := by decide +kernel
theorem kit_st : kitB "str" "tuple" = some false := by decide +kernel
theorem kit_it : kitB "int" "tuple" = some false := by decide +kernel
theorem kit_il : kitB "int" "list" = some false := by decide +kernel
theorem kit_dd : kitB "dict" "dict" = some true := by decide +kernel
theorem kit_ni : kitB "NoneType" "int" = some false := by decide +kernel
theorem kit_nb : kitB "NoneType" "bool" = some false := by decide +kernel
/-! ### written things, however many -/
def lit : Expr → Option D
  | .Constant (.int i) _ _ => some (.int i)
  | .Constant (.str x) _ _ => some (.str x)
  | .Constant (.bool b) _ _ => some (.bl b)
  | .Constant .none _ _ => some .non
  | .UnaryOp .USub (.Constant (.int i) _ _) _ => some (.int (-i))
  | _ => none
def litAll : List Expr → Option (List D)
  | [] => some []
  | e :: es => match lit e with
    | some d => match litAll es with
      | some ds => some (d :: ds)
      | none => none
    | none => none
def tLt (ds : List D) : TAt := fun _ M Q => Q ds M
section
variable {X : Cx} {E : XK} {Et : XT}
theorem q_lit {e : Expr} {d : D} (h : lit e = some d) : QE X E Et e (tK d) := by
  unfold lit at h
  split at h
  · cases h; exact q_int
  · cases h; exact q_str
  · cases h; exact q_bl
  · cases h; exact q_non
  · cases h
    exact PEimp (q_un uq_neg q_int) (fun σ H Q h => h)
  · cases h
theorem lit_star {e : Expr} {es : List Expr} {d : D} {env : Env} (h : lit e = some d) : starEach (e :: es) env = (false, eval e env) :: starEach es env := by
  unfold lit at h
  split at h <;> first | rfl | cases h
theorem qa_lits : ∀ {es : List Expr} {ds : List D}, litAll es = some ds → QA X E Et es (tLt ds)
  | [], ds, h => by
    cases h
    exact qa_nil
  | e :: es, ds, h => by
    unfold litAll at h
    cases h1 : lit e with
    | none => simp only [h1] at h; cases h
    | some d =>
      simp only [h1] at h
      cases h2 : litAll es with
      | none => simp only [h2] at h; cases h
      | some ds' =>
        simp only [h2] at h
        cases h
        exact PAimp (qa_cons (q_lit h1) (qa_lits h2) (lit_star h1)) (fun σ H Q h => h)
end
end Tl
namespace Tl
open PySem PySem.Spec PyProof.Rows L2
/-! ### // and % by any divisor, divmod -/
def CDivZ (_ j : Int) : Prop := j ≠ 0 ∧ j.natAbs.log2 < 9000
section
variable {X : Cx}
def cDivmod : RLt := fun ds M Q => match ds with
  | [.int i, .int j] => CDivZ i j ∧ Q (.tup [.int (i.fdiv j), .int (i.fmod j)]) M
  | _ => False
/-! ### list(x), sum, max, min, all, any -/
/-- the items of a list or a tuple -/
def seqOf (M : MH) (d : D) : Option (List D) := match tupOf d with
  | some ds => some ds
  | none => lstOf M d
theorem seq_of {K : PySem.W.Frag} {G F H : Hp} {M : MH} {v : V} {d : D} {ds : List D} (R : Rel K G F H M) (p : Rp K F v d) (e : seqOf M d = some ds) : ∃ a vs, v = .ref a ∧ (SqL K H a vs ∨ SqT K H a vs) ∧ Rps K F vs ds := by
  unfold seqOf at e
  cases q : tupOf d with
  | some es =>
    rw [q] at e
    cases e
    obtain ⟨a, vs, h1, h2, h3⟩ := tup_of R p q
    exact ⟨a, vs, h1, .inr h2, h3⟩
  | none =>
    rw [q] at e
    obtain ⟨a, vs, h1, h2, h3⟩ := lst_of R p e
    exact ⟨a, vs, h1, .inl h2, h3⟩
def cList : RLt := fun ds M Q => match ds with
  | [x] => match seqOf M x with
    | some es => Q (.lst es) M
    | none => False
  | _ => False
def cListM : RLt := fun ds M Q => match ds with
  | [x] => match seqOf M x with
    | some es => ∀ p, M p = none → Q (.ref p) (mup M p (.lst es))
    | none => False
  | _ => False
theorem cq_list : CallQ X (.type "list") cList := CallRimp call_list_of (by
  rintro xs H Q ⟨G, F, M, ds, Qt, R, r, h, k⟩
  match ds, r, h with
  | [x], .cons h1 .nil, h =>
    have h : (match seqOf M x with | some es => Qt (.lst es) M | none => False) := h
    cases e : seqOf M x with
    | none => rw [e] at h; exact h.elim
    | some es =>
      rw [e] at h
      obtain ⟨a, vs, rfl, hs, r⟩ := seq_of R h1 e
      refine ⟨a, vs, rfl, hs, fun p np => ?_⟩
      obtain ⟨s, r1⟩ := R.newF (o := .lst vs) np
      exact k _ _ _ M _ s r1 (.lst upd_same (r.mono s)) h)
/-- a list of whole numbers -/
def intsD : List D → Option (List Int)
  | [] => some []
  | .int i :: r => match intsD r with
    | some is => some (i :: is)
    | none => none
  | _ => none
theorem intsD_map : ∀ is : List Int, intsD (is.map D.int) = some is
  | [] => rfl
  | i :: is => by simp only [List.map_cons, intsD, intsD_map is]
theorem ints_of {K : PySem.W.Frag} {F : Hp} : ∀ {vs : List V} {ds : List D} {is : List Int}, Rps K F vs ds → intsD ds = some is → vs = is.map V.int
  | _, _, _, .nil, e => by cases e; rfl
  | _, _, _, .cons (.int i) t, e => by
    unfold intsD at e
    split at e
    · rename_i is' q
      cases e
      rw [ints_of t q]; rfl
    · cases e
  | _, _, _, .cons .non _, e => by cases e
  | _, _, _, .cons (.bl _) _, e => by cases e
  | _, _, _, .cons (.str _) _, e => by cases e
  | _, _, _, .cons (.ty _) _, e => by cases e
  | _, _, _, .cons (.ref _) _, e => by cases e
  | _, _, _, .cons (.tup _ _) _, e => by cases e
  | _, _, _, .cons (.tab _ _) _, e => by cases e
  | _, _, _, .cons (.scr _ _) _, e => by cases e
  | _, _, _, .cons (.lst _ _) _, e => by cases e
def intLst (M : MH) (d : D) : Option (List Int) := match lstOf M d with
  | some ds => intsD ds
  | none => none
theorem intLst_of {K : PySem.W.Frag} {G F H : Hp} {M : MH} {v : V} {d : D} {is : List Int} (R : Rel K G F H M) (p : Rp K F v d) (e : intLst M d = some is) : ∃ a, v = .ref a ∧ SqL K H a (is.map V.int) := by
  unfold intLst at e
  cases q : lstOf M d with
  | none => rw [q] at e; cases e
  | some ds =>
    rw [q] at e
    obtain ⟨a, vs, rfl, hs, r⟩ := lst_of R p q
    rw [ints_of r e] at hs
    exact ⟨a, rfl, hs⟩
def cSum : RLt := fun ds M Q => match ds with
  | [x] => match intLst M x with
    | some is => Q (.int is.sum) M
    | none => False
  | _ => False
def cMax : RLt := fun ds M Q => match ds with
  | [x] => match intLst M x with
    | some is => 0 < is.length ∧ ∀ m, m ∈ is → (∀ y, y ∈ is → y ≤ m) → Q (.int m) M
    | none => False
  | _ => False
def cMin : RLt := fun ds M Q => match ds with
  | [x] => match intLst M x with
    | some is => 0 < is.length ∧ ∀ m, m ∈ is → (∀ y, y ∈ is → m ≤ y) → Q (.int m) M
    | none => False
  | _ => False
def cMax2 : RLt := fun ds M Q => match ds with
  | [.int i, .int j] => Q (.int (if j > i then j else i)) M
  | _ => False
def cMin2 : RLt := fun ds M Q => match ds with
  | [.int i, .int j] => Q (.int (if j < i then j else i)) M
  | _ => False
theorem cq_max2 (hc : X.calm = true) : CallQ X (.builtin "max") cMax2 := CallRimp (call_max2 hc) (by
  rintro xs H Q ⟨G, F, M, ds, Qt, R, r, h, k⟩
  match ds, r, h with
  | [.int i, .int j], .cons (.int _) (.cons (.int _) .nil), h => exact ⟨i, j, rfl, k _ F H M _ (Same.refl _) R (.int _) h⟩)
theorem cq_min2 (hc : X.calm = true) : CallQ X (.builtin "min") cMin2 := CallRimp (call_min2 hc) (by
  rintro xs H Q ⟨G, F, M, ds, Qt, R, r, h, k⟩
  match ds, r, h with
  | [.int i, .int j], .cons (.int _) (.cons (.int _) .nil), h => exact ⟨i, j, rfl, k _ F H M _ (Same.refl _) R (.int _) h⟩)
def cAbs : RLt := fun ds M Q => match ds with
  | [.int i] => Q (.int (if i < 0 then -i else i)) M
  | _ => False
/-- a list of truths -/
def blsD : List D → Option (List Bool)
  | [] => some []
  | .bl i :: r => match blsD r with
    | some is => some (i :: is)
    | none => none
  | _ => none
theorem blsD_map : ∀ is : List Bool, blsD (is.map D.bl) = some is
  | [] => rfl
  | i :: is => by simp only [List.map_cons, blsD, blsD_map is]
theorem bls_of {K : PySem.W.Frag} {F : Hp} : ∀ {vs : List V} {ds : List D} {is : List Bool}, Rps K F vs ds → blsD ds = some is → vs = is.map V.bl
  | _, _, _, .nil, e => by cases e; rfl
  | _, _, _, .cons (.bl i) t, e => by
    unfold blsD at e
    split at e
    · rename_i is' q
      cases e
      rw [bls_of t q]; rfl
    · cases e
  | _, _, _, .cons .non _, e => by cases e
  | _, _, _, .cons (.int _) _, e => by cases e
  | _, _, _, .cons (.str _) _, e => by cases e
  | _, _, _, .cons (.ty _) _, e => by cases e
  | _, _, _, .cons (.ref _) _, e => by cases e
  | _, _, _, .cons (.tup _ _) _, e => by cases e
  | _, _, _, .cons (.tab _ _) _, e => by cases e
  | _, _, _, .cons (.scr _ _) _, e => by cases e
  | _, _, _, .cons (.lst _ _) _, e => by cases e
def blLst (M : MH) (d : D) : Option (List Bool) := match lstOf M d with
  | some ds => blsD ds
  | none => none
theorem blLst_of {K : PySem.W.Frag} {G F H : Hp} {M : MH} {v : V} {d : D} {is : List Bool} (R : Rel K G F H M) (p : Rp K F v d) (e : blLst M d = some is) : ∃ a, v = .ref a ∧ SqL K H a (is.map V.bl) := by
  unfold blLst at e
  cases q : lstOf M d with
  | none => rw [q] at e; cases e
  | some ds =>
    rw [q] at e
    obtain ⟨a, vs, rfl, hs, r⟩ := lst_of R p q
    rw [bls_of r e] at hs
    exact ⟨a, rfl, hs⟩
def cAny : RLt := fun ds M Q => match ds with
  | [x] => match blLst M x with
    | some is => Q (.bl (is.any id)) M
    | none => False
  | _ => False
def cAll : RLt := fun ds M Q => match ds with
  | [x] => match blLst M x with
    | some is => Q (.bl (is.all id)) M
    | none => False
  | _ => False
theorem cq_any (hc : X.calm = true) : CallQ X (.builtin "any") cAny := CallRimp (cr_any hc) (by
  rintro xs H Q ⟨G, F, M, ds, Qt, R, r, h, k⟩
  match ds, r, h with
  | [x], .cons h1 .nil, h =>
    have h : (match blLst M x with | some is => Qt (.bl (is.any id)) M | none => False) := h
    cases e : blLst M x with
    | none => rw [e] at h; exact h.elim
    | some is =>
      rw [e] at h
      obtain ⟨a, rfl, hs⟩ := blLst_of R h1 e
      exact ⟨a, is, rfl, hs, k _ F H M _ (Same.refl _) R (.bl _) h⟩)
theorem cq_all (hc : X.calm = true) : CallQ X (.builtin "all") cAll := CallRimp (cr_all hc) (by
  rintro xs H Q ⟨G, F, M, ds, Qt, R, r, h, k⟩
  match ds, r, h with
  | [x], .cons h1 .nil, h =>
    have h : (match blLst M x with | some is => Qt (.bl (is.all id)) M | none => False) := h
    cases e : blLst M x with
    | none => rw [e] at h; exact h.elim
    | some is =>
      rw [e] at h
      obtain ⟨a, rfl, hs⟩ := blLst_of R h1 e
      exact ⟨a, is, rfl, hs, k _ F H M _ (Same.refl _) R (.bl _) h⟩)
end
/-! ### enumerate, zip, range with a step, a text sign by sign -/
def enumD (xs : List D) : List D := xs.mapIdx fun i x => .tup [.int (i : Nat), x]
def zipD (xs ys : List D) : List D := List.zipWith (fun x y => .tup [x, y]) xs ys
def iEn (ta : TAt) : TIt := fun τ M Q => ta τ M fun ds M1 => match ds with
  | [d] => match lstOf M1 d with
    | some xs => Q ⟨enumD xs, fun M => lstOf M d = some xs⟩ M1
    | none => False
  | _ => False
def iZi (ta : TAt) : TIt := fun τ M Q => ta τ M fun ds M1 => match ds with
  | [d, e] => match lstOf M1 d with
    | some xs => match lstOf M1 e with
      | some ys => Q ⟨zipD xs ys, fun M => lstOf M d = some xs ∧ lstOf M e = some ys⟩ M1
      | none => False
    | none => False
  | _ => False
def iR3 (ta : TAt) : TIt := fun τ M Q => ta τ M fun ds M1 => match ds with
  | [.int i, .int j, .int c] => ∃ n, RgC i j c n ∧ Q ⟨(List.range n).map fun k => .int (i + (k : Nat) * c), fun _ => True⟩ M1
  | _ => False
def iSt (te : TEt) : TIt := fun τ M Q => te τ M fun d M1 => match d with
  | .str z => Q ⟨z.cps.toList.map fun c => .str ⟨#[c]⟩, fun _ => True⟩ M1
  | _ => False
def iRv (ta : TAt) : TIt := fun τ M Q => ta τ M fun ds M1 => match ds with
  | [d] => match lstOf M1 d with
    | some xs => Q ⟨xs.reverse, fun M => lstOf M d = some xs⟩ M1
    | none => False
  | _ => False
section
variable {X : Cx} {E : XK} {Et : XT} {pos p tpos : Pos} {elts : List Expr} {kk : Nat} {tg e e2 : Expr} {ta : TAt} {te : TEt}
theorem enumD_get {xs : List D} {i : Nat} {x : D} (h : (enumD xs)[i]? = some x) : ∃ y, xs[i]? = some y ∧ x = .tup [.int (i : Nat), y] := by
  unfold enumD at h
  rw [List.getElem?_mapIdx] at h
  cases e : xs[i]? with
  | none => rw [e] at h; cases h
  | some y => rw [e] at h; exact ⟨y, rfl, (Option.some.inj h).symm⟩
theorem itOk_enum {K : PySem.W.Frag} {F0 : Hp} {a : Addr} {d : D} {ds : List D} (p : Rp K F0 (.ref a) d) : ItOk K F0 (Ite K a) ⟨enumD ds, fun M => lstOf M d = some ds⟩ where
  go := fun i G F H M x s R h hx => by
    obtain ⟨b, vs, e, hs, r⟩ := lst_of R (p.mono s) h
    cases e
    obtain ⟨y, hy, _⟩ := enumD_get hx
    obtain ⟨v, hv, _⟩ := r.getD hy
    exact ⟨vs, v, hs, hv⟩
  yld := fun i G F H M x v H' s R h hx y => by
    obtain ⟨b, vs, e, hs, r⟩ := lst_of R (p.mono s) h
    cases e
    obtain ⟨z, hz, rfl⟩ := enumD_get hx
    obtain ⟨v', hv, rv⟩ := r.getD hz
    obtain ⟨T, w, rfl, nT, rfl, f⟩ := y
    have := SqL_get hs hv f
    subst this
    obtain ⟨s2, r2⟩ := R.newF (o := .tup [.int (i : Nat), w]) nT
    exact ⟨_, s2, r2, .tup upd_same (.cons (.int _) (.cons (rv.mono s2) .nil))⟩
  stop := fun i G F H M s R h hl => by
    obtain ⟨b, vs, e, hs, r⟩ := lst_of R (p.mono s) h
    cases e
    have hl : (enumD ds).length ≤ i := hl
    unfold enumD at hl
    rw [List.length_mapIdx] at hl
    exact ⟨vs, hs, by rw [r.length]; exact hl⟩
theorem qi_enum (hm : X.mg "enumerate" = none) (ha : QA X E Et [e] ta) (hg : Gl X "enumerate" := by rfl) (hs : starEach [e] X.env = [(false, eval e X.env)] := by rfl) : QI X E Et (.Tuple elts kk tpos) (.Call (.Name "enumerate" p) [e] [] pos) (iEn ta) := by
  refine ⟨fun pins s σ H R I h => (pi_enum hg hm ha hs).run pins s σ H R I ?_⟩
  obtain ⟨G, F, M, τ, Qt, a, h, k⟩ := h
  refine ⟨G, F, M, τ, _, a, h, fun vs F1 H1 M1 ds s1 r1 p1 q1 => ?_⟩
  match ds, p1, q1 with
  | [d], .cons h1 .nil, q1 =>
    have q1 : (match lstOf M1 d with | some xs => Qt ⟨enumD xs, fun M => lstOf M d = some xs⟩ M1 | none => False) := q1
    cases q : lstOf M1 d with
    | none => rw [q] at q1; exact q1.elim
    | some xs =>
      rw [q] at q1
      obtain ⟨b, vs, rfl, hs, r⟩ := lst_of r1 h1 q
      exact ⟨b, vs, rfl, hs, k _ _ F1 H1 M1 s1 r1 (itOk_enum h1) q1⟩
theorem zipD_get {xs ys : List D} {i : Nat} {x : D} (h : (zipD xs ys)[i]? = some x) : ∃ y z, xs[i]? = some y ∧ ys[i]? = some z ∧ x = .tup [y, z] := by
  unfold zipD at h
  rw [List.getElem?_zipWith] at h
  cases e : xs[i]? with
  | none => rw [e] at h; cases h
  | some y =>
    cases e2 : ys[i]? with
    | none => rw [e, e2] at h; cases h
    | some z => rw [e, e2] at h; exact ⟨y, z, rfl, rfl, (Option.some.inj h).symm⟩
theorem itOk_zip {K : PySem.W.Frag} {F0 : Hp} {a b : Addr} {d d2 : D} {ds ds2 : List D} (p : Rp K F0 (.ref a) d) (p2 : Rp K F0 (.ref b) d2) : ItOk K F0 (Itz K a b) ⟨zipD ds ds2, fun M => lstOf M d = some ds ∧ lstOf M d2 = some ds2⟩ where
  go := fun i G F H M x s R h hx => by
    obtain ⟨a', vs, e, hs, r⟩ := lst_of R (p.mono s) h.1
    cases e
    obtain ⟨b', ws, e, hs2, r2⟩ := lst_of R (p2.mono s) h.2
    cases e
    obtain ⟨y, z, hy, hz, _⟩ := zipD_get hx
    obtain ⟨v, hv, _⟩ := r.getD hy
    obtain ⟨w, hw, _⟩ := r2.getD hz
    exact ⟨vs, ws, v, w, hs, hs2, hv, hw⟩
  yld := fun i G F H M x v H' s R h hx y => by
    obtain ⟨a', vs, e, hs, r⟩ := lst_of R (p.mono s) h.1
    cases e
    obtain ⟨b', ws, e, hs2, r2⟩ := lst_of R (p2.mono s) h.2
    cases e
    obtain ⟨y1, z1, hy, hz, rfl⟩ := zipD_get hx
    obtain ⟨v', hv, rv⟩ := r.getD hy
    obtain ⟨w', hw, rw'⟩ := r2.getD hz
    obtain ⟨T, c1, c2, rfl, nT, rfl, f1, f2⟩ := y
    have e1 := SqL_get hs hv f1
    subst e1
    have e2 := SqL_get hs2 hw f2
    subst e2
    obtain ⟨s2, r2⟩ := R.newF (o := .tup [c1, c2]) nT
    exact ⟨_, s2, r2, .tup upd_same (.cons (rv.mono s2) (.cons (rw'.mono s2) .nil))⟩
  stop := fun i G F H M s R h hl => by
    obtain ⟨a', vs, e, hs, r⟩ := lst_of R (p.mono s) h.1
    cases e
    obtain ⟨b', ws, e, hs2, r2⟩ := lst_of R (p2.mono s) h.2
    cases e
    have hl : (zipD ds ds2).length ≤ i := hl
    unfold zipD at hl
    rw [List.length_zipWith] at hl
    exact ⟨vs, ws, hs, hs2, by rw [r.length, r2.length]; omega⟩
theorem qi_zip (hm : X.mg "zip" = none) (ha : QA X E Et [e, e2] ta) (hg : Gl X "zip" := by rfl)
    (hs : starEach [e, e2] X.env = (false, eval e X.env) :: starEach [e2] X.env := by rfl) (hpl : (backTo pos (starEach [e2] X.env)).any (·.1) = false := by rfl) : QI X E Et (.Tuple elts kk tpos) (.Call (.Name "zip" p) [e, e2] [] pos) (iZi ta) := by
  refine ⟨fun pins s σ H R I h => (pi_zip hg hm ha hs hpl).run pins s σ H R I ?_⟩
  obtain ⟨G, F, M, τ, Qt, a, h, k⟩ := h
  refine ⟨G, F, M, τ, _, a, h, fun vs F1 H1 M1 ds s1 r1 p1 q1 => ?_⟩
  match ds, p1, q1 with
  | [d, d2], .cons h1 (.cons h2 .nil), q1 =>
    have q1 : (match lstOf M1 d with | some xs => (match lstOf M1 d2 with | some ys => Qt ⟨zipD xs ys, fun M => lstOf M d = some xs ∧ lstOf M d2 = some ys⟩ M1 | none => False) | none => False) := q1
    cases q : lstOf M1 d with
    | none => rw [q] at q1; exact q1.elim
    | some xs =>
      rw [q] at q1
      have q1 : (match lstOf M1 d2 with | some ys => Qt ⟨zipD xs ys, fun M => lstOf M d = some xs ∧ lstOf M d2 = some ys⟩ M1 | none => False) := q1
      cases qq : lstOf M1 d2 with
      | none => rw [qq] at q1; exact q1.elim
      | some ys =>
        rw [qq] at q1
        obtain ⟨b, vs, rfl, hs, r⟩ := lst_of r1 h1 q
        obtain ⟨c, ws, rfl, hs2, r2⟩ := lst_of r1 h2 qq
        exact ⟨b, c, vs, ws, rfl, hs, hs2, k _ _ F1 H1 M1 s1 r1 (itOk_zip h1 h2) q1⟩
end
/-! ### list methods, stores -/
/-- a list of the program's own, frozen or not -/
def trkOf (M : MH) : D → Option (List D)
  | .lst ds => some ds
  | .ref a => match M a with
    | some (.lst ds) => some ds
    | _ => none
  | _ => none
theorem trk_of {K : PySem.W.Frag} {G F H : Hp} {M : MH} {v : V} {d : D} {ds : List D} (R : Rel K G F H M) (p : Rp K F v d) (e : trkOf M d = some ds) : ∃ a vs, v = .ref a ∧ H a = some (.lst vs) ∧ Rps K F vs ds := by
  cases p with
  | lst h r =>
    cases e
    exact ⟨_, _, rfl, R.sub _ _ h, r⟩
  | ref a =>
    unfold trkOf at e
    cases q : M a with
    | none => simp only [q] at e; cases e
    | some o =>
      simp only [q] at e
      obtain ⟨_, u, hu, r⟩ := R.chg a o q
      cases o with
      | lst xs =>
        cases e
        cases u with
        | lst vs => exact ⟨a, vs, rfl, hu, r⟩
        | _ => exact (r : False).elim
      | _ => cases e
  | _ => cases e
def mExtend : RMt := fun x xs M Q => match x, xs with
  | .ref l, [y] => match M l with
    | some (.lst ds) => match trkOf M y with
      | some es => ds.length + es.length ≤ sizeLine ∧ Q .non (mup M l (.lst (ds ++ es)))
      | none => False
    | _ => False
  | _, _ => False
def mPop : RMt := fun x xs M Q => match x, xs with
  | .ref l, [] => match M l with
    | some (.lst ds) => match ds.getLast? with
      | some y => Q y (mup M l (.lst ds.dropLast))
      | none => False
    | _ => False
  | _, _ => False
section
variable {X : Cx} {E : XK} {Et : XT} {o e : Expr} {es : List Expr} {to : TEt} {t : TAt} {apos cpos : Pos}
theorem chg_lst {K : PySem.W.Frag} {G F H : Hp} {M : MH} {l : Addr} {ds : List D} (R : Rel K G F H M) (q : M l = some (.lst ds)) : ∃ vs, H l = some (.lst vs) ∧ Rps K F vs ds := by
  obtain ⟨_, u, hu, r⟩ := R.chg l _ q
  cases u with
  | lst vs => exact ⟨vs, hu, r⟩
  | _ => exact (r : False).elim
theorem q_extend (ho : QE X E Et o to) (ha : QA X E Et (e :: es) t)
    (hbase : attributeBase o "extend" X.env (eval o X.env) = eval o X.env := by rfl)
    (hfew : ((backTo cpos (starEach (e :: es) X.env)).all (fun x => !x.1) && (backToKw cpos (keywordEach [] X.env)).all (fun x => x.1.isSome)
      && decide ((e :: es).length + ([] : List Keyword).length + (if ([] : List Keyword).isEmpty then 0 else 1) < 30)) = true := by rfl)
    (hline : (apos.endLine == cpos.line) = true := by rfl) (hs : starEach (e :: es) X.env = (false, eval e X.env) :: starEach es X.env := by rfl) (hplain : (backTo cpos (starEach es X.env)).any (·.1) = false := by rfl) :
    QE X E Et (.Call (.Attribute o "extend" apos) (e :: es) [] cpos) (tMt mExtend to t) :=
  PEimp (pe_bm PySem.F.plainAttrs_list PySem.F.slot_list_extend PySem.F.type_list_extend mt_extend ho ha hbase hfew hline hs hplain) (lv_bm (by
    rintro x xs H Q ⟨G, F, M, dx, ds, Qt, R, p, ps, h, k⟩
    match dx, ds, p, ps, h with
    | .ref l, [y], .ref _, .cons py .nil, h =>
      have h : (match M l with | some (.lst ds) => (match trkOf M y with | some es => ds.length + es.length ≤ sizeLine ∧ Qt .non (mup M l (.lst (ds ++ es))) | none => False) | _ => False) := h
      cases q : M l with
      | none => simp only [q] at h
      | some mo =>
        cases mo with
        | lst ds =>
          simp only [q] at h
          obtain ⟨vs, hu, r⟩ := chg_lst R q
          cases qb : trkOf M y with
          | none => rw [qb] at h; exact h.elim
          | some es =>
            rw [qb] at h
            obtain ⟨b, ws, rfl, hb, rb⟩ := trk_of R py qb
            refine ⟨l, b, vs, ws, rfl, rfl, hu, hb, by rw [r.length, rb.length]; exact h.1, ?_⟩
            exact k .non F _ _ .non (Same.refl _) (R.put (u := .lst (vs ++ ws)) (o := .lst (ds ++ es)) q (r.append rb)) .non h.2
        | _ => simp only [q] at h))
theorem q_pop (ho : QE X E Et o to) (hbase : attributeBase o "pop" X.env (eval o X.env) = eval o X.env := by rfl) (hline : (apos.endLine == cpos.line) = true := by rfl) : QE X E Et (.Call (.Attribute o "pop" apos) [] [] cpos) (tMt0 mPop to) :=
  PEimp (pe_bm0 PySem.F.plainAttrs_list PySem.F.slot_list_pop PySem.F.type_list_pop mt_pop ho hbase hline) (lv_bm0 (by
    rintro x xs H Q ⟨G, F, M, dx, ds, Qt, R, p, ps, h, k⟩
    match dx, ds, p, ps, h with
    | .ref l, [], .ref _, .nil, h =>
      have h : (match M l with | some (.lst ds) => (match ds.getLast? with | some y => Qt y (mup M l (.lst ds.dropLast)) | none => False) | _ => False) := h
      cases q : M l with
      | none => simp only [q] at h
      | some mo =>
        cases mo with
        | lst ds =>
          simp only [q] at h
          obtain ⟨vs, hu, r⟩ := chg_lst R q
          cases q2 : ds.getLast? with
          | none => rw [q2] at h; exact h.elim
          | some y =>
            rw [q2] at h
            rw [List.getLast?_eq_getElem?] at q2
            obtain ⟨v, hv, rv⟩ := r.getD q2
            refine ⟨l, vs, v, rfl, rfl, hu, by rw [r.length]; exact hv, ?_⟩
            exact k v F _ _ y (Same.refl _) (R.put (u := .lst vs.dropLast) (o := .lst ds.dropLast) q r.dropLast) rv h
        | _ => simp only [q] at h))
/-- l[i] = v -/
def zList : TSett := fun o i v M Q => match o, i with
  | .ref l, .int k => match M l with
    | some (.lst ds) => match ixN ds.length k with
      | some j => Q (mup M l (.lst (ds.set j v)))
      | none => False
    | _ => False
  | _, _ => False
theorem sq_list : PSet X (lSet X.K zList) := by
  intro pins s σ H o i v ov iv u Q I ro ri rv h
  obtain ⟨G, F, M, od, idd, vd, Qt, R, po, pi, pv, h, k⟩ := h
  match od, idd, po, pi, h with
  | .ref l, .int z, .ref _, .int _, h =>
    have h : (match M l with | some (.lst ds) => (match ixN ds.length z with | some j => Qt (mup M l (.lst (ds.set j vd))) | none => False) | _ => False) := h
    cases q : M l with
    | none => simp only [q] at h
    | some mo =>
      cases mo with
      | lst ds =>
        simp only [q] at h
        obtain ⟨vs, hu, r⟩ := chg_lst R q
        cases q2 : ixN ds.length z with
        | none => rw [q2] at h; exact h.elim
        | some j =>
          rw [q2] at h
          refine set_list pins s σ H _ _ v ov iv u Q I ro ri rv ⟨l, vs, z, j, rfl, rfl, hu, by rw [r.length]; exact q2, ?_⟩
          exact k F _ _ (Same.refl _) (R.put (u := .lst (vs.set j v)) (o := .lst (ds.set j vd)) q (r.set pv j)) h
      | _ => simp only [q] at h
end
end Tl
namespace Tl
open PySem PySem.Spec PyProof.Rows L2
/-! ### the readings, unfolded as far as the values are known -/
def oBl (x : D) (k : Bool → Prop) : Prop := match x with
  | .bl c => k c
  | _ => False
def oInt (x : D) (k : Int → Prop) : Prop := match x with
  | .int c => k c
  | _ => False
def oStr (x : D) (k : Str → Prop) : Prop := match x with
  | .str c => k c
  | _ => False
def oTup (x : D) (k : List D → Prop) : Prop := match x with
  | .tup c => k c
  | _ => False
def oSome {α : Type} (x : Option α) (k : α → Prop) : Prop := match x with
  | some c => k c
  | none => False
theorem oBl_i {c : Bool} {k : Bool → Prop} : oBl (.bl c) k = k c := propext Iff.rfl
theorem oInt_i {c : Int} {k : Int → Prop} : oInt (.int c) k = k c := propext Iff.rfl
theorem oStr_i {c : Str} {k : Str → Prop} : oStr (.str c) k = k c := propext Iff.rfl
theorem oTup_i {c : List D} {k : List D → Prop} : oTup (.tup c) k = k c := propext Iff.rfl
theorem oSome_i {α : Type} {c : α} {k : α → Prop} : oSome (some c) k = k c := propext Iff.rfl
theorem oBl_if {p : Prop} [Decidable p] {a b : D} {k : Bool → Prop} : oBl (if p then a else b) k = if p then oBl a k else oBl b k := by split <;> rfl
section
variable {τ : Sg} {M : MH} {Q : VD} {D0 : En} {t u : TSt} {te ta tb : TEt} {tt : TTt} {x y : D} {ds : List D} {n i : Nat} {k : Int} {g : TGt} {gs : TGst} {Qg : Sg → MH → Prop} {QI : Its → MH → Prop} {QO : Option Int → MH → Prop} {QB : Bool → MH → Prop} {tA : TAt} {lo hi : Option Int}
theorem uV : tV i τ M Q = oSome (nth τ i) fun d => Q d M := by unfold tV oSome; cases nth τ i <;> rfl
theorem uBo : tBo te τ M QB = te τ M fun x M1 => oBl x fun c => QB c M1 := by
  unfold tBo oBl
  first | rfl | (congr; first | rfl | (funext x M1; cases x <;> rfl))
theorem uAnV : tAnV ta tb τ M Q = ta τ M fun x M1 => oBl x fun c => if c = true then tb τ M1 Q else Q (.bl false) M1 := by
  unfold tAnV oBl
  first | rfl | (congr; first | rfl | (funext x M1; cases x <;> rfl))
theorem uOrV : tOrV' ta tb τ M Q = ta τ M fun x M1 => oBl x fun c => if c = true then Q (.bl true) M1 else tb τ M1 Q := by
  unfold tOrV' oBl
  first | rfl | (congr; first | rfl | (funext x M1; cases x <;> rfl))
theorem uNoV : tNoV ta τ M Q = ta τ M fun x M1 => oBl x fun c => Q (.bl (!c)) M1 := by
  unfold tNoV oBl
  first | rfl | (congr; first | rfl | (funext x M1; cases x <;> rfl))
theorem uCh {r r' : R2t} {tc : TEt} : tCh r r' ta tb tc τ M Q = ta τ M fun x M1 => tb τ M1 fun y M2 => r x y M2 fun z M3 => oBl z fun k => if k = true then tc τ M3 fun w M4 => r' y w M4 Q else Q (.bl false) M3 := by
  unfold tCh oBl
  first | rfl | (congr; funext x M1; congr; funext y M2; congr; funext z M3; cases z <;> rfl)
theorem uNl0 : gNl [] τ M Qg = Qg τ M := propext Iff.rfl
theorem uCs1 : gCs g gs (x :: ds) τ M Qg = g x τ M fun τ' M' => gs ds τ' M' Qg := propext Iff.rfl
theorem uTp : gTp n gs x τ M Qg = oTup x fun ds => ds.length = n ∧ gs ds τ M Qg := by unfold gTp oTup; cases x <;> rfl
theorem uAg {r : R2t} : sAg i te r D0 τ M = oSome (nth τ i) fun x => te τ M fun y M1 => r x y M1 fun z M2 => D0.nx (τ.set i (some z)) M2 := by unfold sAg oSome; cases nth τ i <;> rfl
theorem uInt {C : Int → Int → Prop} {h : Int → Int → D} : bInt C h x y M Q = oInt x fun i => oInt y fun j => C i j ∧ Q (h i j) M := by unfold bInt oInt; cases x <;> cases y <;> rfl
theorem uInt0 {h : Int → Int → D} : bInt0 h x y M Q = oInt x fun i => oInt y fun j => Q (h i j) M := by unfold bInt0 oInt; cases x <;> cases y <;> rfl
theorem uNegI : uNeg x M Q = oInt x fun i => Q (.int (-i)) M := by unfold uNeg oInt; cases x <;> rfl
theorem uEq : bEq x y M Q = oSome (dScal x y) fun b => Q (.bl b) M := by unfold bEq oSome; cases dScal x y <;> rfl
theorem uNe : bNe x y M Q = oSome (dScal x y) fun b => Q (.bl (!b)) M := by unfold bNe oSome; cases dScal x y <;> rfl
theorem dScal_ii {a b : Int} : dScal (.int a) (.int b) = some (decide (a = b)) := rfl
theorem dScal_ss {a b : Str} : dScal (.str a) (.str b) = some (decide (a = b)) := rfl
theorem dScal_bb {a b : Bool} : dScal (.bl a) (.bl b) = some (decide (a = b)) := rfl
theorem dScal_nn : dScal .non .non = some true := rfl
theorem dScal_ni {a : Int} : dScal .non (.int a) = some false := rfl
theorem dScal_in {a : Int} : dScal (.int a) .non = some false := rfl
theorem dScal_is {a : Int} {s : Str} : dScal (.int a) (.str s) = some false := rfl
theorem dScal_si {a : Int} {s : Str} : dScal (.str s) (.int a) = some false := rfl
theorem uIsN : bIsN x .non M Q = Q (.bl (isNonD x)) M := propext Iff.rfl
theorem uNotN : bNotN x .non M Q = Q (.bl (!isNonD x)) M := propext Iff.rfl
theorem nonD_n : isNonD .non = true := rfl
theorem nonD_i {a : Int} : isNonD (.int a) = false := rfl
theorem nonD_s {a : Str} : isNonD (.str a) = false := rfl
theorem nonD_t {a : List D} : isNonD (.tup a) = false := rfl
theorem nonD_l {a : List D} : isNonD (.lst a) = false := rfl
theorem nonD_b {a : Bool} : isNonD (.bl a) = false := rfl
theorem nonD_r {a : Addr} : isNonD (.ref a) = false := rfl
theorem uCatS : bCatS x y M Q = oStr x fun a => oStr y fun b => a.length + b.length ≤ 16777216 ∧ Q (.str (a ++ b)) M := by unfold bCatS oStr; rw [sizeLine_eq]; cases x <;> cases y <;> rfl
theorem uCatL : bCatL x y M Q = oSome (lstOf M x) fun a => oSome (lstOf M y) fun b => a.length + b.length ≤ 16777216 ∧ Q (.lst (a ++ b)) M := by unfold bCatL oSome; rw [sizeLine_eq]; cases lstOf M x <;> cases lstOf M y <;> rfl
theorem uCatM : bCatM x y M Q = oSome (lstOf M x) fun a => oSome (lstOf M y) fun b => a.length + b.length ≤ 16777216 ∧ ∀ p, M p = none → Q (.ref p) (mup M p (.lst (a ++ b))) := by unfold bCatM oSome; rw [sizeLine_eq]; cases lstOf M x <;> cases lstOf M y <;> rfl
theorem lstOf_l : lstOf M (.lst ds) = some ds := rfl
theorem lstOf_c : lstOf M (.scr ds) = some ds := rfl
theorem lstOf_m {a : Addr} : lstOf (mup M a (.lst ds)) (.ref a) = some ds := by simp only [lstOf, mup_same]
theorem trkOf_l : trkOf M (.lst ds) = some ds := rfl
theorem trkOf_m {a : Addr} : trkOf (mup M a (.lst ds)) (.ref a) = some ds := by simp only [trkOf, mup_same]
theorem tupOf_t : tupOf (.tup ds) = some ds := rfl
theorem tupOf_b : tupOf (.tab ds) = some ds := rfl
theorem seqOf_t : seqOf M (.tup ds) = some ds := rfl
theorem seqOf_b : seqOf M (.tab ds) = some ds := rfl
theorem seqOf_l : seqOf M (.lst ds) = some ds := rfl
theorem seqOf_c : seqOf M (.scr ds) = some ds := rfl
theorem seqOf_r {a : Addr} : seqOf M (.ref a) = lstOf M (.ref a) := rfl
theorem uIx_t : bIx (.tup ds) (.int k) M Q = oSome (atI ds k) fun d => Q d M := by
  show (match atI ds k with | some d => Q d M | none => False) = _
  unfold oSome; cases atI ds k <;> rfl
theorem uIx_b : bIx (.tab ds) (.int k) M Q = oSome (atI ds k) fun d => Q d M := by
  show (match atI ds k with | some d => Q d M | none => False) = _
  unfold oSome; cases atI ds k <;> rfl
theorem uIx_l : bIx (.lst ds) (.int k) M Q = oSome (atI ds k) fun d => Q d M := by
  show (match atI ds k with | some d => Q d M | none => False) = _
  unfold oSome; cases atI ds k <;> rfl
theorem uIx_c : bIx (.scr ds) (.int k) M Q = oSome (atI ds k) fun d => Q d M := by
  show (match atI ds k with | some d => Q d M | none => False) = _
  unfold oSome; cases atI ds k <;> rfl
theorem uIx_s {z : Str} : bIx (.str z) (.int k) M Q = (z.length ≤ 16777216 ∧ oSome (atI z.cps.toList k) fun c => Q (.str ⟨#[c]⟩) M) := by
  show (z.length ≤ sizeLine ∧ match atI z.cps.toList k with | some c => Q (.str ⟨#[c]⟩) M | none => False) = _
  unfold oSome; rw [sizeLine_eq]; cases atI z.cps.toList k <;> rfl
theorem uIx_r {a : Addr} : bIx (.ref a) (.int k) M Q = oSome (lstOf M (.ref a)) fun ds => oSome (atI ds k) fun d => Q d M := by
  show (match lstOf M (.ref a) with | some ds => (match atI ds k with | some d => Q d M | none => False) | none => False) = _
  unfold oSome
  cases lstOf M (.ref a) with
  | none => rfl
  | some ds => cases h : atI ds k <;> simp [h]
theorem uYes : oYes te τ M QO = te τ M fun d M1 => oInt d fun i => QO (some i) M1 := by
  unfold oYes oInt
  first | rfl | (congr; first | rfl | (funext x M1; cases x <;> rfl))
theorem uSlL : cSlL x lo hi M Q = oSome (lstOf M x) fun ds => Q (.lst (cutD ds lo hi)) M := by unfold cSlL oSome; cases lstOf M x <;> rfl
theorem uSlM : cSlM x lo hi M Q = oSome (lstOf M x) fun ds => ∀ p, M p = none → Q (.ref p) (mup M p (.lst (cutD ds lo hi))) := by unfold cSlM oSome; cases lstOf M x <;> rfl
theorem uSlS : cSlS x lo hi M Q = oStr x fun z => z.length ≤ 16777216 ∧ Q (.str (cutS z lo hi)) M := by unfold cSlS oStr; rw [sizeLine_eq] <;> (cases x <;> rfl)
theorem uIsi {T : String} : cIsi [x, .ty T] M Q = oSome (dTy M x) fun t => oSome (kitB t T) fun b => Q (.bl b) M := by
  show (match dTy M x with | some t => (match kitB t T with | some b => Q (.bl b) M | none => False) | none => False) = _
  unfold oSome
  cases dTy M x with
  | none => rfl
  | some t => cases h : kitB t T <;> simp [h]
theorem dTy_n : dTy M .non = some "NoneType" := rfl
theorem dTy_b {b : Bool} : dTy M (.bl b) = some "bool" := rfl
theorem dTy_i {i : Int} : dTy M (.int i) = some "int" := rfl
theorem dTy_s {s : Str} : dTy M (.str s) = some "str" := rfl
theorem dTy_t : dTy M (.tup ds) = some "tuple" := rfl
theorem dTy_l : dTy M (.lst ds) = some "list" := rfl
theorem uLen : cLen [x] M Q = oSome (lenOf M x) fun n => Q (.int (n : Int)) M := by
  show (match lenOf M x with | some n => Q (.int (n : Int)) M | none => False) = _
  unfold oSome; cases lenOf M x <;> rfl
theorem lenOf_t : lenOf M (.tup ds) = some ds.length := rfl
theorem lenOf_b : lenOf M (.tab ds) = some ds.length := rfl
theorem lenOf_l : lenOf M (.lst ds) = some ds.length := rfl
theorem lenOf_c : lenOf M (.scr ds) = some ds.length := rfl
theorem lenOf_m {a : Addr} : lenOf (mup M a (.lst ds)) (.ref a) = some ds.length := by simp only [lenOf, mup_same]
theorem uIntI {i : Int} : cInt [.int i] M Q = Q (.int i) M := propext Iff.rfl
theorem uIntB {b : Bool} : cInt [.bl b] M Q = Q (.int (if b then 1 else 0)) M := propext Iff.rfl
theorem uLs : iLs te τ M QI = te τ M fun d M1 => oSome (lstOf M1 d) fun ds => QI ⟨ds, fun M => lstOf M d = some ds⟩ M1 := by
  unfold iLs oSome
  first | rfl | (congr; funext d M1; cases lstOf M1 d <;> rfl)
theorem uTu : iTu te τ M QI = te τ M fun d M1 => oSome (tupOf d) fun ds => QI ⟨ds, fun _ => True⟩ M1 := by
  unfold iTu oSome
  first | rfl | (congr; funext d M1; cases tupOf d <;> rfl)
def oL1 (ds : List D) (k : D → Prop) : Prop := match ds with
  | [x] => k x
  | _ => False
def oL2 (ds : List D) (k : D → D → Prop) : Prop := match ds with
  | [x, y] => k x y
  | _ => False
def oL3 (ds : List D) (k : D → D → D → Prop) : Prop := match ds with
  | [x, y, z] => k x y z
  | _ => False
theorem oL1_i {x : D} {k : D → Prop} : oL1 [x] k = k x := propext Iff.rfl
theorem oL2_i {x y : D} {k : D → D → Prop} : oL2 [x, y] k = k x y := propext Iff.rfl
theorem oL3_i {x y z : D} {k : D → D → D → Prop} : oL3 [x, y, z] k = k x y z := propext Iff.rfl
theorem uR1 : iR1 tA τ M QI = tA τ M fun ds M1 => oL1 ds fun d => oInt d fun j => (-4611686018427387904 ≤ j ∧ j < 4611686018427387904) ∧ QI ⟨(List.range j.toNat).map fun i => .int (i : Nat), fun _ => True⟩ M1 := by
  unfold iR1
  congr; funext ds M1
  rcases ds with _ | ⟨d, _ | ⟨e, r⟩⟩
  · rfl
  · cases d <;> rfl
  · cases d <;> rfl
theorem uR2 : iR2 tA τ M QI = tA τ M fun ds M1 => oL2 ds fun d e => oInt d fun i => oInt e fun j => (-4611686018427387904 ≤ i ∧ i < 4611686018427387904 ∧ -4611686018427387904 ≤ j ∧ j < 4611686018427387904) ∧ QI ⟨(List.range (j - i).toNat).map fun k => .int (i + (k : Nat)), fun _ => True⟩ M1 := by
  unfold iR2
  congr; funext ds M1
  rcases ds with _ | ⟨d, _ | ⟨e, _ | ⟨f, r⟩⟩⟩
  · rfl
  · cases d <;> rfl
  · cases d <;> cases e <;> rfl
  · cases d <;> cases e <;> rfl
theorem uR3 : iR3 tA τ M QI = tA τ M fun ds M1 => oL3 ds fun d e f => oInt d fun i => oInt e fun j => oInt f fun c => ∃ n, RgC i j c n ∧ QI ⟨(List.range n).map fun k => .int (i + (k : Nat) * c), fun _ => True⟩ M1 := by
  unfold iR3
  congr; funext ds M1
  rcases ds with _ | ⟨d, _ | ⟨e, _ | ⟨f, _ | ⟨f2, r⟩⟩⟩⟩
  · rfl
  · cases d <;> rfl
  · cases d <;> cases e <;> rfl
  · cases d <;> cases e <;> cases f <;> rfl
  · cases d <;> cases e <;> cases f <;> rfl
theorem uEn : iEn tA τ M QI = tA τ M fun ds M1 => oL1 ds fun d => oSome (lstOf M1 d) fun xs => QI ⟨enumD xs, fun M => lstOf M d = some xs⟩ M1 := by
  unfold iEn
  congr; funext ds M1
  rcases ds with _ | ⟨d, _ | ⟨e, r⟩⟩
  · rfl
  · simp only [oL1, oSome]; cases lstOf M1 d <;> rfl
  · rfl
theorem uZi : iZi tA τ M QI = tA τ M fun ds M1 => oL2 ds fun d e => oSome (lstOf M1 d) fun xs => oSome (lstOf M1 e) fun ys => QI ⟨zipD xs ys, fun M => lstOf M d = some xs ∧ lstOf M e = some ys⟩ M1 := by
  unfold iZi
  congr; funext ds M1
  rcases ds with _ | ⟨d, _ | ⟨e, _ | ⟨f, r⟩⟩⟩
  · rfl
  · rfl
  · simp only [oL2, oSome]; cases lstOf M1 d <;> cases lstOf M1 e <;> rfl
  · rfl
theorem uSt : iSt te τ M QI = te τ M fun d M1 => oStr d fun z => QI ⟨z.cps.toList.map fun c => .str ⟨#[c]⟩, fun _ => True⟩ M1 := by
  unfold iSt oStr
  first | rfl | (congr; first | rfl | (funext x M1; cases x <;> rfl))
theorem uRv : iRv tA τ M QI = tA τ M fun ds M1 => oL1 ds fun d => oSome (lstOf M1 d) fun xs => QI ⟨xs.reverse, fun M => lstOf M d = some xs⟩ M1 := by
  unfold iRv
  congr; funext ds M1
  rcases ds with _ | ⟨d, _ | ⟨e, r⟩⟩
  · rfl
  · simp only [oL1, oSome]; cases lstOf M1 d <;> rfl
  · rfl
theorem uDivmod : cDivmod [x, y] M Q = oInt x fun i => oInt y fun j => CDivZ i j ∧ Q (.tup [.int (i.fdiv j), .int (i.fmod j)]) M := by unfold oInt; cases x <;> cases y <;> rfl
theorem uList : cList [x] M Q = oSome (seqOf M x) fun es => Q (.lst es) M := by
  show (match seqOf M x with | some es => Q (.lst es) M | none => False) = _
  unfold oSome; cases seqOf M x <;> rfl
theorem uListM : cListM [x] M Q = oSome (seqOf M x) fun es => ∀ p, M p = none → Q (.ref p) (mup M p (.lst es)) := by
  show (match seqOf M x with | some es => ∀ p, M p = none → Q (.ref p) (mup M p (.lst es)) | none => False) = _
  unfold oSome; cases seqOf M x <;> rfl
theorem uSum : cSum [x] M Q = oSome (intLst M x) fun is => Q (.int is.sum) M := by
  show (match intLst M x with | some is => Q (.int is.sum) M | none => False) = _
  unfold oSome; cases intLst M x <;> rfl
theorem uMax : cMax [x] M Q = oSome (intLst M x) fun is => 0 < is.length ∧ ∀ m, m ∈ is → (∀ y, y ∈ is → y ≤ m) → Q (.int m) M := by
  show (match intLst M x with | some is => 0 < is.length ∧ ∀ m, m ∈ is → (∀ y, y ∈ is → y ≤ m) → Q (.int m) M | none => False) = _
  unfold oSome; cases intLst M x <;> rfl
theorem uMin : cMin [x] M Q = oSome (intLst M x) fun is => 0 < is.length ∧ ∀ m, m ∈ is → (∀ y, y ∈ is → m ≤ y) → Q (.int m) M := by
  show (match intLst M x with | some is => 0 < is.length ∧ ∀ m, m ∈ is → (∀ y, y ∈ is → m ≤ y) → Q (.int m) M | none => False) = _
  unfold oSome; cases intLst M x <;> rfl
theorem intLst_l {is : List Int} : intLst M (.lst (is.map D.int)) = some is := intsD_map is
theorem intLst_c {is : List Int} : intLst M (.scr (is.map D.int)) = some is := intsD_map is
theorem blLst_l {is : List Bool} : blLst M (.lst (is.map D.bl)) = some is := blsD_map is
theorem uMax2 : cMax2 [x, y] M Q = oInt x fun i => oInt y fun j => Q (.int (if j > i then j else i)) M := by unfold oInt; cases x <;> cases y <;> rfl
theorem uMin2 : cMin2 [x, y] M Q = oInt x fun i => oInt y fun j => Q (.int (if j < i then j else i)) M := by unfold oInt; cases x <;> cases y <;> rfl
theorem uAbs : cAbs [x] M Q = oInt x fun i => Q (.int (if i < 0 then -i else i)) M := by unfold oInt; cases x <;> rfl
theorem uAny : cAny [x] M Q = oSome (blLst M x) fun is => Q (.bl (is.any id)) M := by
  show (match blLst M x with | some is => Q (.bl (is.any id)) M | none => False) = _
  unfold oSome; cases blLst M x <;> rfl
theorem uAll : cAll [x] M Q = oSome (blLst M x) fun is => Q (.bl (is.all id)) M := by
  show (match blLst M x with | some is => Q (.bl (is.all id)) M | none => False) = _
  unfold oSome; cases blLst M x <;> rfl
def mLst (M : MH) (a : Addr) : Option (List D) := match M a with
  | some (.lst ds) => some ds
  | _ => none
theorem mLst_m {a : Addr} : mLst (mup M a (.lst ds)) a = some ds := by unfold mLst; rw [mup_same]
theorem uAppend {l : Addr} : mAppend (.ref l) [y] M Q = oSome (mLst M l) fun ds => ds.length < 16777216 ∧ Q .non (mup M l (.lst (ds ++ [y]))) := by
  show (match M l with | some (.lst ds) => ds.length < sizeLine ∧ Q .non (mup M l (.lst (ds ++ [y]))) | _ => False) = _
  unfold oSome mLst; rw [sizeLine_eq]
  cases M l with
  | none => rfl
  | some o => cases o <;> rfl
theorem uExtend {l : Addr} : mExtend (.ref l) [y] M Q = oSome (mLst M l) fun ds => oSome (trkOf M y) fun es => ds.length + es.length ≤ 16777216 ∧ Q .non (mup M l (.lst (ds ++ es))) := by
  show (match M l with | some (.lst ds) => (match trkOf M y with | some es => ds.length + es.length ≤ sizeLine ∧ Q .non (mup M l (.lst (ds ++ es))) | none => False) | _ => False) = _
  unfold oSome mLst; rw [sizeLine_eq]
  cases M l with
  | none => rfl
  | some o => cases o <;> first | rfl | (cases h : trkOf M y <;> simp [h])
theorem uPop {l : Addr} : mPop (.ref l) [] M Q = oSome (mLst M l) fun ds => oSome ds.getLast? fun y => Q y (mup M l (.lst ds.dropLast)) := by
  show (match M l with | some (.lst ds) => (match ds.getLast? with | some y => Q y (mup M l (.lst ds.dropLast)) | none => False) | _ => False) = _
  unfold oSome mLst
  cases M l with
  | none => rfl
  | some o =>
    cases o with
    | lst ds => cases h : ds.getLast? <;> simp [h]
    | _ => rfl
theorem uSet {l : Addr} {Qm : MH → Prop} : zList (.ref l) (.int k) y M Qm = oSome (mLst M l) fun ds => oSome (ixN ds.length k) fun j => Qm (mup M l (.lst (ds.set j y))) := by
  show (match M l with | some (.lst ds) => (match ixN ds.length k with | some j => Qm (mup M l (.lst (ds.set j y))) | none => False) | _ => False) = _
  unfold oSome mLst
  cases M l with
  | none => rfl
  | some o =>
    cases o with
    | lst ds => cases h : ixN ds.length k <;> simp [h]
    | _ => rfl
theorem lMt_l : (lstOf M (.lst ds)).isSome = true := rfl
theorem isS_m {a : Addr} : (lstOf (mup M a (.lst ds)) (.ref a)).isSome = true := by rw [lstOf_m]; rfl
theorem atI_0 {α : Type} {x : α} {r : List α} : atI (x :: r) 0 = some x := atI_nat (j := 0) rfl
theorem atI_1 {α : Type} {x y : α} {r : List α} : atI (x :: y :: r) 1 = some y := atI_nat (j := 1) rfl
theorem atI_2 {α : Type} {x y z : α} {r : List α} : atI (x :: y :: z :: r) 2 = some z := atI_nat (j := 2) rfl
theorem atI_3 {α : Type} {x y z a : α} {r : List α} : atI (x :: y :: z :: a :: r) 3 = some a := atI_nat (j := 3) rfl
theorem atI_4 {α : Type} {x y z a b : α} {r : List α} : atI (x :: y :: z :: a :: b :: r) 4 = some b := atI_nat (j := 4) rfl
theorem atI_5 {α : Type} {x y z a b c : α} {r : List α} : atI (x :: y :: z :: a :: b :: c :: r) 5 = some c := atI_nat (j := 5) rfl
end
end Tl
namespace Tl
open PySem PySem.Spec PyProof.Rows L2
/-! ### comprehensions whose turns change nothing -/
/-- what is kept and what it comes to; what is left out -/
inductive Sel {α β : Type} (P : α → β → Prop) (N : α → Prop) : List α → List β → Prop
  | nil : Sel P N [] []
  | keep {x : α} {y : β} {xs : List α} {ys : List β} (h : P x y) (t : Sel P N xs ys) : Sel P N (x :: xs) (y :: ys)
  | drop {x : α} {xs : List α} {ys : List β} (h : N x) (t : Sel P N xs ys) : Sel P N (x :: xs) ys
section
variable {α β : Type} {P : α → β → Prop} {N : α → Prop}
theorem Sel.len {xs : List α} {ys : List β} (h : Sel P N xs ys) : ys.length ≤ xs.length := by
  induction h with
  | nil => exact Nat.le_refl _
  | keep h t ih => exact Nat.succ_le_succ ih
  | drop h t ih => exact Nat.le_succ_of_le ih
theorem Sel.map {f : α → β} {xs : List α} {ys : List β} (h : Sel (fun x y => y = f x) (fun _ => False) xs ys) : ys = xs.map f := by
  induction h with
  | nil => rfl
  | keep h t ih => rw [h, ih]; rfl
  | drop h t ih => exact h.elim
theorem Sel.filter {f : α → β} {p : α → Bool} {xs : List α} {ys : List β} (h : Sel (fun x y => p x = true ∧ y = f x) (fun x => p x = false) xs ys) : ys = (xs.filter p).map f := by
  induction h with
  | nil => rfl
  | keep h t ih => rw [List.filter_cons, if_pos h.1, h.2, ih]; rfl
  | drop h t ih => rw [List.filter_cons, if_neg (by rw [h]; decide), ih]
theorem Sel.ex {α β γ : Type} {Pz : α → γ → Prop} {Nz : α → Prop} {a : γ → β} {xs : List α} {ys : List β} (h : Sel (fun x y => ∃ b, y = a b ∧ Pz x b) Nz xs ys) : ∃ bs : List γ, ys = bs.map a ∧ ∀ b ∈ bs, ∃ x ∈ xs, Pz x b := by
  induction h with
  | nil => exact ⟨[], rfl, by simp⟩
  | @keep x y xs ys h t ih =>
    obtain ⟨ms, rfl, h2⟩ := ih
    obtain ⟨n, rfl, hn⟩ := h
    refine ⟨n :: ms, rfl, fun b hb => ?_⟩
    rcases List.mem_cons.mp hb with rfl | hm
    · exact ⟨x, List.mem_cons_self .., hn⟩
    · obtain ⟨x', hx, hp⟩ := h2 b hm
      exact ⟨x', List.mem_cons_of_mem _ hx, hp⟩
  | drop h t ih =>
    obtain ⟨ms, rfl, h2⟩ := ih
    refine ⟨ms, rfl, fun b hb => ?_⟩
    obtain ⟨x', hx, hp⟩ := h2 b hb
    exact ⟨x', List.mem_cons_of_mem _ hx, hp⟩
theorem Sel.all {Z : β → Prop} {xs : List α} {ys : List β} (h : Sel P N xs ys) (hz : ∀ x y, x ∈ xs → P x y → Z y) : ∀ y ∈ ys, Z y := by
  induction h with
  | nil => intro y hy; cases hy
  | keep h t ih =>
    intro y hy
    rcases List.mem_cons.mp hy with e | hy
    · rw [e]; exact hz _ _ (List.mem_cons_self ..) h
    · exact ih (fun x y hx => hz x y (List.mem_cons_of_mem _ hx)) y hy
  | drop h t ih => exact ih (fun x y hx => hz x y (List.mem_cons_of_mem _ hx))
end
section
variable {ti : TIt} {g : TGt} {tt : TTt} {te : TEt} {vs : List Nat} {τ : Sg} {M : MH} {Q : VD}
/-- the rest of a comprehension when its source is known -/
def LcGo (g : TGt) (tt : TTt) (te : TEt) (vs : List Nat) (τ : Sg) (Q : VD) (I : Its) (M1 : MH) : Prop := I.items.length < sizeLine ∧ ∃ W : Nat → List D → MH → Prop, W 0 [] M1 ∧ (∀ i acc M, W i acc M → I.src M ∧ acc.length ≤ i) ∧
  (∀ i x acc M, I.items[i]? = some x → W i acc M → g x (wip τ vs) M fun τ2 M2 => tt τ2 M2 fun b M3 => if b = true then te τ2 M3 fun y M4 => W (i + 1) (acc ++ [y]) M4 else W (i + 1) acc M3) ∧ ∀ acc M, W I.items.length acc M → Q (.lst acc) M
theorem uLcF : tLcF ti g tt te vs τ M Q = ti τ M (LcGo g tt te vs τ Q) := propext Iff.rfl
def asRef (Q : VD) : VD := fun d M1 => match d with
  | .lst acc => ∀ p, M1 p = none → Q (.ref p) (mup M1 p (.lst acc))
  | _ => False
theorem uLcV' : tLcV ti g tt te vs τ M Q = ti τ M (LcGo g tt te vs τ (asRef Q)) := rfl
theorem uAsRef {acc : List D} : asRef Q (.lst acc) M = ∀ p, M p = none → Q (.ref p) (mup M p (.lst acc)) := propext Iff.rfl
/-- a comprehension, from the left: W holds of what was gathered -/
theorem lc_any {I : Its} {M : MH} (W : Nat → List D → MH → Prop) (hz : I.items.length < sizeLine) (w0 : W 0 [] M) (ws : ∀ i acc M, W i acc M → I.src M ∧ acc.length ≤ i)
    (hs : ∀ i x acc M, I.items[i]? = some x → W i acc M → g x (wip τ vs) M fun τ2 M2 => tt τ2 M2 fun b M3 => if b = true then te τ2 M3 fun y M4 => W (i + 1) (acc ++ [y]) M4 else W (i + 1) acc M3) (hd : ∀ acc M, W I.items.length acc M → Q (.lst acc) M) :
    LcGo g tt te vs τ Q I M := ⟨hz, W, w0, ws, hs, hd⟩
/-- a comprehension that computes f of each item, and keeps the memory -/
theorem lc_map {I : Its} (xs : List α) (a : α → D) (f : α → D) (hi : I.items = xs.map a) (hz : xs.length < sizeLine) (hs : I.src M)
    (h : ∀ (x : α) (R1 : VD) (R0 : MH → Prop), x ∈ xs → R1 (f x) M → g (a x) (wip τ vs) M fun τ2 M2 => tt τ2 M2 fun b M3 => if b = true then te τ2 M3 R1 else R0 M3)
    (k : Q (.lst (xs.map f)) M) : LcGo g tt te vs τ Q I M := by
  refine ⟨by rw [hi, List.length_map]; exact hz, fun i acc M' => M' = M ∧ acc = (xs.take i).map f, ⟨rfl, by simp⟩, ?_, ?_, ?_⟩
  · rintro i acc _ ⟨rfl, rfl⟩
    exact ⟨hs, by simp only [List.length_map, List.length_take]; omega⟩
  · rintro i x acc _ hx ⟨rfl, rfl⟩
    rw [hi, List.getElem?_map] at hx
    obtain ⟨y, hy, rfl⟩ := Option.map_eq_some_iff.mp hx
    refine h y _ _ (List.mem_of_getElem? hy) ⟨rfl, ?_⟩
    rw [List.take_add_one, hy]; simp
  · rintro acc _ ⟨rfl, rfl⟩
    rw [hi, List.length_map, List.take_length]
    exact k
/-- a comprehension that keeps the items that answer p, and computes f of them -/
theorem lc_filter {I : Its} (xs : List α) (a : α → D) (p : α → Bool) (f : α → D) (hi : I.items = xs.map a) (hz : xs.length < sizeLine) (hs : I.src M)
    (h : ∀ (x : α) (R1 : VD) (R0 : MH → Prop), x ∈ xs → (p x = true → R1 (f x) M) → (p x = false → R0 M) → g (a x) (wip τ vs) M fun τ2 M2 => tt τ2 M2 fun b M3 => if b = true then te τ2 M3 R1 else R0 M3)
    (k : Q (.lst ((xs.filter p).map f)) M) : LcGo g tt te vs τ Q I M := by
  refine ⟨by rw [hi, List.length_map]; exact hz, fun i acc M' => M' = M ∧ acc = ((xs.take i).filter p).map f, ⟨rfl, by simp⟩, ?_, ?_, ?_⟩
  · rintro i acc _ ⟨rfl, rfl⟩
    refine ⟨hs, ?_⟩
    simp only [List.length_map]
    have := List.length_filter_le p (xs.take i)
    rw [List.length_take] at this
    omega
  · rintro i x acc _ hx ⟨rfl, rfl⟩
    rw [hi, List.getElem?_map] at hx
    obtain ⟨y, hy, rfl⟩ := Option.map_eq_some_iff.mp hx
    refine h y _ _ (List.mem_of_getElem? hy) (fun e => ⟨rfl, ?_⟩) fun e => ⟨rfl, ?_⟩
    · rw [List.take_add_one, hy]; simp [List.filter_append, e]
    · rw [List.take_add_one, hy]; simp [List.filter_append, e]
  · rintro acc _ ⟨rfl, rfl⟩
    rw [hi, List.length_map, List.take_length]
    exact k
end
/-- the rest of a loop when its source is known -/
def ForGo (g : TGt) (tb : TSt) (D0 : En) (τ : Sg) (I : Its) (M1 : MH) : Prop := ∃ W : Nat → Sg → MH → Prop, W 0 τ M1 ∧ (∀ i τ M, W i τ M → I.src M) ∧
  (∀ i x τ M, I.items[i]? = some x → W i τ M → g x τ M fun τ2 M2 => tb { D0 with nx := W (i + 1), ct := W (i + 1), bk := D0.nx } τ2 M2) ∧ ∀ τ M, W I.items.length τ M → D0.nx τ M
theorem uFo {ti : TIt} {g : TGt} {tb : TSt} {D0 : En} {τ : Sg} {M : MH} : sFo ti g tb D0 τ M = ti τ M (ForGo g tb D0 τ) := propext Iff.rfl
/-- a loop whose turns keep a word of the slots, from the left; a return on the way ends it -/
theorem for_any {I : Its} {g : TGt} {tb : TSt} {D0 : En} {τ : Sg} {M : MH} (W : Nat → Sg → MH → Prop) (w0 : W 0 τ M) (ws : ∀ i τ M, W i τ M → I.src M)
    (hs : ∀ i x τ M, I.items[i]? = some x → W i τ M → g x τ M fun τ2 M2 => tb { D0 with nx := W (i + 1), ct := W (i + 1), bk := D0.nx } τ2 M2) (hd : ∀ τ M, W I.items.length τ M → D0.nx τ M) :
    ForGo g tb D0 τ I M := ⟨W, w0, ws, hs, hd⟩
/-- the same over a mapped list, the invariant told of what is done -/
theorem for_map {I : Its} {g : TGt} {tb : TSt} {D0 : En} {τ : Sg} {M : MH} (xs : List α) (a : α → D) (hi : I.items = xs.map a) (W : List α → Sg → MH → Prop) (w0 : W [] τ M) (ws : ∀ ys τ M, W ys τ M → I.src M)
    (hs : ∀ ys x zs τ M (Nx : Sg → MH → Prop), xs = ys ++ x :: zs → W ys τ M → (∀ τ' M', W (ys ++ [x]) τ' M' → Nx τ' M') → g (a x) τ M fun τ2 M2 => tb { D0 with nx := Nx, ct := Nx, bk := D0.nx } τ2 M2) (hd : ∀ τ M, W xs τ M → D0.nx τ M) :
    ForGo g tb D0 τ I M := by
  refine ⟨fun i => W (xs.take i), by simpa using w0, fun i τ M w => ws _ τ M w, ?_, ?_⟩
  · intro i x τ M hx w
    rw [hi, List.getElem?_map] at hx
    obtain ⟨y, hy, rfl⟩ := Option.map_eq_some_iff.mp hx
    have hl := (List.getElem?_eq_some_iff.mp hy)
    obtain ⟨h1, h2⟩ := hl
    refine hs (xs.take i) y (xs.drop (i + 1)) τ M _ ?_ w fun τ' M' w' => ?_
    · rw [← h2, List.getElem_cons_drop, List.take_append_drop]
    · show W (xs.take (i + 1)) τ' M'
      rw [List.take_add_one, hy]; exact w'
  · intro τ M w
    refine hd τ M ?_
    rw [hi, List.length_map, List.take_length] at w
    exact w
/-- a while loop with a measure -/
theorem wh_any {c : TTt} {tb : TSt} {D0 : En} {τ : Sg} {M : MH} (W : Nat → Sg → MH → Prop) (m : Nat) (w0 : W m τ M)
    (hs : ∀ m τ M, W m τ M → c τ M fun b M1 => if b = true then tb { D0 with nx := fun τ' M' => ∃ m', m' < m ∧ W m' τ' M', ct := fun τ' M' => ∃ m', m' < m ∧ W m' τ' M', bk := D0.nx } τ M1 else D0.nx τ M1) : sWh c tb D0 τ M := ⟨W, ⟨m, w0⟩, hs⟩
end Tl
namespace Tl
open PySem PySem.Spec PyProof.Rows L2
/-! ### instances -/
def oObj (M : MH) (x : D) (k : Addr → Addr → Addr → List Str → List D → Prop) : Prop := match x with
  | .ref a => match M a with
    | some (.obj C dx fl ds) => k a C dx fl ds
    | _ => False
  | _ => False
theorem oObj_e {M : MH} {x : D} {k : Addr → Addr → Addr → List Str → List D → Prop} (h : oObj M x k) : ∃ a C dx fl ds, x = .ref a ∧ M a = some (.obj C dx fl ds) ∧ k a C dx fl ds := by
  unfold oObj at h
  cases x with
  | ref a =>
    cases e : M a with
    | none => simp only [e] at h
    | some o =>
      cases o with
      | obj C dx fl ds => simp only [e] at h; exact ⟨a, C, dx, fl, ds, rfl, e, h⟩
      | _ => simp only [e] at h
  | _ => exact h.elim
theorem RpO_obj {K : PySem.W.Frag} {F : Hp} {u : HO} {C dx : Addr} {fl : List Str} {ds : List D} (r : RpO K F u (.obj C dx fl ds)) : ∃ fs, u = .ins C dx fs ∧ fl.Nodup ∧ fs.map (·.1) = fl.take ds.length ∧ Rps K F (fs.map (·.2)) ds := by
  cases u with
  | ins C1 dx1 fs =>
    obtain ⟨rfl, rfl, nd, hn, rr⟩ := r
    exact ⟨fs, rfl, nd, hn, rr⟩
  | _ => exact (r : False).elim
def nthD : List D → Nat → Option D
  | [], _ => none
  | x :: _, 0 => some x
  | _ :: t, n + 1 => nthD t n
def putD : List D → Nat → D → List D
  | [], _, d => [d]
  | _ :: t, 0, d => d :: t
  | x :: t, n + 1, d => x :: putD t n d
theorem nthD_get : ∀ {l : List D} {i : Nat} {d : D}, nthD l i = some d → l[i]? = some d
  | [], _, _, h => by cases h
  | x :: _, 0, d, h => by rw [List.getElem?_cons_zero]; exact h
  | _ :: t, n + 1, d, h => by rw [List.getElem?_cons_succ]; exact nthD_get (l := t) h
theorem look_at {f : Str} {v : V} : ∀ {fs : List (Str × V)} {i : Nat}, (fs.map (·.1)).Nodup → fs[i]? = some (f, v) → fs.lookup f = some v
  | [], _, _, h => by rw [List.getElem?_nil] at h; cases h
  | (g, x) :: r, 0, _, h => by
    rw [List.getElem?_cons_zero] at h
    cases h
    show (match f == f with | true => some v | false => r.lookup f) = some v
    rw [show (f == f) = true from beq_iff_eq.mpr rfl]
  | (g, x) :: r, n + 1, nd, h => by
    rw [List.getElem?_cons_succ] at h
    have hm : f ∈ r.map (·.1) := List.mem_map.mpr ⟨(f, v), List.mem_of_getElem? h, rfl⟩
    have nd2 := List.nodup_cons.mp (show (g :: r.map (·.1)).Nodup from nd)
    have ne : (f == g) = false := beq_eq_false_iff_ne.mpr fun e => nd2.1 (e ▸ hm)
    show (match f == g with | true => some x | false => r.lookup f) = some v
    rw [ne]
    exact look_at nd2.2 h
theorem look_not {f : Str} : ∀ {fs : List (Str × V)}, f ∉ fs.map (·.1) → fs.lookup f = none
  | [], _ => rfl
  | (g, x) :: r, h => by
    have h2 : f ∉ g :: r.map (·.1) := h
    rw [List.mem_cons, not_or] at h2
    show (match f == g with | true => some x | false => r.lookup f) = none
    rw [show (f == g) = false from beq_eq_false_iff_ne.mpr h2.1]
    exact look_not h2.2
theorem putF_at {f : Str} {v v0 : V} : ∀ {fs : List (Str × V)} {i : Nat}, (fs.map (·.1)).Nodup → fs[i]? = some (f, v0) → putF f v fs = fs.set i (f, v)
  | [], _, _, h => by rw [List.getElem?_nil] at h; cases h
  | (g, x) :: r, 0, _, h => by
    rw [List.getElem?_cons_zero] at h
    cases h
    show (if f = f then (f, v) :: r else (f, v0) :: putF f v r) = (f, v) :: r
    rw [if_pos rfl]
  | (g, x) :: r, n + 1, nd, h => by
    rw [List.getElem?_cons_succ] at h
    have hm : f ∈ r.map (·.1) := List.mem_map.mpr ⟨(f, v0), List.mem_of_getElem? h, rfl⟩
    have nd2 := List.nodup_cons.mp (show (g :: r.map (·.1)).Nodup from nd)
    show (if g = f then (g, v) :: r else (g, x) :: putF f v r) = (g, x) :: r.set n (f, v)
    rw [if_neg fun e : g = f => nd2.1 (e ▸ hm), putF_at nd2.2 h]
theorem putF_new {f : Str} {v : V} : ∀ {fs : List (Str × V)}, f ∉ fs.map (·.1) → putF f v fs = fs ++ [(f, v)]
  | [], _ => rfl
  | (g, x) :: r, h => by
    have h2 : f ∉ g :: r.map (·.1) := h
    rw [List.mem_cons, not_or] at h2
    show (if g = f then (g, v) :: r else (g, x) :: putF f v r) = (g, x) :: (r ++ [(f, v)])
    rw [if_neg fun e : g = f => h2.1 e.symm, putF_new h2.2]
theorem putD_lt : ∀ {ds : List D} {i : Nat} {d : D}, i < ds.length → putD ds i d = ds.set i d
  | [], _, _, h => absurd h (Nat.not_lt_zero _)
  | _ :: _, 0, _, _ => rfl
  | x :: t, n + 1, d, h => by
    show x :: putD t n d = x :: t.set n d
    rw [putD_lt (Nat.lt_of_succ_lt_succ h)]
theorem putD_eq : ∀ {ds : List D} {d : D}, putD ds ds.length d = ds ++ [d]
  | [], _ => rfl
  | x :: t, d => by
    show x :: putD t t.length d = x :: (t ++ [d])
    rw [putD_eq]
theorem take_not {α : Type} {fl : List α} (nd : fl.Nodup) {n i : Nat} {f : α} (h : fl[i]? = some f) (hi : n ≤ i) : f ∉ fl.take n := by
  intro hm
  obtain ⟨j, hj⟩ := List.mem_iff_getElem?.mp hm
  have hj2 : j < n := by
    have := (List.getElem?_eq_some_iff.mp hj).1
    rw [List.length_take] at this; omega
  rw [List.getElem?_take_of_lt hj2] at hj
  obtain ⟨h1, e1⟩ := List.getElem?_eq_some_iff.mp h
  obtain ⟨h2, e2⟩ := List.getElem?_eq_some_iff.mp hj
  have := (List.getElem?_inj h2 nd).mp (hj.trans h.symm)
  omega
section
variable {K : PySem.W.Frag} {F : Hp} {fs : List (Str × V)} {fl : List Str} {ds : List D}
theorem fs_get (nd : fl.Nodup) (hn : fs.map (·.1) = fl.take ds.length) (r : Rps K F (fs.map (·.2)) ds) {i : Nat} {f : Str} {d : D} (hf : fl[i]? = some f) (hd : ds[i]? = some d) : ∃ v, fs.lookup f = some v ∧ fs[i]? = some (f, v) ∧ Rp K F v d := by
  obtain ⟨v, hv, rv⟩ := r.getD hd
  rw [List.getElem?_map] at hv
  obtain ⟨⟨g, v'⟩, e, rfl⟩ := Option.map_eq_some_iff.mp hv
  have hl := (List.getElem?_eq_some_iff.mp hd).1
  have h1 : (fs.map (·.1))[i]? = some g := by rw [List.getElem?_map, e]; rfl
  rw [hn, List.getElem?_take_of_lt hl, hf] at h1
  cases h1
  exact ⟨v', look_at (by rw [hn]; exact (List.take_sublist _ _).nodup nd) e, e, rv⟩
theorem fs_put (nd : fl.Nodup) (hn : fs.map (·.1) = fl.take ds.length) (r : Rps K F (fs.map (·.2)) ds) {i : Nat} {f : Str} {v : V} {d : D} (hf : fl[i]? = some f) (hi : i ≤ ds.length) (rv : Rp K F v d) :
    (putF f v fs).map (·.1) = fl.take (putD ds i d).length ∧ Rps K F ((putF f v fs).map (·.2)) (putD ds i d) := by
  have hlen : fs.length = ds.length := by rw [← r.length, List.length_map]
  have nd2 : (fs.map (·.1)).Nodup := by rw [hn]; exact (List.take_sublist _ _).nodup nd
  by_cases hlt : i < ds.length
  · obtain ⟨v0, _, e, _⟩ := fs_get nd hn r hf (List.getElem?_eq_getElem hlt)
    rw [putF_at nd2 e, putD_lt hlt]
    constructor
    · rw [List.map_set, List.length_set, ← hn]
      apply List.ext_getElem?
      intro j
      by_cases hj : i = j
      · subst hj
        rw [List.getElem?_set_self (by rw [List.length_map, hlen]; exact hlt), List.getElem?_map, e]; rfl
      · rw [List.getElem?_set_ne hj]
    · rw [List.map_set]
      exact r.set rv i
  · obtain rfl : i = ds.length := by omega
    have hnot : f ∉ fs.map (·.1) := by rw [hn]; exact take_not nd hf (Nat.le_refl _)
    rw [putF_new hnot, putD_eq]
    constructor
    · rw [List.map_append, List.length_append, hn]
      rw [show ds.length + [d].length = ds.length + 1 from rfl, List.take_add_one, hf]; rfl
    · rw [List.map_append]
      exact r.append (.cons rv .nil)
end
/-- e.f of an instance -/
def tFd (P : Addr → Prop) (fl : List Str) (i : Nat) (te : TEt) : TEt := fun τ M Q => te τ M fun x M1 => oObj M1 x fun _ C _ fl' ds => P C ∧ fl' = fl ∧ oSome (nthD ds i) fun d => Q d M1
/-- e.f = v -/
def sFd (P : Addr → Prop) (fl : List Str) (i : Nat) (te tv : TEt) : TSt := fun D τ M => tv τ M fun y M1 => te τ M1 fun x M2 => oObj M2 x fun a C dx fl' ds => P C ∧ fl' = fl ∧ i ≤ ds.length ∧ D.nx τ (mup M2 a (.obj C dx fl (putD ds i y)))
/-- e.f op= v -/
def sFa (P : Addr → Prop) (fl : List Str) (i : Nat) (te tv : TEt) (r : R2t) : TSt := fun D τ M => te τ M fun x M1 => oObj M1 x fun _ C _ fl' ds => P C ∧ fl' = fl ∧ oSome (nthD ds i) fun d =>
  tv τ M1 fun y M2 => r d y M2 fun z M3 => oObj M3 x fun a C' dx fl' ds => C' = C ∧ fl' = fl ∧ i ≤ ds.length ∧ D.nx τ (mup M3 a (.obj C dx fl (putD ds i z)))
section
variable {X : Cx} {E : XK} {Et : XT} {e value : Expr} {pos pos' : Pos} {te tv : TEt} {P : Addr → Prop} {fl : List Str} {i : Nat} {f : Str}
theorem oSome_e {α : Type} {o : Option α} {k : α → Prop} (h : oSome o k) : ∃ d, o = some d ∧ k d := by
  cases o with
  | none => exact h.elim
  | some d => exact ⟨d, rfl, h⟩
theorem q_fld (i : Nat) (fl : List Str) (c : ∀ C, P C → Cls X.K C ∧ NoAttr X.K C f) (he : QE X E Et e te) (hf : fl[i]? = some f := by rfl) (hb : attributeBase e f X.env (eval e X.env) = eval e X.env := by rfl) : QE X E Et (.Attribute e f pos) (tFd P fl i te) := PEimp (pe_fld he hb) (by
  rintro σ H Q ⟨G, F, M, τ, Qt, a, h, k⟩
  refine ⟨G, F, M, τ, _, a, h, fun v F1 H1 M1 d s1 r1 p1 q1 => ?_⟩
  obtain ⟨b, C, dx, fl', ds, rfl, hM, hP, rfl, q5⟩ := oObj_e q1
  obtain ⟨d', hd, q6⟩ := oSome_e q5
  cases p1
  obtain ⟨_, u, hu, r⟩ := r1.chg b _ hM
  · obtain ⟨fs, rfl, nd, hn, rr⟩ := RpO_obj r
    obtain ⟨v', e1, _, rv⟩ := fs_get nd hn rr hf (nthD_get hd)
    exact ⟨b, C, dx, fs, v', rfl, hu, (c _ hP).1, (c _ hP).2, e1, k v' F1 H1 M1 d' s1 r1 rv q6⟩)
theorem qs_fld (i : Nat) (fl : List Str) (c : ∀ C, P C → Cls X.K C ∧ NoAttr X.K C f) (he : QE X E Et e te) (hv : QE X E Et value tv) (hf : fl[i]? = some f := by rfl) (hl : fl.length < 1000 := by decide)
    (hs : swapsWith value (some (.Attribute e f pos')) pos.line X.env = pure false := by rfl) : QS X E Et (.Assign [.Attribute e f pos'] value pos) (sFd P fl i te tv) := PSimp (ps_fld he hv hs) (by
  rintro D σ H ⟨G, F, M, τ, Dt, a, en, h⟩
  refine ⟨G, F, M, τ, _, a, h, fun v F1 H1 M1 d s1 r1 p1 q1 => ?_⟩
  refine ⟨G, F1, M1, τ, _, a.step s1 r1, q1, fun x F2 H2 M2 xd s2 r2 p2 q2 => ?_⟩
  obtain ⟨b, C, dx, fl', ds, rfl, hM, hP, rfl, hi, q5⟩ := oObj_e q2
  cases p2
  obtain ⟨_, u, hu, r⟩ := r2.chg b _ hM
  · obtain ⟨fs, rfl, nd, hn, rr⟩ := RpO_obj r
    have z := fs_put nd hn rr hf hi (p1.mono s2)
    have z2 : RpO X.K F2 (.ins C dx (putF f v fs)) (.obj C dx _ (putD ds i d)) := ⟨rfl, rfl, nd, z.1, z.2⟩
    have hlen : fs.length < 1000 := by
      have := congrArg List.length hn
      rw [List.length_map, List.length_take] at this; omega
    exact ⟨b, C, dx, fs, rfl, hu, (c _ hP).1, (c _ hP).2, hlen, en.nx F2 _ _ _ _ (s1.trans s2) ⟨r2.put hM z2, (a.sg.mono s1).mono s2, (a.el.mono s1).mono s2⟩ q5⟩)
end
/-! ### methods -/
/-- a method of the class c -/
structure Fm (P : Program) (w : World) (K : PySem.W.Frag) (mg : Str → Option Value) (base : Heap) (CX : CXT) (k : Nat) (c m : Str) (sp : SpT) : Prop where
  ok : ∃ fd ps, FnOk P w K mg base CX k (He.ma K (He.ga K c) m) fd ps (lSp K sp) ∧ Binds K fd ps []
  me : Meth K (He.ga K c) m (He.ma K (He.ga K c) m)
  cl : Cls K (He.ga K c)
/-- a class that is made -/
structure Fi (P : Program) (w : World) (K : PySem.W.Frag) (mg : Str → Option Value) (base : Heap) (CX : CXT) (k : Nat) (c : Str) (sp : SpT) : Prop where
  ok : ∃ fd ps, FnOk P w K mg base CX k (He.ma K (He.ga K c) "__init__") fd ps (lSp K sp) ∧ Binds K fd ps []
  mkr : Mk K (He.ga K c) (He.ma K (He.ga K c) "__init__")
  m : mg c = some (.ref (He.ga K c))
def tMe (C : Addr) (fl : List Str) (sp : SpT) (te : TEt) (ta : TAt) : TEt := fun τ M Q => te τ M fun x M1 => oObj M1 x fun _ C' _ fl' _ => C' = C ∧ fl' = fl ∧ ta τ M1 fun ys M2 => sp (x :: ys) M2 Q Et0
def tMk (C : Addr) (fl : List Str) (sp : SpT) (ta : TAt) : TEt := fun τ M Q => ta τ M fun ys M1 => ∀ x dx, M1 x = none → sp (.ref x :: ys) (mup M1 x (.obj C dx fl [])) (fun v M2 => v = .non ∧ Q (.ref x) M2) Et0
def tAlt (t u : TEt) : TEt := fun τ M Q => t τ M Q ∨ u τ M Q
section
variable {X : Cx} {E : XK} {Et : XT} {e : Expr} {es : List Expr} {pos apos p : Pos} {te : TEt} {ta : TAt} {fl : List Str} {c m : Str} {sp : SpT} {k : Nat} {o : Expr}
theorem lv_meth {E' : XK} {to : TEt} (hm : m ∉ fl) : ∀ σ H Q, liftE X.K E Et (tMe (He.ga X.K c) fl sp to ta) σ H Q → tMeth (He.ga X.K c) m (lSp X.K sp) [] E' (liftE X.K E Et to) (liftA X.K E Et ta) σ H Q := by
  rintro σ H Q ⟨G, F, M, τ, Qt, a, h, k⟩
  refine ⟨G, F, M, τ, _, a, h, fun x F1 H1 M1 d s1 r1 p1 q1 => ?_⟩
  obtain ⟨b, C, dx, fl', ds, rfl, hM, rfl, rfl, q5⟩ := oObj_e q1
  cases p1
  obtain ⟨_, u, hu, r⟩ := r1.chg b _ hM
  · obtain ⟨fs, rfl, nd, hn, rr⟩ := RpO_obj r
    refine ⟨b, dx, fs, rfl, hu, look_not (by rw [hn]; exact fun z => hm (List.mem_of_mem_take z)), G, F1, M1, τ, _, a.step s1 r1, q5, fun vs F2 H2 M2 ys s2 r2 p2 q2 => ?_⟩
    show lSp X.K sp (.ref b :: (vs ++ [])) H2 Q E'
    rw [List.append_nil]
    exact ⟨G, F2, M2, .ref b :: ys, Qt, Et0, r2, .cons (.ref b) p2, .never, q2, fun v F' H' M' d s => k v F' H' M' d ((s1.trans s2).trans s)⟩
theorem q_meth (fl : List Str) (Fo : Fm X.prog X.w X.K X.mg X.base CX0 k c m sp) (hr : Room k X.A) {to : TEt} (he : QE X E Et o to) (ha : QA X E Et (e :: es) ta) (hm : m ∉ fl := by decide)
    (hst : starEach (e :: es) X.env = (false, eval e X.env) :: starEach es X.env := by rfl) (hpl : (backTo pos (starEach es X.env)).any (·.1) = false := by rfl)
    {pl : Sem Bool} (ht : eval (.Call (.Attribute o m apos) (e :: es) [] pos) X.env = (do
      let ov ← eval o X.env
      standAt apos.atName
      let (f, first) ← holding [ov] (getMethod ov m pl)
      callWith pos f first (backTo pos (starEach (e :: es) X.env)) (backToKw pos (keywordEach [] X.env))) := by rfl) :
    QE X E Et (.Call (.Attribute o m apos) (e :: es) [] pos) (tMe (He.ga X.K c) fl sp to ta) := by
  obtain ⟨⟨fd, ps, F1, b⟩, me, cl⟩ := Fo
  exact PEimp (pe_meth he cl me F1 hr b .nil pass0 ha hst hpl ht) (lv_meth hm)
theorem lv_make1 {E' : XK} {H1 : Hp} {F1 G : Hp} {M1 : MH} {ys : List D} {vs : List V} {Q : VK} {Qt : VD} (nd : fl.Nodup) (r1 : Rel X.K G F1 H1 M1) (p1 : Rps X.K F1 vs ys)
    (h : ∀ x dx, M1 x = none → sp (.ref x :: ys) (mup M1 x (.obj (He.ga X.K c) dx fl [])) (fun v M2 => v = .non ∧ Qt (.ref x) M2) Et0)
    (k : ∀ v F' H' M' d, Same F1 F' → Rel X.K G F' H' M' → Rp X.K F' v d → Qt d M' → Q v H') :
    ∀ x dx, H1 x = none → H1 dx = none → dx ≠ x → lSp X.K sp (.ref x :: vs) (upd (upd H1 dx (.own x)) x (.ins (He.ga X.K c) dx [])) (fun v H2 => v = .non ∧ Q (.ref x) H2) E' := by
  intro x dx nx ndx ne
  obtain ⟨s2, r2⟩ := r1.newF (o := .own x) ndx
  have r3 := r2.newM (p := x) (u := .ins (He.ga X.K c) dx []) (o := .obj (He.ga X.K c) dx fl []) (by rw [upd_ne (Ne.symm ne)]; exact nx) ⟨rfl, rfl, nd, rfl, .nil⟩
  refine ⟨G, _, _, .ref x :: ys, _, Et0, r3, .cons (.ref x) (p1.mono s2), .never, h x dx (r1.free nx).2, fun v F' H' M' d s r p q => ?_⟩
  obtain ⟨rfl, q⟩ := q
  cases p
  exact ⟨rfl, k _ F' H' M' (.ref x) (s2.trans s) r (.ref x) q⟩
theorem q_make0 (fl : List Str) (Fo : Fi X.prog X.w X.K X.mg X.base CX0 k c sp) (hr : Room (k + 1) X.A) (hg : Gl X c := by rfl) (nd : fl.Nodup := by decide) (hdb : (c == ("__debug__" : Str)) = false := by decide) :
    QE X E Et (.Call (.Name c p) [] [] pos) (tMk (He.ga X.K c) fl sp tN) := by
  obtain ⟨⟨fd, ps, F1, b⟩, mk, m⟩ := Fo
  refine PEimp (pe_make0 mk F1 hr hg m b .nil pass0 hdb) ?_
  rintro σ H Q ⟨G, F, M, τ, Qt, a, h, k⟩
  intro x dx nx ndx ne
  exact lv_make1 nd a.rel .nil h k x dx nx ndx ne
end
section
variable {P : Program} {w : World} {K : PySem.W.Frag} {mg : Str → Option Value} {base : Heap} {c m : Str} {N ps : List Str} {k : Nat} {sp : SpT} {fa : List He.Fa} {fn : List He.DefD}
theorem Top.cls (T : Top fa fn K mg) (i : Nat) {x : Str} (h : fa[i]? = some (.cls x) := by rfl) : Cls K (He.ga K x) := He.cls_ok (T.says.fact i h)
theorem Top.noat (T : Top fa fn K mg) (i : Nat) {x f : Str} (h : fa[i]? = some (.noat x f) := by rfl) : NoAttr K (He.ga K x) f := He.noat_ok (T.says.fact i h)
theorem Top.meth (T : Top fa fn K mg) (i : Nat) {x f : Str} (h : fa[i]? = some (.meth x f) := by rfl) : Meth K (He.ga K x) f (He.ma K (He.ga K x) f) := He.meth_ok (T.says.fact i h)
theorem Top.mkr (T : Top fa fn K mg) (i : Nat) {x : Str} (h : fa[i]? = some (.mkr x) := by rfl) : Mk K (He.ga K x) (He.ma K (He.ga K x) "__init__") := He.mkr_ok (T.says.fact i h)
/-- THE RULE of a method's code, at whatever place -/
theorem fa_top (T : Top fa fn K mg) (d : He.DefD) (i : Nat) (S : FnScope N ps d.scope) (len : ∀ ds M Q Et, sp ds M Q Et → ds.length = ps.length)
    (hb : ∀ (cdv : Value) (A : Around) (outer : List Env) (s : Shared) (H : Hp) (E : XK), Room k (A.deeper (envOfC d.qual d.scope s.heap.objs.size (He.fAd K d.at_) cdv)) →
      ∃ t, QSs (cxOf CX0 P w K mg base N d.qual d.scope (He.fAd K d.at_) cdv A outer s H E).nox E0 Et0 d.body t ∧ ∀ ds M Q Et, sp ds M Q Et → t { nx := fun _ M' => Q .non M', rt := Q } (begin_ N ds) M)
    (bd : ∀ (kV doc pm : Value) (an : Option Addr) (cdv ct : Value) (us : List Value), us.length = ps.length → bindArgs (PySem.W.fnOf d.name d.qual d.params d.body d.scope .none kV doc pm an cdv ct) ⟨us, []⟩ = pure (ps.zip us))
    (h : fn[i]? = some d := by rfl) (h0 : d.dfl = [] := by rfl) (h1 : d.kwd = [] := by rfl) : ∃ fd ps, FnOk P w K mg base CX0 (k + 1) (He.fAd K d.at_) fd ps (lSp K sp) ∧ Binds K fd ps [] := by
  obtain ⟨fd, F⟩ := T.says.def_ i h
  have e0 : d.dvs K = [] := by unfold He.DefD.dvs; rw [h0]; rfl
  have e1 : d.kws K = [] := by unfold He.DefD.kws; rw [h1]; rfl
  rw [e0, e1] at F
  exact ⟨fd, ps, fn_ok d fd F S len hb, F.bindsN bd⟩
theorem fm_top (T : Top fa fn K mg) (d : He.DefD) (i : Nat) (S : FnScope N ps d.scope) (me : Meth K (He.ga K c) m (He.ma K (He.ga K c) m)) (cl : Cls K (He.ga K c)) (len : ∀ ds M Q Et, sp ds M Q Et → ds.length = ps.length)
    (hb : ∀ (cdv : Value) (A : Around) (outer : List Env) (s : Shared) (H : Hp) (E : XK), Room k (A.deeper (envOfC d.qual d.scope s.heap.objs.size (He.fAd K d.at_) cdv)) →
      ∃ t, QSs (cxOf CX0 P w K mg base N d.qual d.scope (He.fAd K d.at_) cdv A outer s H E).nox E0 Et0 d.body t ∧ ∀ ds M Q Et, sp ds M Q Et → t { nx := fun _ M' => Q .non M', rt := Q } (begin_ N ds) M)
    (bd : ∀ (kV doc pm : Value) (an : Option Addr) (cdv ct : Value) (us : List Value), us.length = ps.length → bindArgs (PySem.W.fnOf d.name d.qual d.params d.body d.scope .none kV doc pm an cdv ct) ⟨us, []⟩ = pure (ps.zip us))
    (h : fn[i]? = some d := by rfl) (h0 : d.dfl = [] := by rfl) (h1 : d.kwd = [] := by rfl) (hx : d.at_ = (c, some m) := by rfl) : Fm P w K mg base CX0 (k + 1) c m sp := by
  have z := fa_top (P := P) (w := w) (base := base) T d i S len hb bd h h0 h1
  rw [hx] at z
  exact ⟨z, me, cl⟩
theorem fi_top (T : Top fa fn K mg) (d : He.DefD) (i : Nat) (S : FnScope N ps d.scope) (mk : Mk K (He.ga K c) (He.ma K (He.ga K c) "__init__")) (hm : mg c = some (.ref (He.ga K c))) (len : ∀ ds M Q Et, sp ds M Q Et → ds.length = ps.length)
    (hb : ∀ (cdv : Value) (A : Around) (outer : List Env) (s : Shared) (H : Hp) (E : XK), Room k (A.deeper (envOfC d.qual d.scope s.heap.objs.size (He.fAd K d.at_) cdv)) →
      ∃ t, QSs (cxOf CX0 P w K mg base N d.qual d.scope (He.fAd K d.at_) cdv A outer s H E).nox E0 Et0 d.body t ∧ ∀ ds M Q Et, sp ds M Q Et → t { nx := fun _ M' => Q .non M', rt := Q } (begin_ N ds) M)
    (bd : ∀ (kV doc pm : Value) (an : Option Addr) (cdv ct : Value) (us : List Value), us.length = ps.length → bindArgs (PySem.W.fnOf d.name d.qual d.params d.body d.scope .none kV doc pm an cdv ct) ⟨us, []⟩ = pure (ps.zip us))
    (h : fn[i]? = some d := by rfl) (h0 : d.dfl = [] := by rfl) (h1 : d.kwd = [] := by rfl) (hx : d.at_ = (c, some ("__init__" : Str)) := by rfl) : Fi P w K mg base CX0 (k + 1) c sp := by
  have z := fa_top (P := P) (w := w) (base := base) T d i S len hb bd h h0 h1
  rw [hx] at z
  exact ⟨z, mk, hm⟩
end
/-! ### readings, for simp -/
section
variable {τ : Sg} {M : MH} {Q : VD} {te tv : TEt} {ta : TAt} {P : Addr → Prop} {fl : List Str} {i : Nat} {a C dx : Addr} {ds : List D} {sp : SpT}
def oAt (o : Option MO) (k : Addr → Addr → List Str → List D → Prop) : Prop := match o with
  | some (.obj C dx fl ds) => k C dx fl ds
  | _ => False
theorem uObj {k : Addr → Addr → Addr → List Str → List D → Prop} : oObj M (.ref a) k = oAt (M a) (k a) := by
  show (match M a with | some (.obj C dx fl ds) => k a C dx fl ds | _ => False) = oAt (M a) (k a)
  cases M a with
  | none => rfl
  | some o => cases o <;> rfl
theorem oAt_i {k : Addr → Addr → List Str → List D → Prop} : oAt (some (.obj C dx fl ds)) k = k C dx fl ds := propext Iff.rfl
theorem cxK {CX : CXT} {P : Program} {w : World} {K : PySem.W.Frag} {mg : Str → Option Value} {base : Heap} {N : List Str} {qual : Str} {scope : Scope} {f : Addr} {cdv : Value} {A : Around} {outer : List Env} {s : Shared} {H : Hp} {E : XK} : (cxOf CX P w K mg base N qual scope f cdv A outer s H E).K = K := rfl
theorem cxKn {CX : CXT} {P : Program} {w : World} {K : PySem.W.Frag} {mg : Str → Option Value} {base : Heap} {N : List Str} {qual : Str} {scope : Scope} {f : Addr} {cdv : Value} {A : Around} {outer : List Env} {s : Shared} {H : Hp} {E : XK} : (cxOf CX P w K mg base N qual scope f cdv A outer s H E).nox.K = K := rfl
theorem uAlt {t u : TEt} : tAlt t u τ M Q = (t τ M Q ∨ u τ M Q) := propext Iff.rfl
end
end Tl
namespace Tl
open PySem PySem.Spec PyProof.Rows L2
/-! ### == of nested data -/
mutual
def pyD : D → Option PyData
  | .non => some .none
  | .bl b => some (.bool b)
  | .int i => some (.int i)
  | .str s => some (.str s)
  | .tup l => (pyDs l).map .tuple
  | .tab l => (pyDs l).map .tuple
  | .lst l => (pyDs l).map .list
  | .scr l => (pyDs l).map .list
  | .ref _ => none
  | .ty _ => none
def pyDs : List D → Option (List PyData)
  | [] => some []
  | x :: t => match pyD x, pyDs t with
    | some a, some b => some (a :: b)
    | _, _ => none
end
def pyM (M : MH) (d : D) : Option PyData := match d with
  | .ref a => match M a with
    | some (.lst ds) => (pyDs ds).map .list
    | _ => none
  | d => pyD d
section
variable {K : PySem.W.Frag} {F H : Hp}
mutual
theorem Rp.dp (s : Same F H) : ∀ {v : V} {d : D} {y : PyData}, Rp K F v d → pyD d = some y → Dp K H v y
  | _, _, _, .non, e => by unfold pyD at e; cases e; exact .non
  | _, _, _, .bl b, e => by unfold pyD at e; cases e; exact .bl b
  | _, _, _, .int i, e => by unfold pyD at e; cases e; exact .int i
  | _, _, _, .str x, e => by unfold pyD at e; cases e; exact .str x
  | _, _, _, .ty n, e => by unfold pyD at e; cases e
  | _, _, _, .ref a, e => by unfold pyD at e; cases e
  | _, _, _, .tup h r, e => by
    unfold pyD at e
    obtain ⟨ys, e2, rfl⟩ := Option.map_eq_some_iff.mp e
    exact .tup (SqT.of (s _ _ h)) (Rps.dp s r e2)
  | _, _, _, .tab h r, e => by
    unfold pyD at e
    obtain ⟨ys, e2, rfl⟩ := Option.map_eq_some_iff.mp e
    exact .tup (SameT s h) (Rps.dp s r e2)
  | _, _, _, .lst h r, e => by
    unfold pyD at e
    obtain ⟨ys, e2, rfl⟩ := Option.map_eq_some_iff.mp e
    exact .lst (SqL.of (s _ _ h)) (Rps.dp s r e2)
  | _, _, _, .scr h r, e => by
    unfold pyD at e
    obtain ⟨ys, e2, rfl⟩ := Option.map_eq_some_iff.mp e
    exact .lst (s.seq h) (Rps.dp s r e2)
theorem Rps.dp (s : Same F H) : ∀ {vs : List V} {ds : List D} {ys : List PyData}, Rps K F vs ds → pyDs ds = some ys → DpAll K H vs ys
  | _, _, _, .nil, e => by unfold pyDs at e; cases e; exact .nil
  | _, _, _, .cons (d := d) (ds := ds) h t, e => by
    unfold pyDs at e
    cases q : pyD d with
    | none => simp only [q] at e; cases e
    | some a =>
      cases q2 : pyDs ds with
      | none => simp only [q, q2] at e; cases e
      | some b =>
        simp only [q, q2] at e
        cases e
        exact .cons (Rp.dp s h q) (Rps.dp s t q2)
end
theorem dp_of {G : Hp} {M : MH} {v : V} {d : D} {y : PyData} (R : Rel K G F H M) (p : Rp K F v d) (e : pyM M d = some y) : Dp K H v y := by
  cases d with
  | ref a =>
    cases p
    unfold pyM at e
    cases q : M a with
    | none => simp only [q] at e; cases e
    | some o =>
      simp only [q] at e
      obtain ⟨_, u, hu, r⟩ := R.chg a o q
      cases o with
      | lst ds =>
        obtain ⟨ys, e2, rfl⟩ := Option.map_eq_some_iff.mp e
        cases u with
        | lst vs => exact .lst (SqL.of hu) (Rps.dp R.sub r e2)
        | _ => exact (r : False).elim
      | _ => cases e
  | _ => exact Rp.dp R.sub p e
end
def bEqD : R2t := fun x y M Q => match pyM M x, pyM M y with
  | some d, some e => SeqAt.shaped d = true ∧ SeqAt.shaped e = true ∧ Q (.bl (PyData.eqv d e)) M
  | _, _ => False
def bNeD : R2t := fun x y M Q => match pyM M x, pyM M y with
  | some d, some e => SeqAt.shaped d = true ∧ SeqAt.shaped e = true ∧ Q (.bl (!PyData.eqv d e)) M
  | _, _ => False
section
variable {X : Cx}
theorem oq_eqD (hu : X.A.units + 64 < cLine) : OpQ X (compareOp .Eq) bEqD := OpRimp (op_eqD hu) (by
  rintro x y H Q ⟨G, F, M, dx, dy, Qt, R, px, py, h, k⟩
  unfold bEqD at h
  cases e1 : pyM M dx with
  | none => simp only [e1] at h
  | some d =>
    cases e2 : pyM M dy with
    | none => simp only [e1, e2] at h
    | some e =>
      simp only [e1, e2] at h
      exact ⟨d, e, dp_of R px e1, dp_of R py e2, h.1, h.2.1, k _ F H M _ (Same.refl _) R (.bl _) h.2.2⟩)
theorem oq_neD (hu : X.A.units + 64 < cLine) : OpQ X (compareOp .NotEq) bNeD := OpRimp (op_neD hu) (by
  rintro x y H Q ⟨G, F, M, dx, dy, Qt, R, px, py, h, k⟩
  unfold bNeD at h
  cases e1 : pyM M dx with
  | none => simp only [e1] at h
  | some d =>
    cases e2 : pyM M dy with
    | none => simp only [e1, e2] at h
    | some e =>
      simp only [e1, e2] at h
      exact ⟨d, e, dp_of R px e1, dp_of R py e2, h.1, h.2.1, k _ F H M _ (Same.refl _) R (.bl _) h.2.2⟩)
end
/-! data whose == is sameness: its texts are texts, its nesting is below n -/
mutual
def okD : Nat → D → Prop
  | _, .non => True
  | _, .int _ => True
  | _, .bl _ => True
  | _, .str s => PyData.strOk s = true
  | n + 1, .tup l => okDs n l
  | n + 1, .lst l => okDs n l
  | n + 1, .scr l => okDs n l
  | n + 1, .tab l => okDs n l
  | _, _ => False
def okDs : Nat → List D → Prop
  | _, [] => True
  | n, x :: t => okD n x ∧ okDs n t
end
mutual
theorem okD_py : ∀ (n : Nat) (d : D), okD n d → ∃ y, pyD d = some y ∧ y.canLay0 = true ∧ y.depth ≤ n
  | n, .non, _ => ⟨.none, by unfold pyD; rfl, by unfold PyData.canLay0; rfl, by unfold PyData.depth; omega⟩
  | n, .int i, _ => ⟨.int i, by unfold pyD; rfl, by unfold PyData.canLay0; rfl, by unfold PyData.depth; omega⟩
  | n, .bl b, _ => ⟨.bool b, by unfold pyD; rfl, by unfold PyData.canLay0; rfl, by unfold PyData.depth; omega⟩
  | n, .str s, h => ⟨.str s, by unfold pyD; rfl, by unfold PyData.canLay0; unfold okD at h; exact h, by unfold PyData.depth; omega⟩
  | n + 1, .tup l, h => by
    unfold okD at h
    obtain ⟨ys, e, c, dp⟩ := okDs_py n l h
    exact ⟨.tuple ys, by unfold pyD; rw [e]; rfl, by unfold PyData.canLay0; exact c, by unfold PyData.depth; omega⟩
  | n + 1, .tab l, h => by
    unfold okD at h
    obtain ⟨ys, e, c, dp⟩ := okDs_py n l h
    exact ⟨.tuple ys, by unfold pyD; rw [e]; rfl, by unfold PyData.canLay0; exact c, by unfold PyData.depth; omega⟩
  | n + 1, .lst l, h => by
    unfold okD at h
    obtain ⟨ys, e, c, dp⟩ := okDs_py n l h
    exact ⟨.list ys, by unfold pyD; rw [e]; rfl, by unfold PyData.canLay0; exact c, by unfold PyData.depth; omega⟩
  | n + 1, .scr l, h => by
    unfold okD at h
    obtain ⟨ys, e, c, dp⟩ := okDs_py n l h
    exact ⟨.list ys, by unfold pyD; rw [e]; rfl, by unfold PyData.canLay0; exact c, by unfold PyData.depth; omega⟩
  | 0, .tup l, h => by unfold okD at h; exact h.elim
  | 0, .tab l, h => by unfold okD at h; exact h.elim
  | 0, .lst l, h => by unfold okD at h; exact h.elim
  | 0, .scr l, h => by unfold okD at h; exact h.elim
  | _, .ref _, h => by unfold okD at h; exact h.elim
  | _, .ty _, h => by unfold okD at h; exact h.elim
theorem okDs_py : ∀ (n : Nat) (l : List D), okDs n l → ∃ ys, pyDs l = some ys ∧ PyData.canLayAll0 ys = true ∧ PyData.depthAll ys ≤ n
  | n, [], _ => ⟨[], by unfold pyDs; rfl, by unfold PyData.canLayAll0; rfl, by unfold PyData.depthAll; omega⟩
  | n, x :: t, h => by
    unfold okDs at h
    obtain ⟨y, e1, c1, d1⟩ := okD_py n x h.1
    obtain ⟨ys, e2, c2, d2⟩ := okDs_py n t h.2
    exact ⟨y :: ys, by unfold pyDs; rw [e1, e2], by unfold PyData.canLayAll0; rw [c1, c2]; rfl, by unfold PyData.depthAll; omega⟩
end
theorem okDs_of {n : Nat} : ∀ {l : List D}, (∀ x ∈ l, okD n x) → okDs n l
  | [], _ => by unfold okDs; trivial
  | x :: t, h => by unfold okDs; exact ⟨h x (List.mem_cons_self ..), okDs_of fun y hy => h y (List.mem_cons_of_mem _ hy)⟩
/-- a frozen thing, or a changing list of frozen things -/
def asD (M : MH) (d : D) : Option D := match d with
  | .ref a => match M a with
    | some (.lst ds) => some (.lst ds)
    | _ => none
  | d => some d
theorem pyM_asD {M : MH} {d e : D} (h : asD M d = some e) : pyM M d = pyD e := by
  cases d with
  | ref a =>
    unfold asD at h
    unfold pyM
    cases q : M a with
    | none => simp only [q] at h; cases h
    | some o => cases o <;> simp only [q] at h ⊢ <;> cases h; unfold pyD; rfl
  | _ => cases h; rfl
theorem eqD_same {M : MH} {x y z : D} {Q : VD} (n : Nat) (hx : asD M x = some z) (hy : asD M y = some z) (ok : okD n z) (h : Q (.bl true) M) (hn : n ≤ 64 := by decide) : bEqD x y M Q := by
  obtain ⟨d, e, c, dp⟩ := okD_py n z ok
  unfold bEqD
  simp only [pyM_asD hx, pyM_asD hy, e]
  have sh : SeqAt.shaped d = true := Bool.and_eq_true_iff.mpr ⟨c, decide_eq_true (by omega)⟩
  exact ⟨sh, sh, by rw [SeqAt.eqv_refl d c]; exact h⟩
theorem neD_same {M : MH} {x y z : D} {Q : VD} (n : Nat) (hx : asD M x = some z) (hy : asD M y = some z) (ok : okD n z) (h : Q (.bl false) M) (hn : n ≤ 64 := by decide) : bNeD x y M Q := by
  obtain ⟨d, e, c, dp⟩ := okD_py n z ok
  unfold bNeD
  simp only [pyM_asD hx, pyM_asD hy, e]
  have sh : SeqAt.shaped d = true := Bool.and_eq_true_iff.mpr ⟨c, decide_eq_true (by omega)⟩
  exact ⟨sh, sh, by rw [SeqAt.eqv_refl d c]; exact h⟩
/-- what was made and is needed no more -/
theorem ReR.new {K : PySem.W.Frag} {d : D} {M : MH} {a : Addr} {o : MO} (h : M a = none) : ReR K d (mup M a o) d M := ReR.drop fun b o' e => by
  rw [mup_ne (by rintro rfl; rw [h] at e; cases e)]; exact e
theorem wm60 {i j : Int} (hi : -(2 ^ 60) < i ∧ i < 2 ^ 60) (hj : -(2 ^ 60) < j ∧ j < 2 ^ 60) : CMulW i j := wide_mul (a := 60) (b := 60) (by omega) (by omega) (by decide) (by decide) (by decide)
theorem wd60 {i j : Int} (h : 0 < j) (hj : j < 2 ^ 60) : CDivW i j := wide_div (b := 60) h (by omega) (by decide) (by decide)
theorem modB {a b : Int} (h : 0 < b) : 0 ≤ a % b ∧ a % b < b := ⟨Int.emod_nonneg _ (by omega), Int.emod_lt_of_pos _ h⟩
theorem rng_get {f : Nat → D} {n i : Nat} {x : D} (h : ((List.range n).map f)[i]? = some x) : i < n ∧ x = f i := by
  rw [List.getElem?_map] at h
  obtain ⟨y, hy, rfl⟩ := Option.map_eq_some_iff.mp h
  obtain ⟨h1, h2⟩ := List.getElem?_eq_some_iff.mp hy
  rw [List.getElem_range] at h2
  rw [List.length_range] at h1
  exact ⟨h1, by rw [h2]⟩
theorem cut_tail {x : D} {t : List D} : Tl.cutD (x :: t) (some 1) none = t := by
  unfold Tl.cutD
  rw [show (1 : Int) = ((1 : Nat) : Int) from rfl, HT.sIx_nat, HT.sIx_none]
  simp
theorem un64 {k : Nat} {A : Around} (hr : Room k A) : A.units + 64 < cLine := hr.units
end Tl
namespace Tl
open PySem PySem.Spec PyProof.Rows L2
/-! ### dicts -/
section
variable {κ : Type} [DecidableEq κ]
def valD (kvs : List (κ × D)) (k : κ) : Option D := (kvs.find? fun kv => decide (kv.1 = k)).map (·.2)
def putM (kvs : List (κ × D)) (k : κ) (v : D) : List (κ × D) :=
  if (kvs.any fun kv => decide (kv.1 = k)) = true then kvs.map (fun kv => if kv.1 = k then (kv.1, v) else kv) else kvs ++ [(k, v)]
theorem valD_pos {p : κ × D} {r : List (κ × D)} {k : κ} (e : p.1 = k) : valD (p :: r) k = some p.2 := by simp [valD, List.find?_cons, e]
theorem valD_neg {p : κ × D} {r : List (κ × D)} {k : κ} (e : ¬ p.1 = k) : valD (p :: r) k = valD r k := by simp [valD, List.find?_cons, e]
abbrev KP (K : PySem.W.Frag) (F : Hp) (vs : List (κ × V)) (ds : List (κ × D)) : Prop := Paired (fun (p : κ × V) (q : κ × D) => p.1 = q.1 ∧ Rp K F p.2 q.2) vs ds
variable {K : PySem.W.Frag} {F : Hp}
theorem kp_val {k : κ} : ∀ {vs : List (κ × V)} {ds : List (κ × D)}, KP K F vs ds → (valD ds k = none → valV vs k = none) ∧ ∀ d, valD ds k = some d → ∃ v, valV vs k = some v ∧ Rp K F v d
  | _, _, .nil => ⟨fun _ => rfl, fun _ h => by cases h⟩
  | _, _, .cons (a := p) (b := q) r t => by
    have ih := kp_val (k := k) t
    by_cases e : q.1 = k
    · rw [valD_pos e, valV_pos (r.1.trans e)]
      exact ⟨fun h => (by cases h), fun d h => (by cases h; exact ⟨_, rfl, r.2⟩)⟩
    · rw [valD_neg e, valV_neg (fun h => e (r.1.symm.trans h))]
      exact ih
theorem kp_any {k : κ} : ∀ {vs : List (κ × V)} {ds : List (κ × D)}, KP K F vs ds → (vs.any fun kv => decide (kv.1 = k)) = (ds.any fun kv => decide (kv.1 = k))
  | _, _, .nil => rfl
  | _, _, .cons r t => by rw [List.any_cons, List.any_cons, r.1, kp_any t]
theorem kp_map {k : κ} {v : V} {d : D} (rv : Rp K F v d) : ∀ {vs : List (κ × V)} {ds : List (κ × D)}, KP K F vs ds → KP K F (vs.map fun kv => if kv.1 = k then (kv.1, v) else kv) (ds.map fun kv => if kv.1 = k then (kv.1, d) else kv)
  | _, _, .nil => .nil
  | _, _, .cons (a := p) (b := q) r t => by
    refine .cons ?_ (kp_map rv t)
    dsimp only
    by_cases e : q.1 = k
    · rw [if_pos e, if_pos (r.1.trans e)]; exact ⟨r.1, rv⟩
    · rw [if_neg e, if_neg (fun h => e (r.1.symm.trans h))]; exact r
theorem kp_app {vs ws : List (κ × V)} {ds es : List (κ × D)} (h : KP K F vs ds) (h2 : KP K F ws es) : KP K F (vs ++ ws) (ds ++ es) := by
  induction h with
  | nil => exact h2
  | cons r t ih => exact .cons r ih
theorem kp_put {k : κ} {v : V} {d : D} (rv : Rp K F v d) {vs : List (κ × V)} {ds : List (κ × D)} (h : KP K F vs ds) : KP K F (putK vs k v) (putM ds k d) := by
  unfold putK putM
  rw [kp_any h]
  split
  · exact kp_map rv h
  · exact kp_app h (.cons ⟨rfl, rv⟩ .nil)
theorem kp_len {vs : List (κ × V)} {ds : List (κ × D)} (h : KP K F vs ds) : vs.length = ds.length := by
  induction h with
  | nil => rfl
  | cons r t ih => rw [List.length_cons, List.length_cons, ih]
end
def k1 : D → Option Key
  | .int i => some (.inl i)
  | .str s => some (.inr s)
  | _ => none
def kT : List D → Option (List Key)
  | [] => some []
  | x :: t => match k1 x, kT t with
    | some a, some b => some (a :: b)
    | _, _ => none
section
variable {K : PySem.W.Frag} {F : Hp}
theorem k1_of {v : V} {d : D} {k : Key} (p : Rp K F v d) (e : k1 d = some k) : v = kV k := by
  cases p <;> first | (cases e; rfl) | cases e
theorem kT_of : ∀ {vs : List V} {ds : List D} {ks : List Key}, Rps K F vs ds → kT ds = some ks → vs = ks.map kV
  | _, _, _, .nil, e => by cases e; rfl
  | _, _, _, .cons (d := d) (ds := ds) h t, e => by
    unfold kT at e
    cases q : k1 d with
    | none => simp only [q] at e; cases e
    | some a =>
      cases q2 : kT ds with
      | none => simp only [q, q2] at e; cases e
      | some b =>
        simp only [q, q2] at e
        cases e
        rw [k1_of h q, kT_of t q2]; rfl
end
/-- what the dict o holds at the key k -/
def oDA (o : Option MO) (k : D) (f : Option D → Prop) : Prop := match o with
  | some (.dK kvs) => match k1 k with
    | some c => f (valD kvs c)
    | none => False
  | some (.lk _ _ kvs) => match k1 k with
    | some c => f (valD kvs c)
    | none => False
  | some (.dT kvs) => match k with
    | .tup ds => match kT ds with
      | some c => f (valD kvs c)
      | none => False
    | _ => False
  | _ => False
def oDic (M : MH) (x k : D) (f : Option D → Prop) : Prop := match x with
  | .ref a => oDA (M a) k f
  | _ => False
def oPA (o : Option MO) (k d : D) (f : MO → Prop) : Prop := match o with
  | some (.dK kvs) => match k1 k with
    | some c => kvs.length < sizeLine ∧ f (.dK (putM kvs c d))
    | none => False
  | some (.dT kvs) => match k with
    | .tup ds => match kT ds with
      | some c => kvs.length < sizeLine ∧ f (.dT (putM kvs c d))
      | none => False
    | _ => False
  | _ => False
def isDic : MO → Prop
  | .dK _ => True
  | .dT _ => True
  | _ => False
theorem dic_of {K : PySem.W.Frag} {G F H : Hp} {M : MH} {a : Addr} {k : D} {y : V} {f : Option D → Prop} (R : Rel K G F H M) (p : Rp K F y k) (h : oDA (M a) k f) : ∃ o r, DGet H a y o ∧ f r ∧ (r = none → o = none) ∧ ∀ d, r = some d → ∃ v, o = some v ∧ Rp K F v d := by
  cases q : M a with
  | none => rw [q] at h; exact h.elim
  | some mo =>
    rw [q] at h
    obtain ⟨_, u, hu, r⟩ := R.chg a mo q
    cases mo with
    | dK kvs =>
      unfold oDA at h
      dsimp only at h
      cases q2 : k1 k with
      | none => simp only [q2] at h
      | some c =>
        simp only [q2] at h
        cases u with
        | dK vs =>
          have e := k1_of p q2
          subst e
          exact ⟨_, _, DGet.k hu, h, (kp_val r).1, (kp_val r).2⟩
        | _ => exact (r : False).elim
    | lk ob0 ks kvs =>
      unfold oDA at h
      dsimp only at h
      cases q2 : k1 k with
      | none => simp only [q2] at h
      | some c =>
        simp only [q2] at h
        cases u with
        | frz ob u =>
          obtain ⟨_, rfl, r2⟩ := (show ob = ob0 ∧ RpLk K F u ks kvs from r)
          have e := k1_of p q2
          subst e
          exact ⟨_, _, .inl ⟨ks, _, .inr ⟨ob, hu⟩, rfl, rfl⟩, h, (kp_val r2).1, (kp_val r2).2⟩
        | _ => exact (r : False).elim
    | dT kvs =>
      cases k with
      | tup ds =>
        unfold oDA at h
        dsimp only at h
        cases q2 : kT ds with
        | none => simp only [q2] at h
        | some c =>
          simp only [q2] at h
          cases u with
          | dT vs =>
            cases p with
            | tup hb rs =>
              have e := kT_of rs q2
              subst e
              exact ⟨_, _, DGet.t hu (R.sub _ _ hb), h, (kp_val r).1, (kp_val r).2⟩
          | _ => exact (r : False).elim
      | _ => exact h.elim
    | _ => exact h.elim
theorem put_of {K : PySem.W.Frag} {G F H : Hp} {M : MH} {a : Addr} {k d : D} {y v : V} {f : MO → Prop} (R : Rel K G F H M) (p : Rp K F y k) (pv : Rp K F v d) (h : oPA (M a) k d f) : ∃ o u, DPut H a y v (upd H a u) ∧ f o ∧ Rel K G F (upd H a u) (mup M a o) := by
  cases q : M a with
  | none => rw [q] at h; exact h.elim
  | some mo =>
    rw [q] at h
    obtain ⟨_, u, hu, r⟩ := R.chg a mo q
    cases mo with
    | dK kvs =>
      unfold oPA at h
      dsimp only at h
      cases q2 : k1 k with
      | none => simp only [q2] at h
      | some c =>
        simp only [q2] at h
        cases u with
        | dK vs =>
          have e := k1_of p q2
          subst e
          have r2 : RpO K F (.dK vs) (.dK kvs) := r
          exact ⟨_, _, DPut.k hu (by rw [kp_len (show KP K F vs kvs from r2)]; exact h.1), h.2, R.put q (show RpO K F (.dK (putK vs c v)) (.dK (putM kvs c d)) from kp_put pv r2)⟩
        | _ => exact (r : False).elim
    | dT kvs =>
      cases k with
      | tup ds =>
        unfold oPA at h
        dsimp only at h
        cases q2 : kT ds with
        | none => simp only [q2] at h
        | some c =>
          simp only [q2] at h
          cases u with
          | dT vs =>
            cases p with
            | tup hb rs =>
              have e := kT_of rs q2
              subst e
              have r2 : RpO K F (.dT vs) (.dT kvs) := r
              exact ⟨_, _, DPut.t hu (R.sub _ _ hb) (by rw [kp_len (show KP K F vs kvs from r2)]; exact h.1), h.2, R.put q (show RpO K F (.dT (putK vs c v)) (.dT (putM kvs c d)) from kp_put pv r2)⟩
          | _ => exact (r : False).elim
      | _ => exact h.elim
    | _ => exact h.elim
def tDnK : TEt := fun _ M Q => ∀ p, M p = none → Q (.ref p) (mup M p (.dK []))
def tDnT : TEt := fun _ M Q => ∀ p, M p = none → Q (.ref p) (mup M p (.dT []))
def tDg (to ti : TEt) : TEt := fun τ M Q => to τ M fun x M1 => ti τ M1 fun k M2 => oDic M2 x k fun r => oSome r fun d => Q d M2
def tDi (neg : Bool) (ti to : TEt) : TEt := fun τ M Q => ti τ M fun k M1 => to τ M1 fun x M2 => oDic M2 x k fun r => Q (.bl (if neg = true then !r.isSome else r.isSome)) M2
def tDg2 (to ti tz : TEt) : TEt := fun τ M Q => to τ M fun x M1 => (∃ a o, x = .ref a ∧ M1 a = some o ∧ isDic o) ∧ ti τ M1 fun k M2 => tz τ M2 fun z M3 => oDic M3 x k fun r => Q (r.getD z) M3
def zDict : TSett := fun o i v M Q => match o with
  | .ref a => oPA (M a) i v fun mo => Q (mup M a mo)
  | _ => False
section
variable {X : Cx} {E : XK} {Et : XT} {o i z : Expr} {pos apos cpos : Pos} {to ti tz : TEt}
theorem q_dnewK : QE X E Et (.Dict [] [] pos) tDnK := PEimp pe_dnewK (by
  rintro σ H Q ⟨G, F, M, τ, Qt, a, h, k⟩ p np
  exact k _ F _ _ _ (Same.refl _) (a.rel.newM (u := .dK []) (o := .dK []) np .nil) (.ref p) (h p (a.rel.free np).2))
theorem q_dnewT : QE X E Et (.Dict [] [] pos) tDnT := PEimp pe_dnewT (by
  rintro σ H Q ⟨G, F, M, τ, Qt, a, h, k⟩ p np
  exact k _ F _ _ _ (Same.refl _) (a.rel.newM (u := .dT []) (o := .dT []) np .nil) (.ref p) (h p (a.rel.free np).2))
theorem dic_ref {M : MH} {x k : D} {f : Option D → Prop} (h : oDic M x k f) : ∃ a, x = .ref a ∧ oDA (M a) k f := by
  cases x with
  | ref a => exact ⟨a, rfl, h⟩
  | _ => exact h.elim
theorem q_dget (hu : X.A.units + 1 < cLine) (ho : QE X E Et o to) (hi : QE X E Et i ti) (hs : NoSl i := by intro _ _; rfl) : QE X E Et (.Subscript o i pos) (tDg to ti) := PEimp (pe_dget hu ho hi hs) (by
  rintro σ H Q ⟨G, F, M, τ, Qt, a, h, k⟩
  refine ⟨G, F, M, τ, _, a, h, fun x F1 H1 M1 d s1 r1 p1 q1 => ?_⟩
  refine ⟨G, F1, M1, τ, _, a.step s1 r1, q1, fun y F2 H2 M2 e s2 r2 p2 q2 => ?_⟩
  obtain ⟨b, rfl, q3⟩ := dic_ref q2
  obtain ⟨ov, r, g, hf, h0, h1⟩ := dic_of r2 p2 q3
  obtain ⟨d, rfl, q4⟩ := oSome_e hf
  obtain ⟨v, rfl, pv⟩ := h1 d rfl
  cases p1
  exact ⟨b, v, rfl, g, k v F2 H2 M2 d (s1.trans s2) r2 pv q4⟩)
theorem q_dget2 (hu : X.A.units + 1 < cLine) (ho : QE X E Et o to) (hi : QE X E Et i ti) (hz : QE X E Et z tz) (m : M2 X o "get" apos i z cpos := by exact ⟨rfl, rfl, rfl, rfl⟩) : QE X E Et (.Call (.Attribute o "get" apos) [i, z] [] cpos) (tDg2 to ti tz) := PEimp (pe_dget2 hu ho hi hz m) (by
  rintro σ H Q ⟨G, F, M, τ, Qt, a, h, k⟩
  refine ⟨G, F, M, τ, _, a, h, fun x F1 H1 M1 d s1 r1 p1 q1 => ?_⟩
  obtain ⟨⟨b, mo, rfl, hb, hd⟩, q1⟩ := q1
  cases p1
  have isd : IsD H1 b := by
    obtain ⟨_, u, hu, r⟩ := r1.chg b _ hb
    cases mo with
    | dK kvs =>
      cases u with
      | dK vs => exact .inl ⟨vs, .inl hu⟩
      | _ => exact (r : False).elim
    | dT kvs =>
      cases u with
      | dT vs => exact .inr ⟨vs, .inl hu⟩
      | _ => exact (r : False).elim
    | _ => exact hd.elim
  refine ⟨b, rfl, isd, G, F1, M1, τ, _, a.step s1 r1, q1, fun y F2 H2 M2 e s2 r2 p2 q2 => ?_⟩
  refine ⟨G, F2, M2, τ, _, a.step (s1.trans s2) r2, q2, fun w F3 H3 M3 zd s3 r3 p3 q3 => ?_⟩
  obtain ⟨ov, r, g, hf, h0, h1⟩ := dic_of (f := fun r => Qt (r.getD zd) M3) r3 (p2.mono s3) q3
  refine ⟨ov, g, ?_⟩
  cases r with
  | none => rw [h0 rfl]; exact k _ F3 H3 M3 _ ((s1.trans s2).trans s3) r3 p3 hf
  | some d =>
    obtain ⟨v, rfl, pv⟩ := h1 d rfl
    exact k _ F3 H3 M3 _ ((s1.trans s2).trans s3) r3 pv hf)
theorem sq_dict (hu : X.A.units + 1 < cLine) : PSet X (lSet X.K zDict) := by
  intro pins s σ H o i v ov iv u Q I ro ri rv h
  obtain ⟨G, F, M, od, idd, vd, Qt, R, po, pi, pv, h, k⟩ := h
  cases po with
  | ref a =>
    have h : oPA (M a) idd vd fun mo => Qt (mup M a mo) := h
    obtain ⟨mo, u', g, hq, R2⟩ := put_of R pi pv h
    obtain rfl : ov = Value.ref a := ro
    refine d_setItem hu I g ri rv fun s4 I4 => ?_
    exact ⟨_, I4, k F _ _ (Same.refl _) R2 hq⟩
  | _ => exact h.elim
end
/-! ### len of a dict, of anything -/
def cLenD : RLt := fun ds M Q => match ds with
  | [.ref a] => match M a with
    | some (.dK kvs) => Q (.int (kvs.length : Nat)) M
    | some (.dT kvs) => Q (.int (kvs.length : Nat)) M
    | _ => False
  | _ => False
section
variable {X : Cx} {E : XK} {Et : XT}
theorem call_len_dK : CallR X (.builtin "len") (fun xs H Q => ∃ (p : Addr) (kvs : List (Key × V)), xs = [.ref p] ∧ H p = some (.dK kvs) ∧ Q (.int ((kvs.length : Nat) : Int)) H) := by
  intro pins s σ H xs us Q I r h
  obtain ⟨p, kvs, rfl, e, q⟩ := h
  obtain ⟨u, rfl, rx⟩ := vals1 r
  cases rx
  exact d_len I (.inl e) fun t s' I' => ⟨.int (kvs.length : Nat), H, I', ⟨t, rfl⟩, q⟩
theorem cq_lenD : CallQ X (.builtin "len") cLenD := by
  intro pins s σ H xs us Q I r h
  obtain ⟨G, F, M, ds, Qt, R, rp, h, k⟩ := h
  match ds, rp, h with
  | [.ref a], .cons (.ref _) .nil, h =>
    have h : (match M a with | some (.dK kvs) => Qt (.int (kvs.length : Nat)) M | some (.dT kvs) => Qt (.int (kvs.length : Nat)) M | _ => False) := h
    cases e : M a with
    | none => rw [e] at h; exact h.elim
    | some mo =>
      obtain ⟨_, u, hu, rr⟩ := R.chg a mo e
      rw [e] at h
      cases mo with
      | dK kvs =>
        cases u with
        | dK vs =>
          refine call_len_dK pins s σ H _ us Q I r ⟨a, vs, rfl, hu, ?_⟩
          rw [kp_len (show KP X.K F vs kvs from rr)]
          exact k _ F H M _ (Same.refl _) R (.int _) h
        | _ => exact (rr : False).elim
      | dT kvs =>
        cases u with
        | dT vs =>
          refine call_len_dT pins s σ H _ us Q I r ⟨a, vs, rfl, hu, ?_⟩
          rw [kp_len (show KP X.K F vs kvs from rr)]
          exact k _ F H M _ (Same.refl _) R (.int _) h
        | _ => exact (rr : False).elim
      | _ => exact h.elim
/-! ### x in a row of plain values -/
def flatD : D → Bool
  | .non => true
  | .bl _ => true
  | .int _ => true
  | .str _ => true
  | _ => false
def eqD : D → D → Bool
  | .non, .non => true
  | .bl a, .bl b => a == b
  | .bl a, .int b => (if a then 1 else 0) == b
  | .int a, .bl b => a == (if b then 1 else 0)
  | .int a, .int b => a == b
  | .str a, .str b => a == b
  | _, _ => false
theorem flat_of {K : PySem.W.Frag} {F : Hp} {v : V} {d : D} (p : Rp K F v d) (h : flatD d = true) : flatV v = true := by
  cases p <;> first | rfl | cases h
theorem flats_of {K : PySem.W.Frag} {F : Hp} : ∀ {vs : List V} {ds : List D}, Rps K F vs ds → ds.all flatD = true → vs.all flatV = true
  | _, _, .nil, _ => rfl
  | _, _, .cons h t, e => by
    rw [List.all_cons, Bool.and_eq_true] at e ⊢
    exact ⟨flat_of h e.1, flats_of t e.2⟩
theorem eqD_of {K : PySem.W.Frag} {F : Hp} {v w : V} {x y : D} (p : Rp K F v x) (q : Rp K F w y) (hx : flatD x = true) (hy : flatD y = true) : eqV v w = eqD x y := by
  cases p <;> first | (cases hx; done) | (cases q <;> first | rfl | (cases hy; done))
theorem in_of {K : PySem.W.Frag} {F : Hp} {v : V} {x : D} (p : Rp K F v x) (hx : flatD x = true) : ∀ {vs : List V} {ds : List D}, Rps K F vs ds → ds.all flatD = true → (vs.any fun y => eqV y v) = (ds.any fun y => eqD y x)
  | _, _, .nil, _ => rfl
  | _, _, .cons h t, e => by
    rw [List.all_cons, Bool.and_eq_true] at e
    rw [List.any_cons, List.any_cons, eqD_of h p e.1 hx, in_of p hx t e.2]
def bIn (neg : Bool) : R2t := fun x y M Q => match seqOf M y with
  | some ds => flatD x = true ∧ ds.all flatD = true ∧ Q (.bl (if neg = true then !(ds.any fun z => eqD z x) else ds.any fun z => eqD z x)) M
  | none => False
theorem lv_in {neg : Bool} : ∀ x y H Q, lr2 X.K (bIn neg) x y H Q → rIn X.K neg x y H Q := by
  rintro x y H Q ⟨G, F, M, dx, dy, Qt, R, px, py, h, k⟩
  unfold bIn at h
  cases e : seqOf M dy with
  | none => simp only [e] at h
  | some ds =>
    simp only [e] at h
    obtain ⟨a, vs, rfl, hs, r⟩ := seq_of R py e
    refine ⟨a, vs, rfl, hs, flat_of px h.1, flats_of r h.2.1, ?_⟩
    unfold inV
    rw [in_of px h.1 r h.2.1]
    exact k _ F H M _ (Same.refl _) R (.bl _) h.2.2
theorem oq_inQ : OpQ X (compareOp .In) (bIn false) := OpRimp op_in_seq lv_in
theorem oq_inQN : OpQ X (compareOp .NotIn) (bIn true) := OpRimp op_notIn_seq lv_in
/-! ### text * n -/
def repS (z : Str) (n : Int) : Str := if n < 1 then Str.empty else if (n == 1 || z.length == 0) = true then z else ⟨(List.replicate n.toNat z.cps).foldl (· ++ ·) #[]⟩
def bRepS : R2t := fun x y M Q => match x, y with
  | .str z, .int n => (0 ≤ n ∧ n ≤ 1000 ∧ z.length ≤ 1000) ∧ Q (.str (repS z n)) M
  | _, _ => False
theorem foldl_rep' (its : List Nat) : ∀ (m : Nat) (acc : List Nat), (List.foldl (fun x1 x2 => x1 ++ x2) acc.toArray (List.replicate m its.toArray)) = (acc ++ (List.replicate m its).flatten).toArray
  | 0, acc => by simp
  | m + 1, acc => by
    rw [List.replicate_succ, List.foldl_cons, List.append_toArray, foldl_rep' its m (acc ++ its), List.replicate_succ, List.flatten_cons, List.append_assoc]
theorem size_rep' (its : List Nat) (m : Nat) : (List.foldl (fun x1 x2 => x1 ++ x2) #[] (List.replicate m its.toArray)) = (List.replicate m its).flatten.toArray := by
  have := foldl_rep' its m []
  rw [List.nil_append] at this
  exact this
theorem len_rep {α : Type} (its : List α) : ∀ m : Nat, (List.replicate m its).flatten.length = m * its.length
  | 0 => by simp
  | m + 1 => by rw [List.replicate_succ, List.flatten_cons, List.length_append, len_rep its m, Nat.succ_mul]; omega
theorem op_repS : OpR X (binaryOp .Mult) (fun x y H Q => ∃ (z : Str) (n : Int), x = .str z ∧ y = .int n ∧ (0 ≤ n ∧ n ≤ 1000 ∧ z.length ≤ 1000) ∧ Q (.str (repS z n)) H) := by
  intro pins s σ H x y v u Q I rx ry h
  obtain ⟨z, n, rfl, rfl, hb, q⟩ := h
  obtain ⟨t, rfl⟩ := rx
  obtain ⟨t2, rfl⟩ := ry
  have hm : z.length * n.toNat ≤ 1000000 := Nat.le_trans (Nat.mul_le_mul hb.2.2 (show n.toNat ≤ 1000 by omega)) (by decide)
  have hz : (⟨(List.replicate n.toNat z.cps).foldl (· ++ ·) #[]⟩ : Str).length ≤ sizeLine := by
    have e := size_rep' z.cps.toList n.toNat
    rw [Array.toArray_toList] at e
    show ((List.replicate n.toNat z.cps).foldl (· ++ ·) #[]).size ≤ sizeLine
    rw [e, sizeLine_eq, List.size_toArray, len_rep]
    have : z.length = z.cps.toList.length := by rw [Array.length_toList]; rfl
    rw [← this, Nat.mul_comm]
    omega
  refine P.mul_str (by simp only [Bool.or_eq_false_iff, decide_eq_false_iff_not]; omega) (fun h1 _ => ?_) (fun h1 _ => ?_) ?_
  · have h3 : (z.length : Int) ≤ 1000 := by omega
    have h2 : (1000 : Int) ≤ (2 ^ 63 - 1) / n := by
      rw [Int.le_ediv_iff_mul_le (by omega)]
      omega
    omega
  · unfold Builtin.Str.tooLong
    simp only [decide_eq_false_iff_not]
    rw [sizeLine_eq]
    omega
  · unfold repS at q
    split
    · rename_i h1
      rw [if_pos h1] at q
      exact ⟨Nat.zero_le _, .str Str.empty, H, I.tok _, ⟨_, rfl⟩, q⟩
    · rename_i h1
      rw [if_neg h1] at q
      split
      · rename_i h2
        rw [if_pos h2] at q
        exact ⟨.str z, H, I, ⟨_, rfl⟩, q⟩
      · rename_i h2
        rw [if_neg h2] at q
        exact ⟨hz, .str _, H, I.tok _, ⟨_, rfl⟩, q⟩
theorem oq_repS : OpQ X (binaryOp .Mult) bRepS := OpRimp op_repS (by
  rintro x y H Q ⟨G, F, M, dx, dy, Qt, R, px, py, h, k⟩
  cases px <;> first
    | exact (show False from h).elim
    | (cases py <;> first | exact (show False from h).elim | exact ⟨_, _, rfl, rfl, h.1, k _ F H M _ (Same.refl _) R (.str _) h.2⟩))
/-! ### list * n -/
def bRep : R2t := fun x y M Q => match x, y with
  | .lst ds, .int n => (0 ≤ n ∧ n ≤ 1000 ∧ ds.length ≤ 1000) ∧ Q (.lst (List.replicate n.toNat ds).flatten) M
  | _, _ => False
theorem rps_rep {K : PySem.W.Frag} {F : Hp} {vs : List V} {ds : List D} (r : Rps K F vs ds) : ∀ n : Nat, Rps K F (List.replicate n vs).flatten (List.replicate n ds).flatten
  | 0 => .nil
  | n + 1 => by
    rw [List.replicate_succ, List.replicate_succ, List.flatten_cons, List.flatten_cons]
    exact r.append (rps_rep r n)
theorem oq_rep : OpQ X (binaryOp .Mult) bRep := OpRimp L2.op_rep (by
  rintro x y H Q ⟨G, F, M, dx, dy, Qt, R, px, py, h, k⟩
  match dx, dy, px, py, h with
  | .lst ds, .int n, .lst (a := a) (vs := vs) ha r, .int _, h =>
    have hm : vs.length * n.toNat ≤ 1000000 := by
      rw [r.length]
      exact Nat.le_trans (Nat.mul_le_mul h.1.2.2 (show n.toNat ≤ 1000 by have := h.1; omega)) (by decide)
    refine ⟨a, n, vs, rfl, rfl, R.sub _ _ ha, by have := h.1; omega, by have := h.1; omega, by rw [sizeLine_eq]; omega, fun p np => ?_⟩
    obtain ⟨s, r1⟩ := R.newF (o := .lst (List.replicate n.toNat vs).flatten) np
    exact k _ _ _ M _ s r1 (.lst upd_same ((rps_rep r _).mono s)) h.2)
def bRepM : R2t := fun x y M Q => match x, y with
  | .lst ds, .int n => (0 ≤ n ∧ n ≤ 1000 ∧ ds.length ≤ 1000) ∧ ∀ p, M p = none → Q (.ref p) (mup M p (.lst (List.replicate n.toNat ds).flatten))
  | _, _ => False
/-! ### tuples: + and slices -/
def bCatT : R2t := fun x y M Q => match x, y with
  | .tup a, .tup b => a.length + b.length ≤ sizeLine ∧ Q (.tup (a ++ b)) M
  | _, _ => False
theorem oq_catT : OpQ X (binaryOp .Add) bCatT := OpRimp op_catA (by
  rintro x y H Q ⟨G, F, M, dx, dy, Qt, R, px, py, h, k⟩
  match dx, dy, px, py, h with
  | .tup ds, .tup es, .tup (a := a) (vs := vs) ha r, .tup (a := b) (vs := ws) hb r2, h =>
    refine ⟨a, b, vs, ws, rfl, rfl, SqT.of (R.sub _ _ ha), SqT.of (R.sub _ _ hb), by rw [r.length, r2.length]; exact h.1, fun e => ?_, fun _ e => ?_, fun _ _ p np => ?_⟩
    · subst e
      cases r
      exact k _ F H M _ (Same.refl _) R (.tup hb r2) h.2
    · subst e
      cases r2
      have h2 := h.2
      rw [List.append_nil] at h2
      exact k _ F H M _ (Same.refl _) R (.tup ha r) h2
    · obtain ⟨s, r1⟩ := R.newF (o := .tup (vs ++ ws)) np
      exact k _ _ _ M _ s r1 (.tup upd_same ((r.append r2).mono s)) h.2)
def cSlT : D → Option Int → Option Int → MH → VD → Prop := fun x lo hi M Q => match x with
  | .tup ds => Q (.tup (cutD ds lo hi)) M
  | _ => False
theorem cut_whole {α : Type} {xs : List α} {i j : Nat} (h1 : i = 0) (h2 : j = xs.length) : (xs.drop i).take (j - i) = xs := by
  subst h1; subst h2; simp
variable {e : Expr} {lo hi : Option Expr} {te : TEt} {tl th : TOt} {pos p2 : Pos}
theorem q_sliceT (he : QE X E Et e te) (hl : QO X E Et lo tl) (hu : QO X E Et hi th) : QE X E Et (.Subscript e (.Slice lo hi none p2) pos) (tSc cSlT te tl th) := q_slice sl_tupA (by
  rintro x lo hi H Q ⟨G, F, M, dx, Qt, R, p, h, k⟩
  match dx, p, h with
  | .tup ds, .tup (a := a) (vs := vs) ha r, h =>
    refine ⟨a, vs, rfl, SqT.of (R.sub _ _ ha), fun hw => ?_, fun hw p np => ?_⟩
    · have e : Tl.cutD ds lo hi = ds := by
        unfold Tl.cutD
        rw [← r.length]
        exact cut_whole hw.1 (by rw [hw.2, r.length])
      rw [show cSlT (.tup ds) lo hi M Qt = Qt (.tup (Tl.cutD ds lo hi)) M from rfl, e] at h
      exact k _ F H M _ (Same.refl _) R (.tup ha r) h
    · obtain ⟨s, r1⟩ := R.newF (o := .tup (cutV vs lo hi)) np
      exact k _ _ _ M _ s r1 (.tup upd_same (r.cut.mono s)) h) he hl hu
/-! ### sorted(d), d a dict of ints -/
def oSD (o : Option MO) (f : List Int → Prop) : Prop := match o with
  | some (.dK kvs) => ∃ ks : List Int, kvs.map (fun p : Key × D => p.1) = ks.map Sum.inl ∧ ks.length < 64 ∧ ∀ ys : List Int, ys.Perm ks → ys.Pairwise (· ≤ ·) → f ys
  | _ => False
def cSortDI : RLt := fun ds M Q => match ds with
  | [.ref a] => oSD (M a) fun ys => Q (.lst (ys.map D.int)) M
  | _ => False
theorem kp_keys {K : PySem.W.Frag} {F : Hp} {κ : Type} {vs : List (κ × V)} {ds : List (κ × D)} (h : KP K F vs ds) : vs.map (·.1) = ds.map (·.1) := by
  induction h with
  | nil => rfl
  | cons r t ih => rw [List.map_cons, List.map_cons, r.1, ih]
end
/-! ### texts written out -/
theorem map_inj' {α β : Type} {f : α → β} (hf : ∀ a b, f a = f b → a = b) : ∀ {l m : List α}, l.map f = m.map f → l = m
  | [], [], _ => rfl
  | [], _ :: _, h => by simp at h
  | _ :: _, [], h => by simp at h
  | a :: l, b :: m, h => by
    simp only [List.map_cons, List.cons.injEq] at h
    rw [hf _ _ h.1, map_inj' hf h.2]
theorem ofS_inj {s t : String} : (Str.ofString s = Str.ofString t) = (s = t) := by
  apply propext
  constructor
  · intro h
    rw [Str.ofString_eq_toList, Str.ofString_eq_toList] at h
    have h2 : (s.toList.map Char.toNat) = (t.toList.map Char.toNat) := by
      have := congrArg (fun z : Str => z.cps.toList) h
      simpa using this
    have h3 : s.toList = t.toList := map_inj' (fun a b e => Char.toNat_inj.mp e) h2
    exact String.toList_inj.mp h3
  · intro h; rw [h]
/-! ### a cut between two statements -/
def sCut (t u : TSt) : TSt := fun D τ M => ∃ W : Sg → MH → Prop, t { D with nx := W } τ M ∧ ∀ τ' M', W τ' M' → u D τ' M'
theorem qss_cut {X : Cx} {E : XK} {Et : XT} {st : Stmt} {rest : List Stmt} {t u : TSt} (h1 : QS X E Et st t) (h2 : QSs X E Et rest u) : QSs X E Et (st :: rest) (sCut t u) := PSsimp (pss_cons h1 h2) (by
  rintro D σ H ⟨G, F, M, τ, Dt, a, en, W, h, hW⟩
  exact ⟨G, F, M, τ, { Dt with nx := W }, a, ⟨fun F' H' M' σ' τ' s a' h' => ⟨G, F', M', τ', Dt, a', en.mono s, hW τ' M' h'⟩, en.rt, en.bk, en.ct⟩, h⟩)
theorem cut_by {t u : TSt} {D0 : En} {τ : Sg} {M : MH} (W : Sg → MH → Prop) (h : t { D0 with nx := W } τ M) (h2 : ∀ τ' M', W τ' M' → u D0 τ' M') : sCut t u D0 τ M := ⟨W, h, h2⟩
/-! ### a branch that is not taken -/
theorem qss_never {X : Cx} {E : XK} {Et : XT} {st : List Stmt} : QSs X E Et st (fun _ _ _ => False) := ⟨fun pins s σ H D I w => by
  obtain ⟨G, F, M, τ, Dt, a, en, h⟩ := w
  exact h.elim⟩
/-! ### readings, for simp -/
section
variable {M : MH} {Q : VD} {a : Addr} {k x y d : D} {f : Option D → Prop} {g : MO → Prop} {ds es : List D} {i n : Int} {s z : Str}
theorem uDic : oDic M (.ref a) k f = oDA (M a) k f := propext Iff.rfl
theorem oDA_ki {kvs : List (Key × D)} : oDA (some (.dK kvs)) (.int i) f = f (valD kvs (.inl i)) := propext Iff.rfl
theorem oDA_ks {kvs : List (Key × D)} : oDA (some (.dK kvs)) (.str s) f = f (valD kvs (.inr s)) := propext Iff.rfl
theorem oDA_t {kvs : List (List Key × D)} : oDA (some (.dT kvs)) (.tup ds) f = oSome (kT ds) fun c => f (valD kvs c) := by
  unfold oDA oSome; cases h : kT ds <;> simp [h]
theorem oPA_ki {kvs : List (Key × D)} : oPA (some (.dK kvs)) (.int i) d g = (kvs.length < 16777216 ∧ g (.dK (putM kvs (.inl i) d))) := by rw [← sizeLine_eq]; rfl
theorem oPA_ks {kvs : List (Key × D)} : oPA (some (.dK kvs)) (.str s) d g = (kvs.length < 16777216 ∧ g (.dK (putM kvs (.inr s) d))) := by rw [← sizeLine_eq]; rfl
theorem oPA_t {kvs : List (List Key × D)} : oPA (some (.dT kvs)) (.tup ds) d g = oSome (kT ds) fun c => kvs.length < 16777216 ∧ g (.dT (putM kvs c d)) := by
  rw [← sizeLine_eq]; unfold oPA oSome; cases h : kT ds <;> simp [h]
def consK (a : Key) (o : Option (List Key)) : Option (List Key) := match o with
  | some l => some (a :: l)
  | none => none
theorem consK_s {a : Key} {l : List Key} : consK a (some l) = some (a :: l) := rfl
theorem kT_nil : kT [] = some [] := rfl
theorem kT_i {t : List D} : kT (.int i :: t) = consK (.inl i) (kT t) := by
  show (match k1 (.int i), kT t with | some a, some b => some (a :: b) | _, _ => none) = _
  cases kT t <;> rfl
theorem kT_s {t : List D} : kT (.str s :: t) = consK (.inr s) (kT t) := by
  show (match k1 (.str s), kT t with | some a, some b => some (a :: b) | _, _ => none) = _
  cases kT t <;> rfl
theorem uzDict {Qm : MH → Prop} : zDict (.ref a) k d M Qm = oPA (M a) k d fun mo => Qm (mup M a mo) := rfl
theorem uIn {neg : Bool} : bIn neg x y M Q = oSome (seqOf M y) fun ds => flatD x = true ∧ ds.all flatD = true ∧ Q (.bl (if neg = true then !(ds.any fun z => eqD z x) else ds.any fun z => eqD z x)) M := by
  unfold bIn oSome; cases seqOf M y <;> rfl
theorem uRepS : bRepS (.str z) (.int n) M Q = ((0 ≤ n ∧ n ≤ 1000 ∧ z.length ≤ 1000) ∧ Q (.str (repS z n)) M) := propext Iff.rfl
theorem uRep : bRep (.lst ds) (.int n) M Q = ((0 ≤ n ∧ n ≤ 1000 ∧ ds.length ≤ 1000) ∧ Q (.lst (List.replicate n.toNat ds).flatten) M) := propext Iff.rfl
theorem uRepM : bRepM (.lst ds) (.int n) M Q = ((0 ≤ n ∧ n ≤ 1000 ∧ ds.length ≤ 1000) ∧ ∀ p, M p = none → Q (.ref p) (mup M p (.lst (List.replicate n.toNat ds).flatten))) := propext Iff.rfl
theorem uCatT : bCatT (.tup ds) (.tup es) M Q = (ds.length + es.length ≤ 16777216 ∧ Q (.tup (ds ++ es)) M) := by rw [← sizeLine_eq]; rfl
theorem uSlT {lo hi : Option Int} : cSlT (.tup ds) lo hi M Q = Q (.tup (cutD ds lo hi)) M := propext Iff.rfl
def oLD (o : Option MO) (f : Nat → Prop) : Prop := match o with
  | some (.dK kvs) => f kvs.length
  | some (.dT kvs) => f kvs.length
  | _ => False
theorem oLD_k {kvs : List (Key × D)} {f : Nat → Prop} : oLD (some (.dK kvs)) f = f kvs.length := propext Iff.rfl
theorem oLD_t {kvs : List (List Key × D)} {f : Nat → Prop} : oLD (some (.dT kvs)) f = f kvs.length := propext Iff.rfl
theorem uLenD : cLenD [.ref a] M Q = oLD (M a) fun n => Q (.int (n : Nat)) M := by
  show (match M a with | some (.dK kvs) => Q (.int (kvs.length : Nat)) M | some (.dT kvs) => Q (.int (kvs.length : Nat)) M | _ => False) = _
  unfold oLD
  cases M a with
  | none => rfl
  | some o => cases o <;> rfl
theorem uSortDI : cSortDI [.ref a] M Q = oSD (M a) fun ys => Q (.lst (ys.map D.int)) M := propext Iff.rfl
end
end Tl
namespace Tl
open PySem PySem.Spec PyProof.Rows L2
/-! ### widelanes: expressions, statements, programs -/
inductive Op7 where
  | add | sub | mul | div | rem | lt | eq
deriving DecidableEq
def Op7.s : Op7 → Str
  | .add => "+" | .sub => "-" | .mul => "*" | .div => "div" | .rem => "rem" | .lt => "<" | .eq => "="
theorem op_lane {o : Op7} : (o.s = Str.ofString "lane") = False := by cases o <;> simp only [Op7.s, ofS_inj, String.reduceEq]
theorem op_lanes {o : Op7} : (o.s = Str.ofString "lanes") = False := by cases o <;> simp only [Op7.s, ofS_inj, String.reduceEq]
theorem op_mine {o : Op7} : (o.s = Str.ofString "mine") = False := by cases o <;> simp only [Op7.s, ofS_inj, String.reduceEq]
theorem op_num {o : Op7} : (o.s = Str.ofString "num") = False := by cases o <;> simp only [Op7.s, ofS_inj, String.reduceEq]
theorem op_name {o : Op7} : (o.s = Str.ofString "name") = False := by cases o <;> simp only [Op7.s, ofS_inj, String.reduceEq]
theorem op_box {o : Op7} : (o.s = Str.ofString "box") = False := by cases o <;> simp only [Op7.s, ofS_inj, String.reduceEq]
inductive Ex where
  | num (i : Int) | nam (x : Str) | lane | lanes | mine | box (e : Ex) | op (w : Op7) (a b : Ex)
def Ex.d : Ex → D
  | .num i => .tup [.str "num", .int i]
  | .nam x => .tup [.str "name", .str x]
  | .lane => .tup [.str "lane"]
  | .lanes => .tup [.str "lanes"]
  | .mine => .tup [.str "mine"]
  | .box e => .tup [.str "box", e.d]
  | .op w a b => .tup [.str w.s, a.d, b.d]
def Ex.deep : Ex → Nat
  | .box e => e.deep + 1
  | .op _ a b => max a.deep b.deep + 1
  | _ => 1
inductive Sm where
  | set (l : Int) (x : Str) (e : Ex) | put (l : Int) (a b : Ex) | tell (l : Int) (e : Ex) | ret (l : Int) (e : Ex) | stop (l : Int) | brk (l : Int) | agn (l : Int) | meet (l : Int)
  | join (l : Int) (x w : Str) (e : Ex) | call (l : Int) (x f : Str) (es : List Ex) | if1 (l : Int) (e : Ex) (b : List Sm) | if2 (l : Int) (e : Ex) (b c : List Sm) | whl (l : Int) (e : Ex) (b : List Sm)
mutual
def Sm.d : Sm → D
  | .set l x e => .tup [.str "set", .int l, .str x, e.d]
  | .put l a b => .tup [.str "put", .int l, a.d, b.d]
  | .tell l e => .tup [.str "tell", .int l, e.d]
  | .ret l e => .tup [.str "return", .int l, e.d]
  | .stop l => .tup [.str "stop", .int l]
  | .brk l => .tup [.str "break", .int l]
  | .agn l => .tup [.str "again", .int l]
  | .meet l => .tup [.str "meet", .int l]
  | .join l x w e => .tup [.str "join", .int l, .str x, .str w, e.d]
  | .call l x f es => .tup [.str "call", .int l, .str x, .str f, .lst (es.map Ex.d)]
  | .if1 l e b => .tup [.str "if", .int l, e.d, .lst (stD b), .non]
  | .if2 l e b c => .tup [.str "if", .int l, e.d, .lst (stD b), .lst (stD c)]
  | .whl l e b => .tup [.str "while", .int l, e.d, .lst (stD b)]
def stD : List Sm → List D
  | [] => []
  | s :: t => s.d :: stD t
end
theorem stD_map : ∀ b : List Sm, stD b = b.map Sm.d
  | [] => by unfold stD; rfl
  | s :: t => by unfold stD; rw [stD_map t]; rfl
theorem stD_len (b : List Sm) : (stD b).length = b.length := by rw [stD_map, List.length_map]
theorem stD_app (a b : List Sm) : stD (a ++ b) = stD a ++ stD b := by rw [stD_map, stD_map, stD_map, List.map_append]
mutual
def Sm.deep : Sm → Nat
  | .if1 _ _ b => deeps b + 1
  | .if2 _ _ b c => max (deeps b) (deeps c) + 1
  | .whl _ _ b => deeps b + 1
  | _ => 1
def deeps : List Sm → Nat
  | [] => 0
  | s :: t => max s.deep (deeps t)
end
theorem deeps_mem : ∀ {b : List Sm} {s : Sm}, s ∈ b → s.deep ≤ deeps b
  | x :: t, s, h => by
    unfold deeps
    rcases List.mem_cons.mp h with rfl | h
    · omega
    · have := deeps_mem h; omega
def Sm.line : Sm → Int
  | .set l _ _ => l | .put l _ _ => l | .tell l _ => l | .ret l _ => l | .stop l => l | .brk l => l | .agn l => l | .meet l => l | .join l _ _ _ => l | .call l _ _ _ => l | .if1 l _ _ => l | .if2 l _ _ _ => l | .whl l _ _ => l
def Sm.word : Sm → Str
  | .set .. => "set" | .put .. => "put" | .tell .. => "tell" | .ret .. => "return" | .stop .. => "stop" | .brk .. => "break" | .agn .. => "again" | .meet .. => "meet" | .join .. => "join" | .call .. => "call" | .if1 .. => "if" | .if2 .. => "if" | .whl .. => "while"
def Sm.given : Sm → Option Str
  | .set _ x _ => some x | .join _ x _ _ => some x | .call _ x _ _ => some x | _ => none
def Sm.blocks : Sm → List (List Sm)
  | .if1 _ _ b => [b] | .if2 _ _ b c => [b, c] | .whl _ _ b => [b] | _ => []
def Sm.rest : Sm → List D
  | .set _ x e => [.str x, e.d] | .put _ a b => [a.d, b.d] | .tell _ e => [e.d] | .ret _ e => [e.d] | .join _ x w e => [.str x, .str w, e.d] | .call _ x f es => [.str x, .str f, .lst (es.map Ex.d)]
  | .if1 _ e b => [e.d, .lst (stD b), .non] | .if2 _ e b c => [e.d, .lst (stD b), .lst (stD c)] | .whl _ e b => [e.d, .lst (stD b)] | _ => []
theorem sm_d (s : Sm) : s.d = .tup (.str s.word :: .int s.line :: s.rest) := by cases s <;> (unfold Sm.d; rfl)
structure Df where
  name : Str
  ps : List Str
  body : List Sm
  first : Int
  last : Int
def Df.d (f : Df) : D := .tup [.str f.name, .lst (f.ps.map .str), .lst (stD f.body), .int f.first, .int f.last]
abbrev Pg := List Df
def pgD (p : Pg) : List D := p.map Df.d
/-! ### marks -/
inductive MK where
  | name (f x : Str) | row (l : Int) | dfn (f : Str) | back (f : Str)
deriving DecidableEq
def MK.k : MK → List Key
  | .name f x => [.inr "name", .inr f, .inr x]
  | .row l => [.inr "row", .inl l]
  | .dfn f => [.inr "def", .inr f]
  | .back f => [.inr "back", .inr f]
def MK.d : MK → D
  | .name f x => .tup [.str "name", .str f, .str x]
  | .row l => .tup [.str "row", .int l]
  | .dfn f => .tup [.str "def", .str f]
  | .back f => .tup [.str "back", .str f]
theorem MK.k_inj {a b : MK} (h : a.k = b.k) : a = b := by
  have n1 : ("def" : Str) ≠ "back" := by decide
  cases a <;> cases b <;> simp only [MK.k, List.cons.injEq, Sum.inr.injEq, Sum.inl.injEq, and_true, true_and, reduceCtorEq, and_false, false_and] at h <;> first | exact h.elim | (subst h; rfl) | (obtain ⟨rfl, rfl⟩ := h; rfl) | exact absurd h.1 n1 | exact absurd h.1.symm n1
abbrev Why := List (Option MK)
def oD : Option MK → D
  | none => .non
  | some k => k.d
def whyD (w : Why) : D := .lst (w.map oD)
abbrev FM := List (MK × Int × Option MK)
def fmD (fd : FM) : List (List Key × D) := fd.map fun p => (p.1.k, .tup [.int p.2.1, oD p.2.2])
def hasK (fd : FM) (k : MK) : Bool := fd.any fun p => decide (p.1 = k)
theorem val_fm (fd : FM) (k : MK) : (valD (fmD fd) k.k).isSome = hasK fd k := by
  induction fd with
  | nil => rfl
  | cons p t ih =>
    unfold fmD hasK
    rw [List.map_cons, List.any_cons]
    by_cases e : p.1 = k
    · rw [valD_pos (by rw [e]), decide_eq_true e]; rfl
    · rw [valD_neg (fun h => e (MK.k_inj h)), decide_eq_false e]; exact ih
theorem val_name (fd : FM) (f x : Str) : (valD (fmD fd) [.inr "name", .inr f, .inr x]).isSome = hasK fd (.name f x) := val_fm fd (.name f x)
theorem val_row (fd : FM) (l : Int) : (valD (fmD fd) [.inr "row", .inl l]).isSome = hasK fd (.row l) := val_fm fd (.row l)
theorem val_def (fd : FM) (f : Str) : (valD (fmD fd) [.inr "def", .inr f]).isSome = hasK fd (.dfn f) := val_fm fd (.dfn f)
theorem val_back (fd : FM) (f : Str) : (valD (fmD fd) [.inr "back", .inr f]).isSome = hasK fd (.back f) := val_fm fd (.back f)
structure Spot where
  deed : Sm
  way : Why
  loop : Option Int
def loopD : Option Int → D
  | none => .non
  | some l => .int l
def Spot.d (s : Spot) : D := .tup [s.deed.d, whyD s.way, loopD s.loop]
theorem block_deep {s : Sm} {b : List Sm} {n : Nat} (h : s.deep ≤ n) (hb : b ∈ s.blocks) : deeps b < n := by
  cases s <;> unfold Sm.deep at h <;> simp only [Sm.blocks, List.mem_cons, List.not_mem_nil, or_false] at hb <;> first | exact hb.elim | (subst hb; omega) | (rcases hb with rfl | rfl <;> omega)
/-! ### what is placed, without the ways -/
mutual
def plnS (loop : Option Int) : Sm → List (Sm × Option Int)
  | .if1 l e b => (.if1 l e b, loop) :: pln loop b
  | .if2 l e b c => (.if2 l e b c, loop) :: (pln loop b ++ pln loop c)
  | .whl l e b => (.whl l e b, loop) :: pln (some l) b
  | s => [(s, loop)]
def pln (loop : Option Int) : List Sm → List (Sm × Option Int)
  | [] => []
  | s :: t => plnS loop s ++ pln loop t
end
theorem valD_put {κ : Type} [DecidableEq κ] {kvs : List (κ × D)} {k j : κ} {v : D} : valD (putM kvs k v) j = if k = j then some v else valD kvs j := by
  unfold putM
  split
  · rename_i h
    induction kvs with
    | nil => cases h
    | cons p r ih =>
      rw [List.map_cons]
      by_cases e : p.1 = k
      · rw [if_pos e]
        by_cases e2 : k = j
        · rw [valD_pos (by exact e.trans e2), if_pos e2]
        · rw [valD_neg (by exact fun z => e2 (e.symm.trans z)), if_neg e2, valD_neg (fun z => e2 (e.symm.trans z))]
          by_cases h2 : (r.any fun kv => decide (kv.1 = k)) = true
          · rw [ih h2, if_neg e2]
          · have : (r.map fun kv => if kv.1 = k then (kv.1, v) else kv) = r := by
              rw [List.map_congr_left (g := id) (fun kv hkv => ?_), List.map_id]
              rw [if_neg (fun z => h2 (List.any_eq_true.mpr ⟨kv, hkv, decide_eq_true z⟩))]; rfl
            rw [this]
      · rw [if_neg e]
        rw [List.any_cons, decide_eq_false e, Bool.false_or] at h
        by_cases e2 : p.1 = j
        · rw [valD_pos e2, valD_pos e2, if_neg (fun z => e (e2.trans z.symm))]
        · rw [valD_neg e2, valD_neg e2, ih h]
  · rename_i h
    by_cases e2 : k = j
    · subst e2
      rw [if_pos rfl]
      induction kvs with
      | nil => exact valD_pos rfl
      | cons p r ih =>
        rw [List.any_cons, Bool.or_eq_true, not_or, decide_eq_true_eq] at h
        rw [List.cons_append, valD_neg h.1, ih h.2]
    · rw [if_neg e2]
      clear h
      induction kvs with
      | nil => exact valD_neg e2
      | cons p r ih =>
        rw [List.cons_append]
        by_cases e : p.1 = j
        · rw [valD_pos e, valD_pos e]
        · rw [valD_neg e, valD_neg e, ih]
theorem putM_len {κ : Type} [DecidableEq κ] (kvs : List (κ × D)) (k : κ) (v : D) : (putM kvs k v).length ≤ kvs.length + 1 := by
  unfold putM
  split
  · rw [List.length_map]; omega
  · rw [List.length_append]; exact Nat.le_refl _
/-! ### waits -/
end Tl
namespace Tl
open PySem PySem.Spec PyProof.Rows L2
/-! ### cells: what stands where, beside what stood before -/
structure Cel (M0 M : MH) (cs : List (Addr × MO)) : Prop where
  nd : (cs.map (·.1)).Nodup
  at_ : ∀ c ∈ cs, M c.1 = some c.2
  old : ∀ a o, M0 a = some o → M a = some o
  new : ∀ c ∈ cs, M0 c.1 = none
section
variable {M0 M : MH} {cs pre post : List (Addr × MO)} {a p : Addr} {o o' : MO}
theorem Cel.nil : Cel M M [] := ⟨List.nodup_nil, fun _ h => (by cases h), fun _ _ h => h, fun _ h => (by cases h)⟩
theorem Cel.fresh (h : Cel M0 M cs) (hp : M p = none) : Cel M0 (mup M p o) ((p, o) :: cs) := by
  have hne : ∀ c ∈ cs, c.1 ≠ p := fun c hc e => by have := h.at_ c hc; rw [e, hp] at this; cases this
  refine ⟨?_, ?_, ?_, ?_⟩
  · rw [List.map_cons, List.nodup_cons]
    refine ⟨fun hm => ?_, h.nd⟩
    obtain ⟨c, hc, e⟩ := List.mem_map.mp hm
    exact hne c hc e
  · intro c hc
    rcases List.mem_cons.mp hc with rfl | hc
    · exact mup_same
    · rw [mup_ne (hne c hc)]; exact h.at_ c hc
  · intro b u e
    have := h.old b u e
    rw [mup_ne (by rintro rfl; rw [hp] at this; cases this)]; exact this
  · intro c hc
    rcases List.mem_cons.mp hc with rfl | hc
    · cases e : M0 p with
      | none => rfl
      | some u => have := h.old p u e; rw [hp] at this; cases this
    · exact h.new c hc
theorem Cel.here (h : Cel M0 M (pre ++ (a, o) :: post)) : M a = some o := h.at_ (a, o) (by simp)
theorem Cel.ne_mid (h : (List.map (fun x : Addr × MO => x.1) (pre ++ (a, o) :: post)).Nodup) : (∀ c ∈ pre, c.1 ≠ a) ∧ ∀ c ∈ post, c.1 ≠ a := by
  rw [List.map_append, List.map_cons] at h
  obtain ⟨h1, h2, h3⟩ := List.nodup_append.mp h
  obtain ⟨h4, h5⟩ := List.nodup_cons.mp h2
  exact ⟨fun c hc e => h3 c.1 (List.mem_map.mpr ⟨c, hc, rfl⟩) a (List.mem_cons_self ..) e, fun c hc e => h4 (List.mem_map.mpr ⟨c, hc, e⟩)⟩
theorem Cel.put (h : Cel M0 M (pre ++ (a, o) :: post)) : Cel M0 (mup M a o') (pre ++ (a, o') :: post) := by
  obtain ⟨n1, n2⟩ := Cel.ne_mid h.nd
  refine ⟨?_, ?_, ?_, ?_⟩
  · have := h.nd
    rw [List.map_append, List.map_cons] at this ⊢
    exact this
  · intro c hc
    rcases List.mem_append.mp hc with hc | hc
    · rw [mup_ne (n1 c hc)]; exact h.at_ c (List.mem_append_left _ hc)
    · rcases List.mem_cons.mp hc with rfl | hc
      · exact mup_same
      · rw [mup_ne (n2 c hc)]; exact h.at_ c (List.mem_append_right _ (List.mem_cons_of_mem _ hc))
  · intro b u e
    have hn := h.new (a, o) (by simp)
    rw [mup_ne (by rintro rfl; rw [hn] at e; cases e)]
    exact h.old b u e
  · intro c hc
    rcases List.mem_append.mp hc with hc | hc
    · exact h.new c (List.mem_append_left _ hc)
    · rcases List.mem_cons.mp hc with rfl | hc
      · exact h.new (a, o) (by simp)
      · exact h.new c (List.mem_append_right _ (List.mem_cons_of_mem _ hc))
theorem Cel.del (h : Cel M0 M (pre ++ (a, o) :: post)) : Cel M0 (mdel M a) (pre ++ post) := by
  obtain ⟨n1, n2⟩ := Cel.ne_mid h.nd
  have md : ∀ b, b ≠ a → mdel M a b = M b := fun b hb => by unfold mdel; rw [if_neg hb]
  refine ⟨?_, ?_, ?_, ?_⟩
  · have := h.nd
    rw [List.map_append, List.map_cons] at this
    rw [List.map_append]
    obtain ⟨h1, h2, h3⟩ := List.nodup_append.mp this
    exact List.nodup_append.mpr ⟨h1, (List.nodup_cons.mp h2).2, fun x hx y hy => h3 x hx y (List.mem_cons_of_mem _ hy)⟩
  · intro c hc
    rcases List.mem_append.mp hc with hc | hc
    · rw [md _ (n1 c hc)]; exact h.at_ c (List.mem_append_left _ hc)
    · rw [md _ (n2 c hc)]; exact h.at_ c (List.mem_append_right _ (List.mem_cons_of_mem _ hc))
  · intro b u e
    have hn := h.new (a, o) (by simp)
    rw [md _ (by rintro rfl; rw [hn] at e; cases e)]
    exact h.old b u e
  · intro c hc
    rcases List.mem_append.mp hc with hc | hc
    · exact h.new c (List.mem_append_left _ hc)
    · exact h.new c (List.mem_append_right _ (List.mem_cons_of_mem _ hc))
theorem Cel.forget (h : Cel M0 M (pre ++ (a, o) :: post)) : Cel M0 M (pre ++ post) := by
  refine ⟨?_, fun c hc => ?_, h.old, fun c hc => ?_⟩
  · have := h.nd
    rw [List.map_append, List.map_cons] at this
    rw [List.map_append]
    obtain ⟨h1, h2, h3⟩ := List.nodup_append.mp this
    exact List.nodup_append.mpr ⟨h1, (List.nodup_cons.mp h2).2, fun x hx y hy => h3 x hx y (List.mem_cons_of_mem _ hy)⟩
  · rcases List.mem_append.mp hc with hc | hc
    · exact h.at_ c (List.mem_append_left _ hc)
    · exact h.at_ c (List.mem_append_right _ (List.mem_cons_of_mem _ hc))
  · rcases List.mem_append.mp hc with hc | hc
    · exact h.new c (List.mem_append_left _ hc)
    · exact h.new c (List.mem_append_right _ (List.mem_cons_of_mem _ hc))
theorem Cel.re {K : PySem.W.Frag} {d : D} (h : Cel M0 M cs) : ReR K d M d M0 := ReR.drop h.old
end
theorem lstOf_of {M : MH} {a : Addr} {ds : List D} (h : M a = some (.lst ds)) : lstOf M (.ref a) = some ds := by
  show (match M a with | some (.lst ds) => some ds | _ => none) = _
  rw [h]
theorem mLst_of {M : MH} {a : Addr} {ds : List D} (h : M a = some (.lst ds)) : mLst M a = some ds := by
  unfold mLst
  rw [h]
theorem lenOf_of {M : MH} {a : Addr} {ds : List D} (h : M a = some (.lst ds)) : lenOf M (.ref a) = some ds.length := by
  show (match M a with | some (.lst ds) => some ds.length | _ => none) = _
  rw [h]
/-! ### freezing what a tuple holds -/
theorem rps_mid {K : PySem.W.Frag} {F : Hp} {x : D} {post : List D} : ∀ {pre : List D} {vs : List V}, Rps K F vs (pre ++ x :: post) → ∃ v1 v v2, vs = v1 ++ v :: v2 ∧ Rps K F v1 pre ∧ Rp K F v x ∧ Rps K F v2 post
  | [], _, .cons h t => ⟨[], _, _, rfl, .nil, h, t⟩
  | _ :: pre, _, .cons h t => by
    obtain ⟨v1, v, v2, rfl, r1, r2, r3⟩ := rps_mid (pre := pre) t
    exact ⟨_ :: v1, v, v2, rfl, .cons h r1, r2, r3⟩
theorem ReR.tup_freeze {K : PySem.W.Frag} {M : MH} {b : Addr} {ds : List D} (pre post : List D) (h : M b = some (.lst ds)) : ReR K (.tup (pre ++ .ref b :: post)) M (.tup (pre ++ .lst ds :: post)) (mdel M b) := fun G F H v R p => by
  obtain ⟨F', s, R', pb⟩ := R.freeze h
  cases p with
  | tup ha r =>
    obtain ⟨v1, v, v2, rfl, r1, r2, r3⟩ := rps_mid r
    cases r2
    exact ⟨F', s, R', .tup (s _ _ ha) ((r1.mono s).append (.cons pb (r3.mono s)))⟩
/-! ### picking out of a written row -/
theorem pow_bit (n : Nat) (h : n ≤ 400) : CPow 10 (n : Int) := ⟨by omega, by omega, by decide⟩
theorem len_app (a b : Str) : (a ++ b).length = a.length + b.length := Str.length_append a b
theorem len_repS {z : Str} {n : Int} (h : 0 ≤ n) : (repS z n).length ≤ z.length * n.toNat + z.length := by
  unfold repS
  split
  · exact Nat.zero_le _
  · split
    · omega
    · have e := size_rep' z.cps.toList n.toNat
      rw [Array.toArray_toList] at e
      show ((List.replicate n.toNat z.cps).foldl (· ++ ·) #[]).size ≤ _
      rw [e, List.size_toArray, len_rep]
      have : z.length = z.cps.toList.length := by rw [Array.length_toList]; rfl
      rw [← this, Nat.mul_comm]
      omega
/-- ds == [] -/
theorem eqD_nil {M : MH} {ds : List D} {Q : VD} (n : Nat) (ok : okDs n ds) (h : Q (.bl (decide (ds = []))) M) (hn : n + 1 ≤ 64 := by decide) : bEqD (.lst ds) (.lst []) M Q := by
  obtain ⟨ys, e, c, dp⟩ := okDs_py n ds ok
  have e1 : pyM M (.lst ds) = some (.list ys) := by show pyD (.lst ds) = _; unfold pyD; rw [e]; rfl
  have e2 : pyM M (.lst []) = some (.list []) := by show pyD (.lst []) = _; unfold pyD pyDs; rfl
  have sh : SeqAt.shaped (.list ys) = true := Bool.and_eq_true_iff.mpr ⟨by unfold PyData.canLay0; exact c, decide_eq_true (by unfold PyData.depth; omega)⟩
  have sh2 : SeqAt.shaped (.list []) = true := by decide +kernel
  unfold bEqD
  simp only [e1, e2]
  refine ⟨sh, sh2, ?_⟩
  have : PyData.eqv (.list ys) (.list []) = decide (ds = []) := by
    cases ds with
    | nil => unfold pyDs at e; cases e; simp [PyData.eqv, PyData.eqvAll]
    | cons x t =>
      unfold pyDs at e
      cases q : pyD x with
      | none => simp only [q] at e; cases e
      | some a =>
        cases q2 : pyDs t with
        | none => simp only [q, q2] at e; cases e
        | some b => simp only [q, q2] at e; cases e; simp [PyData.eqv, PyData.eqvAll]
  rw [this]; exact h
/-! ### xs == [], xs != [], whatever stands in xs -/
def bEqE (neg : Bool) : R2t := fun x y M Q => match lstOf M x, lstOf M y with
  | some a, some b => (a.length ≠ b.length ∧ Q (.bl neg) M) ∨ (a = [] ∧ b = [] ∧ Q (.bl (!neg)) M)
  | _, _ => False
theorem isL_of {X : Cx} {pins : List (Addr × Obj)} {s : Shared} {σ : L2.St} {H : Hp} {a : Addr} {xs : List V} (I : Inv X pins σ H s) (h : SqL X.K H a xs) : ∃ its : Array Value, s.heap.IsList a its ∧ its.size = xs.length := by
  obtain ⟨its, r, pl, _⟩ := I.list h
  exact ⟨its.toArray, pl.isList, by rw [List.size_toArray]; exact r.length.symm⟩
theorem e_both {X : Cx} {x y : V} {H : Hp} {Q : VK} {neg : Bool} (h : lr2 X.K (bEqE neg) x y H Q) : ∃ a b xs ys, x = .ref a ∧ y = .ref b ∧ SqL X.K H a xs ∧ SqL X.K H b ys ∧ ((xs.length ≠ ys.length ∧ Q (.bl neg) H) ∨ (xs = [] ∧ ys = [] ∧ Q (.bl (!neg)) H)) := by
  obtain ⟨G, F, M, dx, dy, Qt, R, px, py, h, k⟩ := h
  unfold bEqE at h
  cases e1 : lstOf M dx with
  | none => simp only [e1] at h
  | some a =>
    cases e2 : lstOf M dy with
    | none => simp only [e1, e2] at h
    | some b =>
      simp only [e1, e2] at h
      obtain ⟨p, xs, rfl, hx, rx⟩ := lst_of R px e1
      obtain ⟨q, ys, rfl, hy, ry⟩ := lst_of R py e2
      refine ⟨p, q, xs, ys, rfl, rfl, hx, hy, ?_⟩
      rcases h with ⟨h1, h2⟩ | ⟨h1, h2, h3⟩
      · exact .inl ⟨by rw [rx.length, ry.length]; exact h1, k _ F H M _ (Same.refl _) R (.bl _) h2⟩
      · subst h1 h2
        cases rx
        cases ry
        exact .inr ⟨rfl, rfl, k _ F H M _ (Same.refl _) R (.bl _) h3⟩
section
variable {X : Cx}
theorem oq_neE (hu : X.A.units + 64 < cLine) : OpQ X (compareOp .NotEq) (bEqE true) := by
  intro pins s σ H x y v u Q I rx ry h
  obtain ⟨a, b, xs, ys, rfl, rfl, hx, hy, h⟩ := e_both h
  rcases h with ⟨h1, h2⟩ | ⟨rfl, rfl, h3⟩
  · obtain ⟨i1, l1, z1⟩ := isL_of I hx
    obtain ⟨i2, l2, z2⟩ := isL_of I hy
    cases rx
    cases ry
    exact SeqAt.RcNeAt.lists_lengths l1 l2 (by rw [z1, z2]; simpa using h1) (by omega) X.prog X.w _ _ ⟨.bl true, H, I, rfl, h2⟩
  · exact op_neD hu pins s σ H _ _ v u Q I rx ry ⟨.list [], .list [], .lst hx .nil, .lst hy .nil, by decide +kernel, by decide +kernel, h3⟩
end
theorem eqE {M : MH} {x : D} {a : List D} {neg : Bool} {Q : VD} (h : lstOf M x = some a) (q : Q (.bl (if a = [] then !neg else neg)) M) : bEqE neg x (.lst []) M Q := by
  unfold bEqE
  simp only [h, lstOf_l]
  cases a with
  | nil => exact .inr ⟨by trivial, by trivial, q⟩
  | cons y t => exact .inl ⟨by simp, q⟩
/-! ### texts that are texts -/
theorem strOk_iff {x : Str} : PyData.strOk x = true ↔ ∀ c ∈ x.cps.toList, c < 1114112 := by
  unfold PyData.strOk
  rw [← Array.all_toList, List.all_eq_true]
  exact ⟨fun h c hc => of_decide_eq_true (h c hc), fun h c hc => decide_eq_true (h c hc)⟩
theorem strOk_app {a b : Str} (ha : PyData.strOk a = true) (hb : PyData.strOk b = true) : PyData.strOk (a ++ b) = true := by
  rw [strOk_iff] at *
  intro c hc
  have : c ∈ (a.cps ++ b.cps).toList := hc
  rw [Array.toList_append, List.mem_append] at this
  rcases this with h | h
  · exact ha c h
  · exact hb c h
theorem strOk_cut {z : Str} {lo hi : Option Int} (h : PyData.strOk z = true) : PyData.strOk (cutS z lo hi) = true := by
  rw [strOk_iff] at *
  intro c hc
  have : c ∈ ((z.cps.toList.drop (HT.sIx z.length 0 lo)).take (HT.sIx z.length z.length hi - HT.sIx z.length 0 lo)).toArray.toList := hc
  rw [List.toList_toArray] at this
  exact h c (List.mem_of_mem_drop (List.mem_of_mem_take this))
theorem strOk_rep {z : Str} {n : Int} (h : PyData.strOk z = true) : PyData.strOk (repS z n) = true := by
  unfold repS
  split
  · exact strOk_iff.mpr fun c hc => (by cases hc)
  · split
    · exact h
    · rw [strOk_iff] at *
      have e := size_rep' z.cps.toList n.toNat
      rw [Array.toArray_toList] at e
      rw [e]
      intro c hc
      rw [List.toList_toArray, List.mem_flatten] at hc
      obtain ⟨l, hl, hc⟩ := hc
      rw [List.mem_replicate] at hl
      exact h c (hl.2 ▸ hc)
/-! ### what the builders of the laws lay: deeds without lines -/
inductive Od where
  | set (x : Str) (e : Ex) | ifo (e : Ex) | whl (e : Ex) | fin | els | brk | agn | meet | stop | tell (e : Ex) | ret (e : Ex) | put (a b : Ex) | join (x w : Str) (e : Ex) | call (x f : Str) (es : List Ex)
def Od.word : Od → Str
  | .set .. => "set" | .ifo .. => "if" | .whl .. => "while" | .fin => "end" | .els => "else" | .brk => "break" | .agn => "again" | .meet => "meet" | .stop => "stop" | .tell .. => "tell" | .ret .. => "return" | .put .. => "put" | .join .. => "join" | .call .. => "call"
def Od.rest : Od → List D
  | .set x e => [.str x, e.d] | .ifo e => [e.d] | .whl e => [e.d] | .tell e => [e.d] | .ret e => [e.d] | .put a b => [a.d, b.d] | .join x w e => [.str x, .str w, e.d] | .call x f es => [.str x, .str f, .lst (es.map Ex.d)] | _ => []
def Od.d (o : Od) : D := .tup (.str o.word :: o.rest)
/-- the statement that a plain deed becomes at a line -/
def Od.at_ (o : Od) (l : Int) : Option Sm := match o with
  | .set x e => some (.set l x e) | .brk => some (.brk l) | .agn => some (.agn l) | .meet => some (.meet l) | .stop => some (.stop l) | .tell e => some (.tell l e) | .ret e => some (.ret l e) | .put a b => some (.put l a b) | .join x w e => some (.join l x w e) | .call x f es => some (.call l x f es)
  | _ => none
end Tl
namespace Tl
open PySem PySem.Spec PyProof.Rows L2
/-! ### what a builder's frames hold (pure) -/
/-- what is asked of a statement: of its expressions pe, of a join pj, of a call pc, of a return pr -/
structure Ask where
  pn : Str → Prop
  pe : Ex → Prop
  pj : Str → Prop
  pc : Str → List Ex → Prop
  pr : Prop
mutual
def okSt (a : Ask) : Bool → Sm → Prop
  | _, .set _ x e => a.pn x ∧ a.pe e
  | _, .put _ x y => a.pe x ∧ a.pe y
  | _, .tell _ e => a.pe e
  | _, .ret _ e => a.pe e ∧ a.pr
  | _, .stop _ => True
  | lp, .brk _ => lp = true
  | lp, .agn _ => lp = true
  | _, .meet _ => True
  | _, .join _ x z e => a.pn x ∧ a.pe e ∧ a.pj z
  | _, .call _ x f es => a.pn x ∧ (∀ e ∈ es, a.pe e) ∧ a.pc f es
  | lp, .if1 _ e b => a.pe e ∧ okSts a lp b
  | lp, .if2 _ e b c => a.pe e ∧ okSts a lp b ∧ okSts a lp c
  | _, .whl _ e b => a.pe e ∧ okSts a true b
def okSts (a : Ask) : Bool → List Sm → Prop
  | _, [] => True
  | lp, s :: t => okSt a lp s ∧ okSts a lp t
end
theorem okSts_app {a : Ask} {lp : Bool} : ∀ {b c : List Sm}, okSts a lp b → okSts a lp c → okSts a lp (b ++ c)
  | [], _, _, h => h
  | s :: t, _, h, h2 => by
    unfold okSts at h
    rw [List.cons_append, okSts]
    exact ⟨h.1, okSts_app h.2 h2⟩
theorem okSts_one {a : Ask} {lp : Bool} {s : Sm} (h : okSt a lp s) : okSts a lp [s] := by
  unfold okSts okSts; exact ⟨h, trivial⟩
theorem deeps_app : ∀ {b c : List Sm}, deeps (b ++ c) = max (deeps b) (deeps c)
  | [], c => by rw [List.nil_append, show deeps [] = 0 from by unfold deeps; rfl]; omega
  | s :: t, c => by rw [List.cons_append, deeps, deeps, deeps_app]; omega
theorem deeps_one {s : Sm} : deeps [s] = s.deep := by rw [deeps, show deeps [] = 0 from by unfold deeps; rfl]; omega
structure Fr where
  at_ : Addr
  wh : Bool
  l : Int
  e : Ex
  body : Addr
  bs : List Sm
  els : Option (Addr × List Sm)
def Fr.word (f : Fr) : Str := if f.wh = true then "while" else "if"
def Fr.here (f : Fr) : Addr := match f.els with
  | none => f.body
  | some x => x.1
/-- where the next deed goes -/
def hereOf (base : Addr) : List Fr → Addr
  | [] => base
  | f :: _ => f.here
def elsD : Option (Addr × List Sm) → D
  | none => .non
  | some x => .ref x.1
def Fr.row (f : Fr) (outer : Addr) : MO := .lst [.str f.word, .int f.l, f.e.d, .ref outer, .ref f.body, elsD f.els]
def Fr.cells (f : Fr) (outer : Addr) : List (Addr × MO) :=
  (f.at_, f.row outer) :: (f.body, .lst (stD f.bs)) :: match f.els with
  | none => []
  | some x => [(x.1, .lst (stD x.2))]
def cellsOf (base : Addr) (b0 : List Sm) : List Fr → List (Addr × MO)
  | [] => [(base, .lst (stD b0))]
  | f :: r => f.cells (hereOf base r) ++ cellsOf base b0 r
def Fr.close (f : Fr) : Sm := if f.wh = true then .whl f.l f.e f.bs else match f.els with
  | none => .if1 f.l f.e f.bs
  | some x => .if2 f.l f.e f.bs x.2
/-- a statement put where the next one goes -/
def addTo (s : Sm) (b0 : List Sm) : List Fr → List Sm × List Fr
  | [] => (b0 ++ [s], [])
  | f :: r => (b0, (match f.els with
    | none => { f with bs := f.bs ++ [s] }
    | some x => { f with els := some (x.1, x.2 ++ [s]) }) :: r)
theorem cells_fr {base : Addr} {b0 : List Sm} : ∀ {stk : List Fr} {f : Fr}, f ∈ stk → ∃ outer, (f.at_, f.row outer) ∈ cellsOf base b0 stk
  | g :: r, f, h => by
    rcases List.mem_cons.mp h with rfl | h
    · exact ⟨hereOf base r, by simp [cellsOf, Fr.cells]⟩
    · obtain ⟨o, ho⟩ := cells_fr (base := base) (b0 := b0) h
      exact ⟨o, by rw [cellsOf]; exact List.mem_append_right _ ho⟩
def stkLen (n : Nat) (b0 : List Sm) (stk : List Fr) : Prop := b0.length ≤ n ∧ ∀ f ∈ stk, f.bs.length ≤ n ∧ ∀ x, f.els = some x → x.2.length ≤ n
theorem stkLen_mono {n m : Nat} {b0 : List Sm} {stk : List Fr} (h : stkLen n b0 stk) (hm : n ≤ m) : stkLen m b0 stk := ⟨Nat.le_trans h.1 hm, fun f hf => ⟨Nat.le_trans (h.2 f hf).1 hm, fun x hx => Nat.le_trans ((h.2 f hf).2 x hx) hm⟩⟩
theorem addTo_stkLen {n : Nat} {s : Sm} {b0 : List Sm} {stk : List Fr} (h : stkLen n b0 stk) : stkLen (n + 1) (addTo s b0 stk).1 (addTo s b0 stk).2 := by
  cases stk with
  | nil => exact ⟨by show (b0 ++ [s]).length ≤ n + 1; rw [List.length_append]; have := h.1; simp only [List.length_singleton]; omega, fun f hf => (by cases hf)⟩
  | cons f r =>
    have hm := stkLen_mono h (Nat.le_succ n)
    obtain ⟨fa, wh, l, e, body, bs, els⟩ := f
    have h1 := h.2 _ (List.mem_cons_self ..)
    have hr : ∀ g ∈ r, g.bs.length ≤ n + 1 ∧ ∀ x, g.els = some x → x.2.length ≤ n + 1 := fun g hg => hm.2 g (List.mem_cons_of_mem _ hg)
    cases els with
    | none =>
      refine ⟨hm.1, fun g hg => ?_⟩
      rcases List.mem_cons.mp hg with rfl | hg
      · refine ⟨?_, fun x hx => (by cases hx)⟩
        show (bs ++ [s]).length ≤ n + 1
        rw [List.length_append]
        have := h1.1
        dsimp only at this
        simp only [List.length_singleton]; omega
      · exact hr g hg
    | some y =>
      refine ⟨hm.1, fun g hg => ?_⟩
      rcases List.mem_cons.mp hg with rfl | hg
      · refine ⟨(hm.2 _ (List.mem_cons_self ..)).1, fun x hx => ?_⟩
        cases hx
        show (y.2 ++ [s]).length ≤ n + 1
        rw [List.length_append]
        have := h1.2 y rfl
        simp only [List.length_singleton]; omega
      · exact hr g hg
/-- the cell where the next deed goes -/
theorem cells_here {base : Addr} {b0 : List Sm} {stk : List Fr} : ∃ pre post cur, (∀ n, stkLen n b0 stk → cur.length ≤ n) ∧ cellsOf base b0 stk = pre ++ (hereOf base stk, .lst (stD cur)) :: post ∧
    ∀ s, cellsOf base (addTo s b0 stk).1 (addTo s b0 stk).2 = pre ++ (hereOf base stk, .lst (stD (cur ++ [s]))) :: post := by
  cases stk with
  | nil => exact ⟨[], [], b0, fun n h => h.1, rfl, fun s => rfl⟩
  | cons f r =>
    obtain ⟨fa, wh, l, e, body, bs, els⟩ := f
    cases els with
    | none => exact ⟨[(fa, Fr.row ⟨fa, wh, l, e, body, bs, none⟩ (hereOf base r))], cellsOf base b0 r, bs, fun n h => (h.2 _ (List.mem_cons_self ..)).1, rfl, fun s => rfl⟩
    | some x => exact ⟨[(fa, Fr.row ⟨fa, wh, l, e, body, bs, some x⟩ (hereOf base r)), (body, .lst (stD bs))], cellsOf base b0 r, x.2, fun n h => (h.2 _ (List.mem_cons_self ..)).2 x rfl, rfl, fun s => rfl⟩
theorem addTo_len {s : Sm} {b0 : List Sm} {stk : List Fr} : (addTo s b0 stk).2.length = stk.length := by
  cases stk <;> rfl
theorem addTo_here {base : Addr} {s : Sm} {b0 : List Sm} {stk : List Fr} : hereOf base (addTo s b0 stk).2 = hereOf base stk := by
  cases stk with
  | nil => rfl
  | cons f r =>
    obtain ⟨fa, wh, l, e, body, bs, els⟩ := f
    cases els <;> rfl
theorem addTo_at {s : Sm} {b0 : List Sm} {stk : List Fr} : (addTo s b0 stk).2.map (fun f => f.at_) = stk.map (fun f => f.at_) := by
  cases stk with
  | nil => rfl
  | cons f r =>
    obtain ⟨fa, wh, l, e, body, bs, els⟩ := f
    cases els <;> rfl
theorem cells_base {base : Addr} {b0 : List Sm} : ∀ stk : List Fr, ∃ pre, cellsOf base b0 stk = pre ++ [(base, .lst (stD b0))]
  | [] => ⟨[], rfl⟩
  | f :: r => by
    obtain ⟨pre, e⟩ := cells_base (base := base) (b0 := b0) r
    exact ⟨f.cells (hereOf base r) ++ pre, by rw [cellsOf, e, List.append_assoc]⟩
theorem Cel.perm {M0 M : MH} {cs ds : List (Addr × MO)} (h : Cel M0 M cs) (p : cs.Perm ds) : Cel M0 M ds :=
  ⟨(p.map _).nodup_iff.mp h.nd, fun c hc => h.at_ c (p.mem_iff.mpr hc), h.old, fun c hc => h.new c (p.mem_iff.mpr hc)⟩
end Tl
namespace Tl
open PySem PySem.Spec PyProof.Rows L2
/-! ### mirrors of the builder of the laws k12 .. k17, k31 .. k37 -/
theorem atI_getD {α : Type} {ds : List α} {k : Int} (d : α) (h0 : 0 ≤ k) (h : k < ds.length) : atI ds k = some (ds.getD k.toNat d) := by
  obtain ⟨j, rfl⟩ := Int.eq_ofNat_of_zero_le h0
  have hj : j < ds.length := by omega
  rw [atI_nat (List.getElem?_eq_getElem hj)]
  simp [List.getD, hj]
theorem atI_mapD {α β : Type} {f : α → β} {xs : List α} {k : Int} (d : α) (h0 : 0 ≤ k) (h : k < xs.length) : atI (xs.map f) k = some (f (xs.getD k.toNat d)) := by
  obtain ⟨j, rfl⟩ := Int.eq_ofNat_of_zero_le h0
  have hj : j < xs.length := by omega
  rw [atI_nat (v := f xs[j]) (by rw [List.getElem?_map, List.getElem?_eq_getElem hj]; rfl)]
  simp [List.getD, hj]
theorem getD_mem {α : Type} {xs : List α} {n : Nat} (d : α) (h : n < xs.length) : xs.getD n d ∈ xs := by
  rw [List.getD_eq_getElem?_getD, List.getElem?_eq_getElem h]
  exact List.getElem_mem h
theorem range_fold {α : Type} (f : α → Nat → α) (s : α) (n : Nat) : (List.range (n + 1)).foldl f s = f ((List.range n).foldl f s) n := by
  rw [List.range_succ, List.foldl_append]; rfl
def spreadF (c : Int) (k : Nat) : Int := (c % 1000000000000000000000000000057 * 271828182845904523536028747135 + (k : Int) * k * 314159265358979323846264338327 + 577215664901532860606512090082) % 1000000000000000000000000000057
def cellF (ns : List Int) (k : Nat) : Int := ns.getD k 0
def letters : Str := "abcdefghijklmnopqrstuvwxyz"
def signF (r : Int) : Nat := letters.cps.toList.getD (r % 26).toNat 0
def baseStep (s : Str × Int) (_ : Nat) : Str × Int := (s.1 ++ ⟨#[signF s.2]⟩, s.2 / 26)
def baseF (rest : Int) (n : Nat) : Str × Int := (List.range n).foldl baseStep ("", rest)
def keptL : List Str := ["def", "set", "put", "tell", "if", "else", "while", "end", "break", "again", "call", "return", "stop", "join", "meet", "lane", "lanes", "mine", "box", "div", "rem", "sum", "most", "least", "ahead"]
def nameF (n : Int) (z : Str) (r : Int) (k : Nat) : Str :=
  let w0 := if r / 26 % 4 = 1 then cutS z none (some (8 - (k : Int))) else cutS z none (some (n / 8 % (1 + n % 8))) ++ ⟨#[signF (r + 5 * (k : Int))]⟩ ++ cutS z (some (n / 8 % (1 + n % 8) + 1)) (some (1 + n % 8))
  if w0 ∈ keptL ∨ w0 = "main" then repS "q" (w0.length : Int) else w0
def namesF (n : Int) : List Str := (List.range 6).map (nameF n (baseF (n / 64) 8).1 (baseF (n / 64) 8).2)
def nmD (xs : List Str) : D := .lst (xs.map .str)
def okS (x : Str) : Prop := x.length ≤ 100 ∧ PyData.strOk x = true
def okNm (xs : List Str) : Prop := xs.length = 6 ∧ ∀ x ∈ xs, okS x
theorem sign_get (r : Int) : atI letters.cps.toList (r % 26) = some (signF r) := by
  have hL : letters.cps.toList.length = 26 := by decide +kernel
  have b := modB (a := r) (b := 26) (by decide)
  exact atI_getD 0 b.1 (by rw [hL]; exact b.2)
theorem sign_ok (r : Int) : PyData.strOk ⟨#[signF r]⟩ = true := by
  have hL : letters.cps.toList.length = 26 := by decide +kernel
  have hLs : PyData.strOk letters = true := by decide +kernel
  have b := modB (a := r) (b := 26) (by decide)
  refine strOk_iff.mpr fun c' hc' => ?_
  have : c' ∈ [signF r] := hc'
  rw [List.mem_singleton.mp this]
  exact strOk_iff.mp hLs _ (getD_mem 0 (by rw [hL]; omega))
theorem base_ok (r : Int) : ∀ n, (baseF r n).1.length = n ∧ PyData.strOk (baseF r n).1 = true
  | 0 => ⟨rfl, strOk_iff.mpr fun c hc => (by cases hc)⟩
  | n + 1 => by
    have e : baseF r (n + 1) = baseStep (baseF r n) n := range_fold ..
    obtain ⟨h1, h2⟩ := base_ok r n
    rw [e]
    exact ⟨by show (_ ++ _ : Str).length = _; rw [len_app, h1]; rfl, strOk_app h2 (sign_ok _)⟩
theorem name_ok (n : Int) {z : Str} (r : Int) (k : Nat) (hz : z.length = 8) (hs : PyData.strOk z = true) : okS (nameF n z r k) := by
  have hqs : PyData.strOk (Str.ofString "q") = true := by decide +kernel
  have lq : (Str.ofString "q").length = 1 := by decide +kernel
  have hq : ∀ u : Str, u.length ≤ 40 → okS (repS (Str.ofString "q") (u.length : Int)) := fun u hu => ⟨by
    have := len_repS (z := Str.ofString "q") (n := (u.length : Int)) (by omega)
    rw [lq] at this
    omega, strOk_rep hqs⟩
  have c1 := cutS_length z none (some (n / 8 % (1 + n % 8)))
  have c2 := cutS_length z (some (n / 8 % (1 + n % 8) + 1)) (some (1 + n % 8))
  have c3 := cutS_length z none (some (8 - (k : Int)))
  have wl := len_app (cutS z none (some (n / 8 % (1 + n % 8))) ++ ⟨#[signF (r + 5 * (k : Int))]⟩) (cutS z (some (n / 8 % (1 + n % 8) + 1)) (some (1 + n % 8)))
  have wl2 := len_app (cutS z none (some (n / 8 % (1 + n % 8)))) ⟨#[signF (r + 5 * (k : Int))]⟩
  have l1 : (⟨#[signF (r + 5 * (k : Int))]⟩ : Str).length = 1 := rfl
  have ok2 : ∀ w : Str, w.length ≤ 40 → PyData.strOk w = true → okS (if w ∈ keptL ∨ w = "main" then repS "q" (w.length : Int) else w) := fun w hw hs => by
    split
    · exact hq _ hw
    · exact ⟨by omega, hs⟩
  unfold nameF
  dsimp only
  split
  · exact ok2 _ (by omega) (strOk_cut hs)
  · exact ok2 _ (by omega) (strOk_app (strOk_app (strOk_cut hs) (sign_ok _)) (strOk_cut hs))
theorem names_ok (n : Int) : okNm (namesF n) := by
  refine ⟨by unfold namesF; simp, fun x hx => ?_⟩
  obtain ⟨k, _, rfl⟩ := List.mem_map.mp hx
  exact name_ok n _ k (base_ok _ 8).1 (base_ok _ 8).2
/-! expressions -/
def noOwn : Ex → Prop
  | .lane => False
  | .mine => False
  | .box e => noOwn e
  | .op _ a b => noOwn a ∧ noOwn b
  | _ => True
def exNm : Ex → Prop
  | .nam x => okS x
  | .box e => exNm e
  | .op _ a b => exNm a ∧ exNm b
  | _ => True
def okE (own : Int) (n : Nat) (e : Ex) : Prop := e.deep ≤ n ∧ (own = 0 → noOwn e) ∧ exNm e
def op7 (k : Int) : Op7 := [Op7.add, .sub, .mul, .div, .rem, .lt, .eq].getD k.toNat .add
/-! deeds -/
abbrev Rm := List (Str × List Str)
def rmD (rs : Rm) : List D := rs.map fun r => .tup [.str r.1, .lst (r.2.map .str)]
def notMain (r : Str × List Str) : Bool := decide (r.1 ≠ ("main" : Str))
def okRm (rs : Rm) : Prop := rs.length ≤ 4 ∧ ∀ r ∈ rs, okS r.1 ∧ r.2.length ≤ 6 ∧ ∀ x ∈ r.2, okS x
def okO (own : Int) (ws : List Str) (rs : Rm) : Od → Prop
  | .set x e => okS x ∧ okE own 10 e | .ifo e => okE own 10 e | .whl e => okE own 10 e | .tell e => okE own 10 e | .ret e => okE own 10 e | .put a b => okE own 10 a ∧ okE own 10 b | .join x z e => okS x ∧ okE own 10 e ∧ z ∈ ws
  | .call x f es => okS x ∧ (∀ e ∈ es, okE own 10 e) ∧ ∃ ps, (f, ps) ∈ rs ∧ f ≠ "main" ∧ es.length = ps.length
  | _ => True
theorem others_mem {rs : Rm} {r : Str × List Str} (h : r ∈ rs.filter notMain) : r ∈ rs ∧ r.1 ≠ "main" := by
  rw [List.mem_filter] at h
  exact ⟨h.1, of_decide_eq_true h.2⟩
theorem pick_others {os : Rm} {i : Int} (h : os ≠ []) : os.getD (i % (os.length : Int)).toNat ("", []) ∈ os := by
  have hlen : 0 < os.length := List.length_pos_iff.mpr h
  have bm := modB (a := i) (b := (os.length : Int)) (by omega)
  exact getD_mem _ (by omega)
end Tl
namespace Tl
open PySem PySem.Spec PyProof.Rows L2
/-! ### mirrors: lines laid in one another -/
structure Fp where
  wh : Bool
  l : Int
  e : Ex
  bs : List Sm
  els : Option (List Sm)
def Fr.p (f : Fr) : Fp := ⟨f.wh, f.l, f.e, f.bs, f.els.map (·.2)⟩
def Fp.close (f : Fp) : Sm := if f.wh = true then .whl f.l f.e f.bs else match f.els with
  | none => .if1 f.l f.e f.bs
  | some x => .if2 f.l f.e f.bs x
theorem close_p (f : Fr) : f.p.close = f.close := by
  obtain ⟨fa, wh, l, e, body, bs, els⟩ := f
  cases wh <;> cases els <;> rfl
def addP (s : Sm) (b0 : List Sm) : List Fp → List Sm × List Fp
  | [] => (b0 ++ [s], [])
  | f :: r => (b0, (match f.els with
    | none => { f with bs := f.bs ++ [s] }
    | some x => { f with els := some (x ++ [s]) }) :: r)
theorem addTo_p (s : Sm) (b0 : List Sm) (stk : List Fr) : ((addTo s b0 stk).1, (addTo s b0 stk).2.map Fr.p) = addP s b0 (stk.map Fr.p) := by
  cases stk with
  | nil => rfl
  | cons f r =>
    obtain ⟨fa, wh, l, e, body, bs, els⟩ := f
    cases els <;> rfl
theorem addTo_p1 (s : Sm) (b0 : List Sm) (stk : List Fr) : (addP s b0 (stk.map Fr.p)).1 = (addTo s b0 stk).1 := by rw [← addTo_p]
theorem addTo_p2 (s : Sm) (b0 : List Sm) (stk : List Fr) : (addP s b0 (stk.map Fr.p)).2 = (addTo s b0 stk).2.map Fr.p := by rw [← addTo_p]
def standF (o : Od) (stk : List Fp) (main : Bool) : Bool := match o with
  | .brk => stk.any (·.wh)
  | .agn => stk.any (·.wh)
  | .els => match stk with
    | [] => false
    | f :: _ => !f.wh && f.els.isNone
  | .fin => !stk.isEmpty
  | .ifo _ => decide (stk.length < 5)
  | .whl _ => decide (stk.length < 5)
  | .ret _ => !main
  | _ => true
structure LS where
  b0 : List Sm
  stk : List Fp
  line : Int
def laidGo (s : LS) : Od → LS
  | .fin => match s.stk with
    | [] => s
    | f :: r => ⟨(addP f.close s.b0 r).1, (addP f.close s.b0 r).2, s.line + 1⟩
  | .els => match s.stk with
    | [] => s
    | f :: r => ⟨s.b0, { f with els := some [] } :: r, s.line + 1⟩
  | .ifo e => ⟨s.b0, ⟨false, s.line + 1, e, [], none⟩ :: s.stk, s.line + 1⟩
  | .whl e => ⟨s.b0, ⟨true, s.line + 1, e, [], none⟩ :: s.stk, s.line + 1⟩
  | o => match o.at_ (s.line + 1) with
    | some st => ⟨(addP st s.b0 s.stk).1, (addP st s.b0 s.stk).2, s.line + 1⟩
    | none => s
def laidStep (main : Bool) (s : LS) (o : Od) : LS := if standF o s.stk main = true then laidGo s o else s
def laidS (main : Bool) (os : List Od) (l : Int) : LS := os.foldl (laidStep main) ⟨[], [], l⟩
def laidF (main : Bool) (os : List Od) (l : Int) : List Sm × Int := ((laidS main (os ++ List.replicate 5 .fin) l).b0, (laidS main (os ++ List.replicate 5 .fin) l).line + 1)
/-! what is asked holds -/
def lpP (stk : List Fp) : Bool := stk.any fun f => f.wh
def stkP (a : Ask) (b0 : List Sm) : List Fp → Prop
  | [] => okSts a false b0 ∧ deeps b0 ≤ 6
  | f :: r => a.pe f.e ∧ okSts a (lpP (f :: r)) f.bs ∧ deeps f.bs + (r.length + 1) ≤ 6 ∧ (∀ x, f.els = some x → okSts a (lpP (f :: r)) x ∧ deeps x + (r.length + 1) ≤ 6) ∧ stkP a b0 r
theorem addP_ok {a : Ask} {s : Sm} {b0 : List Sm} {stk : List Fp} (h : stkP a b0 stk) (hs : okSt a (lpP stk) s) (hd : s.deep + stk.length ≤ 6) : stkP a (addP s b0 stk).1 (addP s b0 stk).2 := by
  cases stk with
  | nil =>
    obtain ⟨h1, h2⟩ := h
    refine ⟨okSts_app h1 (okSts_one hs), ?_⟩
    show deeps (b0 ++ [s]) ≤ 6
    rw [deeps_app, deeps_one]
    simp only [List.length_nil] at hd
    omega
  | cons f r =>
    obtain ⟨wh, l, e, bs, els⟩ := f
    obtain ⟨he, h1, h2, h3, h4⟩ := h
    rw [List.length_cons] at hd
    dsimp only at he h1 h2 h3 h4
    cases els with
    | none =>
      refine ⟨he, okSts_app h1 (okSts_one hs), ?_, fun x hx2 => (by cases hx2), h4⟩
      show deeps (bs ++ [s]) + (r.length + 1) ≤ 6
      rw [deeps_app, deeps_one]; omega
    | some y =>
      obtain ⟨h5, h6⟩ := h3 y rfl
      refine ⟨he, h1, h2, fun x hx2 => ?_, h4⟩
      cases hx2
      refine ⟨okSts_app h5 (okSts_one hs), ?_⟩
      show deeps (y ++ [s]) + (r.length + 1) ≤ 6
      rw [deeps_app, deeps_one]; omega
theorem closeP_ok {a : Ask} {f : Fp} {r : List Fp} {b0 : List Sm} (h : stkP a b0 (f :: r)) : okSt a (lpP r) f.close ∧ f.close.deep + r.length ≤ 6 := by
  obtain ⟨he, h1, h2, h3, h4⟩ := h
  unfold Fp.close
  cases hw : f.wh with
  | true =>
    have e : lpP (f :: r) = true := by unfold lpP; rw [List.any_cons, hw]; rfl
    rw [e] at h1
    refine ⟨?_, ?_⟩
    · unfold okSt; exact ⟨he, h1⟩
    · rw [if_pos rfl, Sm.deep]; omega
  | false =>
    have e : lpP (f :: r) = lpP r := by unfold lpP; rw [List.any_cons, hw]; rfl
    rw [e] at h1 h3
    rw [if_neg (by simp)]
    cases hx : f.els with
    | none =>
      refine ⟨?_, ?_⟩
      · unfold okSt; exact ⟨he, h1⟩
      · dsimp only; rw [Sm.deep]; omega
    | some x =>
      obtain ⟨h5, h6⟩ := h3 x hx
      refine ⟨?_, ?_⟩
      · unfold okSt; exact ⟨he, h1, h5⟩
      · dsimp only; rw [Sm.deep]; omega
theorem stkP_base {a : Ask} {b0 : List Sm} : ∀ {stk : List Fp}, stkP a b0 stk → okSts a false b0 ∧ deeps b0 ≤ 6
  | [], h => h
  | _ :: _, h => stkP_base h.2.2.2.2
def askO (own : Int) (ws : List Str) (rs : Rm) (main : Bool) : Ask := ⟨okS, okE own 10, fun z => z ∈ ws, fun f es => ∃ ps, (f, ps) ∈ rs ∧ f ≠ "main" ∧ es.length = ps.length, main = false⟩
theorem addP_len (s : Sm) (b0 : List Sm) (stk : List Fp) : (addP s b0 stk).2.length = stk.length := by
  cases stk <;> rfl
theorem laidStep_ok {own : Int} {ws : List Str} {rs : Rm} {main : Bool} {s : LS} {o : Od} (h : stkP (askO own ws rs main) s.b0 s.stk ∧ s.stk.length ≤ 5) (ho : okO own ws rs o) : stkP (askO own ws rs main) (laidStep main s o).b0 (laidStep main s o).stk ∧ (laidStep main s o).stk.length ≤ 5 := by
  obtain ⟨h, h5⟩ := h
  unfold laidStep
  split
  · rename_i hst
    have plain : ∀ st : Sm, okSt (askO own ws rs main) (lpP s.stk) st → st.deep = 1 → stkP (askO own ws rs main) (addP st s.b0 s.stk).1 (addP st s.b0 s.stk).2 ∧ (addP st s.b0 s.stk).2.length ≤ 5 := fun st h1 h2 => ⟨addP_ok h h1 (by omega), by rw [addP_len]; exact h5⟩
    cases o with
    | fin =>
      unfold laidGo
      dsimp only
      split
      · exact ⟨h, h5⟩
      · rename_i f r e
        rw [e] at h h5
        have h1 := closeP_ok h
        refine ⟨addP_ok h.2.2.2.2 h1.1 h1.2, ?_⟩
        show (addP _ _ _).2.length ≤ 5
        rw [addP_len]
        simp only [List.length_cons] at h5
        omega
    | els =>
      unfold laidGo
      dsimp only
      split
      · exact ⟨h, h5⟩
      · rename_i f r e
        rw [e] at h h5
        refine ⟨⟨h.1, h.2.1, h.2.2.1, fun x hx => ?_, h.2.2.2.2⟩, h5⟩
        cases hx
        refine ⟨trivial, ?_⟩
        have := h.2.2.1
        show deeps [] + _ ≤ 6
        rw [show deeps [] = 0 from by unfold deeps; rfl]; omega
    | ifo e =>
      refine ⟨⟨ho, trivial, ?_, fun x hx => (by cases hx), h⟩, ?_⟩
      · have := of_decide_eq_true hst
        show deeps [] + _ ≤ 6
        rw [show deeps [] = 0 from by unfold deeps; rfl]; omega
      · have := of_decide_eq_true hst
        show s.stk.length + 1 ≤ 5; omega
    | whl e =>
      refine ⟨⟨ho, trivial, ?_, fun x hx => (by cases hx), h⟩, ?_⟩
      · have := of_decide_eq_true hst
        show deeps [] + _ ≤ 6
        rw [show deeps [] = 0 from by unfold deeps; rfl]; omega
      · have := of_decide_eq_true hst
        show s.stk.length + 1 ≤ 5; omega
    | brk => exact plain _ (show okSt _ _ _ from hst) rfl
    | agn => exact plain _ (show okSt _ _ _ from hst) rfl
    | meet => exact plain _ trivial rfl
    | stop => exact plain _ trivial rfl
    | set x e => exact plain _ (show okSt _ _ _ from ho) rfl
    | tell e => exact plain _ (show okSt _ _ _ from ho) rfl
    | ret e =>
      refine plain _ ⟨ho, ?_⟩ rfl
      have : (!main) = true := hst
      show main = false
      cases main with
      | true => cases this
      | false => rfl
    | put x y => exact plain _ (show okSt _ _ _ from ho) rfl
    | join x z e => exact plain _ (show okSt _ _ _ from ho) rfl
    | call x f es => exact plain _ (show okSt _ _ _ from ho) rfl
  · exact ⟨h, h5⟩
theorem laidS_ok {own : Int} {ws : List Str} {rs : Rm} {main : Bool} : ∀ {os : List Od} {s : LS}, (∀ o ∈ os, okO own ws rs o) → stkP (askO own ws rs main) s.b0 s.stk ∧ s.stk.length ≤ 5 → stkP (askO own ws rs main) (os.foldl (laidStep main) s).b0 (os.foldl (laidStep main) s).stk ∧ (os.foldl (laidStep main) s).stk.length ≤ 5
  | [], _, _, h => h
  | o :: os, s, ho, h => laidS_ok (os := os) (fun x hx => ho x (List.mem_cons_of_mem _ hx)) (laidStep_ok h (ho o (List.mem_cons_self ..)))
theorem laid_ok {own : Int} {ws : List Str} {rs : Rm} {main : Bool} {os : List Od} {l : Int} (ho : ∀ o ∈ os, okO own ws rs o) : okSts (askO own ws rs main) false (laidF main os l).1 ∧ deeps (laidF main os l).1 ≤ 6 := by
  refine stkP_base (laidS_ok (os := os ++ List.replicate 5 .fin) (s := ⟨[], [], l⟩) (fun o h => ?_) ⟨⟨trivial, by show deeps [] ≤ 6; rw [show deeps [] = 0 from by unfold deeps; rfl]; omega⟩, Nat.zero_le _⟩).1
  rcases List.mem_append.mp h with h | h
  · exact ho o h
  · rw [(List.mem_replicate.mp h).2]; trivial
/-! rooms, variables, programs -/
theorem cut_both {xs : List D} (lo hi : Nat) : cutD xs (some (lo : Int)) (some (hi : Int)) = (xs.take hi).drop lo := by
  unfold cutD
  rw [HT.sIx_nat, HT.sIx_nat]
  by_cases h : lo ≤ xs.length
  · rw [Nat.min_eq_left h]
    rw [List.drop_take]
    by_cases h2 : hi ≤ xs.length
    · rw [Nat.min_eq_left h2]
    · rw [Nat.min_eq_right (show xs.length ≤ hi by omega), List.take_of_length_le (by rw [List.length_drop]; omega), List.take_of_length_le (by rw [List.length_drop]; omega)]
  · have a : xs.drop xs.length = [] := List.drop_of_length_le (Nat.le_refl _)
    have b : (xs.take hi).drop lo = [] := List.drop_of_length_le (by rw [List.length_take]; omega)
    rw [Nat.min_eq_right (show xs.length ≤ lo by omega), a, b, List.take_nil]
theorem cut_take {xs : List D} (n : Nat) : cutD xs none (some (n : Int)) = xs.take n := by
  have := cut_both (xs := xs) 0 n
  unfold cutD at this ⊢
  rw [HT.sIx_none]
  rw [HT.sIx_nat xs.length 0 0, Nat.zero_min, List.drop_zero] at this
  exact this
theorem ix_nat {n k : Nat} (h : k < n) : ixN n (k : Int) = some k := by
  unfold ixN
  rw [if_pos (by omega), if_pos (by omega)]
  simp
def roomF (h : Int) (xs vs : List Str) (k : Nat) : Str × List Str :=
  (xs.getD k "", (List.range ([0, 0, 1, 1, 2, 3, 6].getD (h / 64 / ([1, 42, 1764, 74088].getD k 1) % 7).toNat 0)).map fun j => vs.getD ((h / 64 / ([1, 42, 1764, 74088].getD k 1) / 7 + (j : Nat)) % 6).toNat "")
def roomsF (h : Int) (xs vs : List Str) : Rm := ((List.range (1 + h % 4).toNat).map (roomF h xs vs)).set (h / 4 % (1 + h % 4)).toNat ("main", [])
def varsF (h : Int) (xs : List Str) : List Str := if h / 1000000000 % 4 = 1 then xs.take 5 ++ [("main" : Str)] else xs
theorem vars_ok {xs : List Str} (h : Int) (hx : okNm xs) : okNm (varsF h xs) := by
  unfold varsF
  split
  · refine ⟨by rw [List.length_append, List.length_take, hx.1]; rfl, fun x hm => ?_⟩
    rcases List.mem_append.mp hm with hm | hm
    · exact hx.2 x (List.mem_of_mem_take hm)
    · rw [List.mem_singleton.mp hm]; exact ⟨by decide +kernel, by decide +kernel⟩
  · exact hx
theorem many_ok (h : Int) : 0 < (1 + h % 4).toNat ∧ (1 + h % 4).toNat ≤ 4 := by
  have := modB (a := h) (b := 4) (by decide)
  omega
theorem rooms_len (h : Int) (xs vs : List Str) : (roomsF h xs vs).length = (1 + h % 4).toNat := by unfold roomsF; simp
theorem count_le (k : Int) : [0, 0, 1, 1, 2, 3, 6].getD k.toNat 0 ≤ 6 := by
  by_cases h : k.toNat < [0, 0, 1, 1, 2, 3, 6].length
  · have := getD_mem 0 h
    simp only [List.mem_cons, List.not_mem_nil, or_false] at this
    omega
  · rw [List.getD_eq_getElem?_getD, List.getElem?_eq_none (by omega)]; decide
theorem rooms_ok {xs vs : List Str} (h : Int) (hx : okNm xs) (hv : okNm vs) : okRm (roomsF h xs vs) := by
  have hm := many_ok h
  refine ⟨by rw [rooms_len]; exact hm.2, fun r hr => ?_⟩
  rcases List.mem_or_eq_of_mem_set hr with hr | rfl
  · obtain ⟨k, hk, rfl⟩ := List.mem_map.mp hr
    rw [List.mem_range] at hk
    refine ⟨hx.2 _ (getD_mem _ (by rw [hx.1]; omega)), ?_, fun x hxm => ?_⟩
    · unfold roomF
      rw [List.length_map, List.length_range]
      exact count_le _
    · obtain ⟨j, hj, rfl⟩ := List.mem_map.mp hxm
      have b6 := modB (a := h / 64 / ([1, 42, 1764, 74088].getD k 1) / 7 + (j : Int)) (b := 6) (by decide)
      exact hv.2 _ (getD_mem _ (by rw [hv.1]; omega))
  · exact ⟨⟨by decide +kernel, by decide +kernel⟩, Nat.zero_le _, fun x hx => (by cases hx)⟩
def opsStep (opf : Int → Od) (m : Nat) (cs : List Int) (oss : List (List Od)) (k : Nat) : List (List Od) :=
  oss.modify (spreadF (cs.getD k 0) (k + 2) % (m : Int)).toNat (· ++ [opf (spreadF (cs.getD k 0) (k + 2) / (m : Int))])
def opsF (opf : Int → Od) (m : Nat) (cs : List Int) (n : Nat) : List (List Od) := (List.range n).foldl (opsStep opf m cs) (List.replicate m [])
theorem opsF_len (opf : Int → Od) (m : Nat) (cs : List Int) : ∀ n, (opsF opf m cs n).length = m
  | 0 => by simp [opsF]
  | n + 1 => by
    unfold opsF
    rw [range_fold]
    unfold opsStep
    rw [List.length_modify]
    exact opsF_len opf m cs n
theorem opsF_ok {P : Od → Prop} {opf : Int → Od} (hp : ∀ i, P (opf i)) (m : Nat) (cs : List Int) : ∀ n, ∀ os ∈ opsF opf m cs n, (∀ o ∈ os, P o) ∧ os.length ≤ n
  | 0 => fun os h => by
    have := (List.mem_replicate.mp h).2
    subst this
    exact ⟨fun o h => (by cases h), Nat.le_refl _⟩
  | n + 1 => fun os h => by
    unfold opsF at h
    rw [range_fold] at h
    have ih := opsF_ok hp m cs n
    unfold opsF at ih
    unfold opsStep at h
    obtain ⟨j, hj, e⟩ := List.mem_iff_getElem.mp h
    rw [List.length_modify] at hj
    rw [List.getElem_modify] at e
    obtain ⟨h1, h2⟩ := ih _ (List.getElem_mem hj)
    split at e
    · subst e
      refine ⟨fun o ho => ?_, by rw [List.length_append]; simp only [List.length_singleton]; omega⟩
      rcases List.mem_append.mp ho with ho | ho
      · exact h1 o ho
      · rw [List.mem_singleton.mp ho]; exact hp _
    · subst e
      exact ⟨h1, by omega⟩
def isMain (x : Str) : Bool := decide (x = ("main" : Str))
def progStep (oss : List (List Od)) (rs : Rm) (s : Pg × Int) (k : Nat) : Pg × Int :=
  let r := rs.getD k ("", [])
  let b := laidF (isMain r.1) (oss.getD k []) (s.2 + 1)
  (s.1 ++ [⟨r.1, r.2, b.1, s.2 + 1, b.2⟩], b.2)
def progS (oss : List (List Od)) (rs : Rm) (n : Nat) : Pg × Int := (List.range n).foldl (progStep oss rs) ([], 0)
/-- the program of a script: its cells, its names, how its deeds are drawn, how many lines at most -/
def progF (opf : List Str → Rm → Int → Od) (xs : List Str) (ns : List Int) (most : Nat) : Pg :=
  let h := spreadF (cellF ns 0) 0
  let vs := varsF h xs
  let rs := roomsF h xs vs
  let cs := (ns.take most).drop 2
  (progS (opsF (opf vs rs) rs.length cs cs.length) rs rs.length).1
end Tl
namespace Tl
open PySem PySem.Spec PyProof.Rows L2
/-! ### changing lists that stand in a frozen list -/
theorem ReS.at_ {K : PySem.W.Frag} {τ : Sg} {M M' : MH} {i : Nat} {d d' : D} (h : nth τ i = some d) (r : ReR K d M d' M') : ReS K τ M (τ.set i (some d')) M' := fun G F H σ R sg => by
  obtain ⟨v, h1, h2⟩ := sg.2 i _ (nth_get h)
  obtain ⟨F', s, R', p⟩ := r G F H v R h2
  refine ⟨F', s, R', ?_⟩
  have g := sg.mono s
  have e : σ = σ.set i (some v) := by
    apply List.ext_getElem?
    intro j
    by_cases hij : i = j
    · subst hij
      rw [h1, List.getElem?_set_self (List.getElem?_eq_some_iff.mp h1).1]
    · rw [List.getElem?_set_ne hij]
  rw [e]
  exact g.set p
theorem ReR.lst_freeze {K : PySem.W.Frag} {M : MH} {b : Addr} {ds : List D} (pre post : List D) (h : M b = some (.lst ds)) : ReR K (.lst (pre ++ .ref b :: post)) M (.lst (pre ++ .lst ds :: post)) (mdel M b) := fun G F H v R p => by
  obtain ⟨F', s, R', pb⟩ := R.freeze h
  cases p with
  | lst ha r =>
    obtain ⟨v1, v, v2, rfl, r1, r2, r3⟩ := rps_mid r
    cases r2
    exact ⟨F', s, R', .lst (s _ _ ha) ((r1.mono s).append (.cons pb (r3.mono s)))⟩
section
variable {α : Type} {f : α → D} {M0 M : MH}
def celsL (f : α → D) (cs : List (Addr × List α)) : List (Addr × MO) := cs.map fun c => (c.1, .lst (c.2.map f))
def refsL (cs : List (Addr × List α)) : List D := cs.map fun c => .ref c.1
def lstsL (f : α → D) (xss : List (List α)) : List D := xss.map fun xs => .lst (xs.map f)
theorem ReR.all {K : PySem.W.Frag} : ∀ (cs : List (Addr × List α)) (pre : List D) {M : MH}, Cel M0 M (celsL f cs) → ReR K (.lst (pre ++ refsL cs)) M (.lst (pre ++ lstsL f (cs.map (·.2)))) M0
  | [], pre, M, h => h.re
  | c :: cs, pre, M, h => by
    have h1 : Cel M0 M ([] ++ (c.1, .lst (c.2.map f)) :: celsL f cs) := h
    have a := ReR.lst_freeze (K := K) pre (refsL cs) h1.here
    have b := ReR.all (K := K) cs (pre ++ [.lst (c.2.map f)]) h1.del
    rw [List.append_assoc, List.append_assoc] at b
    exact a.trans b
end
theorem Cel.lift {M0 M : MH} {cs : List (Addr × MO)} {p : Addr} {o : MO} (h : Cel M0 M cs) (hp : M p = none) : Cel (mup M0 p o) (mup M p o) cs := by
  have hne : ∀ c ∈ cs, c.1 ≠ p := fun c hc e => by have := h.at_ c hc; rw [e, hp] at this; cases this
  refine ⟨h.nd, fun c hc => by rw [mup_ne (hne c hc)]; exact h.at_ c hc, fun a u e => ?_, fun c hc => by rw [mup_ne (hne c hc)]; exact h.new c hc⟩
  by_cases q : a = p
  · subst q; rw [mup_same] at e ⊢; exact e
  · rw [mup_ne q] at e ⊢; exact h.old a u e
theorem Cel.free {M0 M : MH} {cs : List (Addr × MO)} {p : Addr} (h : Cel M0 M cs) (hp : M p = none) : M0 p = none := by
  cases e : M0 p with
  | none => rfl
  | some u => rw [h.old p u e] at hp; cases hp
theorem split_at {α : Type} : ∀ {cs : List α} {j : Nat}, j < cs.length → ∃ pre c post, cs = pre ++ c :: post ∧ pre.length = j
  | c :: cs, 0, _ => ⟨[], c, cs, rfl, rfl⟩
  | c :: cs, j + 1, h => by
    obtain ⟨pre, d, post, e, h2⟩ := split_at (cs := cs) (j := j) (by simpa using h)
    exact ⟨c :: pre, d, post, by rw [e]; rfl, by rw [List.length_cons, h2]⟩
theorem modify_mid {α : Type} {c : α} {post : List α} {f : α → α} : ∀ {pre : List α} {j : Nat}, pre.length = j → (pre ++ c :: post).modify j f = pre ++ f c :: post
  | [], _, rfl => rfl
  | x :: pre, _, rfl => by
    show (x :: (pre ++ c :: post)).modify (pre.length + 1) f = _
    rw [List.modify_succ_cons, modify_mid (pre := pre) rfl]
    rfl
theorem getD_midD {α : Type} {c d : α} {post : List α} : ∀ {pre : List α} {j : Nat}, pre.length = j → (pre ++ c :: post).getD j d = c
  | [], _, rfl => rfl
  | x :: pre, _, rfl => getD_midD (pre := pre) rfl
theorem enumD_map {α : Type} {f : α → D} {xs : List α} {k : Nat} {x : D} (h : (enumD (xs.map f))[k]? = some x) : ∃ a, xs[k]? = some a ∧ x = .tup [.int k, f a] := by
  obtain ⟨y, hy, rfl⟩ := enumD_get h
  rw [List.getElem?_map] at hy
  obtain ⟨a, ha, rfl⟩ := Option.map_eq_some_iff.mp hy
  exact ⟨a, ha, rfl⟩
theorem enumD_len (xs : List D) : (enumD xs).length = xs.length := by unfold enumD; simp
/-! ### x is True -/
def bIsB : R2t := fun x y M Q => match x, y with
  | .bl a, .bl b => Q (.bl (a == b)) M
  | _, _ => False
theorem uIsB {a b : Bool} {M : MH} {Q : VD} : bIsB (.bl a) (.bl b) M Q = Q (.bl (a == b)) M := propext Iff.rfl
end Tl
namespace Tl
open PySem PySem.Spec PyProof.Rows L2
/-! ### lines, in their order -/
mutual
def lnS : Sm → List Int
  | .if1 l _ b => l :: ln b
  | .if2 l _ b c => l :: (ln b ++ ln c)
  | .whl l _ b => l :: ln b
  | s => [s.line]
def ln : List Sm → List Int
  | [] => []
  | s :: t => lnS s ++ ln t
end
mutual
theorem plnS_ln : ∀ (loop : Option Int) (s : Sm), (plnS loop s).map (fun x => x.1.line) = lnS s
  | loop, .if1 l e b => by rw [plnS, lnS, List.map_cons, pln_ln _ b]; rfl
  | loop, .if2 l e b c => by rw [plnS, lnS, List.map_cons, List.map_append, pln_ln _ b, pln_ln _ c]; rfl
  | loop, .whl l e b => by rw [plnS, lnS, List.map_cons, pln_ln _ b]; rfl
  | loop, .set .. => by unfold plnS lnS; rfl
  | loop, .put .. => by unfold plnS lnS; rfl
  | loop, .tell .. => by unfold plnS lnS; rfl
  | loop, .ret .. => by unfold plnS lnS; rfl
  | loop, .stop .. => by unfold plnS lnS; rfl
  | loop, .brk .. => by unfold plnS lnS; rfl
  | loop, .agn .. => by unfold plnS lnS; rfl
  | loop, .meet .. => by unfold plnS lnS; rfl
  | loop, .join .. => by unfold plnS lnS; rfl
  | loop, .call .. => by unfold plnS lnS; rfl
theorem pln_ln : ∀ (loop : Option Int) (b : List Sm), (pln loop b).map (fun x => x.1.line) = ln b
  | loop, [] => by rw [pln, ln]; rfl
  | loop, s :: t => by rw [pln, ln, List.map_append, plnS_ln _ s, pln_ln _ t]
end
theorem ln_app : ∀ {a b : List Sm}, ln (a ++ b) = ln a ++ ln b
  | [], b => by rw [show ln [] = [] from by unfold ln; rfl]; rfl
  | s :: t, b => by rw [List.cons_append, ln, ln, ln_app, List.append_assoc]
theorem ln_one {s : Sm} : ln [s] = lnS s := by rw [ln, show ln [] = [] from by unfold ln; rfl, List.append_nil]
def Fp.seq (f : Fp) : List Int := f.l :: (ln f.bs ++ match f.els with
  | none => []
  | some x => ln x)
def LS.seq (b0 : List Sm) : List Fp → List Int
  | [] => ln b0
  | f :: r => LS.seq b0 r ++ f.seq
theorem close_seq (f : Fp) (h : f.wh = true → f.els = none) : lnS f.close = f.seq := by
  obtain ⟨wh, l, e, bs, els⟩ := f
  unfold Fp.close Fp.seq
  cases els with
  | none => cases wh <;> (dsimp only; rw [List.append_nil]; first | rw [if_pos rfl, lnS] | rw [if_neg (by simp), lnS])
  | some x =>
    cases wh with
    | true => cases h rfl
    | false => dsimp only; rw [if_neg (by simp), lnS]
theorem addP_seq (s : Sm) (b0 : List Sm) (stk : List Fp) : LS.seq (addP s b0 stk).1 (addP s b0 stk).2 = LS.seq b0 stk ++ lnS s := by
  cases stk with
  | nil =>
    show ln (b0 ++ [s]) = ln b0 ++ lnS s
    rw [ln_app, ln_one]
  | cons f r =>
    obtain ⟨wh, l, e, bs, els⟩ := f
    cases els with
    | none =>
      show LS.seq b0 r ++ (l :: (ln (bs ++ [s]) ++ [])) = LS.seq b0 r ++ (l :: (ln bs ++ [])) ++ lnS s
      rw [ln_app, ln_one]; simp
    | some x =>
      show LS.seq b0 r ++ (l :: (ln bs ++ ln (x ++ [s]))) = LS.seq b0 r ++ (l :: (ln bs ++ ln x)) ++ lnS s
      rw [ln_app, ln_one]; simp
structure LI (l : Int) (k : Nat) (s : LS) : Prop where
  wf : ∀ f ∈ s.stk, f.wh = true → f.els = none
  inc : (LS.seq s.b0 s.stk).Pairwise (· < ·)
  rng : ∀ x ∈ LS.seq s.b0 s.stk, l < x ∧ x ≤ s.line
  len : (LS.seq s.b0 s.stk).length ≤ k
  low : l ≤ s.line
theorem addP_wf {s : Sm} {b0 : List Sm} {stk : List Fp} (h : ∀ f ∈ stk, f.wh = true → f.els = none) : ∀ f ∈ (addP s b0 stk).2, f.wh = true → f.els = none := by
  cases stk with
  | nil => exact h
  | cons g r =>
    obtain ⟨wh, l, e, bs, els⟩ := g
    intro f hf
    have hr : ∀ f ∈ r, f.wh = true → f.els = none := fun f hf => h f (List.mem_cons_of_mem _ hf)
    have h0 := h _ (List.mem_cons_self ..)
    cases els with
    | none =>
      rcases List.mem_cons.mp hf with rfl | hf
      · exact h0
      · exact hr f hf
    | some x =>
      rcases List.mem_cons.mp hf with rfl | hf
      · intro hw; cases h0 hw
      · exact hr f hf
theorem LI.add {l : Int} {k : Nat} {s : LS} {b : List Sm} {st : List Fp} (h : LI l k s) (wf : ∀ f ∈ st, f.wh = true → f.els = none) (e : LS.seq b st = LS.seq s.b0 s.stk ++ [s.line + 1]) : LI l (k + 1) ⟨b, st, s.line + 1⟩ := by
  refine ⟨wf, ?_, ?_, ?_, ?_⟩
  · show (LS.seq b st).Pairwise _
    rw [e, List.pairwise_append]
    refine ⟨h.inc, List.pairwise_singleton _ _, fun x hx y hy => ?_⟩
    rw [List.mem_singleton.mp hy]
    have := (h.rng x hx).2
    omega
  · intro x hx
    have hx : x ∈ LS.seq b st := hx
    rw [e] at hx
    show l < x ∧ x ≤ s.line + 1
    rcases List.mem_append.mp hx with hx | hx
    · have := h.rng x hx; omega
    · rw [List.mem_singleton.mp hx]; have := h.low; omega
  · show (LS.seq b st).length ≤ _
    rw [e, List.length_append]
    have := h.len
    simp only [List.length_singleton]; omega
  · show l ≤ s.line + 1
    have := h.low; omega
theorem LI.same {l : Int} {k : Nat} {s : LS} {b : List Sm} {st : List Fp} (h : LI l k s) (wf : ∀ f ∈ st, f.wh = true → f.els = none) (e : LS.seq b st = LS.seq s.b0 s.stk) : LI l k ⟨b, st, s.line + 1⟩ := by
  refine ⟨wf, ?_, ?_, ?_, ?_⟩
  · show (LS.seq b st).Pairwise _
    rw [e]; exact h.inc
  · intro x hx
    have hx : x ∈ LS.seq b st := hx
    rw [e] at hx
    show l < x ∧ x ≤ s.line + 1
    have := h.rng x hx; omega
  · show (LS.seq b st).length ≤ _
    rw [e]; exact h.len
  · show l ≤ s.line + 1
    have := h.low; omega
theorem LI.mono {l : Int} {k m : Nat} {s : LS} (h : LI l k s) (hk : k ≤ m) : LI l m s := ⟨h.wf, h.inc, h.rng, Nat.le_trans h.len hk, h.low⟩
def notFin : Od → Nat
  | .fin => 0
  | _ => 1
theorem laidStep_li {l : Int} {k : Nat} {main : Bool} {s : LS} {o : Od} (h : LI l k s) : LI l (k + notFin o) (laidStep main s o) := by
  unfold laidStep
  split
  · rename_i hst
    have plain : ∀ st : Sm, lnS st = [s.line + 1] → LI l (k + 1) ⟨(addP st s.b0 s.stk).1, (addP st s.b0 s.stk).2, s.line + 1⟩ := fun st e => h.add (addP_wf h.wf) (by rw [addP_seq, e])
    cases o with
    | fin =>
      unfold laidGo
      dsimp only
      split
      · exact h
      · rename_i f r e
        have hwf := h.wf
        rw [e] at hwf
        refine h.same (addP_wf fun f hf => hwf f (List.mem_cons_of_mem _ hf)) ?_
        rw [addP_seq, close_seq _ (hwf f (List.mem_cons_self ..)), e]; rfl
    | els =>
      unfold laidGo
      dsimp only
      split
      · exact h.mono (Nat.le_succ k)
      · rename_i f r e
        have hwf := h.wf
        rw [e] at hwf
        have h2 : (!f.wh && f.els.isNone) = true := by have := hst; rw [e] at this; exact this
        rw [Bool.and_eq_true] at h2
        refine (h.same (fun g hg => ?_) ?_).mono (Nat.le_succ k)
        · rcases List.mem_cons.mp hg with rfl | hg
          · intro hw
            rw [show f.wh = true from hw] at h2
            cases h2.1
          · exact hwf g (List.mem_cons_of_mem _ hg)
        · rw [e]
          obtain ⟨wh, l, e, bs, els⟩ := f
          cases els with
          | some x => cases h2.2
          | none =>
            show LS.seq s.b0 r ++ (l :: (ln bs ++ ln [])) = LS.seq s.b0 r ++ (l :: (ln bs ++ []))
            rw [show ln [] = [] from by unfold ln; rfl]
    | ifo e =>
      refine h.add (fun g hg => ?_) ?_
      · rcases List.mem_cons.mp hg with rfl | hg
        · intro _; rfl
        · exact h.wf g hg
      · show LS.seq s.b0 s.stk ++ ((s.line + 1) :: (ln [] ++ [])) = _
        rw [show ln [] = [] from by unfold ln; rfl]; rfl
    | whl e =>
      refine h.add (fun g hg => ?_) ?_
      · rcases List.mem_cons.mp hg with rfl | hg
        · intro _; rfl
        · exact h.wf g hg
      · show LS.seq s.b0 s.stk ++ ((s.line + 1) :: (ln [] ++ [])) = _
        rw [show ln [] = [] from by unfold ln; rfl]; rfl
    | _ => exact plain _ (by unfold lnS; rfl)
  · exact h.mono (Nat.le_add_right ..)
theorem laidS_li {l : Int} {main : Bool} : ∀ {os : List Od} {k : Nat} {s : LS}, LI l k s → LI l (k + (os.map notFin).sum) (os.foldl (laidStep main) s)
  | [], _, _, h => h
  | o :: os, k, s, h => by
    have := laidS_li (main := main) (os := os) (laidStep_li (main := main) (o := o) h)
    rw [List.map_cons, List.sum_cons, ← Nat.add_assoc]
    exact this
theorem notFin_len : ∀ os : List Od, (os.map notFin).sum ≤ os.length
  | [] => Nat.le_refl _
  | o :: os => by
    have h1 := notFin_len os
    have h2 : notFin o ≤ 1 := by unfold notFin; split <;> omega
    rw [List.map_cons, List.sum_cons, List.length_cons]; omega
theorem seq_base (b0 : List Sm) : ∀ stk : List Fp, ∃ t, LS.seq b0 stk = ln b0 ++ t
  | [] => ⟨[], (List.append_nil _).symm⟩
  | f :: r => by
    obtain ⟨t, e⟩ := seq_base b0 r
    exact ⟨t ++ f.seq, by rw [LS.seq, e, List.append_assoc]⟩
theorem laid_ln (main : Bool) (os : List Od) (l : Int) : (ln (laidF main os l).1).Pairwise (· < ·) ∧ (∀ x ∈ ln (laidF main os l).1, l < x ∧ x < (laidF main os l).2) ∧ (ln (laidF main os l).1).length ≤ os.length ∧ l < (laidF main os l).2 := by
  have h0 : LI l 0 ⟨[], [], l⟩ := ⟨fun f hf => (by cases hf), by unfold LS.seq ln; exact List.Pairwise.nil, fun x hx => (by unfold LS.seq ln at hx; cases hx), by unfold LS.seq ln; exact Nat.le_refl _, Int.le_refl _⟩
  have h := laidS_li (main := main) (os := os ++ List.replicate 5 .fin) h0
  obtain ⟨t, e⟩ := seq_base (laidS main (os ++ List.replicate 5 .fin) l).b0 (laidS main (os ++ List.replicate 5 .fin) l).stk
  have hs : ((os ++ List.replicate 5 Od.fin).map notFin).sum ≤ os.length := by
    rw [List.map_append, List.sum_append_nat]
    have := notFin_len os
    show _ + 0 ≤ _
    omega
  obtain ⟨h1, h2, h3, h4, h5⟩ := h
  change (LS.seq (laidS main (os ++ List.replicate 5 .fin) l).b0 (laidS main (os ++ List.replicate 5 .fin) l).stk).Pairwise _ at h2
  change ∀ x ∈ LS.seq (laidS main (os ++ List.replicate 5 .fin) l).b0 (laidS main (os ++ List.replicate 5 .fin) l).stk, _ at h3
  change (LS.seq (laidS main (os ++ List.replicate 5 .fin) l).b0 (laidS main (os ++ List.replicate 5 .fin) l).stk).length ≤ _ at h4
  change l ≤ (laidS main (os ++ List.replicate 5 .fin) l).line at h5
  rw [e] at h2 h3 h4
  rw [List.pairwise_append] at h2
  rw [List.length_append] at h4
  unfold laidF
  dsimp only
  refine ⟨h2.1, fun x hx => ?_, by omega, by omega⟩
  have := h3 x (List.mem_append_left _ hx)
  change l < x ∧ x ≤ (laidS main (os ++ List.replicate 5 .fin) l).line at this
  omega
/-! ### what is asked of each statement -/
def askDL (a : Ask) (x : Sm × Option Int) : Prop := match x.1 with
  | .set _ x e => a.pn x ∧ a.pe e
  | .put _ y z => a.pe y ∧ a.pe z
  | .tell _ e => a.pe e
  | .ret _ e => a.pe e ∧ a.pr
  | .brk _ => x.2.isSome = true
  | .agn _ => x.2.isSome = true
  | .join _ x z e => a.pn x ∧ a.pe e ∧ a.pj z
  | .call _ x f es => a.pn x ∧ (∀ e ∈ es, a.pe e) ∧ a.pc f es
  | .if1 _ e _ => a.pe e
  | .if2 _ e _ _ => a.pe e
  | .whl _ e _ => a.pe e
  | _ => True
mutual
theorem askS {a : Ask} : ∀ {lp : Bool} {loop : Option Int} {s : Sm}, okSt a lp s → (lp = true → loop.isSome = true) → ∀ x ∈ plnS loop s, askDL a x
  | lp, loop, .if1 l e b, h, hl, x, hx => by
    unfold okSt at h; rw [plnS] at hx
    rcases List.mem_cons.mp hx with rfl | hx
    · exact h.1
    · exact askSs h.2 hl x hx
  | lp, loop, .if2 l e b c, h, hl, x, hx => by
    unfold okSt at h; rw [plnS] at hx
    rcases List.mem_cons.mp hx with rfl | hx
    · exact h.1
    · rcases List.mem_append.mp hx with hx | hx
      · exact askSs h.2.1 hl x hx
      · exact askSs h.2.2 hl x hx
  | lp, loop, .whl l e b, h, hl, x, hx => by
    unfold okSt at h; rw [plnS] at hx
    rcases List.mem_cons.mp hx with rfl | hx
    · exact h.1
    · exact askSs h.2 (fun _ => rfl) x hx
  | lp, loop, .set .., h, hl, x, hx => by unfold okSt at h; unfold plnS at hx; rw [List.mem_singleton.mp hx]; exact h
  | lp, loop, .put .., h, hl, x, hx => by unfold okSt at h; unfold plnS at hx; rw [List.mem_singleton.mp hx]; exact h
  | lp, loop, .tell .., h, hl, x, hx => by unfold okSt at h; unfold plnS at hx; rw [List.mem_singleton.mp hx]; exact h
  | lp, loop, .ret .., h, hl, x, hx => by unfold okSt at h; unfold plnS at hx; rw [List.mem_singleton.mp hx]; exact h
  | lp, loop, .stop .., h, hl, x, hx => by unfold plnS at hx; rw [List.mem_singleton.mp hx]; trivial
  | lp, loop, .brk .., h, hl, x, hx => by unfold okSt at h; unfold plnS at hx; rw [List.mem_singleton.mp hx]; exact hl h
  | lp, loop, .agn .., h, hl, x, hx => by unfold okSt at h; unfold plnS at hx; rw [List.mem_singleton.mp hx]; exact hl h
  | lp, loop, .meet .., h, hl, x, hx => by unfold plnS at hx; rw [List.mem_singleton.mp hx]; trivial
  | lp, loop, .join .., h, hl, x, hx => by unfold okSt at h; unfold plnS at hx; rw [List.mem_singleton.mp hx]; exact h
  | lp, loop, .call .., h, hl, x, hx => by unfold okSt at h; unfold plnS at hx; rw [List.mem_singleton.mp hx]; exact h
theorem askSs {a : Ask} : ∀ {lp : Bool} {loop : Option Int} {b : List Sm}, okSts a lp b → (lp = true → loop.isSome = true) → ∀ x ∈ pln loop b, askDL a x
  | lp, loop, [], h, hl, x, hx => by unfold pln at hx; cases hx
  | lp, loop, s :: t, h, hl, x, hx => by
    unfold okSts at h; rw [pln] at hx
    rcases List.mem_append.mp hx with hx | hx
    · exact askS h.1 hl x hx
    · exact askSs h.2 hl x hx
end
/-! ### the program whole -/
def dfLn (o : Df) : List Int := o.first :: ln o.body
def pgLn (pg : Pg) : List Int := (pg.map dfLn).flatten
/-- a def as the builder lays it -/
def laidDf (oss : List (List Od)) (rs : Rm) (o : Df) : Prop := ∃ os ∈ oss, (o.name, o.ps) ∈ rs ∧ o.body = (laidF (isMain o.name) os o.first).1 ∧ o.last = (laidF (isMain o.name) os o.first).2
structure PI (oss : List (List Od)) (rs : Rm) (n : Nat) (s : Pg × Int) : Prop where
  names : s.1.map (fun o => (o.name, o.ps)) = rs.take n
  defs : ∀ o ∈ s.1, laidDf oss rs o
  inc : (pgLn s.1).Pairwise (· < ·)
  rng : ∀ x ∈ pgLn s.1, 0 < x ∧ x ≤ s.2
  low : 0 ≤ s.2
  len : ((s.1.map fun o => (ln o.body).length)).sum ≤ ((oss.take n).map List.length).sum
theorem prog_pi (oss : List (List Od)) (rs : Rm) (hl : oss.length = rs.length) : ∀ n, n ≤ rs.length → PI oss rs n (progS oss rs n)
  | 0, _ => ⟨rfl, fun o ho => (by cases ho), List.Pairwise.nil, fun x hx => (by cases hx), Int.le_refl _, Nat.le_refl _⟩
  | n + 1, hn => by
    have ih := prog_pi oss rs hl n (by omega)
    rw [show progS oss rs (n + 1) = progStep oss rs (progS oss rs n) n from range_fold ..]
    generalize progS oss rs n = s at ih
    obtain ⟨pg, line⟩ := s
    obtain ⟨h1, h2, h3, h4, h5, h6⟩ := ih
    dsimp only at h1 h2 h3 h4 h5 h6
    unfold progStep
    dsimp only
    have hr : rs[n]? = some (rs.getD n ("", [])) := by rw [List.getD_eq_getElem?_getD, List.getElem?_eq_getElem (by omega)]; rfl
    have ho : oss[n]? = some (oss.getD n []) := by rw [List.getD_eq_getElem?_getD, List.getElem?_eq_getElem (by omega)]; rfl
    have hrm : rs.getD n ("", []) ∈ rs := getD_mem _ (by omega)
    have hom : oss.getD n [] ∈ oss := getD_mem _ (by omega)
    generalize rs.getD n ("", []) = r at hr hrm ⊢
    generalize oss.getD n [] = os at ho hom ⊢
    obtain ⟨k1, k2, k3, k4⟩ := laid_ln (isMain r.1) os (line + 1)
    refine ⟨?_, ?_, ?_, ?_, ?_, ?_⟩
    · dsimp only
      rw [List.map_append, h1, List.take_add_one, hr]; rfl
    · intro o hmem
      rcases List.mem_append.mp hmem with hmem | hmem
      · exact h2 o hmem
      · rw [List.mem_singleton.mp hmem]
        exact ⟨os, hom, hrm, rfl, rfl⟩
    · show (pgLn (pg ++ [_])).Pairwise _
      unfold pgLn
      rw [List.map_append, List.flatten_append, List.pairwise_append]
      refine ⟨h3, ?_, fun x hx y hy => ?_⟩
      · show ([(line + 1) :: ln _].flatten).Pairwise _
        rw [List.flatten_singleton, List.pairwise_cons]
        exact ⟨fun x hx => (k2 x hx).1, k1⟩
      · have hy : y ∈ [(line + 1) :: ln (laidF (isMain r.1) os (line + 1)).1].flatten := hy
        rw [List.flatten_singleton] at hy
        have := (h4 x hx).2
        rcases List.mem_cons.mp hy with rfl | hy
        · omega
        · have := (k2 y hy).1; omega
    · intro x hx
      have hx : x ∈ pgLn (pg ++ [_]) := hx
      unfold pgLn at hx
      rw [List.map_append, List.flatten_append] at hx
      show 0 < x ∧ x ≤ (laidF (isMain r.1) os (line + 1)).2
      rcases List.mem_append.mp hx with hx | hx
      · have := h4 x hx; omega
      · have hx : x ∈ [(line + 1) :: ln (laidF (isMain r.1) os (line + 1)).1].flatten := hx
        rw [List.flatten_singleton] at hx
        rcases List.mem_cons.mp hx with rfl | hx
        · omega
        · have := k2 x hx; omega
    · show 0 ≤ (laidF (isMain r.1) os (line + 1)).2
      omega
    · dsimp only
      rw [List.map_append, List.sum_append_nat, List.take_add_one, ho, List.map_append, List.sum_append_nat]
      show _ + ((ln (laidF (isMain r.1) os (line + 1)).1).length + 0) ≤ _ + (os.length + 0)
      omega
theorem sum_modify {os : List Od} : ∀ {xs : List (List Od)} {j : Nat} (o : Od), ((xs.modify j (· ++ [o])).map List.length).sum ≤ (xs.map List.length).sum + 1
  | [], j, o => by rw [List.modify_nil]; exact Nat.zero_le _
  | x :: xs, 0, o => by
    rw [List.modify_zero_cons, List.map_cons, List.map_cons, List.sum_cons, List.sum_cons, List.length_append]
    simp only [List.length_singleton]; omega
  | x :: xs, j + 1, o => by
    rw [List.modify_succ_cons, List.map_cons, List.map_cons, List.sum_cons, List.sum_cons]
    have := sum_modify (os := os) (xs := xs) (j := j) o
    omega
theorem ops_sum (opf : Int → Od) (m : Nat) (cs : List Int) : ∀ n, ((opsF opf m cs n).map List.length).sum ≤ n
  | 0 => by
    unfold opsF
    show ((List.replicate m []).map List.length).sum ≤ 0
    rw [List.map_replicate, List.sum_replicate_nat]
    simp
  | n + 1 => by
    have := ops_sum opf m cs n
    rw [show opsF opf m cs (n + 1) = opsStep opf m cs (opsF opf m cs n) n from range_fold ..]
    unfold opsStep
    have h2 := sum_modify (os := []) (xs := opsF opf m cs n) (j := (spreadF (cs.getD n 0) (n + 2) % (m : Int)).toNat) (opf (spreadF (cs.getD n 0) (n + 2) / (m : Int)))
    omega
/-- what the builder's programs keep -/
structure Built (own : Int) (ws : List Str) (rs : Rm) (pg : Pg) : Prop where
  names : pg.map (fun o => (o.name, o.ps)) = rs
  rooms : okRm rs
  defs : ∀ o ∈ pg, okSts (askO own ws rs (isMain o.name)) false o.body ∧ deeps o.body ≤ 6 ∧ (o.name, o.ps) ∈ rs
  inc : (pgLn pg).Pairwise (· < ·)
  pos : ∀ x ∈ pgLn pg, 0 < x
  len : ((pg.map fun o => (ln o.body).length)).sum ≤ 62
theorem prog_built {opf : List Str → Rm → Int → Od} {own : Int} {ws : List Str} (hop : ∀ vs rs i, okNm vs → okRm rs → okO own ws rs (opf vs rs i)) {xs : List Str} (hx : okNm xs) (ns : List Int) {most : Nat} (hm : most ≤ 64) :
    ∃ rs, Built own ws rs (progF opf xs ns most) := by
  unfold progF
  dsimp only
  have hvs := vars_ok (spreadF (cellF ns 0) 0) hx
  generalize spreadF (cellF ns 0) 0 = hd at hvs ⊢
  generalize varsF hd xs = vs at hvs ⊢
  have hrs := rooms_ok hd hx hvs
  generalize roomsF hd xs vs = rs at hrs ⊢
  have hcl : ((ns.take most).drop 2).length ≤ 62 := by rw [List.length_drop, List.length_take]; omega
  generalize (ns.take most).drop 2 = cs at hcl ⊢
  have hok := opsF_ok (P := okO own ws rs) (opf := opf vs rs) (fun i => hop vs rs i hvs hrs) rs.length cs cs.length
  have hsum := ops_sum (opf vs rs) rs.length cs cs.length
  have hlen := opsF_len (opf vs rs) rs.length cs cs.length
  generalize opsF (opf vs rs) rs.length cs cs.length = oss at hok hsum hlen ⊢
  obtain ⟨h1, h2, h3, h4, h5, h6⟩ := prog_pi oss rs hlen rs.length (Nat.le_refl _)
  refine ⟨rs, by rw [h1, List.take_length], hrs, fun o ho => ?_, h3, fun x hx => (h4 x hx).1, ?_⟩
  · obtain ⟨os, k1, k2, k3, k4⟩ := h2 o ho
    have := laid_ok (main := isMain o.name) (l := o.first) (hok os k1).1
    rw [← k3] at this
    exact ⟨this.1, this.2, k2⟩
  · refine Nat.le_trans h6 ?_
    rw [List.take_of_length_le (by omega)]
    omega
theorem pln_len (b : List Sm) (loop : Option Int) : (pln loop b).length = (ln b).length := by rw [← pln_ln loop b, List.length_map]
theorem mem_le_sum {α : Type} {f : α → Nat} : ∀ {xs : List α} {x : α}, x ∈ xs → f x ≤ (xs.map f).sum
  | y :: xs, x, h => by
    rw [List.map_cons, List.sum_cons]
    rcases List.mem_cons.mp h with rfl | h
    · omega
    · have := mem_le_sum (f := f) h; omega
/-! ### no own word -/
end Tl
namespace Tl
open PySem PySem.Spec PyProof.Rows L2
/-! ### the laws' own going over a body -/
structure Rd where
  deed : Sm
  rounds : List Int
  loop : Option Int
def Rd.d (s : Rd) : D := .tup [s.deed.d, .lst (s.rounds.map .int), loopD s.loop]
end Tl
namespace Tl
open PySem PySem.Spec PyProof.Rows L2
/-! ### ways by keys -/
end Tl
namespace Tl
open PySem PySem.Spec PyProof.Rows L2
/-! ### programs as data -/
mutual
theorem okD_mono : ∀ {n m : Nat} {d : D}, okD n d → n ≤ m → okD m d
  | n, m, .non, h, _ => by unfold okD; trivial
  | n, m, .int _, h, _ => by unfold okD; trivial
  | n, m, .bl _, h, _ => by unfold okD; trivial
  | n, m, .str _, h, _ => by unfold okD at h ⊢; exact h
  | n + 1, m + 1, .tup l, h, e => by unfold okD at h ⊢; exact okDs_mono h (by omega)
  | n + 1, m + 1, .lst l, h, e => by unfold okD at h ⊢; exact okDs_mono h (by omega)
  | n + 1, m + 1, .scr l, h, e => by unfold okD at h ⊢; exact okDs_mono h (by omega)
  | n + 1, m + 1, .tab l, h, e => by unfold okD at h ⊢; exact okDs_mono h (by omega)
  | n + 1, 0, .tup l, h, e => by omega
  | n + 1, 0, .lst l, h, e => by omega
  | n + 1, 0, .scr l, h, e => by omega
  | n + 1, 0, .tab l, h, e => by omega
  | 0, _, .tup l, h, _ => by unfold okD at h; exact h.elim
  | 0, _, .tab l, h, _ => by unfold okD at h; exact h.elim
  | 0, _, .lst l, h, _ => by unfold okD at h; exact h.elim
  | 0, _, .scr l, h, _ => by unfold okD at h; exact h.elim
  | _, _, .ref _, h, _ => by unfold okD at h; exact h.elim
  | _, _, .ty _, h, _ => by unfold okD at h; exact h.elim
theorem okDs_mono : ∀ {n m : Nat} {l : List D}, okDs n l → n ≤ m → okDs m l
  | n, m, [], h, _ => by unfold okDs; trivial
  | n, m, x :: t, h, e => by unfold okDs at h ⊢; exact ⟨okD_mono h.1 e, okDs_mono h.2 e⟩
end
theorem okD_str {n : Nat} {s : Str} (h : PyData.strOk s = true) : okD n (.str s) := by unfold okD; exact h
theorem okD_int {n : Nat} {i : Int} : okD n (.int i) := by unfold okD; trivial
theorem okD_non {n : Nat} : okD n .non := by unfold okD; trivial
theorem okDs_nil {n : Nat} : okDs n [] := by unfold okDs; trivial
theorem okDs_cons {n : Nat} {x : D} {t : List D} (h : okD n x) (ht : okDs n t) : okDs n (x :: t) := by unfold okDs; exact ⟨h, ht⟩
theorem okD_tup {n : Nat} {l : List D} (h : okDs n l) : okD (n + 1) (.tup l) := by unfold okD; exact h
theorem okD_lst {n : Nat} {l : List D} (h : okDs n l) : okD (n + 1) (.lst l) := by unfold okD; exact h
theorem op_strOk (w : Op7) : PyData.strOk w.s = true := by cases w <;> decide +kernel
theorem ex_okD : ∀ {e : Ex}, exNm e → okD e.deep e.d
  | .num i, _ => okD_tup (okDs_cons (okD_str (by decide +kernel)) (okDs_cons okD_int okDs_nil))
  | .nam x, h => okD_tup (okDs_cons (okD_str (by decide +kernel)) (okDs_cons (okD_str h.2) okDs_nil))
  | .lane, _ => okD_tup (okDs_cons (okD_str (by decide +kernel)) okDs_nil)
  | .lanes, _ => okD_tup (okDs_cons (okD_str (by decide +kernel)) okDs_nil)
  | .mine, _ => okD_tup (okDs_cons (okD_str (by decide +kernel)) okDs_nil)
  | .box e, h => by
    unfold Ex.deep Ex.d
    exact okD_tup (okDs_cons (okD_str (by decide +kernel)) (okDs_cons (ex_okD h) okDs_nil))
  | .op w a b, h => by
    unfold Ex.deep Ex.d
    exact okD_tup (okDs_cons (okD_str (op_strOk w)) (okDs_cons (okD_mono (ex_okD h.1) (by omega)) (okDs_cons (okD_mono (ex_okD h.2) (by omega)) okDs_nil)))
theorem okE_okD {own : Int} {e : Ex} (h : okE own 10 e) {n : Nat} (hn : 10 ≤ n) : okD n e.d := okD_mono (ex_okD h.2.2) (Nat.le_trans h.1 hn)
section
variable {own : Int} {ws : List Str} {rs : Rm} {main : Bool}
mutual
theorem sm_okD (hw : ∀ z ∈ ws, PyData.strOk z = true) (hr : okRm rs) : ∀ {lp : Bool} {s : Sm}, okSt (askO own ws rs main) lp s → okD (2 * s.deep + 12) s.d
  | lp, .if1 l e b, h => by
    unfold okSt at h; unfold Sm.deep Sm.d
    refine okD_mono (n := 2 * deeps b + 14) (okD_tup (okDs_cons (okD_str (by decide +kernel)) (okDs_cons okD_int (okDs_cons (okE_okD h.1 (by omega)) (okDs_cons (okD_lst (sms_okD hw hr h.2)) (okDs_cons okD_non okDs_nil)))))) (by omega)
  | lp, .if2 l e b c, h => by
    unfold okSt at h; unfold Sm.deep Sm.d
    refine okD_mono (n := 2 * max (deeps b) (deeps c) + 14) (okD_tup (okDs_cons (okD_str (by decide +kernel)) (okDs_cons okD_int (okDs_cons (okE_okD h.1 (by omega)) (okDs_cons (okD_mono (okD_lst (sms_okD hw hr h.2.1)) (by omega)) (okDs_cons (okD_mono (okD_lst (sms_okD hw hr h.2.2)) (by omega)) okDs_nil)))))) (by omega)
  | lp, .whl l e b, h => by
    unfold okSt at h; unfold Sm.deep Sm.d
    refine okD_mono (n := 2 * deeps b + 14) (okD_tup (okDs_cons (okD_str (by decide +kernel)) (okDs_cons okD_int (okDs_cons (okE_okD h.1 (by omega)) (okDs_cons (okD_lst (sms_okD hw hr h.2)) okDs_nil))))) (by omega)
  | lp, .set l x e, h => by unfold okSt at h; unfold Sm.d; exact okD_tup (okDs_cons (okD_str (by decide +kernel)) (okDs_cons okD_int (okDs_cons (okD_str h.1.2) (okDs_cons (okE_okD h.2 (by omega)) okDs_nil))))
  | lp, .put l a b, h => by unfold okSt at h; unfold Sm.d; exact okD_tup (okDs_cons (okD_str (by decide +kernel)) (okDs_cons okD_int (okDs_cons (okE_okD h.1 (by omega)) (okDs_cons (okE_okD h.2 (by omega)) okDs_nil))))
  | lp, .tell l e, h => by unfold okSt at h; unfold Sm.d; exact okD_tup (okDs_cons (okD_str (by decide +kernel)) (okDs_cons okD_int (okDs_cons (okE_okD h (by omega)) okDs_nil)))
  | lp, .ret l e, h => by unfold okSt at h; unfold Sm.d; exact okD_tup (okDs_cons (okD_str (by decide +kernel)) (okDs_cons okD_int (okDs_cons (okE_okD h.1 (by omega)) okDs_nil)))
  | lp, .stop l, h => by unfold Sm.d; exact okD_tup (okDs_cons (okD_str (by decide +kernel)) (okDs_cons okD_int okDs_nil))
  | lp, .brk l, h => by unfold Sm.d; exact okD_tup (okDs_cons (okD_str (by decide +kernel)) (okDs_cons okD_int okDs_nil))
  | lp, .agn l, h => by unfold Sm.d; exact okD_tup (okDs_cons (okD_str (by decide +kernel)) (okDs_cons okD_int okDs_nil))
  | lp, .meet l, h => by unfold Sm.d; exact okD_tup (okDs_cons (okD_str (by decide +kernel)) (okDs_cons okD_int okDs_nil))
  | lp, .join l x z e, h => by unfold okSt at h; unfold Sm.d; exact okD_tup (okDs_cons (okD_str (by decide +kernel)) (okDs_cons okD_int (okDs_cons (okD_str h.1.2) (okDs_cons (okD_str (hw z h.2.2)) (okDs_cons (okE_okD h.2.1 (by omega)) okDs_nil)))))
  | lp, .call l x f es, h => by
    unfold okSt at h; unfold Sm.d
    obtain ⟨h1, h2, ps, h3, h4, h5⟩ := h
    refine okD_tup (okDs_cons (okD_str (by decide +kernel)) (okDs_cons okD_int (okDs_cons (okD_str h1.2) (okDs_cons (okD_str (hr.2 _ h3).1.2) (okDs_cons (okD_lst (okDs_of fun d hd => ?_)) okDs_nil)))))
    obtain ⟨e, he, rfl⟩ := List.mem_map.mp hd
    exact okE_okD (h2 e he) (by omega)
theorem sms_okD (hw : ∀ z ∈ ws, PyData.strOk z = true) (hr : okRm rs) : ∀ {lp : Bool} {b : List Sm}, okSts (askO own ws rs main) lp b → okDs (2 * deeps b + 12) (stD b)
  | lp, [], h => by unfold stD; exact okDs_nil
  | lp, s :: t, h => by
    unfold okSts at h; unfold stD deeps
    exact okDs_cons (okD_mono (sm_okD hw hr h.1) (by omega)) (okDs_mono (sms_okD hw hr h.2) (by omega))
end
end
theorem pg_okD {own : Int} {ws : List Str} {rs : Rm} {pg : Pg} (hw : ∀ z ∈ ws, PyData.strOk z = true) (h : Built own ws rs pg) : okD 30 (.lst (pgD pg)) := by
  refine okD_lst (okDs_of fun d hd => ?_)
  obtain ⟨o, ho, rfl⟩ := List.mem_map.mp hd
  obtain ⟨h1, h2, h3⟩ := h.defs o ho
  obtain ⟨r1, r2, r3⟩ := h.rooms.2 _ h3
  refine okD_tup (okDs_cons (okD_str r1.2) (okDs_cons (okD_lst (okDs_of fun y hy => ?_)) (okDs_cons (okD_lst (okDs_mono (sms_okD hw h.rooms h1) (by omega))) (okDs_cons okD_int (okDs_cons okD_int okDs_nil)))))
  obtain ⟨x, hx, rfl⟩ := List.mem_map.mp hy
  exact okD_str (r3 x hx).2
/-! ### which meetings wait -/
theorem sorted_eq : ∀ {xs ys : List Int}, xs.Perm ys → xs.Pairwise (· ≤ ·) → ys.Pairwise (· < ·) → xs = ys := fun {xs ys} p hx hy =>
  p.eq_of_pairwise (fun a b _ _ h1 h2 => Int.le_antisymm h1 h2) hx (hy.imp fun h => Int.le_of_lt h)
/-! by the laws' own ways -/
end Tl
namespace Tl
open PySem PySem.Spec PyProof.Rows L2
/-! ### what the laws call own -/
/-! what each statement, by the marks told, makes own -/
/-! a fixpoint is closed -/
end Tl
namespace Tl
open PySem PySem.Spec PyProof.Rows L2
/-! ### list(d), d a dict by tuples or by plain keys -/
theorem Rel.freezeT {K : PySem.W.Frag} {G F H : Hp} {M : MH} (R : Rel K G F H M) {b : Addr} {vs : List V} (h : H b = some (.tup vs)) : ∃ F', Same F F' ∧ Rel K G F' H M ∧ F' b = some (.tup vs) := by
  cases e : F b with
  | some o =>
    have := R.sub b o e
    rw [h] at this
    cases this
    exact ⟨F, Same.refl _, R, e⟩
  | none =>
    have s : Same F (upd F b (.tup vs)) := same_upd e
    refine ⟨upd F b (.tup vs), s, ⟨fun c x q => ?_, fun a m q => ?_, fun a x q => ?_, R.hidt⟩, upd_same⟩
    · by_cases hc : c = b
      · subst hc; rw [upd_same] at q; rw [h]; exact q
      · rw [upd_ne hc] at q; exact R.sub _ _ q
    · obtain ⟨f, u, hu, r⟩ := R.chg a m q
      have hab : a ≠ b := fun z => by
        rw [z, h] at hu
        cases hu
        cases m <;> exact (r : False)
      exact ⟨by rw [upd_ne hab]; exact f, u, hu, r.mono s⟩
    · obtain ⟨g1, g2, g3⟩ := R.hid a x q
      have hab : a ≠ b := fun z => by
        rw [z, h] at g1
        cases g1
        rw [z] at q
        exact R.hidt b vs q
      exact ⟨g1, by rw [upd_ne hab]; exact g2, g3⟩
/-! ### {"x": e} -/
def tDisp1 (k : Str) (t : TEt) : TEt := fun τ M Q => t τ M fun v M1 => ∀ p, M1 p = none → Q (.ref p) (mup M1 p (.dK [(.inr k, v)]))
end Tl
namespace Tl
open PySem PySem.Spec PyProof.Rows L2
/-! ### other names -/
end Tl
namespace Tl
open PySem PySem.Spec PyProof.Rows L2
/-! ### the builder with other names -/
/-! lines laid -/
end Tl
namespace Tl
open PySem PySem.Spec PyProof.Rows L2
/-! ### the names that are drawn are unlike -/
/-! ### names exchanged -/
end Tl
namespace Tl
open PySem PySem.Spec PyProof.Rows L2
theorem uDisp1 {k : Str} {t : TEt} {τ : Sg} {M : MH} {Q : VD} : tDisp1 k t τ M Q = t τ M fun v M1 => ∀ p, M1 p = none → Q (.ref p) (mup M1 p (.dK [(.inr k, v)])) := propext Iff.rfl
/-! ### the names in a program's marks are those that were drawn -/
theorem zip_two {α β : Type} (f : α → D) (g : β → D) : ∀ (xs : List α) (ys : List β), zipD (xs.map f) (ys.map g) = (xs.zip ys).map fun p => .tup [f p.1, g p.2]
  | [], _ => rfl
  | _ :: _, [] => rfl
  | x :: xs, y :: ys => by
    have := zip_two f g xs ys
    unfold zipD at this ⊢
    rw [List.map_cons, List.map_cons, List.zipWith_cons_cons, this]; rfl
end Tl
namespace Tl
open PySem PySem.Spec PyProof.Rows L2
/-! ### forms of places -/
inductive Fo where
  | fixed (n : Int) | lane (n : Int) | any
def Fo.d : Fo → D
  | .fixed n => .tup [.str "fixed", .int n]
  | .lane n => .tup [.str "lane", .int n]
  | .any => .tup [.str "any", .int 0]
def formF : Ex → Fo
  | .num n => .fixed n
  | .lane => .lane 0
  | .op .add .lane (.num n) => .lane n
  | .op .add (.num n) .lane => .lane n
  | _ => .any
def mayF : Fo → Fo → Bool
  | .fixed a, .fixed b => decide (a = b)
  | .lane a, .lane b => !decide (a = b)
  | _, _ => true
end Tl
namespace Tl
open PySem PySem.Spec PyProof.Rows L2
/-! ### readings unfolded, by proofs that are told (no check by unfolding is left to the kernel) -/
theorem z_tDnK {w0 : Sg} {M : MH} {Q : VD} : tDnK w0 M Q = ∀ p, M p = none → Q (.ref p) (mup M p (.dK [])) := propext Iff.rfl
theorem z_tDnT {w0 : Sg} {M : MH} {Q : VD} : tDnT w0 M Q = ∀ p, M p = none → Q (.ref p) (mup M p (.dT [])) := propext Iff.rfl
theorem z_tDg {to ti : TEt} {τ : Sg} {M : MH} {Q : VD} : tDg to ti τ M Q = to τ M fun x M1 => ti τ M1 fun k M2 => oDic M2 x k fun r => oSome r fun d => Q d M2 := propext Iff.rfl
theorem z_tDi {neg : Bool} {ti to : TEt} {τ : Sg} {M : MH} {Q : VD} : tDi neg ti to τ M Q = ti τ M fun k M1 => to τ M1 fun x M2 => oDic M2 x k fun r => Q (.bl (if neg = true then !r.isSome else r.isSome)) M2 := propext Iff.rfl
theorem z_tDg2 {to ti tz : TEt} {τ : Sg} {M : MH} {Q : VD} : tDg2 to ti tz τ M Q = to τ M fun x M1 => (∃ a o, x = .ref a ∧ M1 a = some o ∧ isDic o) ∧ ti τ M1 fun k M2 => tz τ M2 fun z M3 => oDic M3 x k fun r => Q (r.getD z) M3 := propext Iff.rfl
theorem z_tRe {K : PySem.W.Frag} {t : TEt} {τ : Sg} {M : MH} {Q : VD} : tRe K t τ M Q = t τ M fun d M1 => ∃ d' M2, ReR K d M1 d' M2 ∧ Q d' M2 := propext Iff.rfl
theorem z_sRe {K : PySem.W.Frag} {u : TSt} {D0 : En} {τ : Sg} {M : MH} : sRe K u D0 τ M = ∃ τ' M', ReS K τ M τ' M' ∧ u D0 τ' M' := propext Iff.rfl
theorem z_tFd {P : Addr → Prop} {fl : List Str} {i : Nat} {te : TEt} {τ : Sg} {M : MH} {Q : VD} : tFd P fl i te τ M Q = te τ M fun x M1 => oObj M1 x fun _ C _ fl' ds => P C ∧ fl' = fl ∧ oSome (nthD ds i) fun d => Q d M1 := propext Iff.rfl
theorem z_sFd {P : Addr → Prop} {fl : List Str} {i : Nat} {te tv : TEt} {D0 : En} {τ : Sg} {M : MH} : sFd P fl i te tv D0 τ M = tv τ M fun y M1 => te τ M1 fun x M2 => oObj M2 x fun a C dx fl' ds => P C ∧ fl' = fl ∧ i ≤ ds.length ∧ D0.nx τ (mup M2 a (.obj C dx fl (putD ds i y))) := propext Iff.rfl
theorem z_sFa {P : Addr → Prop} {fl : List Str} {i : Nat} {te tv : TEt} {r : R2t} {D0 : En} {τ : Sg} {M : MH} : sFa P fl i te tv r D0 τ M = te τ M fun x M1 => oObj M1 x fun _ C _ fl' ds => P C ∧ fl' = fl ∧ oSome (nthD ds i) fun d =>
  tv τ M1 fun y M2 => r d y M2 fun z M3 => oObj M3 x fun a C' dx fl' ds => C' = C ∧ fl' = fl ∧ i ≤ ds.length ∧ D0.nx τ (mup M3 a (.obj C dx fl (putD ds i z))) := propext Iff.rfl
theorem z_tMe {C : Addr} {fl : List Str} {sp : SpT} {te : TEt} {ta : TAt} {τ : Sg} {M : MH} {Q : VD} : tMe C fl sp te ta τ M Q = te τ M fun x M1 => oObj M1 x fun _ C' _ fl' _ => C' = C ∧ fl' = fl ∧ ta τ M1 fun ys M2 => sp (x :: ys) M2 Q Et0 := propext Iff.rfl
theorem z_tMk {C : Addr} {fl : List Str} {sp : SpT} {ta : TAt} {τ : Sg} {M : MH} {Q : VD} : tMk C fl sp ta τ M Q = ta τ M fun ys M1 => ∀ x dx, M1 x = none → sp (.ref x :: ys) (mup M1 x (.obj C dx fl [])) (fun v M2 => v = .non ∧ Q (.ref x) M2) Et0 := propext Iff.rfl
theorem z_sNx {D0 : En} {τ : Sg} {M : MH} : sNx D0 τ M = D0.nx τ M := propext Iff.rfl
theorem z_sSq {t u : TSt} {D0 : En} {τ : Sg} {M : MH} : sSq t u D0 τ M = t { D0 with nx := u D0 } τ M := propext Iff.rfl
theorem z_sBk {D0 : En} {τ : Sg} {M : MH} : sBk D0 τ M = D0.bk τ M := propext Iff.rfl
theorem z_sCt {D0 : En} {τ : Sg} {M : MH} : sCt D0 τ M = D0.ct τ M := propext Iff.rfl
theorem z_sDr {t : TEt} {D0 : En} {τ : Sg} {M : MH} : sDr t D0 τ M = t τ M fun _ M1 => D0.nx τ M1 := propext Iff.rfl
theorem z_sRt {t : TEt} {D0 : En} {τ : Sg} {M : MH} : sRt t D0 τ M = t τ M D0.rt := propext Iff.rfl
theorem z_sRtN {D0 : En} {w1 : Sg} {M : MH} : sRtN D0 w1 M = D0.rt .non M := propext Iff.rfl
theorem z_sIf {c : TTt} {t u : TSt} {D0 : En} {τ : Sg} {M : MH} : sIf c t u D0 τ M = c τ M fun b M1 => if b = true then t D0 τ M1 else u D0 τ M1 := propext Iff.rfl
theorem z_sAs {te : TEt} {g : TGt} {D0 : En} {τ : Sg} {M : MH} : sAs te g D0 τ M = te τ M fun x M1 => g x τ M1 D0.nx := propext Iff.rfl
theorem z_gN {i : Nat} {d : D} {τ : Sg} {M : MH} {Q : Sg → MH → Prop} : gN i d τ M Q = Q (τ.set i (some d)) M := propext Iff.rfl
theorem z_gSb {to ti : TEt} {t : TSett} {v : D} {τ : Sg} {M : MH} {Q : Sg → MH → Prop} : gSb to ti t v τ M Q = to τ M fun o M1 => ti τ M1 fun i M2 => t o i v M2 fun M3 => Q τ M3 := propext Iff.rfl
theorem z_tK {d : D} {w0 : Sg} {M : MH} {Q : VD} : tK d w0 M Q = Q d M := propext Iff.rfl
theorem z_tO {r : R2t} {ta tb : TEt} {τ : Sg} {M : MH} {Q : VD} : tO r ta tb τ M Q = ta τ M fun x M1 => tb τ M1 fun y M2 => r x y M2 Q := propext Iff.rfl
theorem z_tU {r : R1t} {ta : TEt} {τ : Sg} {M : MH} {Q : VD} : tU r ta τ M Q = ta τ M fun x M1 => r x M1 Q := propext Iff.rfl
theorem z_tCa {r : RLt} {ta : TAt} {τ : Sg} {M : MH} {Q : VD} : tCa r ta τ M Q = ta τ M fun xs M1 => r xs M1 Q := propext Iff.rfl
theorem z_tN {w0 : Sg} {M : MH} {Q : List D → MH → Prop} : tN w0 M Q = Q [] M := propext Iff.rfl
theorem z_tCs {ta : TEt} {tr : TAt} {τ : Sg} {M : MH} {Q : List D → MH → Prop} : tCs ta tr τ M Q = ta τ M fun x M1 => tr τ M1 fun xs M2 => Q (x :: xs) M2 := propext Iff.rfl
theorem z_tAn {t u : TTt} {τ : Sg} {M : MH} {Q : Bool → MH → Prop} : tAn t u τ M Q = t τ M fun c M1 => if c = true then u τ M1 Q else Q false M1 := propext Iff.rfl
theorem z_tNo {t : TTt} {τ : Sg} {M : MH} {Q : Bool → MH → Prop} : tNo t τ M Q = t τ M fun c M1 => Q (!c) M1 := propext Iff.rfl
theorem z_tIfE {t : TTt} {ta tb : TEt} {τ : Sg} {M : MH} {Q : VD} : tIfE t ta tb τ M Q = t τ M fun c M1 => if c = true then ta τ M1 Q else tb τ M1 Q := propext Iff.rfl
theorem z_tCl {sp : SpT} {Et : XT} {t : TAt} {τ : Sg} {M : MH} {Q : VD} : tCl sp Et t τ M Q = t τ M fun ds M1 => sp ds M1 Q Et := propext Iff.rfl
theorem z_tTu {t : TAt} {τ : Sg} {M : MH} {Q : VD} : tTu t τ M Q = t τ M fun ds M1 => ds.length ≤ sizeLine ∧ Q (.tup ds) M1 := propext Iff.rfl
theorem z_tLi {t : TAt} {τ : Sg} {M : MH} {Q : VD} : tLi t τ M Q = t τ M fun ds M1 => ds.length ≤ sizeLine ∧ Q (.lst ds) M1 := propext Iff.rfl
theorem z_tLm {t : TAt} {τ : Sg} {M : MH} {Q : VD} : tLm t τ M Q = t τ M fun ds M1 => ds.length ≤ sizeLine ∧ ∀ p, M1 p = none → Q (.ref p) (mup M1 p (.lst ds)) := propext Iff.rfl
theorem z_tSc {r : D → Option Int → Option Int → MH → VD → Prop} {te : TEt} {tl th : TOt} {τ : Sg} {M : MH} {Q : VD} : tSc r te tl th τ M Q = te τ M fun x M1 => tl τ M1 fun l M2 => th τ M2 fun u M3 => r x l u M3 Q := propext Iff.rfl
theorem z_oNo {w0 : Sg} {M : MH} {Q : Option Int → MH → Prop} : oNo w0 M Q = Q none M := propext Iff.rfl
theorem z_tMt {r : RMt} {to : TEt} {t : TAt} {τ : Sg} {M : MH} {Q : VD} : tMt r to t τ M Q = to τ M fun x M1 => (lstOf M1 x).isSome = true ∧ t τ M1 fun xs M2 => r x xs M2 Q := propext Iff.rfl
theorem z_tMt0 {r : RMt} {to : TEt} {τ : Sg} {M : MH} {Q : VD} : tMt0 r to τ M Q = to τ M fun x M1 => (lstOf M1 x).isSome = true ∧ r x [] M1 Q := propext Iff.rfl
theorem z_tYe {w0 : Sg} {M : MH} {Q : Bool → MH → Prop} : tYe w0 M Q = Q true M := propext Iff.rfl
theorem z_tLt {ds : List D} {w0 : Sg} {M : MH} {Q : List D → MH → Prop} : tLt ds w0 M Q = Q ds M := propext Iff.rfl
end Tl
namespace Tl
open PySem PySem.Spec PyProof.Rows L2
/-! ### == of plain data is sameness -/
mutual
def plD : D → Prop
  | .non => True
  | .int _ => True
  | .str _ => True
  | .tup l => plDs l
  | .lst l => plDs l
  | _ => False
def plDs : List D → Prop
  | [] => True
  | x :: t => plD x ∧ plDs t
end
mutual
theorem pl_eqv : ∀ (x y : D) (d e : PyData), plD x → plD y → pyD x = some d → pyD y = some e → (PyData.eqv d e = true ↔ x = y)
  | .non, y, d, e, hx, hy, h1, h2 => by
    unfold pyD at h1; cases h1
    cases y with
    | non => unfold pyD at h2; cases h2; unfold PyData.eqv; simp
    | int j => unfold pyD at h2; cases h2; unfold PyData.eqv; simp
    | str j => unfold pyD at h2; cases h2; unfold PyData.eqv; simp
    | tup l => unfold pyD at h2; obtain ⟨ys, _, rfl⟩ := Option.map_eq_some_iff.mp h2; unfold PyData.eqv; simp
    | lst l => unfold pyD at h2; obtain ⟨ys, _, rfl⟩ := Option.map_eq_some_iff.mp h2; unfold PyData.eqv; simp
    | _ => unfold plD at hy; exact hy.elim
  | .int i, y, d, e, hx, hy, h1, h2 => by
    unfold pyD at h1; cases h1
    cases y with
    | non => unfold pyD at h2; cases h2; unfold PyData.eqv; simp
    | int j => unfold pyD at h2; cases h2; unfold PyData.eqv; simp
    | str j => unfold pyD at h2; cases h2; unfold PyData.eqv; simp
    | tup l => unfold pyD at h2; obtain ⟨ys, _, rfl⟩ := Option.map_eq_some_iff.mp h2; unfold PyData.eqv; simp
    | lst l => unfold pyD at h2; obtain ⟨ys, _, rfl⟩ := Option.map_eq_some_iff.mp h2; unfold PyData.eqv; simp
    | _ => unfold plD at hy; exact hy.elim
  | .str i, y, d, e, hx, hy, h1, h2 => by
    unfold pyD at h1; cases h1
    cases y with
    | non => unfold pyD at h2; cases h2; unfold PyData.eqv; simp
    | int j => unfold pyD at h2; cases h2; unfold PyData.eqv; simp
    | str j => unfold pyD at h2; cases h2; unfold PyData.eqv; simp
    | tup l => unfold pyD at h2; obtain ⟨ys, _, rfl⟩ := Option.map_eq_some_iff.mp h2; unfold PyData.eqv; simp
    | lst l => unfold pyD at h2; obtain ⟨ys, _, rfl⟩ := Option.map_eq_some_iff.mp h2; unfold PyData.eqv; simp
    | _ => unfold plD at hy; exact hy.elim
  | .tup l, y, d, e, hx, hy, h1, h2 => by
    unfold pyD at h1
    obtain ⟨xs, e1, rfl⟩ := Option.map_eq_some_iff.mp h1
    cases y with
    | non => unfold pyD at h2; cases h2; unfold PyData.eqv; simp
    | int j => unfold pyD at h2; cases h2; unfold PyData.eqv; simp
    | str j => unfold pyD at h2; cases h2; unfold PyData.eqv; simp
    | tup m =>
      unfold pyD at h2
      obtain ⟨ys, e2, rfl⟩ := Option.map_eq_some_iff.mp h2
      unfold plD at hx hy
      have := pl_eqvs l m xs ys hx hy e1 e2
      unfold PyData.eqv
      rw [this, D.tup.injEq]
    | lst m => unfold pyD at h2; obtain ⟨ys, _, rfl⟩ := Option.map_eq_some_iff.mp h2; unfold PyData.eqv; simp
    | _ => unfold plD at hy; exact hy.elim
  | .lst l, y, d, e, hx, hy, h1, h2 => by
    unfold pyD at h1
    obtain ⟨xs, e1, rfl⟩ := Option.map_eq_some_iff.mp h1
    cases y with
    | non => unfold pyD at h2; cases h2; unfold PyData.eqv; simp
    | int j => unfold pyD at h2; cases h2; unfold PyData.eqv; simp
    | str j => unfold pyD at h2; cases h2; unfold PyData.eqv; simp
    | lst m =>
      unfold pyD at h2
      obtain ⟨ys, e2, rfl⟩ := Option.map_eq_some_iff.mp h2
      unfold plD at hx hy
      have := pl_eqvs l m xs ys hx hy e1 e2
      unfold PyData.eqv
      rw [this, D.lst.injEq]
    | tup m => unfold pyD at h2; obtain ⟨ys, _, rfl⟩ := Option.map_eq_some_iff.mp h2; unfold PyData.eqv; simp
    | _ => unfold plD at hy; exact hy.elim
  | .bl _, _, _, _, hx, _, _, _ => by unfold plD at hx; exact hx.elim
  | .tab _, _, _, _, hx, _, _, _ => by unfold plD at hx; exact hx.elim
  | .scr _, _, _, _, hx, _, _, _ => by unfold plD at hx; exact hx.elim
  | .ref _, _, _, _, hx, _, _, _ => by unfold plD at hx; exact hx.elim
  | .ty _, _, _, _, hx, _, _, _ => by unfold plD at hx; exact hx.elim
theorem pl_eqvs : ∀ (x y : List D) (d e : List PyData), plDs x → plDs y → pyDs x = some d → pyDs y = some e → (PyData.eqvAll d e = true ↔ x = y)
  | [], [], d, e, _, _, h1, h2 => by unfold pyDs at h1 h2; cases h1; cases h2; unfold PyData.eqvAll; simp
  | [], y :: t, d, e, _, _, h1, h2 => by
    unfold pyDs at h1 h2; cases h1
    cases q : pyD y with
    | none => simp only [q] at h2; cases h2
    | some a => cases q2 : pyDs t with
      | none => simp only [q, q2] at h2; cases h2
      | some b => simp only [q, q2] at h2; cases h2; unfold PyData.eqvAll; simp
  | x :: t, [], d, e, _, _, h1, h2 => by
    unfold pyDs at h1 h2; cases h2
    cases q : pyD x with
    | none => simp only [q] at h1; cases h1
    | some a => cases q2 : pyDs t with
      | none => simp only [q, q2] at h1; cases h1
      | some b => simp only [q, q2] at h1; cases h1; unfold PyData.eqvAll; simp
  | x :: t, y :: u, d, e, hx, hy, h1, h2 => by
    unfold pyDs at h1 h2
    unfold plDs at hx hy
    cases q : pyD x with
    | none => simp only [q] at h1; cases h1
    | some a => cases q2 : pyDs t with
      | none => simp only [q, q2] at h1; cases h1
      | some b => cases q3 : pyD y with
        | none => simp only [q3] at h2; cases h2
        | some a2 => cases q4 : pyDs u with
          | none => simp only [q3, q4] at h2; cases h2
          | some b2 =>
            simp only [q, q2] at h1
            simp only [q3, q4] at h2
            cases h1; cases h2
            unfold PyData.eqvAll
            rw [Bool.and_eq_true, pl_eqv x y a a2 hx.1 hy.1 q q3, pl_eqvs t u b b2 hx.2 hy.2 q2 q4, List.cons.injEq]
end
def notLN (a b : Ex) : Prop := ∀ n, a = .lane → b = .num n → False
end Tl
namespace Tl
open PySem PySem.Spec PyProof.Rows L2
/-! ### rows: a mirror of how a program is made into rows -/
inductive Sn where
  | lane | lanes | mine
deriving DecidableEq
def Sn.s : Sn → Str
  | .lane => "lane" | .lanes => "lanes" | .mine => "mine"
inductive Rw where
  | tick (l : Int) | num (l at_ n : Int) | copy (l at_ from_ : Int) | sign (l at_ : Int) (w : Sn) | op (l at_ : Int) (w : Op7) (one other : Int) | get (l at_ pl : Int) | put (l pl from_ : Int) | tell (l from_ : Int)
  | split (l from_ row : Int) | jump (l row : Int) | call (l at_ first many row : Int) | back (l : Int) | join (l at_ : Int) (w : Str) (from_ : Int) | meet (l : Int) | stop (l : Int)
def Rw.d : Rw → D
  | .tick l => .tup [.str "tick", .int l]
  | .num l a n => .tup [.str "num", .int l, .int a, .int n]
  | .copy l a f => .tup [.str "copy", .int l, .int a, .int f]
  | .sign l a w => .tup [.str "sign", .int l, .int a, .str w.s]
  | .op l a w o p => .tup [.str "op", .int l, .int a, .str w.s, .int o, .int p]
  | .get l a p => .tup [.str "get", .int l, .int a, .int p]
  | .put l p f => .tup [.str "put", .int l, .int p, .int f]
  | .tell l f => .tup [.str "tell", .int l, .int f]
  | .split l f r => .tup [.str "split", .int l, .int f, .int r]
  | .jump l r => .tup [.str "jump", .int l, .int r]
  | .call l a f m r => .tup [.str "call", .int l, .int a, .int f, .int m, .int r]
  | .back l => .tup [.str "back", .int l]
  | .join l a w f => .tup [.str "join", .int l, .int a, .str w, .int f]
  | .meet l => .tup [.str "meet", .int l]
  | .stop l => .tup [.str "stop", .int l]
def Rw.lead (t : Int) : Rw → Rw
  | .split l f _ => .split l f t
  | .jump l _ => .jump l t
  | .call l a f m _ => .call l a f m t
  | r => r
def leadAt (rows : List Rw) (k : Nat) (t : Int) : List Rw := rows.modify k (Rw.lead t)
/-! expressions and statements of a body, in their order -/
def Sm.exprs : Sm → List Ex
  | .put _ a b => [a, b] | .tell _ e => [e] | .ret _ e => [e] | .if1 _ e _ => [e] | .if2 _ e _ _ => [e] | .whl _ e _ => [e] | .set _ _ e => [e] | .call _ _ _ es => es | .join _ _ _ e => [e] | _ => []
mutual
def allSt : Sm → List Sm
  | .if1 l e b => .if1 l e b :: allBd b
  | .if2 l e b c => .if2 l e b c :: (allBd b ++ allBd c)
  | .whl l e b => .whl l e b :: allBd b
  | s => [s]
def allBd : List Sm → List Sm
  | [] => []
  | s :: t => allSt s ++ allBd t
end
/-! slots of names -/
def noteN (ss : List Str) (x : Str) : List Str := if x ∈ ss then ss else ss ++ [x]
def noteE : List Str → Ex → List Str
  | ss, .nam x => noteN ss x
  | ss, .box e => noteE ss e
  | ss, .op _ a b => noteE (noteE ss a) b
  | ss, _ => ss
def noteS (ss : List Str) (s : Sm) : List Str := s.exprs.foldl noteE (match s.given with
  | some x => noteN ss x
  | none => ss)
def slotsF (o : Df) : List Str := (allBd o.body).foldl noteS (o.ps.foldl noteN [])
def slotOf (ss : List Str) (x : Str) : Int := (ss.idxOf x + 1 : Nat)
def slotFrom : Nat → List Str → List (Key × D)
  | _, [] => []
  | i, x :: t => (.inr x, .int ((i + 1 : Nat) : Int)) :: slotFrom (i + 1) t
def slotD (ss : List Str) : List (Key × D) := slotFrom 0 ss
/-! rows of an expression -/
def exRows (ss : List Str) (l : Int) : Ex → Int → List Rw
  | .num n, a => [.num l a n]
  | .nam x, a => [.copy l a (slotOf ss x)]
  | .lane, a => [.sign l a .lane]
  | .lanes, a => [.sign l a .lanes]
  | .mine, a => [.sign l a .mine]
  | .box e, a => exRows ss l e a ++ [.get l a a]
  | .op w x y, a => exRows ss l x a ++ exRows ss l y (a + 1) ++ [.op l a w a (a + 1)]
def exsRows (ss : List Str) (l : Int) : List Ex → Int → List Rw
  | [], _ => []
  | e :: es, a => exRows ss l e a ++ exsRows ss l es (a + 1)
/-! the maker -/
structure Mk where
  rows : List Rw
  calls : List (Nat × Str)
  leaves : List Nat
  loops : List (Nat × List Nat)
def Mk.add (m : Mk) (rs : List Rw) : Mk := { m with rows := m.rows ++ rs }
def Mk.lead (m : Mk) (k : Nat) : Mk := { m with rows := leadAt m.rows k m.rows.length }
def Mk.leads (m : Mk) (ks : List Nat) : Mk := ks.foldl Mk.lead m
def lastRow (ss : List Str) (fr : Int) : Sm → Rw
  | .set l x _ => .copy l (slotOf ss x) fr
  | .put l _ _ => .put l fr (fr + 1)
  | .tell l _ => .tell l fr
  | .join l x w _ => .join l (slotOf ss x) w fr
  | .meet l => .meet l
  | s => .stop s.line
mutual
def mkS (ss : List Str) (fr : Int) (m0 : Mk) : Sm → Mk
  | .if1 l e b =>
    let m1 := m0.add (exRows ss l e fr ++ [.split l fr 0])
    (mkB ss fr m1 b).lead (m1.rows.length - 1)
  | .if2 l e b c =>
    let m1 := m0.add (exRows ss l e fr ++ [.split l fr 0])
    let m2 := (mkB ss fr m1 b).add [.jump l 0]
    (mkB ss fr (m2.lead (m1.rows.length - 1)) c).lead (m2.rows.length - 1)
  | .whl l e b =>
    let begin_ := m0.rows.length - 1
    let m1 := m0.add (exRows ss l e fr ++ [.split l fr 0])
    let m2 := (mkB ss fr { m1 with loops := (begin_, [m1.rows.length - 1]) :: m1.loops } b).add [.jump l begin_]
    match m2.loops with
    | [] => m2
    | (_, lv) :: r => ({ m2 with loops := r }).leads lv
  | .brk l => match m0.loops with
    | [] => m0
    | (b, lv) :: r => { m0 with rows := m0.rows ++ [.jump l b], loops := (b, lv ++ [m0.rows.length]) :: r }
  | .agn l => match m0.loops with
    | [] => m0
    | (b, _) :: _ => m0.add [.jump l b]
  | .ret l e =>
    let m1 := m0.add (exRows ss l e fr ++ [.copy l 0 fr, .jump l 0])
    { m1 with leaves := m1.leaves ++ [m1.rows.length - 1] }
  | .call l x f es =>
    let m1 := m0.add (exsRows ss l es fr ++ [.call l (slotOf ss x) fr es.length 0])
    { m1 with calls := m1.calls ++ [(m1.rows.length - 1, f)] }
  | s => m0.add (exsRows ss s.line s.exprs fr ++ [lastRow ss fr s])
def mkB (ss : List Str) (fr : Int) (m : Mk) : List Sm → Mk
  | [] => m
  | s :: t => mkB ss fr (mkS ss fr (m.add [.tick s.line]) s) t
end
def mkDef (m : Mk) (o : Df) : Mk :=
  let ss := slotsF o
  let m1 := mkB ss (ss.length + 1) { m with leaves := [] } o.body
  (m1.leads m1.leaves).add [.back o.last]
def mainFirst (pg : Pg) : Pg := (pg.filter fun o => isMain o.name) ++ pg.filter fun o => !isMain o.name
def mkAll (os : Pg) : Mk × List (Str × Nat) := os.foldl (fun s o => (mkDef s.1 o, s.2 ++ [(o.name, s.1.rows.length)])) (⟨[], [], [], []⟩, [])
def beginOf (bs : List (Str × Nat)) (f : Str) : Int := ((bs.reverse.find? fun p => decide (p.1 = f)).map fun p => (p.2 : Int)).getD 0
/-- the rows of a program -/
def rowsF (pg : Pg) : List Rw :=
  let s := mkAll (mainFirst pg)
  s.1.calls.foldl (fun rows c => leadAt rows c.1 (beginOf s.2 c.2)) s.1.rows
theorem allBd_app : ∀ {a b : List Sm}, allBd (a ++ b) = allBd a ++ allBd b
  | [], b => by rw [show allBd [] = [] from by unfold allBd; rfl]; rfl
  | s :: t, b => by rw [List.cons_append, allBd, allBd, allBd_app, List.append_assoc]
theorem allBd_one {s : Sm} : allBd [s] = allSt s := by rw [allBd, show allBd [] = [] from by unfold allBd; rfl, List.append_nil]
theorem allSt_eq (s : Sm) : allSt s = s :: (s.blocks.map allBd).flatten := by
  cases s <;> (unfold allSt Sm.blocks; simp)
end Tl
namespace Tl
open PySem PySem.Spec PyProof.Rows L2
/-! ### setdefault of a dict by numbers and texts -/
def isDK : MO → Prop
  | .dK _ => True
  | _ => False
def oSdk (o : Option MO) (k : D) (z : D) (f : D → Option MO → Prop) : Prop := match o with
  | some (.dK kvs) => match k1 k with
    | some c => kvs.length < sizeLine ∧ match valD kvs c with
      | some d => f d none
      | none => f z (some (.dK (putM kvs c z)))
    | none => False
  | _ => False
def sSdk (x k z : D) (M : MH) (Q : VD) : Prop := match x with
  | .ref a => oSdk (M a) k z fun d u => Q d (match u with
    | some o => mup M a o
    | none => M)
  | _ => False
def tSdk (to ti tz : TEt) : TEt := fun τ M Q => to τ M fun x M1 => (∃ a o, x = .ref a ∧ M1 a = some o ∧ isDK o) ∧ ti τ M1 fun k M2 => tz τ M2 fun z M3 => sSdk x k z M3 Q
section
variable {X : Cx} {E : XK} {Et : XT} {o i z : Expr} {apos cpos : Pos} {to ti tz : TEt}
theorem q_setdefault2 (ho : QE X E Et o to) (hi : QE X E Et i ti) (hz : QE X E Et z tz) (m : M2 X o "setdefault" apos i z cpos := by exact ⟨rfl, rfl, rfl, rfl⟩) : QE X E Et (.Call (.Attribute o "setdefault" apos) [i, z] [] cpos) (tSdk to ti tz) := PEimp (pe_dsetd ho hi hz m) (by
  rintro σ H Q ⟨G, F, M, τ, Qt, a, h, k⟩
  refine ⟨G, F, M, τ, _, a, h, fun x F1 H1 M1 d s1 r1 p1 q1 => ?_⟩
  obtain ⟨⟨b, mo, rfl, hb, hd⟩, q1⟩ := q1
  cases p1
  have isd : IsD H1 b := by
    obtain ⟨_, u, hu, r⟩ := r1.chg b _ hb
    cases mo with
    | dK kvs =>
      cases u with
      | dK vs => exact .inl ⟨vs, .inl hu⟩
      | _ => exact (r : False).elim
    | _ => exact hd.elim
  refine ⟨b, rfl, isd, G, F1, M1, τ, _, a.step s1 r1, q1, fun y F2 H2 M2 e s2 r2 p2 q2 => ?_⟩
  refine ⟨G, F2, M2, τ, _, a.step (s1.trans s2) r2, q2, fun w F3 H3 M3 zd s3 r3 p3 q3 => ?_⟩
  have q3 : oSdk (M3 b) e zd fun d u => Qt d (match u with
    | some o => mup M3 b o
    | none => M3) := q3
  cases q : M3 b with
  | none => rw [q] at q3; exact q3.elim
  | some mo3 =>
    rw [q] at q3
    obtain ⟨_, u, hu, r⟩ := r3.chg b mo3 q
    cases mo3 with
    | dK kvs =>
      unfold oSdk at q3
      dsimp only at q3
      cases q4 : k1 e with
      | none => simp only [q4] at q3
      | some c =>
        simp only [q4] at q3
        cases u with
        | dK vs =>
          have r : KP X.K F3 vs kvs := r
          have ec := k1_of (p2.mono s3) q4
          subst ec
          refine ⟨vs, c, hu, rfl, by rw [kp_len r]; exact q3.1, fun v hv => ?_, fun hn => ?_⟩
          · have q5 := q3.2
            have kv := kp_val r (k := c)
            cases q6 : valD kvs c with
            | none => rw [(kv.1 q6)] at hv; cases hv
            | some d =>
              rw [q6] at q5
              obtain ⟨v', e', pv⟩ := kv.2 d q6
              rw [hv] at e'
              cases e'
              exact k v F3 H3 M3 d ((s1.trans s2).trans s3) r3 pv q5
          · have q5 := q3.2
            have kv := kp_val r (k := c)
            cases q6 : valD kvs c with
            | some d =>
              obtain ⟨v', e', pv⟩ := kv.2 d q6
              rw [hn] at e'
              cases e'
            | none =>
              rw [q6] at q5
              exact k w F3 _ _ zd ((s1.trans s2).trans s3) (r3.put q (show RpO X.K F3 (.dK (putK vs c w)) (.dK (putM kvs c zd)) from kp_put p3 r)) p3 q5
        | _ => exact (r : False).elim
    | _ => exact q3.elim)
end
theorem uSdk {a : Addr} {k z : D} {M : MH} {Q : VD} : sSdk (.ref a) k z M Q = oSdk (M a) k z fun d u => Q d (match u with
    | some o => mup M a o
    | none => M) := propext Iff.rfl
theorem utSdk {to ti tz : TEt} {τ : Sg} {M : MH} {Q : VD} : tSdk to ti tz τ M Q = to τ M fun x M1 => (∃ a o, x = .ref a ∧ M1 a = some o ∧ isDK o) ∧ ti τ M1 fun k M2 => tz τ M2 fun z M3 => sSdk x k z M3 Q := propext Iff.rfl
theorem oSdk_s {kvs : List (Key × D)} {s : Str} {z : D} {f : D → Option MO → Prop} : oSdk (some (.dK kvs)) (.str s) z f = (kvs.length < 16777216 ∧ match valD kvs (.inr s) with
      | some d => f d none
      | none => f z (some (.dK (putM kvs (.inr s) z)))) := by rw [← sizeLine_eq]; rfl
/-! ### slots -/
theorem slotFrom_len : ∀ {ss : List Str} {i : Nat}, (slotFrom i ss).length = ss.length
  | [], _ => rfl
  | _ :: t, i => by rw [slotFrom, List.length_cons, List.length_cons, slotFrom_len]
theorem slotD_len {ss : List Str} : (slotD ss).length = ss.length := slotFrom_len
theorem slotFrom_val : ∀ {ss : List Str} {i : Nat} {x : Str}, valD (slotFrom i ss) (.inr x) = if x ∈ ss then some (.int ((i + ss.idxOf x + 1 : Nat) : Int)) else none
  | [], _, _ => by rw [if_neg (by simp)]; rfl
  | y :: t, i, x => by
    unfold slotFrom
    unfold valD
    rw [List.find?_cons]
    by_cases e : y = x
    · subst e
      simp
    · have h : ¬ ((Sum.inr y : Key) = .inr x) := fun h => e (Sum.inr.inj h)
      have ih := slotFrom_val (ss := t) (i := i + 1) (x := x)
      unfold valD at ih
      simp only [h, decide_false]
      rw [ih]
      have ex : (y == x) = false := by simpa using e
      by_cases hx : x ∈ t
      · rw [if_pos hx, if_pos (List.mem_cons_of_mem _ hx), List.idxOf_cons, ex]
        simp only [cond_false]
        congr 3
        omega
      · rw [if_neg hx, if_neg (by simp only [List.mem_cons, not_or]; exact ⟨fun h => e h.symm, hx⟩)]
theorem slot_there {ss : List Str} {x : Str} (h : x ∈ ss) : valD (slotD ss) (.inr x) = some (.int (slotOf ss x)) := by
  unfold slotD slotOf
  rw [slotFrom_val, if_pos h, Nat.zero_add]
theorem slot_new {ss : List Str} {x : Str} (h : x ∉ ss) : valD (slotD ss) (.inr x) = none := by
  unfold slotD
  rw [slotFrom_val, if_neg h]
theorem slotFrom_app : ∀ {ss : List Str} {i : Nat} {x : Str}, slotFrom i (ss ++ [x]) = slotFrom i ss ++ [(.inr x, .int ((i + ss.length + 1 : Nat) : Int))]
  | [], _, _ => rfl
  | y :: t, i, x => by
    rw [List.cons_append, slotFrom, slotFrom, slotFrom_app, List.cons_append, List.length_cons]
    congr 5
    omega
theorem slot_put {ss : List Str} {x : Str} (h : x ∉ ss) : putM (slotD ss) (.inr x) (.int ((ss.length : Int) + 1)) = slotD (ss ++ [x]) := by
  have hn : ¬ ((slotD ss).any fun q => decide (q.1 = .inr x)) = true := by
    intro ha
    have := slot_new h
    unfold valD at this
    rw [List.any_eq_true] at ha
    obtain ⟨q, hq, e⟩ := ha
    rw [Option.map_eq_none_iff, List.find?_eq_none] at this
    exact this q hq e
  unfold putM
  rw [if_neg hn]
  unfold slotD
  rw [slotFrom_app]
  congr 4
  omega
theorem noteN_len {ss : List Str} {x : Str} : ss.length ≤ (noteN ss x).length := by
  unfold noteN; split
  · omega
  · simp
theorem noteE_len : ∀ {e : Ex} {ss : List Str}, ss.length ≤ (noteE ss e).length
  | .num _, _ => Nat.le_refl _ | .lane, _ => Nat.le_refl _ | .lanes, _ => Nat.le_refl _ | .mine, _ => Nat.le_refl _
  | .nam _, _ => noteN_len
  | .box e, _ => noteE_len (e := e)
  | .op _ a b, _ => Nat.le_trans (noteE_len (e := a)) (noteE_len (e := b))
theorem notes_len {α : Type} {f : List Str → α → List Str} (h : ∀ ss x, ss.length ≤ (f ss x).length) : ∀ {l : List α} {ss : List Str}, ss.length ≤ (l.foldl f ss).length
  | [], _ => Nat.le_refl _
  | x :: t, ss => Nat.le_trans (h ss x) (notes_len h (l := t))
theorem mup_idem {M : MH} {a : Addr} {o : MO} (h : M a = some o) : mup M a o = M := by
  funext b
  unfold mup
  split
  · rename_i e; subst e; exact h.symm
  · rfl
/-- setdefault gives a name its slot -/
theorem sd_name {a : Addr} {M : MH} {ss : List Str} {x : Str} {n : Int} {Q : VD} (hM : M a = some (.dK (slotD ss))) (hl : (noteN ss x).length < 16777216) (hn : n = (ss.length : Int) + 1) (h : ∀ d, Q d (mup M a (.dK (slotD (noteN ss x))))) : sSdk (.ref a) (.str x) (.int n) M Q := by
  subst hn
  rw [uSdk, hM, oSdk_s]
  by_cases hx : x ∈ ss
  · have e : noteN ss x = ss := if_pos hx
    rw [e] at h hl
    rw [slot_there hx]
    refine ⟨by rw [slotD_len]; exact hl, ?_⟩
    have := h (.int (slotOf ss x))
    rw [mup_idem hM] at this
    exact this
  · have e : noteN ss x = ss ++ [x] := if_neg hx
    rw [e] at h hl
    rw [slot_new hx]
    refine ⟨by rw [slotD_len]; rw [List.length_append] at hl; omega, ?_⟩
    dsimp only
    rw [slot_put hx]
    exact h _
def Ex.inS (ss : List Str) : Ex → Prop
  | .nam x => x ∈ ss
  | .box e => e.inS ss
  | .op _ a b => a.inS ss ∧ b.inS ss
  | _ => True
theorem inS_mono {ss ts : List Str} (h : ∀ x ∈ ss, x ∈ ts) : ∀ {e : Ex}, e.inS ss → e.inS ts
  | .nam x, i => h x i
  | .box e, i => inS_mono h (e := e) i
  | .op _ a b, i => ⟨inS_mono h (e := a) i.1, inS_mono h (e := b) i.2⟩
  | .num _, _ => True.intro | .lane, _ => True.intro | .lanes, _ => True.intro | .mine, _ => True.intro
theorem noteN_sub {ss : List Str} {x : Str} : ∀ y ∈ ss, y ∈ noteN ss x := by
  intro y hy; unfold noteN; split
  · exact hy
  · exact List.mem_append_left _ hy
theorem noteN_in {ss : List Str} {x : Str} : x ∈ noteN ss x := by
  unfold noteN; split
  · assumption
  · simp
theorem noteE_sub : ∀ {e : Ex} {ss : List Str}, ∀ y ∈ ss, y ∈ noteE ss e
  | .num _, _, _, h => h | .lane, _, _, h => h | .lanes, _, _, h => h | .mine, _, _, h => h
  | .nam _, _, y, h => noteN_sub y h
  | .box e, _, y, h => noteE_sub (e := e) y h
  | .op _ a b, _, y, h => noteE_sub (e := b) y (noteE_sub (e := a) y h)
theorem noteE_in : ∀ {e : Ex} {ss : List Str}, e.inS (noteE ss e)
  | .num _, _ => True.intro | .lane, _ => True.intro | .lanes, _ => True.intro | .mine, _ => True.intro
  | .nam _, _ => noteN_in
  | .box e, _ => noteE_in (e := e)
  | .op _ a b, ss => ⟨inS_mono (noteE_sub (e := b)) (noteE_in (e := a)), noteE_in (e := b)⟩
theorem notes_sub {α : Type} {f : List Str → α → List Str} (h : ∀ ss x, ∀ y ∈ ss, y ∈ f ss x) : ∀ {l : List α} {ss : List Str}, ∀ y ∈ ss, y ∈ l.foldl f ss
  | [], _, _, i => i
  | x :: t, ss, y, i => notes_sub h (l := t) y (h ss x y i)
theorem notesE_in {ts : List Ex} : ∀ {ss : List Str}, ∀ e ∈ ts, e.inS (ts.foldl noteE ss) := by
  induction ts with
  | nil => intro ss e h; cases h
  | cons x t ih =>
    intro ss e h
    rcases List.mem_cons.mp h with rfl | h
    · exact inS_mono (notes_sub (f := noteE) (fun ss e => noteE_sub (e := e)) (l := t) (ss := noteE ss e)) noteE_in
    · exact ih e h
theorem noteS_sub (ss : List Str) (s : Sm) : ∀ y ∈ ss, y ∈ noteS ss s := by
  intro y hy
  unfold noteS
  refine notes_sub (f := noteE) (fun ss e => noteE_sub (e := e)) y ?_
  split
  · exact noteN_sub y hy
  · exact hy
theorem noteS_in {ss : List Str} {s : Sm} : (∀ e ∈ s.exprs, e.inS (noteS ss s)) ∧ ∀ x, s.given = some x → x ∈ noteS ss s := by
  unfold noteS
  refine ⟨fun e he => notesE_in e he, fun x hx => ?_⟩
  rw [hx]
  exact notes_sub (f := noteE) (fun ss e => noteE_sub (e := e)) x noteN_in
/-- every name that a statement of a def names has its slot -/
theorem slots_in {o : Df} : ∀ s ∈ allBd o.body, (∀ e ∈ s.exprs, e.inS (slotsF o)) ∧ ∀ x, s.given = some x → x ∈ slotsF o := by
  unfold slotsF
  generalize o.ps.foldl noteN [] = ss
  generalize allBd o.body = b
  induction b generalizing ss with
  | nil => intro s h; cases h
  | cons t r ih =>
    intro s h
    rcases List.mem_cons.mp h with rfl | h
    · have sub := notes_sub (f := noteS) noteS_sub (l := r) (ss := noteS ss s)
      exact ⟨fun e he => inS_mono sub (noteS_in.1 e he), fun x hx => sub x (noteS_in.2 x hx)⟩
    · exact ih _ s h
theorem is_m {M : MH} {r : Addr} {ds : List D} (h : M r = some (.lst ds)) : (lstOf M (.ref r)).isSome = true := by
  unfold lstOf; dsimp only; rw [h]; rfl
theorem ap_m {M : MH} {r : Addr} {ds : List D} {F : List D → Prop} (h : M r = some (.lst ds)) (q : F ds) : oSome (mLst M r) F := by
  unfold oSome mLst; rw [h]; exact q
end Tl
namespace Tl
open PySem PySem.Spec PyProof.Rows L2
/-! ### the maker of rows, as cells -/
structure MkA where
  s : Addr
  r : Addr
  p : Addr
  c : Addr
  v : Addr
  o : Addr
  C : Addr
  dx : Addr
  fl : List Str
def natD (n : Nat) : D := .int (n : Int)
def calD (c : Nat × Str) : D := .tup [natD c.1, .str c.2]
abbrev Lps := List (Addr × Nat × List Nat)
def lpD (l : Addr × Nat × List Nat) : D := .tup [natD l.2.1, .ref l.1]
def lpC (l : Addr × Nat × List Nat) : Addr × MO := (l.1, .lst (l.2.2.map natD))
def MkA.obj (A : MkA) (fr : Int) : MO := .obj A.C A.dx A.fl [.ref A.r, .ref A.p, .int fr, .ref A.c, .ref A.v, .ref A.o]
/-- the cells of a maker; the last loop first -/
def MkA.cells (A : MkA) (ss : List Str) (fr : Int) (m : Mk) (L : Lps) : List (Addr × MO) :=
  (A.r, .lst (m.rows.map Rw.d)) :: (A.p, .dK (slotD ss)) :: (A.s, A.obj fr) :: (A.c, .lst (m.calls.map calD)) :: (A.v, .lst (m.leaves.map natD)) :: (A.o, .lst (L.reverse.map lpD)) :: L.map lpC
structure MkS (A : MkA) (M0 M : MH) (ss : List Str) (fr : Int) (m : Mk) (L : Lps) : Prop where
  cel : Cel M0 M (A.cells ss fr m L)
  lps : m.loops = L.map (·.2)
section
variable {A : MkA} {M0 M : MH} {ss : List Str} {fr : Int} {m : Mk} {L : Lps}
theorem MkS.r_ (h : MkS A M0 M ss fr m L) : M A.r = some (.lst (m.rows.map Rw.d)) := h.cel.at_ (A.r, _) (by unfold MkA.cells; simp)
theorem MkS.p_ (h : MkS A M0 M ss fr m L) : M A.p = some (.dK (slotD ss)) := h.cel.at_ (A.p, .dK (slotD ss)) (by unfold MkA.cells; simp)
theorem MkS.s_ (h : MkS A M0 M ss fr m L) : M A.s = some (A.obj fr) := h.cel.at_ (A.s, A.obj fr) (by unfold MkA.cells; simp)
theorem MkS.c_ (h : MkS A M0 M ss fr m L) : M A.c = some (.lst (m.calls.map calD)) := h.cel.at_ (A.c, .lst (m.calls.map calD)) (by unfold MkA.cells; simp)
theorem MkS.v_ (h : MkS A M0 M ss fr m L) : M A.v = some (.lst (m.leaves.map natD)) := h.cel.at_ (A.v, .lst (m.leaves.map natD)) (by unfold MkA.cells; simp)
theorem MkS.o_ (h : MkS A M0 M ss fr m L) : M A.o = some (.lst (L.reverse.map lpD)) := h.cel.at_ (A.o, .lst (L.reverse.map lpD)) (by unfold MkA.cells; simp)
theorem MkS.rows (h : MkS A M0 M ss fr m L) {rs : List Rw} : MkS A M0 (mup M A.r (.lst (rs.map Rw.d))) ss fr { m with rows := rs } L :=
  ⟨Cel.put (pre := []) h.cel, h.lps⟩
theorem MkS.calls (h : MkS A M0 M ss fr m L) {cs : List (Nat × Str)} : MkS A M0 (mup M A.c (.lst (cs.map calD))) ss fr { m with calls := cs } L :=
  ⟨Cel.put (pre := [(A.r, .lst (m.rows.map Rw.d)), (A.p, .dK (slotD ss)), (A.s, A.obj fr)]) h.cel, h.lps⟩
theorem MkS.leaves (h : MkS A M0 M ss fr m L) {vs : List Nat} : MkS A M0 (mup M A.v (.lst (vs.map natD))) ss fr { m with leaves := vs } L :=
  ⟨Cel.put (pre := [(A.r, .lst (m.rows.map Rw.d)), (A.p, .dK (slotD ss)), (A.s, A.obj fr), (A.c, .lst (m.calls.map calD))]) h.cel, h.lps⟩
/-- a number joins the last loop's -/
theorem MkS.leaving {q : Addr} {b : Nat} {lv lv' : List Nat} {R : Lps} (h : MkS A M0 M ss fr m ((q, b, lv) :: R)) : MkS A M0 (mup M q (.lst (lv'.map natD))) ss fr { m with loops := (b, lv') :: R.map (·.2) } ((q, b, lv') :: R) := by
  refine ⟨?_, rfl⟩
  have := Cel.put (o' := .lst (lv'.map natD)) (pre := [(A.r, .lst (m.rows.map Rw.d)), (A.p, .dK (slotD ss)), (A.s, A.obj fr), (A.c, .lst (m.calls.map calD)), (A.v, .lst (m.leaves.map natD)), (A.o, .lst (((q, b, lv) :: R).reverse.map lpD))]) (a := q) (post := R.map lpC) h.cel
  unfold MkA.cells
  simp only [List.reverse_cons, List.map_append, List.map_cons, List.map_nil, lpD, lpC] at this ⊢
  exact this
theorem MkS.q_ {q : Addr} {b : Nat} {lv : List Nat} {R : Lps} (h : MkS A M0 M ss fr m ((q, b, lv) :: R)) : M q = some (.lst (lv.map natD)) := h.cel.at_ (q, .lst (lv.map natD)) (by unfold MkA.cells; simp [lpC])
/-- a loop begins -/
theorem MkS.begin_ {q : Addr} {b : Nat} {lv : List Nat} (h : MkS A M0 M ss fr m L) (hq : M q = none) : MkS A M0 (mup (mup M q (.lst (lv.map natD))) A.o (.lst (((q, b, lv) :: L).reverse.map lpD))) ss fr { m with loops := (b, lv) :: m.loops } ((q, b, lv) :: L) := by
  refine ⟨?_, by rw [h.lps]; rfl⟩
  have h1 := h.cel.fresh (p := q) (o := .lst (lv.map natD)) hq
  have h2 : Cel M0 (mup M q (.lst (lv.map natD))) ([(A.r, .lst (m.rows.map Rw.d)), (A.p, .dK (slotD ss)), (A.s, A.obj fr), (A.c, .lst (m.calls.map calD)), (A.v, .lst (m.leaves.map natD))] ++ (A.o, .lst (L.reverse.map lpD)) :: (q, .lst (lv.map natD)) :: L.map lpC) := by
    refine h1.perm ?_
    exact (List.perm_middle (l₁ := [(A.r, .lst (m.rows.map Rw.d)), (A.p, .dK (slotD ss)), (A.s, A.obj fr), (A.c, .lst (m.calls.map calD)), (A.v, .lst (m.leaves.map natD)), (A.o, .lst (L.reverse.map lpD))])).symm
  exact h2.put
/-- a loop ends -/
theorem MkS.end_ {q : Addr} {b : Nat} {lv : List Nat} {R : Lps} (h : MkS A M0 M ss fr m ((q, b, lv) :: R)) : MkS A M0 (mup M A.o (.lst (R.reverse.map lpD))) ss fr { m with loops := R.map (·.2) } R := by
  refine ⟨?_, rfl⟩
  have h1 : Cel M0 (mup M A.o (.lst (R.reverse.map lpD))) ([(A.r, .lst (m.rows.map Rw.d)), (A.p, .dK (slotD ss)), (A.s, A.obj fr), (A.c, .lst (m.calls.map calD)), (A.v, .lst (m.leaves.map natD)), (A.o, .lst (R.reverse.map lpD))] ++ (q, .lst (lv.map natD)) :: R.map lpC) :=
    Cel.put (pre := [(A.r, .lst (m.rows.map Rw.d)), (A.p, .dK (slotD ss)), (A.s, A.obj fr), (A.c, .lst (m.calls.map calD)), (A.v, .lst (m.leaves.map natD))]) h.cel
  exact h1.forget
end
end Tl
namespace Tl
open PySem PySem.Spec PyProof.Rows L2
theorem cut_init3 {a b c : D} : cutD [a, b, c] none (some (-1)) = [a, b] := rfl
theorem cut_init4 {a b c d : D} : cutD [a, b, c, d] none (some (-1)) = [a, b, c] := rfl
theorem cut_init6 {a b c d e f : D} : cutD [a, b, c, d, e, f] none (some (-1)) = [a, b, c, d, e] := rfl
theorem apl_m {M : MH} {r : Addr} {ds : List D} {F : List D → Prop} (h : M r = some (.lst ds)) (q : F ds) : oSome (lstOf M (.ref r)) F := by
  unfold oSome lstOf; dsimp only; rw [h]; exact q
def Rw.isLead : Rw → Prop
  | .split _ _ _ => True | .jump _ _ => True | .call _ _ _ _ _ => True | _ => False
/-- the row k is one that leads -/
def ledAt (rows : List Rw) (k : Nat) : Prop := ∃ x, rows[k]? = some x ∧ Rw.isLead x
theorem leadAt_set {rows : List Rw} {k : Nat} {t : Int} {x : Rw} (h : rows[k]? = some x) : (leadAt rows k t).map Rw.d = (rows.map Rw.d).set k (x.lead t).d := by
  unfold leadAt
  rw [← List.map_set]
  congr 1
  apply List.ext_getElem?
  intro j
  rw [List.getElem?_modify, List.getElem?_set]
  by_cases e : k = j
  · subst e
    rw [h]
    have := (List.getElem?_eq_some_iff.mp h).1
    simp [this]
  · simp [e]
theorem leadAt_len {rows : List Rw} {k : Nat} {t : Int} : (leadAt rows k t).length = rows.length := by unfold leadAt; simp
theorem ledAt_lead {rows : List Rw} {k j : Nat} {t : Int} (h : ledAt rows j) : ledAt (leadAt rows k t) j := by
  obtain ⟨x, hx, h2⟩ := h
  unfold ledAt leadAt
  rw [List.getElem?_modify]
  by_cases e : k = j
  · subst e
    rw [hx]
    refine ⟨x.lead t, by simp, ?_⟩
    cases x <;> exact h2
  · exact ⟨x, by simp [e, hx], h2⟩
theorem ledAt_app {rows rs : List Rw} {j : Nat} (h : ledAt rows j) : ledAt (rows ++ rs) j := by
  obtain ⟨x, hx, h2⟩ := h
  exact ⟨x, by rw [List.getElem?_append_left (List.getElem?_eq_some_iff.mp hx).1]; exact hx, h2⟩
theorem ledAt_last {rows : List Rw} {x : Rw} (h : x.isLead) : ledAt (rows ++ [x]) rows.length := ⟨x, by simp, h⟩
theorem MkS.rowsA {A : MkA} {M0 M : MH} {ss : List Str} {fr : Int} {m : Mk} {L : Lps} (h : MkS A M0 M ss fr m L) (rs : List Rw) (x : Rw) : MkS A M0 (mup M A.r (.lst (rs.map Rw.d ++ [x.d]))) ss fr { m with rows := rs ++ [x] } L := by
  have := h.rows (rs := rs ++ [x])
  rw [List.map_append] at this
  exact this
end Tl
namespace Tl
open PySem PySem.Spec PyProof.Rows L2
/-- what a maker keeps: its lists are no longer than its rows, and the rows that wait lead -/
structure Mk.ok (m : Mk) : Prop where
  lv : m.leaves.length ≤ m.rows.length
  cs : m.calls.length ≤ m.rows.length
  lp : m.loops.length ≤ m.rows.length
  ls : ∀ l ∈ m.loops, l.2.length ≤ m.rows.length
  lvd : ∀ k ∈ m.leaves, ledAt m.rows k
  csd : ∀ c ∈ m.calls, ledAt m.rows c.1
  lsd : ∀ l ∈ m.loops, ∀ k ∈ l.2, ledAt m.rows k
section
variable {A : MkA} {M0 M : MH} {ss : List Str} {fr : Int} {m : Mk} {L : Lps}
theorem MkS.leavesA (h : MkS A M0 M ss fr m L) (x : Nat) : MkS A M0 (mup M A.v (.lst (m.leaves.map natD ++ [natD x]))) ss fr { m with leaves := m.leaves ++ [x] } L := by
  have := h.leaves (vs := m.leaves ++ [x])
  rw [List.map_append] at this
  exact this
theorem MkS.callsA (h : MkS A M0 M ss fr m L) (x : Nat × Str) : MkS A M0 (mup M A.c (.lst (m.calls.map calD ++ [calD x]))) ss fr { m with calls := m.calls ++ [x] } L := by
  have := h.calls (cs := m.calls ++ [x])
  rw [List.map_append] at this
  exact this
end
theorem MkS.leavingA {A : MkA} {M0 M : MH} {ss : List Str} {fr : Int} {m : Mk} {q : Addr} {b : Nat} {lv : List Nat} {R : Lps} (h : MkS A M0 M ss fr m ((q, b, lv) :: R)) (x : Nat) : MkS A M0 (mup M q (.lst (lv.map natD ++ [natD x]))) ss fr { m with loops := (b, lv ++ [x]) :: R.map (·.2) } ((q, b, lv ++ [x]) :: R) := by
  have := h.leaving (lv' := lv ++ [x])
  rw [List.map_append] at this
  exact this
theorem atI_lst1 {α : Type} {xs : List α} {x : α} : atI (xs ++ [x]) (-1) = some x := by
  unfold atI ixN
  rw [if_neg (by omega), if_pos (by rw [List.length_append]; simp only [List.length_cons, List.length_nil]; omega)]
  show (xs ++ [x])[((-1 : Int) + ((xs ++ [x]).length : Nat)).toNat]? = some x
  rw [show ((-1 : Int) + ((xs ++ [x]).length : Nat)).toNat = xs.length by rw [List.length_append]; simp only [List.length_cons, List.length_nil]; omega]
  simp
theorem exs_app {ss : List Str} {l : Int} {zs : List Ex} : ∀ {ys : List Ex} {a : Int}, exsRows ss l (ys ++ zs) a = exsRows ss l ys a ++ exsRows ss l zs (a + (ys.length : Int))
  | [], a => by rw [List.nil_append, show exsRows ss l [] a = [] from rfl, List.nil_append, List.length_nil]; congr 1; omega
  | y :: t, a => by
    rw [List.cons_append, exsRows, exsRows, exs_app, List.append_assoc, List.length_cons]
    congr 3
    omega
theorem exs_one {ss : List Str} {l : Int} {x : Ex} {a : Int} : exsRows ss l [x] a = exRows ss l x a := by
  rw [exsRows, show exsRows ss l [] (a + 1) = [] from rfl, List.append_nil]
theorem exs_len_le {ss : List Str} {l : Int} {ys zs : List Ex} {a : Int} : (exsRows ss l ys a).length ≤ (exsRows ss l (ys ++ zs) a).length := by
  rw [exs_app, List.length_append]; omega
def isPlain : Sm → Prop
  | .set _ _ _ => True | .put _ _ _ => True | .tell _ _ => True | .join _ _ _ _ => True | .meet _ => True | .stop _ => True | _ => False
theorem mkS_plain {ss : List Str} {fr : Int} {m : Mk} {s : Sm} (h : isPlain s) : mkS ss fr m s = m.add (exsRows ss s.line s.exprs fr ++ [lastRow ss fr s]) := by
  cases s <;> first | (exact h.elim) | (unfold mkS; rfl)
end Tl
namespace Tl
open PySem PySem.Spec PyProof.Rows L2
/-! ### what a maker keeps, through a block -/
structure Mk.ext (m m' : Mk) : Prop where
  len : m.rows.length ≤ m'.rows.length
  led : ∀ k, ledAt m.rows k → ledAt m'.rows k
theorem Mk.ext.refl {m : Mk} : Mk.ext m m := ⟨Nat.le_refl _, fun _ h => h⟩
theorem Mk.ext.trans {a b c : Mk} (h : Mk.ext a b) (g : Mk.ext b c) : Mk.ext a c := ⟨Nat.le_trans h.len g.len, fun k i => g.led k (h.led k i)⟩
theorem Mk.ext.add {m : Mk} {rs : List Rw} : Mk.ext m (m.add rs) := ⟨by unfold Mk.add; simp, fun k h => by unfold Mk.add; exact ledAt_app h⟩
theorem Mk.ext.lead {m : Mk} {k : Nat} : Mk.ext m (m.lead k) := ⟨by unfold Mk.lead; rw [leadAt_len]; exact Nat.le_refl _, fun j h => by unfold Mk.lead; exact ledAt_lead h⟩
theorem lead_len {m : Mk} {k : Nat} : (m.lead k).rows.length = m.rows.length := by unfold Mk.lead; exact leadAt_len
theorem leads_len : ∀ {ks : List Nat} {m : Mk}, (m.leads ks).rows.length = m.rows.length
  | [], _ => rfl
  | k :: t, m => by
    show ((m.lead k).leads t).rows.length = _
    rw [leads_len, lead_len]
theorem Mk.ext.leads : ∀ {ks : List Nat} {m : Mk}, Mk.ext m (m.leads ks)
  | [], _ => Mk.ext.refl
  | k :: t, m => Mk.ext.trans Mk.ext.lead (Mk.ext.leads (ks := t) (m := m.lead k))
theorem leads_rest : ∀ {ks : List Nat} {m : Mk}, (m.leads ks).calls = m.calls ∧ (m.leads ks).leaves = m.leaves ∧ (m.leads ks).loops = m.loops
  | [], _ => ⟨rfl, rfl, rfl⟩
  | k :: t, m => leads_rest (ks := t) (m := m.lead k)
theorem leads_rows : ∀ {ks : List Nat} {m : Mk}, (m.leads ks).rows = ks.foldl (fun rs k => leadAt rs k rs.length) m.rows
  | [], _ => rfl
  | k :: t, m => leads_rows (ks := t) (m := m.lead k)
/-- the same waits, in more rows -/
theorem Mk.ok.same {m m' : Mk} (h : m.ok) (e : Mk.ext m m') (h1 : m'.calls = m.calls) (h2 : m'.leaves = m.leaves) (h3 : m'.loops = m.loops) : m'.ok := by
  refine ⟨?_, ?_, ?_, ?_, ?_, ?_, ?_⟩
  · rw [h2]; exact Nat.le_trans h.lv e.len
  · rw [h1]; exact Nat.le_trans h.cs e.len
  · rw [h3]; exact Nat.le_trans h.lp e.len
  · rw [h3]; exact fun l hl => Nat.le_trans (h.ls l hl) e.len
  · rw [h2]; exact fun k hk => e.led k (h.lvd k hk)
  · rw [h1]; exact fun c hc => e.led _ (h.csd c hc)
  · rw [h3]; exact fun l hl k hk => e.led k (h.lsd l hl k hk)
theorem Mk.ok.add {m : Mk} {rs : List Rw} (h : m.ok) : (m.add rs).ok := h.same Mk.ext.add rfl rfl rfl
theorem Mk.ok.lead {m : Mk} {k : Nat} (h : m.ok) : (m.lead k).ok := h.same Mk.ext.lead rfl rfl rfl
theorem Mk.ok.leads {m : Mk} {ks : List Nat} (h : m.ok) : (m.leads ks).ok := h.same Mk.ext.leads leads_rest.1 leads_rest.2.1 leads_rest.2.2
/-- how a block leaves the loops -/
def lpsLike (a b : List (Nat × List Nat)) : Prop := match a with
  | [] => b = []
  | (x, lv) :: r => ∃ z, b = (x, lv ++ z) :: r
theorem lpsLike.refl {a : List (Nat × List Nat)} : lpsLike a a := by
  cases a with
  | nil => rfl
  | cons p r => exact ⟨[], by rw [List.append_nil]⟩
theorem lpsLike.trans {a b c : List (Nat × List Nat)} (h : lpsLike a b) (g : lpsLike b c) : lpsLike a c := by
  cases a with
  | nil =>
    have h : b = [] := h
    subst h; exact g
  | cons p r =>
    obtain ⟨z, rfl⟩ := h
    obtain ⟨z', rfl⟩ := g
    exact ⟨z ++ z', by rw [List.append_assoc]⟩
theorem lpsLike.ne {a b : List (Nat × List Nat)} (h : lpsLike a b) (n : a ≠ []) : b ≠ [] := by
  cases a with
  | nil => exact (n rfl).elim
  | cons p r => obtain ⟨z, rfl⟩ := h; exact fun e => by cases e
structure Mk.keeps (m m' : Mk) : Prop where
  ok : m.ok → m'.ok
  ext : Mk.ext m m'
  lps : lpsLike m.loops m'.loops
theorem Mk.keeps.refl {m : Mk} : Mk.keeps m m := ⟨id, Mk.ext.refl, lpsLike.refl⟩
theorem Mk.keeps.trans {a b c : Mk} (h : Mk.keeps a b) (g : Mk.keeps b c) : Mk.keeps a c := ⟨fun o => g.ok (h.ok o), h.ext.trans g.ext, h.lps.trans g.lps⟩
theorem Mk.keeps.add {m : Mk} {rs : List Rw} : Mk.keeps m (m.add rs) := ⟨fun o => o.add, Mk.ext.add, lpsLike.refl⟩
theorem Mk.keeps.lead {m : Mk} {k : Nat} : Mk.keeps m (m.lead k) := ⟨fun o => o.lead, Mk.ext.lead, lpsLike.refl⟩
theorem Mk.keeps.leads {m : Mk} {ks : List Nat} : Mk.keeps m (m.leads ks) := ⟨fun o => o.leads, Mk.ext.leads, by rw [leads_rest.2.2]; exact lpsLike.refl⟩
theorem add_split_led {m : Mk} {rs : List Rw} {x : Rw} (h : x.isLead) : ledAt (m.add (rs ++ [x])).rows ((m.add (rs ++ [x])).rows.length - 1) := by
  have := ledAt_last (rows := m.rows ++ rs) h
  unfold Mk.add
  dsimp only
  rw [← List.append_assoc, List.length_append, List.length_singleton, Nat.add_sub_cancel]
  exact this
mutual
theorem mkS_keeps (ss : List Str) (fr : Int) : ∀ (s : Sm) (m : Mk), Mk.keeps m (mkS ss fr m s)
  | .if1 l e b, m => by
    unfold mkS
    exact (Mk.keeps.add.trans (mkB_keeps ss fr b _)).trans Mk.keeps.lead
  | .if2 l e b c, m => by
    unfold mkS
    exact ((((Mk.keeps.add.trans (mkB_keeps ss fr b _)).trans Mk.keeps.add).trans Mk.keeps.lead).trans (mkB_keeps ss fr c _)).trans Mk.keeps.lead
  | .whl l e b, m => by
    unfold mkS
    dsimp only
    have hl := add_split_led (m := m) (rs := exRows ss l e fr) (x := .split l fr 0) True.intro
    have hp : 0 < (m.add (exRows ss l e fr ++ [.split l fr 0])).rows.length := by unfold Mk.add; simp only [List.length_append, List.length_cons, List.length_nil]; omega
    have hp2 : m.rows.length + 1 ≤ (m.add (exRows ss l e fr ++ [.split l fr 0])).rows.length := by unfold Mk.add; simp only [List.length_append, List.length_cons, List.length_nil]; omega
    have h1 : Mk.keeps m (m.add (exRows ss l e fr ++ [.split l fr 0])) := Mk.keeps.add
    have hlp : (m.add (exRows ss l e fr ++ [.split l fr 0])).loops = m.loops := rfl
    generalize m.add (exRows ss l e fr ++ [.split l fr 0]) = m1 at *
    have h2 := (mkB_keeps ss fr b { m1 with loops := (m.rows.length - 1, [m1.rows.length - 1]) :: m1.loops }).trans (Mk.keeps.add (rs := [.jump l (m.rows.length - 1 : Nat)]))
    generalize (mkB ss fr { m1 with loops := (m.rows.length - 1, [m1.rows.length - 1]) :: m1.loops } b).add [.jump l (m.rows.length - 1 : Nat)] = m2 at *
    obtain ⟨z, hz⟩ := h2.lps
    rw [hz]
    dsimp only
    have hk : m.ok → m2.ok := fun o => by
      have o1 := h1.ok o
      refine h2.ok ⟨o1.lv, o1.cs, ?_, ?_, o1.lvd, o1.csd, ?_⟩
      · dsimp only
        rw [List.length_cons, hlp]
        have := o.lp
        omega
      · intro q hq
        rcases List.mem_cons.mp hq with rfl | hq
        · exact hp
        · exact o1.ls q hq
      · intro q hq k hk
        rcases List.mem_cons.mp hq with rfl | hq
        · rw [List.mem_singleton.mp hk]; exact hl
        · exact o1.lsd q hq k hk
    have he : Mk.ext m m2 := h1.ext.trans ⟨h2.ext.len, h2.ext.led⟩
    refine Mk.keeps.trans (b := { m2 with loops := m1.loops }) ⟨fun o => ?_, ⟨he.len, he.led⟩, by rw [hlp]; exact lpsLike.refl⟩ Mk.keeps.leads
    have o2 := hk o
    refine ⟨o2.lv, o2.cs, ?_, ?_, o2.lvd, o2.csd, ?_⟩
    · have := o2.lp
      rw [hz, List.length_cons] at this
      dsimp only
      omega
    · exact fun q hq => o2.ls q (by rw [hz]; exact List.mem_cons_of_mem _ hq)
    · exact fun q hq => o2.lsd q (by rw [hz]; exact List.mem_cons_of_mem _ hq)
  | .brk l, m => by
    unfold mkS
    split
    · exact Mk.keeps.refl
    · rename_i b lv r e
      have he : ∀ m' : Mk, m'.rows = m.rows ++ [.jump l b] → Mk.ext m m' := fun m' h => ⟨by rw [h]; simp, fun k i => by rw [h]; exact ledAt_app i⟩
      refine ⟨fun o => ?_, he _ rfl, by rw [e]; exact ⟨_, rfl⟩⟩
      have e' := he (m' := ⟨m.rows ++ [.jump l b], m.calls, m.leaves, (b, lv ++ [m.rows.length]) :: r⟩) rfl
      have hlen : (m.rows ++ [Rw.jump l b]).length = m.rows.length + 1 := by simp
      refine ⟨Nat.le_trans o.lv e'.len, Nat.le_trans o.cs e'.len, ?_, ?_, fun k h => e'.led k (o.lvd k h), fun c h => e'.led _ (o.csd c h), ?_⟩
      · have := o.lp
        rw [e, List.length_cons] at this
        dsimp only
        rw [List.length_cons, hlen]
        omega
      · intro q hq
        rcases List.mem_cons.mp hq with rfl | hq
        · have := o.ls (b, lv) (by rw [e]; simp)
          dsimp only at this ⊢
          rw [hlen, List.length_append, List.length_singleton]
          omega
        · exact Nat.le_trans (o.ls q (by rw [e]; exact List.mem_cons_of_mem _ hq)) e'.len
      · intro q hq k hk
        rcases List.mem_cons.mp hq with rfl | hq
        · rcases List.mem_append.mp hk with hk | hk
          · exact e'.led k (o.lsd (b, lv) (by rw [e]; simp) k hk)
          · rw [List.mem_singleton.mp hk]
            exact ledAt_last True.intro
        · exact e'.led k (o.lsd q (by rw [e]; exact List.mem_cons_of_mem _ hq) k hk)
  | .agn l, m => by
    unfold mkS
    split
    · exact Mk.keeps.refl
    · exact Mk.keeps.add
  | .ret l e, m => by
    unfold mkS
    dsimp only
    have hl := add_split_led (m := m) (rs := exRows ss l e fr ++ [.copy l 0 fr]) (x := .jump l 0) True.intro
    rw [List.append_assoc] at hl
    have h1 : Mk.keeps m (m.add (exRows ss l e fr ++ [.copy l 0 fr, .jump l 0])) := Mk.keeps.add
    have hp : m.rows.length + 1 ≤ (m.add (exRows ss l e fr ++ [.copy l 0 fr, .jump l 0])).rows.length := by unfold Mk.add; simp only [List.length_append, List.length_cons, List.length_nil]; omega
    have hlv : (m.add (exRows ss l e fr ++ [.copy l 0 fr, .jump l 0])).leaves = m.leaves := rfl
    simp only [List.cons_append, List.nil_append] at hl
    generalize m.add (exRows ss l e fr ++ [.copy l 0 fr, .jump l 0]) = m1 at *
    refine ⟨fun o => ?_, ⟨h1.ext.len, h1.ext.led⟩, h1.lps⟩
    have o1 := h1.ok o
    refine ⟨?_, o1.cs, o1.lp, o1.ls, ?_, o1.csd, o1.lsd⟩
    · have := o.lv
      dsimp only
      rw [List.length_append, List.length_singleton, hlv]
      omega
    · intro k hk
      rcases List.mem_append.mp hk with hk | hk
      · exact o1.lvd k hk
      · rw [List.mem_singleton.mp hk]; exact hl
  | .call l x f es, m => by
    unfold mkS
    dsimp only
    have hl := add_split_led (m := m) (rs := exsRows ss l es fr) (x := .call l (slotOf ss x) fr es.length 0) True.intro
    have h1 : Mk.keeps m (m.add (exsRows ss l es fr ++ [.call l (slotOf ss x) fr es.length 0])) := Mk.keeps.add
    have hp : m.rows.length + 1 ≤ (m.add (exsRows ss l es fr ++ [.call l (slotOf ss x) fr es.length 0])).rows.length := by unfold Mk.add; simp only [List.length_append, List.length_cons, List.length_nil]; omega
    have hlv : (m.add (exsRows ss l es fr ++ [.call l (slotOf ss x) fr es.length 0])).calls = m.calls := rfl
    generalize m.add (exsRows ss l es fr ++ [.call l (slotOf ss x) fr es.length 0]) = m1 at *
    refine ⟨fun o => ?_, ⟨h1.ext.len, h1.ext.led⟩, h1.lps⟩
    have o1 := h1.ok o
    refine ⟨o1.lv, ?_, o1.lp, o1.ls, o1.lvd, ?_, o1.lsd⟩
    · have := o.cs
      dsimp only
      rw [List.length_append, List.length_singleton, hlv]
      omega
    · intro c hc
      rcases List.mem_append.mp hc with hc | hc
      · exact o1.csd c hc
      · rw [List.mem_singleton.mp hc]; exact hl
  | .set .., m => by unfold mkS; exact Mk.keeps.add
  | .put .., m => by unfold mkS; exact Mk.keeps.add
  | .tell .., m => by unfold mkS; exact Mk.keeps.add
  | .join .., m => by unfold mkS; exact Mk.keeps.add
  | .meet .., m => by unfold mkS; exact Mk.keeps.add
  | .stop .., m => by unfold mkS; exact Mk.keeps.add
theorem mkB_keeps (ss : List Str) (fr : Int) : ∀ (b : List Sm) (m : Mk), Mk.keeps m (mkB ss fr m b)
  | [], m => by unfold mkB; exact Mk.keeps.refl
  | s :: t, m => by
    unfold mkB
    exact (Mk.keeps.add.trans (mkS_keeps ss fr s _)).trans (mkB_keeps ss fr t _)
end
theorem mkB_app {ss : List Str} {fr : Int} : ∀ {a b : List Sm} {m : Mk}, mkB ss fr m (a ++ b) = mkB ss fr (mkB ss fr m a) b
  | [], b, m => by rw [List.nil_append, show mkB ss fr m [] = m from by unfold mkB; rfl]
  | s :: t, b, m => by
    rw [List.cons_append, mkB, mkB, mkB_app]
theorem mkB_one {ss : List Str} {fr : Int} {s : Sm} {m : Mk} : mkB ss fr m [s] = mkS ss fr (m.add [.tick s.line]) s := by
  rw [mkB, show ∀ m, mkB ss fr m [] = m from fun m => by unfold mkB; rfl]
theorem mkB_nil {ss : List Str} {fr : Int} {m : Mk} : mkB ss fr m [] = m := by unfold mkB; rfl
/-! what a block must be for its rows to be made -/
mutual
def inLp (lp : Prop) : Sm → Prop
  | .brk _ => lp | .agn _ => lp
  | .if1 _ _ b => inLps lp b
  | .if2 _ _ b c => inLps lp b ∧ inLps lp c
  | .whl _ _ b => inLps True b
  | _ => True
def inLps (lp : Prop) : List Sm → Prop
  | [] => True
  | s :: t => inLp lp s ∧ inLps lp t
end
structure okRs (ss : List Str) (s : Sm) : Prop where
  len : s.exprs.length ≤ 1000
  ex : ∀ e ∈ s.exprs, e.deep < 12 ∧ e.inS ss
  gv : ∀ x, s.given = some x → x ∈ ss
structure okRb (ss : List Str) (lp : Prop) (b : List Sm) : Prop where
  st : ∀ s ∈ allBd b, okRs ss s
  lp : inLps lp b
theorem inLps_mem {lp : Prop} : ∀ {b : List Sm}, inLps lp b → ∀ s ∈ b, inLp lp s
  | _ :: _, h, s, hs => by
    unfold inLps at h
    rcases List.mem_cons.mp hs with rfl | hs
    · exact h.1
    · exact inLps_mem h.2 s hs
theorem allBd_mem : ∀ {b : List Sm} {s : Sm}, s ∈ b → ∀ t ∈ allSt s, t ∈ allBd b
  | x :: r, s, hs, t, ht => by
    rw [allBd]
    rcases List.mem_cons.mp hs with rfl | hs
    · exact List.mem_append_left _ ht
    · exact List.mem_append_right _ (allBd_mem hs t ht)
theorem okRb.at_ {ss : List Str} {lp : Prop} {b : List Sm} (h : okRb ss lp b) {s : Sm} (hs : s ∈ b) : okRs ss s ∧ inLp lp s ∧ ∀ t ∈ allSt s, okRs ss t := by
  refine ⟨h.st s (allBd_mem hs s ?_), inLps_mem h.lp s hs, fun t ht => h.st t (allBd_mem hs t ht)⟩
  rw [allSt_eq]; simp
/-! a cell more or less -/
theorem Cel.base {M0 M : MH} {cs : List (Addr × MO)} {b : Addr} {o o' : MO} (h : Cel M0 M cs) (hb : M0 b = some o) : Cel (mup M0 b o') (mup M b o') cs := by
  have n2 : ∀ c ∈ cs, c.1 ≠ b := fun c hc e => by have := h.new c hc; rw [e, hb] at this; cases this
  refine ⟨h.nd, fun c hc => by rw [mup_ne (n2 c hc)]; exact h.at_ c hc, fun a u e => ?_, fun c hc => by rw [mup_ne (n2 c hc)]; exact h.new c hc⟩
  unfold mup at e ⊢
  split
  · rename_i q; rw [if_pos q] at e; exact e
  · rename_i q; rw [if_neg q] at e; exact h.old a u e
theorem leads_eq {ks : List Nat} {m : Mk} : m.leads ks = ⟨ks.foldl (fun rs k => leadAt rs k rs.length) m.rows, m.calls, m.leaves, m.loops⟩ := by
  have h1 := leads_rows (ks := ks) (m := m)
  obtain ⟨h2, h3, h4⟩ := leads_rest (ks := ks) (m := m)
  generalize m.leads ks = m' at *
  cases m'
  simp only at h1 h2 h3 h4
  subst h1 h2 h3 h4
  rfl
def Mk.into (m : Mk) (b : Nat) (lv : List Nat) : Mk := ⟨m.rows, m.calls, m.leaves, (b, lv) :: m.loops⟩
def Mk.out (m : Mk) (r : List (Nat × List Nat)) : Mk := ⟨m.rows, m.calls, m.leaves, r⟩
theorem mkS_whl {ss : List Str} {fr : Int} {m : Mk} {l : Int} {e : Ex} {b : List Sm} {lv : List Nat} (h : (mkB ss fr ((m.add (exRows ss l e fr ++ [.split l fr 0])).into (m.rows.length - 1) [m.rows.length + (exRows ss l e fr).length]) b).loops = (m.rows.length - 1, lv) :: m.loops) :
    mkS ss fr m (.whl l e b) = (((mkB ss fr ((m.add (exRows ss l e fr ++ [.split l fr 0])).into (m.rows.length - 1) [m.rows.length + (exRows ss l e fr).length]) b).add [.jump l (m.rows.length - 1 : Nat)]).out m.loops).leads lv := by
  unfold mkS
  dsimp only
  rw [show ((m.add (exRows ss l e fr ++ [.split l fr 0])).rows.length - 1) = m.rows.length + (exRows ss l e fr).length by unfold Mk.add; simp [List.append_assoc]]
  rw [show (m.add (exRows ss l e fr ++ [.split l fr 0])).loops = m.loops from rfl]
  change (match ((mkB ss fr ((m.add (exRows ss l e fr ++ [.split l fr 0])).into (m.rows.length - 1) [m.rows.length + (exRows ss l e fr).length]) b).add [.jump l (m.rows.length - 1 : Nat)]).loops with
    | [] => _
    | (_, lv) :: r => _) = _
  rw [show ((mkB ss fr ((m.add (exRows ss l e fr ++ [.split l fr 0])).into (m.rows.length - 1) [m.rows.length + (exRows ss l e fr).length]) b).add [.jump l (m.rows.length - 1 : Nat)]).loops = _ from h]
  rfl
theorem Mk.ok.loop {m : Mk} (o : m.ok) (h : m.loops.length + 1 ≤ m.rows.length) {k b : Nat} (hl : ledAt m.rows k) : (m.into b [k]).ok := by
  refine ⟨o.lv, o.cs, by unfold Mk.into; simpa using h, ?_, o.lvd, o.csd, ?_⟩
  · intro q hq
    rcases List.mem_cons.mp hq with rfl | hq
    · show 1 ≤ m.rows.length
      omega
    · exact o.ls q hq
  · intro q hq k' hk
    rcases List.mem_cons.mp hq with rfl | hq
    · rw [List.mem_singleton.mp hk]; exact hl
    · exact o.lsd q hq k' hk
section
variable {A : MkA} {M0 M : MH} {ss : List Str} {fr : Int} {m : Mk} {L : Lps}
theorem MkS.other {q : Addr} {o : MO} (h : MkS A M0 M ss fr m L) (hq : M q = none) : MkS A M0 (mup M q o) ss fr m L := ⟨(h.cel.fresh (o := o) hq).forget (pre := []), h.lps⟩
theorem MkS.vne (h : MkS A M0 M ss fr m L) : A.v ≠ A.r := fun e => (Cel.ne_mid (pre := []) (a := A.r) (o := .lst (m.rows.map Rw.d)) (post := (A.p, .dK (slotD ss)) :: (A.s, A.obj fr) :: (A.c, .lst (m.calls.map calD)) :: (A.v, .lst (m.leaves.map natD)) :: (A.o, .lst (L.reverse.map lpD)) :: L.map lpC) h.cel.nd).2 (A.v, .lst (m.leaves.map natD)) (by simp) e
theorem MkS.qne {q : Addr} {b : Nat} {lv : List Nat} {R : Lps} (h : MkS A M0 M ss fr m ((q, b, lv) :: R)) : q ≠ A.r ∧ q ≠ A.o := by
  have h1 := (Cel.ne_mid (pre := [(A.r, .lst (m.rows.map Rw.d)), (A.p, .dK (slotD ss)), (A.s, A.obj fr), (A.c, .lst (m.calls.map calD)), (A.v, .lst (m.leaves.map natD)), (A.o, .lst (((q, b, lv) :: R).reverse.map lpD))]) (a := q) (o := .lst (lv.map natD)) (post := R.map lpC) h.cel.nd).1
  exact ⟨fun e => h1 (A.r, .lst (m.rows.map Rw.d)) (by simp) e.symm, fun e => h1 (A.o, .lst (((q, b, lv) :: R).reverse.map lpD)) (by simp) e.symm⟩
theorem MkS.beginA {q : Addr} {b : Nat} {lv : List Nat} {d : D} (h : MkS A M0 M ss fr m L) (hq : M q = none) (hd : d = natD b) : MkS A M0 (mup (mup M q (.lst (lv.map natD))) A.o (.lst (L.reverse.map lpD ++ [.tup [d, .ref q]]))) ss fr (m.into b lv) ((q, b, lv) :: L) := by
  have := h.begin_ (b := b) (lv := lv) hq
  rw [List.reverse_cons, List.map_append] at this
  subst hd
  exact this
theorem MkS.lift {b : Addr} {o : MO} (h : MkS A M0 M ss fr m L) (hb : M b = none) : MkS A (mup M0 b o) (mup M b o) ss fr m L := ⟨h.cel.lift hb, h.lps⟩
theorem MkS.base {b : Addr} {o o' : MO} (h : MkS A (mup M0 b o) M ss fr m L) : MkS A (mup M0 b o') (mup M b o') ss fr m L := ⟨by have := h.cel.base (o' := o') mup_same; rw [mup_mup] at this; exact this, h.lps⟩
end
/-! ### all defs -/
theorem mkDef_eq {m : Mk} {o : Df} : mkDef m o = ((mkB (slotsF o) ((slotsF o).length + 1) ⟨m.rows, m.calls, [], m.loops⟩ o.body).leads (mkB (slotsF o) ((slotsF o).length + 1) ⟨m.rows, m.calls, [], m.loops⟩ o.body).leaves).add [.back o.last] := rfl
theorem mkDef_ok {m : Mk} {o : Df} (ho : m.ok) : (mkDef m o).ok := by
  rw [mkDef_eq]
  have h0 : Mk.ok ⟨m.rows, m.calls, [], m.loops⟩ := ⟨Nat.zero_le _, ho.cs, ho.lp, ho.ls, fun k hk => (by cases hk), ho.csd, ho.lsd⟩
  exact ((mkB_keeps _ _ _ _).ok h0).leads.add
theorem mkDef_ext {m : Mk} {o : Df} : Mk.ext m (mkDef m o) := by
  rw [mkDef_eq]
  refine Mk.ext.trans (b := ⟨m.rows, m.calls, [], m.loops⟩) ⟨Nat.le_refl _, fun _ h => h⟩ ?_
  exact ((mkB_keeps _ _ _ _).ext.trans Mk.ext.leads).trans Mk.ext.add
def mkStep (s : Mk × List (Str × Nat)) (o : Df) : Mk × List (Str × Nat) := (mkDef s.1 o, s.2 ++ [(o.name, s.1.rows.length)])
theorem mkAll_eq {os : Pg} : mkAll os = os.foldl mkStep (⟨[], [], [], []⟩, []) := rfl
theorem mkAll_one {os : Pg} {o : Df} : mkAll (os ++ [o]) = mkStep (mkAll os) o := by rw [mkAll_eq, List.foldl_append]; rfl
theorem mkSteps_ext : ∀ {os : Pg} {s : Mk × List (Str × Nat)}, Mk.ext s.1 (os.foldl mkStep s).1
  | [], _ => Mk.ext.refl
  | o :: t, s => Mk.ext.trans mkDef_ext (mkSteps_ext (os := t) (s := mkStep s o))
theorem mkAll_ext {a b : Pg} : Mk.ext (mkAll a).1 (mkAll (a ++ b)).1 := by
  rw [mkAll_eq, mkAll_eq, List.foldl_append]
  exact mkSteps_ext
theorem mkSteps_ok : ∀ {os : Pg} {s : Mk × List (Str × Nat)}, s.1.ok → (os.foldl mkStep s).1.ok
  | [], _, h => h
  | o :: t, s, h => mkSteps_ok (os := t) (s := mkStep s o) (mkDef_ok h)
theorem mkAll_ok {a : Pg} : (mkAll a).1.ok := mkSteps_ok ⟨Nat.le_refl _, Nat.le_refl _, Nat.le_refl _, fun _ h => (by cases h), fun _ h => (by cases h), fun _ h => (by cases h), fun _ h => (by cases h)⟩
theorem mkSteps_names : ∀ {os : Pg} {s : Mk × List (Str × Nat)}, (os.foldl mkStep s).2.map (·.1) = s.2.map (·.1) ++ os.map (·.name)
  | [], _ => by simp
  | o :: t, s => by rw [List.foldl_cons, mkSteps_names]; unfold mkStep; simp
theorem mkAll_names {a : Pg} : (mkAll a).2.map (·.1) = a.map (·.name) := by rw [mkAll_eq, mkSteps_names]; rfl
def begD (bs : List (Str × Nat)) : List (Key × D) := bs.foldl (fun kvs b => putM kvs (.inr b.1) (natD b.2)) []
theorem begD_one {bs : List (Str × Nat)} {b : Str × Nat} : begD (bs ++ [b]) = putM (begD bs) (.inr b.1) (natD b.2) := by unfold begD; rw [List.foldl_append]; rfl
theorem begD_lenS : ∀ {bs : List (Str × Nat)} {kvs : List (Key × D)}, (bs.foldl (fun kvs b => putM kvs (.inr b.1) (natD b.2)) kvs).length ≤ kvs.length + bs.length
  | [], kvs => Nat.le_refl _
  | b :: t, kvs => by
    rw [List.foldl_cons]
    have h1 := begD_lenS (bs := t) (kvs := putM kvs (.inr b.1) (natD b.2))
    have h2 := putM_len kvs (.inr b.1) (natD b.2)
    rw [List.length_cons]
    omega
theorem begD_len {bs : List (Str × Nat)} : (begD bs).length ≤ bs.length := by have := begD_lenS (bs := bs) (kvs := []); rw [List.length_nil, Nat.zero_add] at this; exact this
theorem begin_one {bs : List (Str × Nat)} {b : Str × Nat} {f : Str} : beginOf (bs ++ [b]) f = if b.1 = f then (b.2 : Int) else beginOf bs f := by
  unfold beginOf
  rw [List.reverse_append, List.reverse_singleton, List.singleton_append, List.find?_cons]
  by_cases e : b.1 = f
  · rw [if_pos e, decide_eq_true e]; rfl
  · rw [if_neg e, decide_eq_false e]
theorem begD_val {f : Str} : ∀ {bs : List (Str × Nat)}, f ∈ bs.map (·.1) → valD (begD bs) (.inr f) = some (.int (beginOf bs f)) := by
  intro bs
  induction hn : bs.length generalizing bs with
  | zero => intro h; rw [List.length_eq_zero_iff.mp hn] at h; cases h
  | succ n ih =>
    intro h
    rcases List.eq_nil_or_concat bs with rfl | ⟨bs', b, rfl⟩
    · cases h
    rw [List.concat_eq_append] at *
    rw [begD_one, valD_put, begin_one]
    by_cases e : b.1 = f
    · rw [if_pos (by rw [e]), if_pos e]; rfl
    · rw [if_neg (fun q => e (Sum.inr.inj q)), if_neg e]
      refine ih (by simpa using hn) ?_
      rw [List.map_append, List.mem_append] at h
      rcases h with h | h
      · exact h
      · rw [List.map_singleton, List.mem_singleton] at h; exact absurd h.symm e
end Tl
namespace Tl
open PySem PySem.Spec PyProof.Rows L2
/-! ### what a program must be for its rows to be made -/
structure okRow (o : Df) : Prop where
  deep : deeps o.body < 10
  many : (allBd o.body).length ≤ 100000
  exs : ∀ s ∈ allBd o.body, s.exprs.length ≤ 1000 ∧ ∀ e ∈ s.exprs, e.deep < 12
  slots : (slotsF o).length < 10000000
structure okRows (pg : Pg) : Prop where
  df : ∀ o ∈ pg, okRow o ∧ inLps False o.body
  few : pg.length ≤ 1000
  len : (mkAll (mainFirst pg)).1.rows.length < 16777215
  fnd : ∀ c ∈ (mkAll (mainFirst pg)).1.calls, c.2 ∈ (mainFirst pg).map (·.name)
/-! rows of expressions, how many -/
theorem deep_pos : ∀ e : Ex, 1 ≤ e.deep
  | .num _ => Nat.le_refl _ | .nam _ => Nat.le_refl _ | .lane => Nat.le_refl _ | .lanes => Nat.le_refl _ | .mine => Nat.le_refl _
  | .box _ => Nat.le_add_left _ _ | .op _ _ _ => Nat.le_add_left _ _
theorem two_le {a b : Nat} (h : a ≤ b) : 2 ^ a ≤ 2 ^ b := Nat.pow_le_pow_right (by decide) h
theorem exRows_len {ss : List Str} {l : Int} : ∀ {e : Ex} {a : Int}, (exRows ss l e a).length + 1 ≤ 2 ^ e.deep
  | .num _, _ => Nat.le_refl _ | .nam _, _ => Nat.le_refl _ | .lane, _ => Nat.le_refl _ | .lanes, _ => Nat.le_refl _ | .mine, _ => Nat.le_refl _
  | .box e, a => by
    have h := exRows_len (ss := ss) (l := l) (e := e) (a := a)
    have h1 : 2 ≤ 2 ^ e.deep := Nat.le_trans (show 2 ≤ 2 ^ 1 from Nat.le_refl _) (two_le (deep_pos e))
    unfold exRows Ex.deep
    rw [List.length_append, Nat.pow_succ]
    simp only [List.length_cons, List.length_nil]
    omega
  | .op w x y, a => by
    have h := exRows_len (ss := ss) (l := l) (e := x) (a := a)
    have h2 := exRows_len (ss := ss) (l := l) (e := y) (a := a + 1)
    have h3 : 2 ^ x.deep ≤ 2 ^ max x.deep y.deep := two_le (Nat.le_max_left _ _)
    have h4 : 2 ^ y.deep ≤ 2 ^ max x.deep y.deep := two_le (Nat.le_max_right _ _)
    unfold exRows Ex.deep
    rw [List.length_append, List.length_append, Nat.pow_succ]
    simp only [List.length_cons, List.length_nil]
    omega
theorem exsRows_len {ss : List Str} {l : Int} {d : Nat} : ∀ {es : List Ex} {a : Int}, (∀ e ∈ es, e.deep ≤ d) → (exsRows ss l es a).length ≤ es.length * 2 ^ d
  | [], _, _ => Nat.zero_le _
  | e :: es, a, h => by
    have h1 := exRows_len (ss := ss) (l := l) (e := e) (a := a)
    have h2 := two_le (h e (List.mem_cons_self ..))
    have h3 := exsRows_len (ss := ss) (l := l) (es := es) (a := a + 1) fun x hx => h x (List.mem_cons_of_mem _ hx)
    unfold exsRows
    rw [List.length_append, List.length_cons, Nat.succ_mul]
    omega
/-! rows of statements, how many: C for each -/
def smallS (k d : Nat) (s : Sm) : Prop := s.exprs.length ≤ k ∧ ∀ e ∈ s.exprs, e.deep ≤ d
theorem add_rows {m : Mk} {rs : List Rw} : (m.add rs).rows.length = m.rows.length + rs.length := by unfold Mk.add; rw [List.length_append]
theorem one_rows {ss : List Str} {l : Int} {fr : Int} {k d : Nat} {s : Sm} {e : Ex} (h : smallS k d s) (he : e ∈ s.exprs) : (exRows ss l e fr).length ≤ k * 2 ^ d := by
  have h1 := exRows_len (ss := ss) (l := l) (e := e) (a := fr)
  have h2 := two_le (h.2 e he)
  have h3 : 1 ≤ k := Nat.le_trans (List.length_pos_of_mem he) h.1
  have h4 : 1 * 2 ^ d ≤ k * 2 ^ d := Nat.mul_le_mul_right _ h3
  omega
theorem some_rows {ss : List Str} {l : Int} {fr : Int} {k d : Nat} {s : Sm} (h : smallS k d s) : (exsRows ss l s.exprs fr).length ≤ k * 2 ^ d :=
  Nat.le_trans (exsRows_len h.2) (Nat.mul_le_mul_right _ h.1)
mutual
theorem mkS_len (ss : List Str) (fr : Int) (k d : Nat) : ∀ (s : Sm) (m : Mk), (∀ t ∈ allSt s, smallS k d t) → (mkS ss fr m s).rows.length + 1 ≤ m.rows.length + (allSt s).length * (k * 2 ^ d + 4)
  | .if1 l e b, m, h => by
    have h0 := one_rows (ss := ss) (l := l) (fr := fr) (e := e) (h (.if1 l e b) (by unfold allSt; simp)) (by simp [Sm.exprs])
    have h1 := mkB_len ss fr k d b (m.add (exRows ss l e fr ++ [.split l fr 0])) fun t ht => h t (by unfold allSt; exact List.mem_cons_of_mem _ ht)
    unfold mkS allSt
    dsimp only
    rw [lead_len, List.length_cons, Nat.succ_mul]
    rw [add_rows, List.length_append] at h1
    simp only [List.length_cons, List.length_nil] at h1
    omega
  | .if2 l e b c, m, h => by
    have h0 := one_rows (ss := ss) (l := l) (fr := fr) (e := e) (h (.if2 l e b c) (by unfold allSt; simp)) (by simp [Sm.exprs])
    have h1 := mkB_len ss fr k d b (m.add (exRows ss l e fr ++ [.split l fr 0])) fun t ht => h t (by unfold allSt; exact List.mem_cons_of_mem _ (List.mem_append_left _ ht))
    have h2 := mkB_len ss fr k d c (((mkB ss fr (m.add (exRows ss l e fr ++ [.split l fr 0])) b).add [.jump l 0]).lead ((m.add (exRows ss l e fr ++ [.split l fr 0])).rows.length - 1)) fun t ht => h t (by unfold allSt; exact List.mem_cons_of_mem _ (List.mem_append_right _ ht))
    unfold mkS allSt
    dsimp only
    rw [lead_len, List.length_cons, List.length_append, Nat.succ_mul, Nat.add_mul]
    have hX : (((mkB ss fr (m.add (exRows ss l e fr ++ [.split l fr 0])) b).add [.jump l 0]).lead ((m.add (exRows ss l e fr ++ [.split l fr 0])).rows.length - 1)).rows.length = (mkB ss fr (m.add (exRows ss l e fr ++ [.split l fr 0])) b).rows.length + 1 := by rw [lead_len]; exact add_rows
    rw [hX] at h2
    rw [add_rows (m := m), List.length_append] at h1
    simp only [List.length_cons, List.length_nil] at h1
    omega
  | .whl l e b, m, h => by
    have h0 := one_rows (ss := ss) (l := l) (fr := fr) (e := e) (h (.whl l e b) (by unfold allSt; simp)) (by simp [Sm.exprs])
    have h1 := mkB_len ss fr k d b { m.add (exRows ss l e fr ++ [.split l fr 0]) with loops := (m.rows.length - 1, [(m.add (exRows ss l e fr ++ [.split l fr 0])).rows.length - 1]) :: (m.add (exRows ss l e fr ++ [.split l fr 0])).loops } fun t ht => h t (by unfold allSt; exact List.mem_cons_of_mem _ ht)
    dsimp only at h1
    rw [add_rows, List.length_append] at h1
    simp only [List.length_cons, List.length_nil] at h1
    unfold mkS allSt
    dsimp only
    rw [List.length_cons, Nat.succ_mul]
    split
    · rw [add_rows]
      simp only [List.length_cons, List.length_nil]
      rw [add_rows, List.length_append]
      simp only [List.length_cons, List.length_nil]
      omega
    · rw [leads_len]
      dsimp only
      rw [add_rows]
      simp only [List.length_cons, List.length_nil]
      rw [add_rows, List.length_append]
      simp only [List.length_cons, List.length_nil]
      omega
  | .brk l, m, h => by
    unfold mkS allSt
    split
    · simp only [List.length_cons, List.length_nil]; omega
    · simp only [List.length_cons, List.length_nil, List.length_append]; omega
  | .agn l, m, h => by
    unfold mkS allSt
    split
    · simp only [List.length_cons, List.length_nil]; omega
    · rw [add_rows]; simp only [List.length_cons, List.length_nil]; omega
  | .ret l e, m, h => by
    have h0 := one_rows (ss := ss) (l := l) (fr := fr) (e := e) (h (.ret l e) (by unfold allSt; simp)) (by simp [Sm.exprs])
    unfold mkS allSt
    dsimp only
    rw [add_rows, List.length_append]; simp only [List.length_cons, List.length_nil]; omega
  | .call l x f es, m, h => by
    have h0 := some_rows (ss := ss) (l := l) (fr := fr) (h (.call l x f es) (by unfold allSt; simp))
    have h0 : (exsRows ss l es fr).length ≤ k * 2 ^ d := h0
    unfold mkS allSt
    dsimp only
    rw [add_rows, List.length_append]; simp only [List.length_cons, List.length_nil]; omega
  | .set l x e, m, h => by
    have h0 := some_rows (ss := ss) (l := l) (fr := fr) (h (.set l x e) (by unfold allSt; simp))
    unfold mkS allSt
    rw [add_rows, List.length_append]; simp only [List.length_cons, List.length_nil, Sm.line] at h0 ⊢; omega
  | .put l x e, m, h => by
    have h0 := some_rows (ss := ss) (l := l) (fr := fr) (h (.put l x e) (by unfold allSt; simp))
    unfold mkS allSt
    rw [add_rows, List.length_append]; simp only [List.length_cons, List.length_nil, Sm.line] at h0 ⊢; omega
  | .tell l e, m, h => by
    have h0 := some_rows (ss := ss) (l := l) (fr := fr) (h (.tell l e) (by unfold allSt; simp))
    unfold mkS allSt
    rw [add_rows, List.length_append]; simp only [List.length_cons, List.length_nil, Sm.line] at h0 ⊢; omega
  | .join l x w e, m, h => by
    have h0 := some_rows (ss := ss) (l := l) (fr := fr) (h (.join l x w e) (by unfold allSt; simp))
    unfold mkS allSt
    rw [add_rows, List.length_append]; simp only [List.length_cons, List.length_nil, Sm.line] at h0 ⊢; omega
  | .meet l, m, h => by
    have h0 := some_rows (ss := ss) (l := l) (fr := fr) (h (.meet l) (by unfold allSt; simp))
    unfold mkS allSt
    rw [add_rows, List.length_append]; simp only [List.length_cons, List.length_nil, Sm.line] at h0 ⊢; omega
  | .stop l, m, h => by
    have h0 := some_rows (ss := ss) (l := l) (fr := fr) (h (.stop l) (by unfold allSt; simp))
    unfold mkS allSt
    rw [add_rows, List.length_append]; simp only [List.length_cons, List.length_nil, Sm.line] at h0 ⊢; omega
theorem mkB_len (ss : List Str) (fr : Int) (k d : Nat) : ∀ (b : List Sm) (m : Mk), (∀ t ∈ allBd b, smallS k d t) → (mkB ss fr m b).rows.length ≤ m.rows.length + (allBd b).length * (k * 2 ^ d + 4)
  | [], m, _ => by unfold mkB; omega
  | s :: t, m, h => by
    have h1 := mkS_len ss fr k d s (m.add [.tick s.line]) fun x hx => h x (by unfold allBd; exact List.mem_append_left _ hx)
    have h2 := mkB_len ss fr k d t (mkS ss fr (m.add [.tick s.line]) s) fun x hx => h x (by unfold allBd; exact List.mem_append_right _ hx)
    rw [add_rows] at h1
    simp only [List.length_cons, List.length_nil] at h1
    unfold mkB allBd
    rw [List.length_append, Nat.add_mul]
    omega
end
end Tl
namespace Tl
open PySem PySem.Spec PyProof.Rows L2
/-- one of a written row -/
theorem pickX {α : Type} {f : α → D} {ds : List D} {k : Int} {F : D → Prop} (es : List α) (d : α) (he : ds = es.map f) (h0 : 0 ≤ k) (h : k < es.length) (q : F (f (es.getD k.toNat d))) : oSome (atI ds k) F := by
  subst he
  rw [atI_mapD d h0 h]
  exact q
/-! ### mirrors of the builder of the laws k31 .. k37 -/
def nearF (r : Int) : Ex := .num ([r / 3 % 5, r / 3 % 5 - 2, r / 3 % 1999999999 - 999999999].getD (r % 3).toNat 0)
def nmF (xs : List Str) (k : Int) : Ex := .nam (xs.getD (k % 6).toNat "")
def op6 (k : Int) : Op7 := [Op7.sub, .mul, .div, .rem, .lt, .eq].getD k.toNat .add
def opP (k : Int) : Op7 := [Op7.add, .sub, .mul].getD k.toNat .add
/-- k35 .. k37 -/
def placeB (xs : List Str) (i : Int) : Ex :=
  let r := i / 13
  let near := nearF r
  let name := nmF xs r
  let beside := [name, .mine, .lanes, .num (r / 7 % 9 - 4), .box .lane, .op .add .lane near].getD (r / 90 % 6).toNat near
  let other := [near, .lane, name, .mine].getD (r / 15 % 4).toNat near
  if i % 13 < 2 then near
  else if i % 13 < 4 then .lane
  else if i % 13 < 6 then [Ex.op .add .lane near, .op .add near .lane].getD (i % 13 - 4).toNat near
  else if i % 13 = 6 then .op (op6 (r / 60 % 6)) .lane near
  else if i % 13 = 7 then [Ex.op .add beside near, .op .add near beside].getD (r / 540 % 2).toNat near
  else if i % 13 = 8 then .box ([near, .lane, .op .add .lane near, .op .add name near, .op .mul .lane near].getD (r / 90 % 5).toNat near)
  else [name, .op .add .lane other, .box .lane, .op .add other .lane].getD (i % 13 - 9).toNat near
def towerStep (w : Op7) (leaf : Ex) (r : Int) (e : Ex) (k : Nat) : Ex :=
  [Ex.op w leaf e, .op w e leaf].getD (Builtin.bitAnd (r / 2 ^ k) 1).toNat e
def simpleB (xs : List Str) (i : Int) : Ex :=
  let r := i / 10
  let w := op7 (r % 7)
  let leaf := [Ex.num (r / 14 % 9 - 4), nmF xs (r / 14)].getD (r / 7 % 2).toNat .lane
  let box := Ex.box (placeB xs (r / 126))
  if i % 10 < 2 then .num (r % 1999999999 - 999999999)
  else if i % 10 < 4 then [Ex.lane, .mine, .lanes, nmF xs (r / 4)].getD (r % 4).toNat .lane
  else if i % 10 < 6 then .box (placeB xs r)
  else if i % 10 = 6 then .op w leaf box
  else if i % 10 = 7 then .op w box leaf
  else if i % 10 = 8 then .op w (.op w leaf box) (.box leaf)
  else if r / 9 % 2 = 0 then .op w leaf (.op (opP (r / 3 % 3)) box .lane)
  else (List.range (1 + r / 126 % 5).toNat).foldl (towerStep w leaf (r / 630)) (.box ([Ex.lane, nmF xs (r / 90), .num (r / 90 % 33)].getD (r / 18 % 3).toNat .lane))
/-! what is drawn keeps -/
def okX (n : Nat) (e : Ex) : Prop := e.deep ≤ n ∧ exNm e
theorem okX_mono {n m : Nat} {e : Ex} (h : okX n e) (hm : n ≤ m) : okX m e := ⟨Nat.le_trans h.1 hm, h.2⟩
theorem okX_E {e : Ex} (h : okX 10 e) : okE 1 10 e := ⟨h.1, fun z => by omega, h.2⟩
theorem getD_P {α : Type} {P : α → Prop} {xs : List α} {k : Nat} {d : α} (h : ∀ x ∈ xs, P x) (hd : P d) : P (xs.getD k d) := by
  by_cases hk : k < xs.length
  · exact h _ (getD_mem d hk)
  · rw [List.getD_eq_getElem?_getD, List.getElem?_eq_none (by omega)]; exact hd
theorem near_ok (r : Int) : okX 1 (nearF r) := ⟨Nat.le_refl _, trivial⟩
theorem num_ok (r : Int) : okX 1 (.num r) := ⟨Nat.le_refl _, trivial⟩
theorem nm_ok {xs : List Str} (hx : okNm xs) (k : Int) : okX 1 (nmF xs k) := by
  have b6 := modB (a := k) (b := 6) (by decide)
  exact ⟨Nat.le_refl _, hx.2 _ (getD_mem _ (by rw [hx.1]; omega))⟩
theorem lane_ok : okX 1 .lane := ⟨Nat.le_refl _, trivial⟩
theorem lanes_ok : okX 1 .lanes := ⟨Nat.le_refl _, trivial⟩
theorem mine_ok : okX 1 .mine := ⟨Nat.le_refl _, trivial⟩
theorem box_ok {n : Nat} {e : Ex} (h : okX n e) : okX (n + 1) (.box e) := ⟨Nat.succ_le_succ h.1, h.2⟩
theorem opx_ok {n : Nat} {w : Op7} {a b : Ex} (h : okX n a) (h2 : okX n b) : okX (n + 1) (.op w a b) := ⟨Nat.succ_le_succ (Nat.max_le.mpr ⟨h.1, h2.1⟩), h.2, h2.2⟩
theorem all_2 {α : Type} {P : α → Prop} {a b : α} (h1 : P a) (h2 : P b) : ∀ x ∈ [a, b], P x := by
  intro x hx; simp only [List.mem_cons, List.not_mem_nil, or_false] at hx; rcases hx with rfl | rfl <;> assumption
theorem all_3 {α : Type} {P : α → Prop} {a b c : α} (h1 : P a) (h2 : P b) (h3 : P c) : ∀ x ∈ [a, b, c], P x := by
  intro x hx; simp only [List.mem_cons, List.not_mem_nil, or_false] at hx; rcases hx with rfl | rfl | rfl <;> assumption
theorem all_4 {α : Type} {P : α → Prop} {a b c d : α} (h1 : P a) (h2 : P b) (h3 : P c) (h4 : P d) : ∀ x ∈ [a, b, c, d], P x := by
  intro x hx; simp only [List.mem_cons, List.not_mem_nil, or_false] at hx; rcases hx with rfl | rfl | rfl | rfl <;> assumption
theorem all_5 {α : Type} {P : α → Prop} {a b c d e : α} (h1 : P a) (h2 : P b) (h3 : P c) (h4 : P d) (h5 : P e) : ∀ x ∈ [a, b, c, d, e], P x := by
  intro x hx; simp only [List.mem_cons, List.not_mem_nil, or_false] at hx; rcases hx with rfl | rfl | rfl | rfl | rfl <;> assumption
theorem all_6 {α : Type} {P : α → Prop} {a b c d e f : α} (h1 : P a) (h2 : P b) (h3 : P c) (h4 : P d) (h5 : P e) (h6 : P f) : ∀ x ∈ [a, b, c, d, e, f], P x := by
  intro x hx; simp only [List.mem_cons, List.not_mem_nil, or_false] at hx; rcases hx with rfl | rfl | rfl | rfl | rfl | rfl <;> assumption
theorem other_ok {xs : List Str} (hx : okNm xs) (r k : Int) : okX 1 ([nearF r, .lane, nmF xs r, .mine].getD k.toNat (nearF r)) :=
  getD_P (all_4 (near_ok r) lane_ok (nm_ok hx r) mine_ok) (near_ok r)
theorem placeB_ok {xs : List Str} (hx : okNm xs) (i : Int) : okX 5 (placeB xs i) := by
  unfold placeB
  dsimp only
  have hn := near_ok (i / 13)
  have hn2 := okX_mono hn (show 1 ≤ 2 by decide)
  have ho := other_ok hx (i / 13) (i / 13 / 15 % 4)
  have hm := nm_ok hx (i / 13)
  generalize nearF (i / 13) = near at *
  generalize nmF xs (i / 13) = name at *
  generalize [near, .lane, name, .mine].getD (i / 13 / 15 % 4).toNat near = other at *
  have hb : okX 2 ([name, .mine, .lanes, .num (i / 13 / 7 % 9 - 4), .box .lane, .op .add .lane near].getD (i / 13 / 90 % 6).toNat near) :=
    getD_P (all_6 (okX_mono hm (by decide)) (okX_mono mine_ok (by decide)) (okX_mono lanes_ok (by decide)) (okX_mono (num_ok _) (by decide)) (box_ok lane_ok) (opx_ok lane_ok hn)) hn2
  generalize [name, .mine, .lanes, .num (i / 13 / 7 % 9 - 4), .box .lane, .op .add .lane near].getD (i / 13 / 90 % 6).toNat near = beside at *
  repeat' split
  · exact okX_mono hn (by decide)
  · exact okX_mono lane_ok (by decide)
  · exact okX_mono (getD_P (P := okX 2) (all_2 (opx_ok lane_ok hn) (opx_ok hn lane_ok)) hn2) (by decide)
  · exact okX_mono (opx_ok lane_ok hn) (by decide)
  · exact okX_mono (getD_P (P := okX 3) (all_2 (opx_ok hb hn2) (opx_ok hn2 hb)) (okX_mono hn (by decide))) (by decide)
  · exact okX_mono (box_ok (getD_P (P := okX 2) (all_5 hn2 (okX_mono lane_ok (by decide)) (opx_ok lane_ok hn) (opx_ok hm hn) (opx_ok lane_ok hn)) hn2)) (by decide)
  · exact okX_mono (getD_P (P := okX 2) (all_4 (okX_mono hm (by decide)) (opx_ok lane_ok ho) (box_ok lane_ok) (opx_ok ho lane_ok)) hn2) (by decide)
theorem tower_ok {w : Op7} {leaf : Ex} {r : Int} (hl : okX 1 leaf) {e : Ex} : ∀ n m : Nat, okX (n + 1) e → okX (n + m + 1) ((List.range m).foldl (towerStep w leaf r) e)
  | n, 0, h => h
  | n, m + 1, h => by
    rw [range_fold]
    have ih := tower_ok (w := w) (r := r) hl n m h
    generalize (List.range m).foldl (towerStep w leaf r) e = x at *
    unfold towerStep
    have hl2 := okX_mono hl (show 1 ≤ n + m + 1 by omega)
    exact getD_P (P := okX (n + m + 1 + 1)) (all_2 (opx_ok hl2 ih) (opx_ok ih hl2)) (okX_mono ih (by omega))
theorem simpleB_ok {xs : List Str} (hx : okNm xs) (i : Int) : okX 10 (simpleB xs i) := by
  unfold simpleB
  dsimp only
  have hl : okX 1 ([Ex.num (i / 10 / 14 % 9 - 4), nmF xs (i / 10 / 14)].getD (i / 10 / 7 % 2).toNat .lane) := getD_P (all_2 (num_ok _) (nm_ok hx _)) lane_ok
  generalize [Ex.num (i / 10 / 14 % 9 - 4), nmF xs (i / 10 / 14)].getD (i / 10 / 7 % 2).toNat .lane = leaf at *
  have hl6 := okX_mono hl (show 1 ≤ 6 by decide)
  have hp := placeB_ok hx
  have b5 := modB (a := i / 10 / 126) (b := 5) (by decide)
  repeat' split
  · exact okX_mono (num_ok _) (by decide)
  · exact okX_mono (getD_P (P := okX 1) (all_4 lane_ok mine_ok lanes_ok (nm_ok hx _)) lane_ok) (by decide)
  · exact okX_mono (box_ok (hp _)) (by decide)
  · exact okX_mono (opx_ok hl6 (box_ok (hp _))) (by decide)
  · exact okX_mono (opx_ok (box_ok (hp _)) hl6) (by decide)
  · exact okX_mono (opx_ok (opx_ok hl6 (box_ok (hp _))) (box_ok hl6)) (by decide)
  · exact okX_mono (opx_ok (okX_mono hl6 (show 6 ≤ 7 by decide)) (opx_ok (box_ok (hp _)) (okX_mono lane_ok (by decide)))) (by decide)
  · exact okX_mono (tower_ok hl 1 _ (box_ok (getD_P (P := okX 1) (all_3 lane_ok (nm_ok hx _) (num_ok _)) lane_ok))) (by omega)
/-! deeds -/
def argStepG (smp : List Str → Int → Ex) (xs : List Str) (s : List Ex × Int) (_ : Nat) : List Ex × Int := (s.1 ++ [smp xs (s.2 % 10000)], s.2 / 10000)
def argsG (smp : List Str → Int → Ex) (xs : List Str) (r : Int) (n : Nat) : List Ex × Int := (List.range n).foldl (argStepG smp xs) ([], r)
theorem argsG_ok {smp : List Str → Int → Ex} (hs : ∀ xs i, okNm xs → okX 10 (smp xs i)) {xs : List Str} (hx : okNm xs) (r : Int) : ∀ n, (argsG smp xs r n).1.length = n ∧ ∀ e ∈ (argsG smp xs r n).1, okX 10 e
  | 0 => ⟨rfl, fun e he => (by cases he)⟩
  | n + 1 => by
    have e : argsG smp xs r (n + 1) = argStepG smp xs (argsG smp xs r n) n := range_fold ..
    obtain ⟨h1, h2⟩ := argsG_ok hs hx r n
    rw [e]
    refine ⟨by show (_ ++ _ : List Ex).length = _; rw [List.length_append, h1]; rfl, fun e he => ?_⟩
    rcases List.mem_append.mp he with h | h
    · exact h2 e h
    · rw [List.mem_singleton.mp h]; exact hs _ _ hx
def callG (smp : List Str → Int → Ex) (xs : List Str) (rs : Rm) (x : Str) (i : Int) : Od :=
  let os := rs.filter notMain
  if os = [] then .tell (smp xs i)
  else
    let o := os.getD (i % (os.length : Int)).toNat ("", [])
    .call x o.1 (argsG smp xs (i / 3) o.2.length).1
def sumsL : List Str := ["sum", "most", "least", "ahead"]
def opG (plc smp : List Str → Int → Ex) (xs : List Str) (rs : Rm) (i : Int) : Od :=
  let x := xs.getD (i / 24 % 6).toNat ""
  let r := i / 144
  if i % 24 < 3 then .set x (smp xs r)
  else if i % 24 < 7 then .put (plc xs (r % 1000000000000)) (smp xs (r / 1000000000000))
  else if i % 24 < 10 then (if i % 24 < 9 then .ifo (smp xs r) else .whl (smp xs r))
  else if i % 24 < 14 then (if i % 24 < 13 then .fin else .els)
  else if i % 24 < 19 then (if i % 24 = 14 then .brk else if i % 24 = 15 then .agn else if i % 24 < 18 then .meet else .stop)
  else if i % 24 < 21 then (if i % 24 = 19 then .tell (smp xs r) else .ret (smp xs r))
  else if i % 24 = 21 then .join x (sumsL.getD (r % 4).toNat "") (smp xs (r / 4))
  else callG smp xs rs x r
theorem opG_ok {plc smp : List Str → Int → Ex} (hp : ∀ xs i, okNm xs → okX 5 (plc xs i)) (hs : ∀ xs i, okNm xs → okX 10 (smp xs i)) {xs : List Str} (hx : okNm xs) (rs : Rm) (i : Int) : okO 1 sumsL rs (opG plc smp xs rs i) := by
  have he := fun i => okX_E (hs xs i hx)
  have hq := fun i => okX_E (okX_mono (hp xs i hx) (show 5 ≤ 10 by decide))
  have hxn : okS (xs.getD (i / 24 % 6).toNat "") := by
    have b6 := modB (a := i / 24) (b := 6) (by decide)
    exact hx.2 _ (getD_mem _ (by rw [hx.1]; omega))
  unfold opG
  dsimp only
  split
  · exact ⟨hxn, he _⟩
  · split
    · exact ⟨hq _, he _⟩
    · split
      · split <;> exact he _
      · split
        · split <;> trivial
        · split
          · split
            · trivial
            · split
              · trivial
              · split <;> trivial
          · split
            · split <;> exact he _
            · split
              · refine ⟨hxn, he _, getD_mem _ ?_⟩
                have bm := modB (a := i / 144) (b := 4) (by decide)
                show _ < 4
                omega
              · unfold callG
                dsimp only
                split
                · exact he _
                · rename_i h
                  have hm := pick_others (i := i / 144) h
                  have h2 := others_mem hm
                  obtain ⟨h3, h4⟩ := argsG_ok hs hx (i / 144 / 3) ((rs.filter notMain).getD (i / 144 % ((rs.filter notMain).length : Int)).toNat ("", [])).2.length
                  exact ⟨hxn, fun e hm => okX_E (h4 e hm), _, h2.1, h2.2, h3⟩
/-- what is drawn is Built -/
theorem progG_built {plc smp : List Str → Int → Ex} (hp : ∀ xs i, okNm xs → okX 5 (plc xs i)) (hs : ∀ xs i, okNm xs → okX 10 (smp xs i)) {xs : List Str} (hx : okNm xs) (ns : List Int) {most : Nat} (hm : most ≤ 64) :
    ∃ rs, Built 1 sumsL rs (progF (opG plc smp) xs ns most) := prog_built (fun vs rs i hv _ => opG_ok hp hs hv rs i) hx ns hm
end Tl
namespace Tl
open PySem PySem.Spec PyProof.Rows L2
/-! ### a drawn program's rows can be made -/
mutual
theorem plnS_fst : ∀ (loop : Option Int) (s : Sm), (plnS loop s).map (·.1) = allSt s
  | loop, .if1 l e b => by unfold plnS allSt; rw [List.map_cons, pln_fst]
  | loop, .if2 l e b c => by unfold plnS allSt; rw [List.map_cons, List.map_append, pln_fst, pln_fst]
  | loop, .whl l e b => by unfold plnS allSt; rw [List.map_cons, pln_fst]
  | _, .set .. => by unfold plnS allSt; rfl
  | _, .put .. => by unfold plnS allSt; rfl
  | _, .tell .. => by unfold plnS allSt; rfl
  | _, .ret .. => by unfold plnS allSt; rfl
  | _, .stop .. => by unfold plnS allSt; rfl
  | _, .brk .. => by unfold plnS allSt; rfl
  | _, .agn .. => by unfold plnS allSt; rfl
  | _, .meet .. => by unfold plnS allSt; rfl
  | _, .join .. => by unfold plnS allSt; rfl
  | _, .call .. => by unfold plnS allSt; rfl
theorem pln_fst : ∀ (loop : Option Int) (b : List Sm), (pln loop b).map (·.1) = allBd b
  | _, [] => by unfold pln allBd; rfl
  | loop, s :: t => by unfold pln allBd; rw [List.map_append, plnS_fst, pln_fst]
end
mutual
theorem okSt_in {a : Ask} : ∀ (lp : Bool) (s : Sm), okSt a lp s → inLp (lp = true) s
  | lp, .if1 l e b, h => by unfold okSt at h; unfold inLp; exact okSts_in lp b h.2
  | lp, .if2 l e b c, h => by unfold okSt at h; unfold inLp; exact ⟨okSts_in lp b h.2.1, okSts_in lp c h.2.2⟩
  | lp, .whl l e b, h => by
    unfold okSt at h; unfold inLp
    have := okSts_in true b h.2
    rw [show (True : Prop) = (true = true) from (eq_self true).symm]
    exact this
  | lp, .brk l, h => by unfold okSt at h; unfold inLp; exact h
  | lp, .agn l, h => by unfold okSt at h; unfold inLp; exact h
  | _, .set .., _ => by unfold inLp; exact trivial
  | _, .put .., _ => by unfold inLp; exact trivial
  | _, .tell .., _ => by unfold inLp; exact trivial
  | _, .ret .., _ => by unfold inLp; exact trivial
  | _, .stop .., _ => by unfold inLp; exact trivial
  | _, .meet .., _ => by unfold inLp; exact trivial
  | _, .join .., _ => by unfold inLp; exact trivial
  | _, .call .., _ => by unfold inLp; exact trivial
theorem okSts_in {a : Ask} : ∀ (lp : Bool) (b : List Sm), okSts a lp b → inLps (lp = true) b
  | _, [], _ => by unfold inLps; exact trivial
  | lp, s :: t, h => by unfold okSts at h; unfold inLps; exact ⟨okSt_in lp s h.1, okSts_in lp t h.2⟩
end
/-! how many slots -/
theorem noteN_le {ss : List Str} {x : Str} : (noteN ss x).length ≤ ss.length + 1 := by
  unfold noteN; split
  · omega
  · simp
theorem noteE_le : ∀ {e : Ex} {ss : List Str}, (noteE ss e).length + 1 ≤ ss.length + 2 ^ e.deep
  | .num _, ss => by show ss.length + 1 ≤ _; exact Nat.add_le_add_left (by decide : 1 ≤ 2 ^ 1) _
  | .lane, ss => by show ss.length + 1 ≤ _; exact Nat.add_le_add_left (by decide : 1 ≤ 2 ^ 1) _
  | .lanes, ss => by show ss.length + 1 ≤ _; exact Nat.add_le_add_left (by decide : 1 ≤ 2 ^ 1) _
  | .mine, ss => by show ss.length + 1 ≤ _; exact Nat.add_le_add_left (by decide : 1 ≤ 2 ^ 1) _
  | .nam x, ss => by
    have := noteN_le (ss := ss) (x := x)
    show (noteN ss x).length + 1 ≤ ss.length + 2
    omega
  | .box e, ss => by
    have := noteE_le (e := e) (ss := ss)
    unfold noteE Ex.deep
    rw [Nat.pow_succ]
    omega
  | .op _ a b, ss => by
    have h := noteE_le (e := a) (ss := ss)
    have h2 := noteE_le (e := b) (ss := noteE ss a)
    have h3 : 2 ^ a.deep ≤ 2 ^ max a.deep b.deep := two_le (Nat.le_max_left _ _)
    have h4 : 2 ^ b.deep ≤ 2 ^ max a.deep b.deep := two_le (Nat.le_max_right _ _)
    unfold noteE Ex.deep
    rw [Nat.pow_succ]
    omega
theorem notes_le {α : Type} {f : List Str → α → List Str} {k : Nat} : ∀ {l : List α} {ss : List Str}, (∀ x ∈ l, ∀ ss, (f ss x).length ≤ ss.length + k) → (l.foldl f ss).length ≤ ss.length + k * l.length
  | [], _, _ => Nat.le_add_right _ _
  | x :: t, ss, h => by
    have h1 := h x (List.mem_cons_self ..) ss
    have h2 := notes_le (f := f) (l := t) (ss := f ss x) fun y hy => h y (List.mem_cons_of_mem _ hy)
    rw [List.foldl_cons, List.length_cons, Nat.mul_succ]
    omega
theorem noteS_le {s : Sm} {k d : Nat} (h : smallS k d s) (ss : List Str) : (noteS ss s).length ≤ ss.length + (2 ^ d * k + 1) := by
  have h1 : ∀ ss : List Str, (s.exprs.foldl noteE ss).length ≤ ss.length + 2 ^ d * s.exprs.length := fun ss => notes_le (f := noteE) fun e he ss => by
    have := noteE_le (e := e) (ss := ss)
    have := two_le (h.2 e he)
    omega
  have h2 : 2 ^ d * s.exprs.length ≤ 2 ^ d * k := Nat.mul_le_mul_left _ h.1
  unfold noteS
  cases s.given with
  | none => have := h1 ss; dsimp only; omega
  | some x => have := h1 (noteN ss x); have := noteN_le (ss := ss) (x := x); dsimp only; omega
theorem slots_le {o : Df} {k d : Nat} (h : ∀ s ∈ allBd o.body, smallS k d s) : (slotsF o).length ≤ o.ps.length + (2 ^ d * k + 1) * (allBd o.body).length := by
  unfold slotsF
  have h1 := notes_le (f := noteS) (l := allBd o.body) (ss := o.ps.foldl noteN []) (k := 2 ^ d * k + 1) fun s hs ss => noteS_le (h s hs) ss
  have h2 := notes_le (f := noteN) (l := o.ps) (ss := []) (k := 1) fun s hs ss => noteN_le
  simp only [List.length_nil] at h2
  omega
/-! how many rows -/
theorem mkDef_len {m : Mk} {o : Df} {k d : Nat} (h : ∀ s ∈ allBd o.body, smallS k d s) : (mkDef m o).rows.length ≤ m.rows.length + (allBd o.body).length * (k * 2 ^ d + 4) + 1 := by
  rw [mkDef_eq, add_rows, leads_len]
  have := mkB_len (slotsF o) ((slotsF o).length + 1) k d o.body ⟨m.rows, m.calls, [], m.loops⟩ h
  simp only [List.length_cons, List.length_nil] at this ⊢
  omega
theorem mkAll_len {k d n : Nat} : ∀ {os : Pg} {s : Mk × List (Str × Nat)}, (∀ o ∈ os, (allBd o.body).length ≤ n ∧ ∀ t ∈ allBd o.body, smallS k d t) → (os.foldl mkStep s).1.rows.length ≤ s.1.rows.length + os.length * (n * (k * 2 ^ d + 4) + 1)
  | [], s, _ => Nat.le_add_right _ _
  | o :: os, s, h => by
    have h1 := h o (List.mem_cons_self ..)
    have h2 := mkAll_len (k := k) (d := d) (n := n) (os := os) (s := mkStep s o) fun x hx => h x (List.mem_cons_of_mem _ hx)
    have h3 : (mkStep s o).1.rows.length ≤ _ := mkDef_len (m := s.1) h1.2
    have h4 : (allBd o.body).length * (k * 2 ^ d + 4) ≤ n * (k * 2 ^ d + 4) := Nat.mul_le_mul_right _ h1.1
    rw [List.foldl_cons, List.length_cons, Nat.succ_mul]
    omega
/-! what is called -/
def calledIn (b : List Sm) (f : Str) : Prop := ∃ l x es, Sm.call l x f es ∈ b
theorem called_mono {b c : List Sm} {f : Str} (h : calledIn b f) (hs : ∀ s ∈ b, s ∈ c) : calledIn c f := by
  obtain ⟨l, x, es, h⟩ := h
  exact ⟨l, x, es, hs _ h⟩
mutual
theorem mkS_calls (ss : List Str) (fr : Int) : ∀ (s : Sm) (m : Mk), ∀ c ∈ (mkS ss fr m s).calls, c ∈ m.calls ∨ calledIn (allSt s) c.2
  | .if1 l e b, m, c, h => by
    unfold mkS at h
    dsimp only at h
    rcases mkB_calls ss fr b _ c h with h | h
    · exact .inl h
    · exact .inr (called_mono h fun s hs => by unfold allSt; exact List.mem_cons_of_mem _ hs)
  | .if2 l e b d, m, c, h => by
    unfold mkS at h
    dsimp only at h
    rcases mkB_calls ss fr d _ c h with h | h
    · rcases mkB_calls ss fr b _ c h with h | h
      · exact .inl h
      · exact .inr (called_mono h fun s hs => by unfold allSt; exact List.mem_cons_of_mem _ (List.mem_append_left _ hs))
    · exact .inr (called_mono h fun s hs => by unfold allSt; exact List.mem_cons_of_mem _ (List.mem_append_right _ hs))
  | .whl l e b, m, c, h => by
    unfold mkS at h
    dsimp only at h
    have h : c ∈ (mkB ss fr { m.add (exRows ss l e fr ++ [.split l fr 0]) with loops := (m.rows.length - 1, [(m.add (exRows ss l e fr ++ [.split l fr 0])).rows.length - 1]) :: (m.add (exRows ss l e fr ++ [.split l fr 0])).loops } b).calls := by
      split at h
      · exact h
      · rw [leads_rest.1] at h; exact h
    rcases mkB_calls ss fr b _ c h with h | h
    · exact .inl h
    · exact .inr (called_mono h fun s hs => by unfold allSt; exact List.mem_cons_of_mem _ hs)
  | .brk l, m, c, h => by
    unfold mkS at h
    split at h
    · exact .inl h
    · exact .inl h
  | .agn l, m, c, h => by
    unfold mkS at h
    split at h
    · exact .inl h
    · exact .inl h
  | .ret l e, m, c, h => by unfold mkS at h; exact .inl h
  | .call l x f es, m, c, h => by
    unfold mkS at h
    dsimp only at h
    rcases List.mem_append.mp h with h | h
    · exact .inl h
    · rw [List.mem_singleton.mp h]
      exact .inr ⟨l, x, es, by unfold allSt; simp⟩
  | .set .., m, c, h => by unfold mkS at h; exact .inl h
  | .put .., m, c, h => by unfold mkS at h; exact .inl h
  | .tell .., m, c, h => by unfold mkS at h; exact .inl h
  | .join .., m, c, h => by unfold mkS at h; exact .inl h
  | .meet .., m, c, h => by unfold mkS at h; exact .inl h
  | .stop .., m, c, h => by unfold mkS at h; exact .inl h
theorem mkB_calls (ss : List Str) (fr : Int) : ∀ (b : List Sm) (m : Mk), ∀ c ∈ (mkB ss fr m b).calls, c ∈ m.calls ∨ calledIn (allBd b) c.2
  | [], m, c, h => by unfold mkB at h; exact .inl h
  | s :: t, m, c, h => by
    unfold mkB at h
    rcases mkB_calls ss fr t _ c h with h | h
    · rcases mkS_calls ss fr s _ c h with h | h
      · exact .inl h
      · exact .inr (called_mono h fun s hs => by unfold allBd; exact List.mem_append_left _ hs)
    · exact .inr (called_mono h fun s hs => by unfold allBd; exact List.mem_append_right _ hs)
end
theorem mkSteps_calls : ∀ {os : Pg} {s : Mk × List (Str × Nat)}, ∀ c ∈ (os.foldl mkStep s).1.calls, c ∈ s.1.calls ∨ ∃ o ∈ os, calledIn (allBd o.body) c.2
  | [], _, c, h => .inl h
  | o :: os, s, c, h => by
    rw [List.foldl_cons] at h
    rcases mkSteps_calls (os := os) (s := mkStep s o) c h with h | ⟨o', ho, h⟩
    · have h : c ∈ (mkDef s.1 o).calls := h
      rw [mkDef_eq] at h
      have h : c ∈ ((mkB (slotsF o) ((slotsF o).length + 1) ⟨s.1.rows, s.1.calls, [], s.1.loops⟩ o.body).leads (mkB (slotsF o) ((slotsF o).length + 1) ⟨s.1.rows, s.1.calls, [], s.1.loops⟩ o.body).leaves).calls := h
      rw [leads_rest.1] at h
      rcases mkB_calls _ _ _ _ c h with h | h
      · exact .inl h
      · exact .inr ⟨o, List.mem_cons_self .., h⟩
    · exact .inr ⟨o', List.mem_cons_of_mem _ ho, h⟩
theorem first_mem {pg : Pg} {o : Df} : o ∈ mainFirst pg ↔ o ∈ pg := by
  unfold mainFirst
  rw [List.mem_append, List.mem_filter, List.mem_filter]
  constructor
  · rintro (h | h) <;> exact h.1
  · intro h
    cases e : isMain o.name with
    | true => exact .inl ⟨h, rfl⟩
    | false => exact .inr ⟨h, rfl⟩
theorem first_len {pg : Pg} : (mainFirst pg).length = pg.length := by
  unfold mainFirst
  rw [List.length_append]
  induction pg with
  | nil => rfl
  | cons o t ih =>
    rw [List.filter_cons, List.filter_cons]
    cases isMain o.name <;> simp at ih ⊢ <;> omega
/-- what is asked of a program whose rows are to be made, all told -/
structure Small (n k d : Nat) (pg : Pg) : Prop where
  few : pg.length ≤ 1000
  bd : ∀ o ∈ pg, deeps o.body < 10 ∧ (allBd o.body).length ≤ n ∧ (∀ t ∈ allBd o.body, smallS k d t) ∧ o.ps.length ≤ 1000 ∧ inLps False o.body
  calls : ∀ o ∈ pg, ∀ f, calledIn (allBd o.body) f → f ∈ pg.map (·.name)
theorem small_rows {n k d : Nat} {pg : Pg} (h : Small n k d pg) (hn : n ≤ 100000) (hk : k ≤ 1000) (hd : d < 12) (hs : 1000 + (2 ^ d * k + 1) * n < 10000000) (hr : pg.length * (n * (k * 2 ^ d + 4) + 1) < 16777215) : okRows pg := by
  refine ⟨fun o ho => ?_, h.few, ?_, fun c hc => ?_⟩
  · obtain ⟨h1, h2, h3, h4, h5⟩ := h.bd o ho
    refine ⟨⟨h1, by omega, fun s hs => ?_, ?_⟩, h5⟩
    · obtain ⟨q1, q2⟩ := h3 s hs
      exact ⟨by omega, fun e he => by have := q2 e he; omega⟩
    · have h6 := slots_le h3
      have h7 : (2 ^ d * k + 1) * (allBd o.body).length ≤ (2 ^ d * k + 1) * n := Nat.mul_le_mul_left _ h2
      omega
  · have := mkAll_len (k := k) (d := d) (n := n) (os := mainFirst pg) (s := (⟨[], [], [], []⟩, [])) fun o ho => ⟨(h.bd o (first_mem.mp ho)).2.1, (h.bd o (first_mem.mp ho)).2.2.1⟩
    rw [first_len] at this
    rw [mkAll_eq]
    simp only [List.length_nil] at this
    omega
  · rw [mkAll_eq] at hc
    rcases mkSteps_calls c hc with h1 | ⟨o, ho, h1⟩
    · cases h1
    · have h2 := h.calls o (first_mem.mp ho) _ h1
      obtain ⟨o', h3, h4⟩ := List.mem_map.mp h2
      exact List.mem_map.mpr ⟨o', first_mem.mpr h3, h4⟩
theorem built_small {own : Int} {ws : List Str} {rs : Rm} {pg : Pg} (h : Built own ws rs pg) : Small 62 6 10 pg := by
  have hpl : pg.length ≤ 4 := by
    have := congrArg List.length h.names
    rw [List.length_map] at this
    rw [this]; exact h.rooms.1
  have hask : ∀ o ∈ pg, ∀ s ∈ allBd o.body, ∃ lp, askDL (askO own ws rs (isMain o.name)) (s, lp) := fun o ho s hs => by
    rw [← pln_fst none o.body] at hs
    obtain ⟨x, hx, rfl⟩ := List.mem_map.mp hs
    exact ⟨x.2, askSs (h.defs o ho).1 (fun z => by cases z) x hx⟩
  refine ⟨by omega, fun o ho => ⟨by have := (h.defs o ho).2.1; omega, ?_, fun s hs => ?_, ?_, ?_⟩, fun o ho f hf => ?_⟩
  · have h1 := congrArg List.length (pln_fst none o.body)
    rw [List.length_map, pln_len] at h1
    rw [← h1]
    exact Nat.le_trans (mem_le_sum (f := fun o : Df => (ln o.body).length) ho) h.len
  · obtain ⟨lp, ha⟩ := hask o ho s hs
    cases s with
    | put l a b => exact ⟨Nat.le_of_ble_eq_true rfl, fun e he => by
        rcases List.mem_cons.mp he with rfl | he
        · exact ha.1.1
        · rw [List.mem_singleton.mp he]; exact ha.2.1⟩
    | set l x e => exact ⟨Nat.le_of_ble_eq_true rfl, fun e' he => by rw [List.mem_singleton.mp he]; exact ha.2.1⟩
    | tell l e => exact ⟨Nat.le_of_ble_eq_true rfl, fun e' he => by rw [List.mem_singleton.mp he]; exact ha.1⟩
    | ret l e => exact ⟨Nat.le_of_ble_eq_true rfl, fun e' he => by rw [List.mem_singleton.mp he]; exact ha.1.1⟩
    | join l x z e => exact ⟨Nat.le_of_ble_eq_true rfl, fun e' he => by rw [List.mem_singleton.mp he]; exact ha.2.1.1⟩
    | call l x f es =>
      refine ⟨?_, fun e he => (ha.2.1 e he).1⟩
      obtain ⟨_, _, ps, hps, _, hl⟩ := ha
      have := (h.rooms.2 _ hps).2.1
      show es.length ≤ 6
      rw [hl]; exact this
    | if1 l e b => exact ⟨Nat.le_of_ble_eq_true rfl, fun e' he => by rw [List.mem_singleton.mp he]; exact ha.1⟩
    | if2 l e b c => exact ⟨Nat.le_of_ble_eq_true rfl, fun e' he => by rw [List.mem_singleton.mp he]; exact ha.1⟩
    | whl l e b => exact ⟨Nat.le_of_ble_eq_true rfl, fun e' he => by rw [List.mem_singleton.mp he]; exact ha.1⟩
    | stop l => exact ⟨Nat.le_of_ble_eq_true rfl, fun e' he => by cases he⟩
    | brk l => exact ⟨Nat.le_of_ble_eq_true rfl, fun e' he => by cases he⟩
    | agn l => exact ⟨Nat.le_of_ble_eq_true rfl, fun e' he => by cases he⟩
    | meet l => exact ⟨Nat.le_of_ble_eq_true rfl, fun e' he => by cases he⟩
  · have := (h.rooms.2 _ (h.defs o ho).2.2).2.1
    dsimp only at this
    omega
  · have := okSts_in false o.body (h.defs o ho).1
    rw [show ((false : Bool) = true) = False from by simp] at this
    exact this
  · obtain ⟨l, x, es, hs⟩ := hf
    obtain ⟨lp, _, _, ps, hps, _⟩ := hask o ho _ hs
    rw [← h.names] at hps
    obtain ⟨o', ho', e⟩ := List.mem_map.mp hps
    exact List.mem_map.mpr ⟨o', ho', congrArg Prod.fst e⟩
theorem built_rows {own : Int} {ws : List Str} {rs : Rm} {pg : Pg} (h : Built own ws rs pg) : okRows pg := by
  have hpl : pg.length ≤ 4 := by
    have := congrArg List.length h.names
    rw [List.length_map] at this
    rw [this]; exact h.rooms.1
  refine small_rows (built_small h) (by decide) (by decide) (by decide) (by decide) ?_
  have : pg.length * (62 * (6 * 2 ^ 10 + 4) + 1) ≤ 4 * (62 * (6 * 2 ^ 10 + 4) + 1) := Nat.mul_le_mul_right _ hpl
  omega
end Tl
namespace Tl
open PySem PySem.Spec PyProof.Rows L2
/-! ### sorted(xs) of whole numbers -/
def cSortI : RLt := fun ds M Q => match ds with
  | [x] => match intLst M x with
    | some is => ∀ ys : List Int, ys.Perm is → ys.Pairwise (· ≤ ·) → Q (.lst (ys.map D.int)) M
    | none => False
  | _ => False
theorem cq_sorted {X : Cx} : CallQ X (.builtin "sorted") cSortI := CallRimp cr_sortedI (by
  rintro xs H Q ⟨G, F, M, ds, Qt, R, r, h, k⟩
  match ds, r, h with
  | [x], .cons h1 .nil, h =>
    have h : (match intLst M x with | some is => ∀ ys : List Int, ys.Perm is → ys.Pairwise (· ≤ ·) → Qt (.lst (ys.map D.int)) M | none => False) := h
    cases e : intLst M x with
    | none => rw [e] at h; exact h.elim
    | some is =>
      rw [e] at h
      obtain ⟨a, rfl, hs⟩ := intLst_of R h1 e
      refine ⟨a, is, rfl, hs, fun ys p hp ho np => ?_⟩
      obtain ⟨s', r1⟩ := R.newF (o := .lst (ys.map V.int)) np
      exact k _ _ _ M _ s' r1 (.lst upd_same (rps_ints ys)) (h ys hp ho))
theorem uSortI {x : D} {M : MH} {Q : VD} : cSortI [x] M Q = oSome (intLst M x) fun is => ∀ ys : List Int, ys.Perm is → ys.Pairwise (· ≤ ·) → Q (.lst (ys.map D.int)) M := by
  show (match intLst M x with | some is => ∀ ys : List Int, ys.Perm is → ys.Pairwise (· ≤ ·) → Q (.lst (ys.map D.int)) M | none => False) = _
  unfold oSome; cases intLst M x <;> rfl
/-! ### rows next to a row -/
def nextF (r : Rw) (k : Int) : List Int := match r with
  | .back _ => []
  | .jump _ t => [t]
  | .split _ _ t => if t = k + 1 then [k + 1] else if t < k + 1 then [t, k + 1] else [k + 1, t]
  | _ => [k + 1]
theorem next_split {l f t k : Int} : nextF (.split l f t) k = if t = k + 1 then [k + 1] else if t < k + 1 then [t, k + 1] else [k + 1, t] := rfl
/-! ### the words of joins, among the rows -/
theorem rows_len {pg : Pg} (h : okRows pg) : (rowsF pg).length < 16777215 := by
  have h1 := h.len
  have h2 : ∀ (cs : List (Nat × Str)) (f : Nat × Str → Int) (rs : List Rw), (cs.foldl (fun rows c => leadAt rows c.1 (f c)) rs).length = rs.length := by
    intro cs f
    induction cs with
    | nil => intro rs; rfl
    | cons c t ih => intro rs; rw [List.foldl_cons, ih, leadAt_len]
  show ((mkAll (mainFirst pg)).1.calls.foldl (fun rows c => leadAt rows c.1 (beginOf (mkAll (mainFirst pg)).2 c.2)) (mkAll (mainFirst pg)).1.rows).length < _
  rw [h2]
  exact h1
end Tl
namespace Tl
/-! ### ways in a graph of numbers -/
/-- a way of n steps from a to b, all of whose places keep p -/
inductive WayN (nx : Nat → List Nat) (p : Nat → Prop) : Nat → Nat → Nat → Prop
  | here {a : Nat} : p a → WayN nx p 0 a a
  | step {n a j b : Nat} : p a → j ∈ nx a → WayN nx p n j b → WayN nx p (n + 1) a b
def Way (nx : Nat → List Nat) (p : Nat → Prop) (a b : Nat) : Prop := ∃ n, WayN nx p n a b
section
variable {nx : Nat → List Nat} {p q : Nat → Prop}
theorem WayN.head {n a b : Nat} (h : WayN nx p n a b) : p a := by cases h <;> assumption
theorem WayN.last {n a b : Nat} (h : WayN nx p n a b) : p b := by
  induction h with
  | here h => exact h
  | step _ _ _ ih => exact ih
theorem WayN.app {n m a b c : Nat} (h : WayN nx p n a b) (g : WayN nx p m b c) : WayN nx p (n + m) a c := by
  induction h with
  | here _ => rw [Nat.zero_add]; exact g
  | step h1 h2 _ ih => rw [Nat.add_right_comm]; exact .step h1 h2 (ih g)
theorem Way.app {a b c : Nat} (h : Way nx p a b) (g : Way nx p b c) : Way nx p a c := by
  obtain ⟨n, h⟩ := h; obtain ⟨m, g⟩ := g
  exact ⟨_, h.app g⟩
theorem WayN.imp (hi : ∀ x, p x → q x) {n a b : Nat} (h : WayN nx p n a b) : WayN nx q n a b := by
  induction h with
  | here h => exact .here (hi _ h)
  | step h1 h2 _ ih => exact .step (hi _ h1) h2 ih
theorem Way.imp (hi : ∀ x, p x → q x) {a b : Nat} (h : Way nx p a b) : Way nx q a b := by
  obtain ⟨n, h⟩ := h; exact ⟨n, h.imp hi⟩
/-- a way passes j, or keeps off it -/
theorem WayN.cut {n a b : Nat} (h : WayN nx p n a b) (j : Nat) : (∃ k, k ≤ n ∧ WayN nx p k a j ∧ WayN nx p (n - k) j b) ∨ WayN nx (fun x => p x ∧ x ≠ j) n a b := by
  induction h with
  | @here a h =>
    by_cases e : a = j
    · subst e; exact .inl ⟨0, Nat.le_refl _, .here h, .here h⟩
    · exact .inr (.here ⟨h, e⟩)
  | @step n a c b h1 h2 h3 ih =>
    by_cases e : a = j
    · subst e; exact .inl ⟨0, Nat.zero_le _, .here h1, .step h1 h2 h3⟩
    · rcases ih with ⟨k, hk, g1, g2⟩ | g
      · exact .inl ⟨k + 1, by omega, .step h1 h2 g1, by rw [show n + 1 - (k + 1) = n - k from by omega]; exact g2⟩
      · exact .inr (.step ⟨h1, e⟩ h2 g)
theorem WayN.snoc {n a b c : Nat} (h : WayN nx p n a b) (hc : c ∈ nx b) (pc : p c) : WayN nx p (n + 1) a c := h.app (.step h.last hc (.here pc))
/-- what holds ahead and is kept by each step holds along the way -/
theorem WayN.keep (S : Nat → Prop) (hs : ∀ x, S x → ∀ y ∈ nx x, S y) {n a b : Nat} (h : WayN nx p n a b) (ha : S a) : S b := by
  induction h with
  | here _ => exact ha
  | step _ h2 _ ih => exact ih (hs _ ha _ h2)
theorem Way.keep (S : Nat → Prop) (hs : ∀ x, S x → ∀ y ∈ nx x, S y) {a b : Nat} (h : Way nx p a b) (ha : S a) : S b := by
  obtain ⟨n, h⟩ := h; exact h.keep S hs ha
/-- the same, along the places that keep p -/
theorem WayN.keepP (S : Nat → Prop) (hs : ∀ x, S x → p x → ∀ y ∈ nx x, p y → S y) {n a b : Nat} (h : WayN nx p n a b) (ha : S a) : S b := by
  induction h with
  | here _ => exact ha
  | step h1 h2 h3 ih => exact ih (hs _ ha h1 _ h2 h3.head)
end
/-! ### what each way to a back row passes -/
section
variable (nx : Nat → List Nat) (bk : Nat → Prop)
/-- each way from k to a back row passes j -/
def Dom (k j : Nat) : Prop := ¬ ∃ b, bk b ∧ Way nx (fun x => x ≠ j) k b
def Ends (k : Nat) : Prop := ∃ b, bk b ∧ Way nx (fun _ => True) k b
end
section
variable {nx : Nat → List Nat} {bk : Nat → Prop}
theorem Dom.next {k j y : Nat} (h : Dom nx bk k j) (e : k ≠ j) (hy : y ∈ nx k) : Dom nx bk y j := fun ⟨b, hb, _, g⟩ => h ⟨b, hb, _, .step e hy g⟩
theorem Dom.back {k j : Nat} (h : Dom nx bk k j) (hb : bk k) : k = j := Classical.byContradiction fun e => h ⟨k, hb, 0, .here e⟩
theorem Dom.of {k j : Nat} (hb : ¬ bk k) (h : ∀ y ∈ nx k, Dom nx bk y j) : Dom nx bk k j := by
  rintro ⟨b, hb', n, g⟩
  cases g with
  | here _ => exact hb hb'
  | step _ h2 h3 => exact h _ h2 ⟨b, hb', _, h3⟩
theorem Dom.way {k j b n : Nat} (h : Dom nx bk k j) (hb : bk b) (g : WayN nx (fun _ => True) n k b) : ∃ i, i ≤ n ∧ WayN nx (fun _ => True) i k j ∧ WayN nx (fun _ => True) (n - i) j b := by
  rcases g.cut j with h1 | h1
  · exact h1
  · exact (h ⟨b, hb, _, h1.imp fun _ h => h.2⟩).elim
theorem Dom.trans {k m j : Nat} (h : Dom nx bk k m) (g : Dom nx bk m j) : Dom nx bk k j := by
  rintro ⟨b, hb, n, w⟩
  rcases w.cut m with ⟨i, _, w1, w2⟩ | w1
  · exact g ⟨b, hb, _, w2⟩
  · exact h ⟨b, hb, _, w1.imp fun _ h => h.2⟩
end
end Tl
namespace Tl
/-! ### rows as bits -/
theorem sum_set : ∀ {l : List Nat} {k v : Nat} (h : k < l.length), (l.set k v).sum + l[k] = l.sum + v
  | a :: l, 0, v, _ => by simp; omega
  | a :: l, k + 1, v, h => by
    simp only [List.set_cons_succ, List.sum_cons, List.getElem_cons_succ]
    have := sum_set (l := l) (k := k) (v := v) (Nat.lt_of_succ_lt_succ h)
    omega
theorem sub_le_and {a b : Nat} (h : ∀ j, a.testBit j = true → b.testBit j = true) : a ≤ b := by
  have : a &&& b = a := by
    apply Nat.eq_of_testBit_eq
    intro j
    rw [Nat.testBit_and]
    cases e : a.testBit j with
    | false => rfl
    | true => rw [h j e]; rfl
  rw [← this]
  exact Nat.and_le_right
def gB (f : List Nat) (k j : Nat) : Bool := (f[k]?.getD 0).testBit j
section
variable (nx : Nat → List Nat) (bk : Nat → Bool) (n : Nat)
/-- what a round sets at k -/
def stepF (f : List Nat) (k : Nat) : Nat := (nx k).foldl (fun c a => c &&& f[a]?.getD 0) (if bk k then 0 else 2 ^ n - 1) ||| 2 ^ k
end
section
variable {nx : Nat → List Nat} {bk : Nat → Bool} {n : Nat}
theorem foldl_and {f : List Nat} {j : Nat} : ∀ {as : List Nat} {c : Nat}, (as.foldl (fun c a => c &&& f[a]?.getD 0) c).testBit j = (c.testBit j && as.all fun a => gB f a j)
  | [], c => by simp
  | a :: as, c => by
    rw [List.foldl_cons, foldl_and (as := as), Nat.testBit_and, List.all_cons, Bool.and_assoc]; rfl
theorem stepF_bit {f : List Nat} {k j : Nat} : (stepF nx bk n f k).testBit j = true ↔ j = k ∨ (j < n ∧ bk k = false ∧ ∀ a ∈ nx k, gB f a j = true) := by
  unfold stepF
  rw [Nat.testBit_or, foldl_and, Nat.testBit_two_pow, Bool.or_eq_true, Bool.and_eq_true, List.all_eq_true]
  have : (if bk k = true then 0 else 2 ^ n - 1).testBit j = true ↔ j < n ∧ bk k = false := by
    cases bk k <;> simp [Nat.testBit_two_pow_sub_one]
  rw [this]
  simp only [decide_eq_true_eq]
  constructor
  · rintro (⟨⟨a, b⟩, c⟩ | e)
    · exact .inr ⟨a, b, c⟩
    · exact .inl e.symm
  · rintro (e | ⟨a, b, c⟩)
    · exact .inr e.symm
    · exact .inl ⟨⟨a, b⟩, c⟩
/-- what stands between the rounds -/
structure InvB (nx : Nat → List Nat) (bk : Nat → Bool) (n : Nat) (f : List Nat) : Prop where
  len : f.length = n
  dom : ∀ k j, k < n → j < n → Dom nx (fun x => bk x = true) k j → gB f k j = true
  pre : ∀ k j, k < n → (stepF nx bk n f k).testBit j = true → gB f k j = true
  low : ∀ k j, gB f k j = true → j < n
theorem gB_set {f : List Nat} {k v a j : Nat} (h : k < f.length) : gB (f.set k v) a j = if a = k then v.testBit j else gB f a j := by
  unfold gB
  rw [List.getElem?_set]
  by_cases e : k = a
  · subst e; simp [h]
  · simp [e, Ne.symm e]
theorem stepF_low {f : List Nat} {k j : Nat} (hk : k < n) (h : (stepF nx bk n f k).testBit j = true) : j < n := by
  rcases stepF_bit.mp h with rfl | ⟨a, _⟩
  · exact hk
  · exact a
theorem InvB.start (hs : ∀ k, k < n → ∀ a ∈ nx k, a < n) : InvB nx bk n (List.replicate n (2 ^ n - 1)) := by
  have hg : ∀ k j, k < n → j < n → gB (List.replicate n (2 ^ n - 1)) k j = true := by
    intro k j hk hj
    unfold gB
    rw [List.getElem?_replicate_of_lt hk]
    simp [Nat.testBit_two_pow_sub_one, hj]
  refine ⟨by simp, fun k j hk hj _ => hg k j hk hj, fun k j hk h => hg k j hk (stepF_low hk h), fun k j h => ?_⟩
  unfold gB at h
  by_cases e : k < n
  · rw [List.getElem?_replicate_of_lt e] at h
    simpa [Nat.testBit_two_pow_sub_one] using h
  · rw [List.getElem?_eq_none (by simp; omega)] at h
    simp at h
theorem InvB.set {f : List Nat} (h : InvB nx bk n f) (hs : ∀ k, k < n → ∀ a ∈ nx k, a < n) {k : Nat} (hk : k < n) : InvB nx bk n (f.set k (stepF nx bk n f k)) ∧ (stepF nx bk n f k ≠ f[k]?.getD 0 → (f.set k (stepF nx bk n f k)).sum < f.sum) := by
  have hl : k < f.length := by rw [h.len]; exact hk
  have hle : ∀ a j, gB (f.set k (stepF nx bk n f k)) a j = true → gB f a j = true := by
    intro a j
    rw [gB_set hl]
    split
    · rename_i e; subst e; exact h.pre _ j hk
    · exact id
  refine ⟨⟨by rw [List.length_set]; exact h.len, fun a j ha hj hd => ?_, fun a j ha hb => ?_, fun a j g => h.low a j (hle a j g)⟩, fun hne => ?_⟩
  · rw [gB_set hl]
    split
    · rename_i e
      subst e
      rw [stepF_bit]
      by_cases e : j = a
      · exact .inl e
      · refine .inr ⟨hj, ?_, fun y hy => h.dom y j (hs a ha y hy) hj (hd.next (fun z => e z.symm) hy)⟩
        cases eb : bk a with
        | false => rfl
        | true => exact (e (hd.back eb).symm).elim
    · exact h.dom a j ha hj hd
  · have hb' : (stepF nx bk n f a).testBit j = true := by
      rw [stepF_bit] at hb ⊢
      rcases hb with e | ⟨h1, h2, h3⟩
      · exact .inl e
      · exact .inr ⟨h1, h2, fun y hy => hle y j (h3 y hy)⟩
    rw [gB_set hl]
    split
    · rename_i e; subst e; exact hb'
    · exact h.pre a j ha hb'
  · have h1 := sum_set (l := f) (k := k) (v := stepF nx bk n f k) hl
    have h2 : stepF nx bk n f k ≤ f[k] := sub_le_and fun j hj => by
      have := h.pre k j hk hj
      unfold gB at this
      rwa [List.getElem?_eq_getElem hl] at this
    rw [List.getElem?_eq_getElem hl] at hne
    have : stepF nx bk n f k ≠ f[k] := hne
    omega
end
end Tl
namespace Tl
open PySem PySem.Spec PyProof.Rows L2
/-! ### where the rows of a program lead -/
inductive Shp where
  | pl | bck | jmp (t : Int) | spl (t : Int)
def Rw.shp : Rw → Shp
  | .split _ _ t => .spl t | .jump _ t => .jmp t | .back _ => .bck | _ => .pl
def Rw.kd : Rw → Nat
  | .split _ _ _ => 2 | .jump _ _ => 1 | .back _ => 3 | .call _ _ _ _ _ => 4 | _ => 0
def kdAt (rows : List Rw) (z k : Nat) : Prop := rows[z]?.map Rw.kd = some k
theorem kdAt.lt {rows : List Rw} {z k : Nat} (h : kdAt rows z k) : z < rows.length := by
  unfold kdAt at h
  obtain ⟨r, hr, _⟩ := Option.map_eq_some_iff.mp h
  exact (List.getElem?_eq_some_iff.mp hr).1
theorem lead_get {rows : List Rw} {k j : Nat} {t : Int} : (leadAt rows k t)[j]? = if k = j then rows[j]?.map (·.lead t) else rows[j]? := by
  unfold leadAt
  rw [List.getElem?_modify]
  split
  · rename_i e; subst e; rfl
  · rename_i e; simp
theorem lead_kd (r : Rw) (t : Int) : (r.lead t).kd = r.kd := by cases r <;> rfl
theorem kdAt.lead {rows : List Rw} {z k j : Nat} {t : Int} (h : kdAt rows z k) : kdAt (leadAt rows j t) z k := by
  unfold kdAt at *
  rw [lead_get]
  split
  · rw [Option.map_map]
    rw [show (Rw.kd ∘ fun x => x.lead t) = Rw.kd from funext fun r => lead_kd r t]; exact h
  · exact h
/-- what a maker lays behind -/
structure Grow (m m' : Mk) : Prop where
  len : m.rows.length ≤ m'.rows.length
  old : ∀ i, i < m.rows.length → m'.rows[i]? = m.rows[i]?
  lv : ∃ Z, m'.leaves = m.leaves ++ Z ∧ ∀ z ∈ Z, m.rows.length ≤ z ∧ kdAt m'.rows z 1
  cs : ∃ Z, m'.calls = m.calls ++ Z ∧ ∀ z ∈ Z, m.rows.length ≤ z.1 ∧ kdAt m'.rows z.1 4
  lp : (m.loops = [] ∧ m'.loops = []) ∨ ∃ b l r Z, m.loops = (b, l) :: r ∧ m'.loops = (b, l ++ Z) :: r ∧ ∀ z ∈ Z, m.rows.length ≤ z ∧ kdAt m'.rows z 1
theorem lpsame {m : Mk} {P : Nat → Prop} : (m.loops = [] ∧ m.loops = []) ∨ ∃ b l r Z, m.loops = (b, l) :: r ∧ m.loops = (b, l ++ Z) :: r ∧ ∀ z ∈ Z, P z := by
  cases e : m.loops with
  | nil => exact .inl ⟨rfl, rfl⟩
  | cons p r => exact .inr ⟨p.1, p.2, r, [], rfl, by rw [List.append_nil], fun _ h => by cases h⟩
theorem Grow.refl {m : Mk} : Grow m m := ⟨Nat.le_refl _, fun _ _ => rfl, ⟨[], by simp, fun _ h => by cases h⟩, ⟨[], by simp, fun _ h => by cases h⟩, lpsame⟩
theorem kdAt.old {m m' : Mk} {z k : Nat} (g : ∀ i, i < m.rows.length → m'.rows[i]? = m.rows[i]?) (h : kdAt m.rows z k) : kdAt m'.rows z k := by
  have := h.lt
  unfold kdAt at *
  rw [g z this]; exact h
theorem Grow.trans {a b c : Mk} (h : Grow a b) (g : Grow b c) : Grow a c := by
  refine ⟨Nat.le_trans h.len g.len, fun i hi => (g.old i (Nat.lt_of_lt_of_le hi h.len)).trans (h.old i hi), ?_, ?_, ?_⟩
  · obtain ⟨Z, e, hz⟩ := h.lv
    obtain ⟨Z', e', hz'⟩ := g.lv
    refine ⟨Z ++ Z', by rw [e', e, List.append_assoc], fun z hm => ?_⟩
    rcases List.mem_append.mp hm with hm | hm
    · exact ⟨(hz z hm).1, (hz z hm).2.old g.old⟩
    · exact ⟨Nat.le_trans h.len (hz' z hm).1, (hz' z hm).2⟩
  · obtain ⟨Z, e, hz⟩ := h.cs
    obtain ⟨Z', e', hz'⟩ := g.cs
    refine ⟨Z ++ Z', by rw [e', e, List.append_assoc], fun z hm => ?_⟩
    rcases List.mem_append.mp hm with hm | hm
    · exact ⟨(hz z hm).1, (hz z hm).2.old g.old⟩
    · exact ⟨Nat.le_trans h.len (hz' z hm).1, (hz' z hm).2⟩
  · rcases h.lp with ⟨e1, e2⟩ | ⟨b1, l, r, Z, e1, e2, hz⟩
    · rcases g.lp with ⟨e3, e4⟩ | ⟨b1, l, r, Z, e3, e4, hz⟩
      · exact .inl ⟨e1, e4⟩
      · rw [e2] at e3; cases e3
    · rcases g.lp with ⟨e3, e4⟩ | ⟨b2, l2, r2, Z', e3, e4, hz'⟩
      · rw [e2] at e3; cases e3
      · rw [e2] at e3
        cases e3
        refine .inr ⟨b1, l, r, Z ++ Z', e1, by rw [e4, List.append_assoc], fun z hm => ?_⟩
        rcases List.mem_append.mp hm with hm | hm
        · exact ⟨(hz z hm).1, (hz z hm).2.old g.old⟩
        · exact ⟨Nat.le_trans h.len (hz' z hm).1, (hz' z hm).2⟩
theorem Grow.add {m : Mk} {rs : List Rw} : Grow m (m.add rs) := by
  refine ⟨by unfold Mk.add; simp, fun i hi => by unfold Mk.add; exact List.getElem?_append_left hi, ⟨[], by unfold Mk.add; simp, fun _ h => by cases h⟩, ⟨[], by unfold Mk.add; simp, fun _ h => by cases h⟩, ?_⟩
  exact lpsame (m := m)
theorem Grow.lead {m m' : Mk} {k : Nat} (h : Grow m m') (hk : m.rows.length ≤ k) : Grow m (m'.lead k) := by
  have hl : (m'.lead k).rows.length = m'.rows.length := lead_len
  refine ⟨by rw [hl]; exact h.len, fun i hi => ?_, ?_, ?_, ?_⟩
  · rw [← h.old i hi]
    show (leadAt m'.rows k _)[i]? = _
    rw [lead_get, if_neg (by omega)]
  · obtain ⟨Z, e, hz⟩ := h.lv
    exact ⟨Z, e, fun z hm => ⟨(hz z hm).1, (hz z hm).2.lead⟩⟩
  · obtain ⟨Z, e, hz⟩ := h.cs
    exact ⟨Z, e, fun z hm => ⟨(hz z hm).1, (hz z hm).2.lead⟩⟩
  · rcases h.lp with h1 | ⟨b, l, r, Z, e1, e2, hz⟩
    · exact .inl h1
    · exact .inr ⟨b, l, r, Z, e1, e2, fun z hm => ⟨(hz z hm).1, (hz z hm).2.lead⟩⟩
theorem Grow.leads {m : Mk} : ∀ {ks : List Nat} {m' : Mk}, Grow m m' → (∀ k ∈ ks, m.rows.length ≤ k) → Grow m (m'.leads ks)
  | [], _, h, _ => h
  | k :: ks, m', h, hk => Grow.leads (ks := ks) (h.lead (hk k (List.mem_cons_self ..))) fun j hj => hk j (List.mem_cons_of_mem _ hj)
theorem add_len {m : Mk} {rs : List Rw} : (m.add rs).rows.length = m.rows.length + rs.length := by unfold Mk.add; simp
theorem Grow.pop {m m1 m2 : Mk} {p : Nat × List Nat} (h : Grow { m1 with loops := p :: m1.loops } m2) (g : Grow m m1) (hp : ∀ z ∈ p.2, m.rows.length ≤ z) (e : m1.loops = m.loops) {Q : Prop}
    (k : ∀ Z, m2.loops = (p.1, p.2 ++ Z) :: m.loops → (∀ z ∈ Z, m1.rows.length ≤ z ∧ kdAt m2.rows z 1) → Grow m (({ m2 with loops := m.loops }).leads (p.2 ++ Z)) → Q) : Q := by
  rcases h.lp with ⟨e1, _⟩ | ⟨b, l, r, Z, e1, e2, hz⟩
  · cases e1
  · cases e1
    rw [e] at e2
    refine k Z e2 hz ?_
    have h2 : Grow m { m2 with loops := m.loops } := by
      refine ⟨Nat.le_trans g.len h.len, fun i hi => (h.old i (Nat.lt_of_lt_of_le hi g.len)).trans (g.old i hi), ?_, ?_, lpsame (m := m)⟩
      · obtain ⟨Z, e, hz⟩ := g.lv
        obtain ⟨Z', e', hz'⟩ := h.lv
        refine ⟨Z ++ Z', by show m2.leaves = _; rw [e', show ({ m1 with loops := (b, l) :: m1.loops } : Mk).leaves = m1.leaves from rfl, e, List.append_assoc], fun z hm => ?_⟩
        rcases List.mem_append.mp hm with hm | hm
        · exact ⟨(hz z hm).1, (hz z hm).2.old h.old⟩
        · exact ⟨Nat.le_trans g.len (hz' z hm).1, (hz' z hm).2⟩
      · obtain ⟨Z, e, hz⟩ := g.cs
        obtain ⟨Z', e', hz'⟩ := h.cs
        refine ⟨Z ++ Z', by show m2.calls = _; rw [e', show ({ m1 with loops := (b, l) :: m1.loops } : Mk).calls = m1.calls from rfl, e, List.append_assoc], fun z hm => ?_⟩
        rcases List.mem_append.mp hm with hm | hm
        · exact ⟨(hz z hm).1, (hz z hm).2.old h.old⟩
        · exact ⟨Nat.le_trans g.len (hz' z hm).1, (hz' z hm).2⟩
    refine h2.leads fun k hk => ?_
    rcases List.mem_append.mp hk with hk | hk
    · exact hp k hk
    · exact Nat.le_trans g.len (hz k hk).1
mutual
theorem mkS_grow (ss : List Str) (fr : Int) : ∀ (s : Sm) (m : Mk), Grow m (mkS ss fr m s)
  | .if1 l e b, m => by
    unfold mkS
    refine (Grow.add.trans (mkB_grow ss fr b _)).lead ?_
    rw [add_len, List.length_append, List.length_singleton]; omega
  | .if2 l e b c, m => by
    unfold mkS
    dsimp only
    have h1 : Grow m (m.add (exRows ss l e fr ++ [.split l fr 0])) := Grow.add
    have h1l : m.rows.length ≤ (m.add (exRows ss l e fr ++ [.split l fr 0])).rows.length - 1 := by
      rw [add_len, List.length_append, List.length_singleton]; omega
    generalize m.add (exRows ss l e fr ++ [.split l fr 0]) = m1 at *
    have h2 : Grow m ((mkB ss fr m1 b).add [.jump l 0]) := (h1.trans (mkB_grow ss fr b m1)).trans Grow.add
    have h2l : m.rows.length ≤ ((mkB ss fr m1 b).add [.jump l 0]).rows.length - 1 := by
      rw [add_len, List.length_singleton]
      have := (h1.trans (mkB_grow ss fr b m1)).len
      omega
    generalize (mkB ss fr m1 b).add [.jump l 0] = m2 at *
    exact ((h2.lead h1l).trans (mkB_grow ss fr c _)).lead h2l
  | .whl l e b, m => by
    unfold mkS
    dsimp only
    have h1 : Grow m (m.add (exRows ss l e fr ++ [.split l fr 0])) := Grow.add
    have h1l : m.rows.length ≤ (m.add (exRows ss l e fr ++ [.split l fr 0])).rows.length - 1 := by
      rw [add_len, List.length_append, List.length_singleton]; omega
    have hlp : (m.add (exRows ss l e fr ++ [.split l fr 0])).loops = m.loops := rfl
    generalize m.add (exRows ss l e fr ++ [.split l fr 0]) = m1 at *
    have h2 := (mkB_grow ss fr b { m1 with loops := (m.rows.length - 1, [m1.rows.length - 1]) :: m1.loops }).trans (Grow.add (rs := [.jump l (m.rows.length - 1 : Nat)]))
    generalize (mkB ss fr { m1 with loops := (m.rows.length - 1, [m1.rows.length - 1]) :: m1.loops } b).add [.jump l (m.rows.length - 1 : Nat)] = m2 at *
    refine h2.pop h1 (fun z hz => by rw [List.mem_singleton.mp hz]; exact h1l) hlp fun Z e hz g => ?_
    rw [e]
    exact g
  | .brk l, m => by
    unfold mkS
    split
    · exact Grow.refl
    · rename_i b lv r e
      refine ⟨by simp, fun i hi => List.getElem?_append_left hi, ⟨[], by simp, fun _ h => by cases h⟩, ⟨[], by simp, fun _ h => by cases h⟩, .inr ⟨b, lv, r, [m.rows.length], e, rfl, fun z hz => ?_⟩⟩
      rw [List.mem_singleton.mp hz]
      exact ⟨Nat.le_refl _, by unfold kdAt; simp [Rw.kd]⟩
  | .agn l, m => by
    unfold mkS
    split
    · exact Grow.refl
    · exact Grow.add
  | .ret l e, m => by
    unfold mkS
    dsimp only
    have h1 : Grow m (m.add (exRows ss l e fr ++ [.copy l 0 fr, .jump l 0])) := Grow.add
    have hl : (m.add (exRows ss l e fr ++ [.copy l 0 fr, .jump l 0])).rows.length - 1 = m.rows.length + (exRows ss l e fr).length + 1 := by rw [add_len]; simp; omega
    have hk : kdAt (m.add (exRows ss l e fr ++ [.copy l 0 fr, .jump l 0])).rows ((m.add (exRows ss l e fr ++ [.copy l 0 fr, .jump l 0])).rows.length - 1) 1 := by
      rw [hl]
      unfold kdAt Mk.add
      dsimp only
      rw [List.getElem?_append_right (by omega), List.getElem?_append_right (by omega), show m.rows.length + (exRows ss l e fr).length + 1 - m.rows.length - (exRows ss l e fr).length = 1 from by omega]
      rfl
    refine ⟨h1.len, h1.old, ⟨_, rfl, fun z hz => ?_⟩, ⟨[], by simp [Mk.add], fun _ h => by cases h⟩, lpsame (m := m)⟩
    rw [List.mem_singleton.mp hz]
    exact ⟨by rw [hl]; omega, hk⟩
  | .call l x f es, m => by
    unfold mkS
    dsimp only
    have h1 : Grow m (m.add (exsRows ss l es fr ++ [.call l (slotOf ss x) fr es.length 0])) := Grow.add
    have hl : (m.add (exsRows ss l es fr ++ [.call l (slotOf ss x) fr es.length 0])).rows.length - 1 = m.rows.length + (exsRows ss l es fr).length := by rw [add_len]; simp
    have hk : kdAt (m.add (exsRows ss l es fr ++ [.call l (slotOf ss x) fr es.length 0])).rows ((m.add (exsRows ss l es fr ++ [.call l (slotOf ss x) fr es.length 0])).rows.length - 1) 4 := by
      rw [hl]
      unfold kdAt Mk.add
      dsimp only
      rw [List.getElem?_append_right (by omega), List.getElem?_append_right (by omega), show m.rows.length + (exsRows ss l es fr).length - m.rows.length - (exsRows ss l es fr).length = 0 from by omega]
      rfl
    refine ⟨h1.len, h1.old, ⟨[], by simp [Mk.add], fun _ h => by cases h⟩, ⟨_, rfl, fun z hz => ?_⟩, lpsame (m := m)⟩
    rw [List.mem_singleton.mp hz]
    exact ⟨by dsimp only; rw [hl]; omega, hk⟩
  | .set .., m => by unfold mkS; exact Grow.add
  | .put .., m => by unfold mkS; exact Grow.add
  | .tell .., m => by unfold mkS; exact Grow.add
  | .meet .., m => by unfold mkS; exact Grow.add
  | .stop .., m => by unfold mkS; exact Grow.add
  | .join .., m => by unfold mkS; exact Grow.add
theorem mkB_grow (ss : List Str) (fr : Int) : ∀ (b : List Sm) (m : Mk), Grow m (mkB ss fr m b)
  | [], m => by unfold mkB; exact Grow.refl
  | s :: t, m => by
    unfold mkB
    exact (Grow.add.trans (mkS_grow ss fr s _)).trans (mkB_grow ss fr t _)
end
end Tl
namespace Tl
open PySem PySem.Spec PyProof.Rows L2
/-- behind the row i, by a row that goes back to t: the loop's split leads beyond i -/
def ExitR (R : List Shp) (E i t : Nat) : Prop := ∃ s u : Nat, t ≤ s ∧ s < i ∧ (∀ p, t ≤ p → p < s → R[p]? = some .pl) ∧ R[s]? = some (.spl u) ∧ i < u ∧ u ≤ E
def GoodR (R : List Shp) (a E i : Nat) : Prop := R[i]? = some .pl ∨ ∃ t : Nat, (R[i]? = some (.jmp t) ∨ R[i]? = some (.spl t)) ∧ a ≤ t ∧ t ≤ E ∧ (i < t ∨ ExitR R E i t)
def pend (m : Mk) (i : Nat) : Prop := i ∈ m.leaves ∨ ∃ b l r, m.loops = (b, l) :: r ∧ i ∈ l
structure wfm (m : Mk) : Prop where
  lv : ∀ z ∈ m.leaves, z < m.rows.length
  lp : ∀ q ∈ m.loops, ∀ z ∈ q.2, z < m.rows.length
theorem wfm.grow {m m' : Mk} (h : wfm m) (g : Grow m m') : wfm m' := by
  refine ⟨fun z hz => ?_, fun q hq z hz => ?_⟩
  · obtain ⟨Z, e, hZ⟩ := g.lv
    rw [e] at hz
    rcases List.mem_append.mp hz with hz | hz
    · exact Nat.lt_of_lt_of_le (h.lv z hz) g.len
    · exact (hZ z hz).2.lt
  · rcases g.lp with ⟨_, e⟩ | ⟨b, l, r, Z, e1, e2, hZ⟩
    · rw [e] at hq; cases hq
    · rw [e2] at hq
      rcases List.mem_cons.mp hq with rfl | hq
      · rcases List.mem_append.mp hz with hz | hz
        · exact Nat.lt_of_lt_of_le (h.lp (b, l) (by rw [e1]; exact List.mem_cons_self ..) z hz) g.len
        · exact (hZ z hz).2.lt
      · exact Nat.lt_of_lt_of_le (h.lp q (by rw [e1]; exact List.mem_cons_of_mem _ hq) z hz) g.len
theorem wfm.pend {m : Mk} (h : wfm m) {i : Nat} (p : pend m i) : i < m.rows.length := by
  rcases p with p | ⟨b, l, r, e, p⟩
  · exact h.lv i p
  · exact h.lp (b, l) (by rw [e]; exact List.mem_cons_self ..) i p
theorem pend_grow {m m' : Mk} (g : Grow m m') {i : Nat} (hi : i < m.rows.length) : pend m' i ↔ pend m i := by
  constructor
  · rintro (p | ⟨b, l, r, e, p⟩)
    · obtain ⟨Z, e, hZ⟩ := g.lv
      rw [e] at p
      rcases List.mem_append.mp p with p | p
      · exact .inl p
      · have := (hZ i p).1; omega
    · rcases g.lp with ⟨_, e2⟩ | ⟨b1, l1, r1, Z, e1, e2, hZ⟩
      · rw [e2] at e; cases e
      · rw [e2] at e
        cases e
        rcases List.mem_append.mp p with p | p
        · exact .inr ⟨_, _, _, e1, p⟩
        · have := (hZ i p).1; omega
  · rintro (p | ⟨b, l, r, e, p⟩)
    · obtain ⟨Z, e, hZ⟩ := g.lv
      exact .inl (by rw [e]; exact List.mem_append_left _ p)
    · rcases g.lp with ⟨e2, _⟩ | ⟨b1, l1, r1, Z, e1, e2, hZ⟩
      · rw [e2] at e; cases e
      · rw [e1] at e
        cases e
        exact .inr ⟨_, _, _, e2, List.mem_append_left _ p⟩
/-- the last rows R stand as the block from m to m' made them, but what waits in it -/
structure Fits (R : List Shp) (a E : Nat) (m m' : Mk) : Prop where
  own : ∀ i, m.rows.length ≤ i → i < m'.rows.length → ¬ pend m' i → R[i]? = m'.rows[i]?.map Rw.shp
  wait : ∀ i, m.rows.length ≤ i → i < m'.rows.length → pend m' i → ∃ t : Nat, R[i]? = some (.jmp t) ∧ i < t ∧ a ≤ t ∧ t ≤ E
  loop : ∀ b l r, m.loops = (b, l) :: r → a ≤ b ∧ ∃ s u : Nat, b ≤ s ∧ s < m.rows.length ∧ (∀ p, b ≤ p → p < s → R[p]? = some .pl) ∧ R[s]? = some (.spl u) ∧ m'.rows.length ≤ u ∧ u ≤ E
  fin : m'.rows.length ≤ E
theorem Fits.sub {R : List Shp} {a E : Nat} {m m' n n' : Mk} (h : Fits R a E m m') (h1 : m.rows.length ≤ n.rows.length) (h2 : n'.rows.length ≤ m'.rows.length)
    (hr : ∀ i, n.rows.length ≤ i → i < n'.rows.length → m'.rows[i]? = n'.rows[i]?) (hp : ∀ i, n.rows.length ≤ i → i < n'.rows.length → (pend m' i ↔ pend n' i))
    (hl : ∀ b l r, n.loops = (b, l) :: r → ∃ l0, m.loops = (b, l0) :: r) : Fits R a E n n' := by
  refine ⟨fun i hi hi2 hn => ?_, fun i hi hi2 hn => h.wait i (by omega) (by omega) ((hp i hi hi2).mpr hn), fun b l r e => ?_, Nat.le_trans h2 h.fin⟩
  · rw [← hr i hi hi2]
    exact h.own i (by omega) (by omega) fun z => hn ((hp i hi hi2).mp z)
  · obtain ⟨l0, e0⟩ := hl b l r e
    obtain ⟨g1, s, u, g2, g3, g4, g5, g6, g7⟩ := h.loop b l0 r e0
    exact ⟨g1, s, u, g2, by omega, g4, g5, by omega, g7⟩
theorem lp_grow {m m' : Mk} (g : Grow m m') : ∀ b l r, m'.loops = (b, l) :: r → ∃ l0, m.loops = (b, l0) :: r := by
  intro b l r e
  rcases g.lp with ⟨_, e2⟩ | ⟨b1, l1, r1, Z, e1, e2, hZ⟩
  · rw [e2] at e; cases e
  · rw [e2] at e; cases e; exact ⟨_, e1⟩
theorem Fits.mid {R : List Shp} {a E : Nat} {m m1 m2 m' : Mk} (h : Fits R a E m m') (g1 : Grow m m1) (g2 : Grow m1 m2) (g3 : Grow m2 m') : Fits R a E m1 m2 :=
  h.sub g1.len g3.len (fun i _ hi => g3.old i hi) (fun i _ hi => pend_grow g3 hi) (lp_grow g1)
/-- rows of its own -/
theorem Fits.row {R : List Shp} {a E : Nat} {m m' : Mk} (h : Fits R a E m m') (w : wfm m) {rs : List Rw} (hr : ∀ i, i < rs.length → m'.rows[m.rows.length + i]? = rs[i]?) (hl : m.rows.length + rs.length ≤ m'.rows.length) {i : Nat} (hi : i < rs.length)
    (hp : ¬ pend m' (m.rows.length + i)) : R[m.rows.length + i]? = rs[i]?.map Rw.shp := by
  rw [← hr i hi]
  exact h.own _ (by omega) (by omega) hp
theorem exR_pl {ss : List Str} {l : Int} : ∀ {e : Ex} {a : Int} {r : Rw}, r ∈ exRows ss l e a → r.shp = .pl
  | .num _, _, r, h => by unfold exRows at h; rw [List.mem_singleton.mp h]; rfl
  | .nam _, _, r, h => by unfold exRows at h; rw [List.mem_singleton.mp h]; rfl
  | .lane, _, r, h => by unfold exRows at h; rw [List.mem_singleton.mp h]; rfl
  | .lanes, _, r, h => by unfold exRows at h; rw [List.mem_singleton.mp h]; rfl
  | .mine, _, r, h => by unfold exRows at h; rw [List.mem_singleton.mp h]; rfl
  | .box e, a, r, h => by
    unfold exRows at h
    rcases List.mem_append.mp h with h | h
    · exact exR_pl (e := e) h
    · rw [List.mem_singleton.mp h]; rfl
  | .op _ x y, a, r, h => by
    unfold exRows at h
    rcases List.mem_append.mp h with h | h
    · rcases List.mem_append.mp h with h | h
      · exact exR_pl (e := x) h
      · exact exR_pl (e := y) h
    · rw [List.mem_singleton.mp h]; rfl
theorem exsR_pl {ss : List Str} {l : Int} : ∀ {es : List Ex} {a : Int} {r : Rw}, r ∈ exsRows ss l es a → r.shp = .pl
  | [], _, _, h => by unfold exsRows at h; cases h
  | e :: es, a, r, h => by
    unfold exsRows at h
    rcases List.mem_append.mp h with h | h
    · exact exR_pl h
    · exact exsR_pl (es := es) h
theorem all_pl {rs : List Rw} (h : ∀ r ∈ rs, r.shp = .pl) {i : Nat} (hi : i < rs.length) : rs[i]?.map Rw.shp = some .pl := by
  rw [List.getElem?_eq_getElem hi, Option.map_some, h _ (List.getElem_mem hi)]
theorem add_get {m : Mk} {rs : List Rw} {i : Nat} : (m.add rs).rows[m.rows.length + i]? = rs[i]? := by
  unfold Mk.add
  dsimp only
  rw [List.getElem?_append_right (by omega), Nat.add_sub_cancel_left]
theorem wfm.add {m : Mk} (h : wfm m) {rs : List Rw} : wfm (m.add rs) := h.grow Grow.add
theorem npend_add {m : Mk} (h : wfm m) {rs : List Rw} {i : Nat} : ¬ pend (m.add rs) (m.rows.length + i) := fun p => by
  have : pend m (m.rows.length + i) := p
  have := h.pend this
  omega
/-- behind plain rows that are added -/
theorem Fits.adds {R : List Shp} {a E : Nat} {m : Mk} {rs : List Rw} (h : Fits R a E m (m.add rs)) (w : wfm m) {i : Nat} (hi : i < rs.length) : R[m.rows.length + i]? = rs[i]?.map Rw.shp :=
  h.row w (fun i _ => add_get) (by rw [add_len]; exact Nat.le_refl _) hi (npend_add w)
theorem Fits.plain {R : List Shp} {a E : Nat} {m : Mk} {rs : List Rw} (h : Fits R a E m (m.add rs)) (w : wfm m) (hp : ∀ r ∈ rs, r.shp = .pl) : ∀ i, m.rows.length ≤ i → i < (m.add rs).rows.length → GoodR R a E i := by
  intro i hi hi2
  rw [add_len] at hi2
  obtain ⟨j, rfl⟩ : ∃ j, i = m.rows.length + j := ⟨i - m.rows.length, by omega⟩
  refine .inl ?_
  rw [h.adds w (by omega), all_pl hp (by omega)]
theorem leads_get : ∀ {ks : List Nat} {m : Mk} {i : Nat}, i ∉ ks → (m.leads ks).rows[i]? = m.rows[i]?
  | [], _, _, _ => rfl
  | k :: ks, m, i, h => by
    show ((m.lead k).leads ks).rows[i]? = _
    rw [leads_get (ks := ks) (fun z => h (List.mem_cons_of_mem _ z))]
    show (leadAt m.rows k _)[i]? = _
    rw [lead_get, if_neg (fun e => h (by rw [e]; exact List.mem_cons_self ..))]
theorem lead_jmp {r : Rw} {t : Int} (h : r.kd = 1) : (r.lead t).shp = .jmp t := by cases r <;> first | (cases h; done) | rfl
theorem lead_spl {r : Rw} {t : Int} (h : r.kd = 2) : (r.lead t).shp = .spl t := by cases r <;> first | (cases h; done) | rfl
/-- what is led leads to the end -/
theorem leads_hit {k0 : Nat} (hk : k0 = 1 ∨ k0 = 2) : ∀ {ks : List Nat} {m : Mk} {i : Nat}, (i ∈ ks ∨ m.rows[i]?.map Rw.shp = some (if k0 = 1 then .jmp m.rows.length else .spl m.rows.length)) → kdAt m.rows i k0 → (m.leads ks).rows[i]?.map Rw.shp = some (if k0 = 1 then .jmp m.rows.length else .spl m.rows.length)
  | [], m, i, h, _ => by
    rcases h with h | h
    · cases h
    · exact h
  | k :: ks, m, i, h, hd => by
    show ((m.lead k).leads ks).rows[i]?.map Rw.shp = _
    have hl : (m.lead k).rows.length = m.rows.length := lead_len
    rw [← hl]
    refine leads_hit hk (ks := ks) ?_ hd.lead
    by_cases e : k = i
    · subst e
      refine .inr ?_
      rw [hl]
      show (leadAt m.rows k _)[k]?.map Rw.shp = _
      rw [lead_get, if_pos rfl]
      unfold kdAt at hd
      obtain ⟨r, hr, hd⟩ := Option.map_eq_some_iff.mp hd
      rw [hr]
      rcases hk with rfl | rfl
      · simp [lead_jmp hd]
      · simp [lead_spl hd]
    · rcases h with h | h
      · rcases List.mem_cons.mp h with rfl | h
        · exact (e rfl).elim
        · exact .inl h
      · refine .inr ?_
        rw [hl]
        show (leadAt m.rows k _)[i]?.map Rw.shp = _
        rw [lead_get, if_neg e]
        exact h
end Tl
namespace Tl
open PySem PySem.Spec PyProof.Rows L2
theorem split_get {m : Mk} {rs : List Rw} {x : Rw} : (m.add (rs ++ [x])).rows[(m.add (rs ++ [x])).rows.length - 1]? = some x := by
  rw [show (m.add (rs ++ [x])).rows.length - 1 = m.rows.length + rs.length from by rw [add_len]; simp, add_get]
  simp
theorem pend_wait {R : List Shp} {a E : Nat} {m m' : Mk} (h : Fits R a E m m') {i : Nat} (hi : m.rows.length ≤ i) (hi2 : i < m'.rows.length) (p : pend m' i) : GoodR R a E i := by
  obtain ⟨t, h1, h2, h3, h4⟩ := h.wait i hi hi2 p
  exact .inr ⟨t, .inl h1, h3, h4, .inl h2⟩
def IHB (R : List Shp) (a E : Nat) (ss : List Str) (fr : Int) (b : List Sm) : Prop := ∀ m : Mk, wfm m → a ≤ m.rows.length → Fits R a E m (mkB ss fr m b) → ∀ i, m.rows.length ≤ i → i < (mkB ss fr m b).rows.length → GoodR R a E i
def IHS (R : List Shp) (a E : Nat) (ss : List Str) (fr : Int) (s : Sm) : Prop := ∀ m : Mk, wfm m → a + 1 ≤ m.rows.length → R[m.rows.length - 1]? = some .pl → Fits R a E m (mkS ss fr m s) → ∀ i, m.rows.length ≤ i → i < (mkS ss fr m s).rows.length → GoodR R a E i
/-- the head of an if or a while: its expression's rows and its split -/
structure Head (m m1 : Mk) (ex : List Rw) (x : Rw) : Prop where
  len : m1.rows.length = m.rows.length + ex.length + 1
  row : ∀ i, i < ex.length → m1.rows[m.rows.length + i]? = ex[i]?
  spl : m1.rows[m1.rows.length - 1]? = some x
  g : Grow m m1
  lp : m1.loops = m.loops
  pd : ∀ i, pend m1 i ↔ pend m i
theorem head_of {m : Mk} {ex : List Rw} {x : Rw} : Head m (m.add (ex ++ [x])) ex x :=
  ⟨by rw [add_len]; simp; omega, fun i hi => by rw [add_get, List.getElem?_append_left hi], split_get, Grow.add, rfl, fun _ => Iff.rfl⟩
theorem Head.ex {R : List Shp} {a E : Nat} {m m1 m' : Mk} {ex : List Rw} {x : Rw} (H : Head m m1 ex x) (h : Fits R a E m m') (he : ∀ r ∈ ex, r.shp = .pl) (hl : m1.rows.length ≤ m'.rows.length)
    (hr : ∀ i, i < m1.rows.length - 1 → m'.rows[i]? = m1.rows[i]?) (hp : ∀ i, m.rows.length ≤ i → i < m1.rows.length → ¬ pend m' i) : ∀ i, m.rows.length ≤ i → i < m1.rows.length - 1 → R[i]? = some .pl := by
  intro i h1 h2
  have := H.len
  rw [h.own i h1 (by omega) (hp i h1 (by omega)), hr i h2]
  obtain ⟨j, rfl⟩ : ∃ j, i = m.rows.length + j := ⟨i - m.rows.length, by omega⟩
  rw [H.row j (by omega)]
  exact all_pl he (by omega)
theorem leadm_get {m : Mk} {k i : Nat} (h : i ≠ k) : (m.lead k).rows[i]? = m.rows[i]? := by
  show (leadAt m.rows _ _)[i]? = _
  rw [lead_get, if_neg (fun e => h e.symm)]
theorem leadm_hit {m : Mk} {k : Nat} {x : Rw} (h : m.rows[k]? = some x) : (m.lead k).rows[k]? = some (x.lead (m.rows.length : Nat)) := by
  show (leadAt m.rows _ _)[k]? = _
  rw [lead_get, if_pos rfl, h]; rfl
theorem if1_good {R : List Shp} {a E : Nat} {ss : List Str} {fr l : Int} {e : Ex} {b : List Sm} (hb : IHB R a E ss fr b) : IHS R a E ss fr (.if1 l e b) := by
  intro m w ha ht h
  unfold mkS at h ⊢
  dsimp only at h ⊢
  have H : Head m (m.add (exRows ss l e fr ++ [.split l fr 0])) (exRows ss l e fr) (.split l fr 0) := head_of
  generalize m.add (exRows ss l e fr ++ [.split l fr 0]) = m1 at *
  have g2 := mkB_grow ss fr b m1
  have hg := hb m1 (w.grow H.g) (by have := H.len; omega)
  generalize mkB ss fr m1 b = m2 at *
  have hl2 : (m2.lead (m1.rows.length - 1)).rows.length = m2.rows.length := lead_len
  have hl1 := H.len
  have hg2 := g2.len
  have hfin := h.fin
  have hno : ∀ i, m.rows.length ≤ i → i < m1.rows.length → ¬ pend (m2.lead (m1.rows.length - 1)) i := fun i hi hi2 p => by
    have p2 : pend m2 i := p
    have := w.pend ((H.pd i).mp ((pend_grow g2 hi2).mp p2))
    omega
  have hex := H.ex h (fun r hr => exR_pl hr) (by rw [hl2]; exact hg2) (fun i hi => by rw [leadm_get (by omega)]; exact g2.old i (by omega)) hno
  intro i hi hi2
  rw [hl2] at hi2 hfin
  by_cases c1 : i < m1.rows.length - 1
  · exact .inl (hex i hi c1)
  · by_cases c2 : i = m1.rows.length - 1
    · have := h.own i hi (by omega) (hno i hi (by omega))
      rw [c2, leadm_hit (by rw [g2.old _ (by omega)]; exact H.spl)] at this
      rw [c2]
      exact .inr ⟨m2.rows.length, .inr this, by omega, hfin, .inl (by omega)⟩
    · refine hg ?_ i (by omega) hi2
      exact h.sub H.g.len (by rw [hl2]; exact Nat.le_refl _) (fun i hi hi2 => leadm_get (by omega)) (fun _ _ _ => Iff.rfl) (lp_grow H.g)
theorem if2_good {R : List Shp} {a E : Nat} {ss : List Str} {fr l : Int} {e : Ex} {b c : List Sm} (hb : IHB R a E ss fr b) (hc : IHB R a E ss fr c) : IHS R a E ss fr (.if2 l e b c) := by
  intro m w ha ht h
  unfold mkS at h ⊢
  dsimp only at h ⊢
  have H : Head m (m.add (exRows ss l e fr ++ [.split l fr 0])) (exRows ss l e fr) (.split l fr 0) := head_of
  generalize m.add (exRows ss l e fr ++ [.split l fr 0]) = m1 at *
  have g2 := mkB_grow ss fr b m1
  have wB := (w.grow H.g).grow g2
  have hgb := hb m1 (w.grow H.g) (by have := H.len; omega)
  generalize mkB ss fr m1 b = mB at *
  have hm2 : (mB.add [.jump l 0]).rows.length = mB.rows.length + 1 := add_len
  have g2' : Grow mB (mB.add [.jump l 0]) := Grow.add
  have hj : (mB.add [.jump l 0]).rows[mB.rows.length]? = some (.jump l 0) := by
    have := add_get (m := mB) (rs := [.jump l 0]) (i := 0)
    exact this
  have hp2 : ∀ i, pend (mB.add [.jump l 0]) i ↔ pend mB i := fun _ => Iff.rfl
  have hlp2 : (mB.add [.jump l 0]).loops = mB.loops := rfl
  generalize mB.add [.jump l 0] = m2 at *
  have hl3 : (m2.lead (m1.rows.length - 1)).rows.length = m2.rows.length := lead_len
  have hp3 : ∀ i, pend (m2.lead (m1.rows.length - 1)) i ↔ pend m2 i := fun _ => Iff.rfl
  have hget3 : ∀ i, i ≠ m1.rows.length - 1 → (m2.lead (m1.rows.length - 1)).rows[i]? = m2.rows[i]? := fun i hi => leadm_get hi
  have hhit3 : (m2.lead (m1.rows.length - 1)).rows[m1.rows.length - 1]? = some (.split l fr (m2.rows.length : Nat)) := leadm_hit (m := m2) (x := .split l fr 0) (by rw [g2'.old _ (by have := g2.len; have := H.len; omega), g2.old _ (by have := H.len; omega)]; exact H.spl)
  have hlp3 : (m2.lead (m1.rows.length - 1)).loops = m2.loops := rfl
  have w3 : wfm (m2.lead (m1.rows.length - 1)) := by
    have w2 := wB.grow g2'
    exact ⟨fun z hz => by rw [hl3]; exact w2.lv z hz, fun q hq z hz => by rw [hl3]; exact w2.lp q hq z hz⟩
  generalize m2.lead (m1.rows.length - 1) = m3 at *
  have g4 := mkB_grow ss fr c m3
  have hgc := hc m3 w3 (by have := H.len; have := g2.len; omega)
  generalize mkB ss fr m3 c = m4 at *
  have hl' : (m4.lead (m2.rows.length - 1)).rows.length = m4.rows.length := lead_len
  have hl1 := H.len
  have hg2 := g2.len
  have hg4 := g4.len
  have hfin := h.fin
  have hget : ∀ i, i ≠ m1.rows.length - 1 → i ≠ mB.rows.length → i < m2.rows.length → (m4.lead (m2.rows.length - 1)).rows[i]? = m2.rows[i]? := fun i h1 h2 h3 => by
    rw [leadm_get (by omega), g4.old i (by omega), hget3 i h1]
  have hpd : ∀ i, i < m2.rows.length → (pend (m4.lead (m2.rows.length - 1)) i ↔ pend mB i) := fun i hi => by
    have : pend m4 i ↔ pend m3 i := pend_grow g4 (by omega)
    exact this.trans ((hp3 i).trans (hp2 i))
  have hno : ∀ i, m.rows.length ≤ i → i < m1.rows.length → ¬ pend (m4.lead (m2.rows.length - 1)) i := fun i hi hi2 p => by
    have := w.pend ((H.pd i).mp ((pend_grow g2 hi2).mp ((hpd i (by omega)).mp p)))
    omega
  have hex := H.ex h (fun r hr => exR_pl hr) (by rw [hl']; omega) (fun i hi => by rw [hget i (by omega) (by omega) (by omega), g2'.old i (by omega), g2.old i (by omega)]) hno
  intro i hi hi2
  rw [hl'] at hi2 hfin
  by_cases c1 : i < m1.rows.length - 1
  · exact .inl (hex i hi c1)
  by_cases c2 : i = m1.rows.length - 1
  · have := h.own i hi (by omega) (hno i hi (by omega))
    rw [leadm_get (by omega), g4.old i (by omega), c2, hhit3] at this
    rw [c2]
    exact .inr ⟨m2.rows.length, .inr this, by omega, by omega, .inl (by omega)⟩
  by_cases c3 : i < mB.rows.length
  · refine hgb ?_ i (by omega) c3
    exact h.sub H.g.len (by omega) (fun i hi hi2 => by rw [hget i (by omega) (by omega) (by omega), g2'.old i (by omega)]) (fun i _ hi2 => hpd i (by omega)) (lp_grow H.g)
  by_cases c4 : i = mB.rows.length
  · have := h.own i hi (by omega) fun p => by
      have := wB.pend ((hpd i (by omega)).mp p)
      omega
    rw [show i = m2.rows.length - 1 from by omega, leadm_hit (by rw [g4.old _ (by omega), hget3 _ (by omega), show m2.rows.length - 1 = mB.rows.length from by omega]; exact hj)] at this
    rw [show i = m2.rows.length - 1 from by omega]
    exact .inr ⟨m4.rows.length, .inl this, by omega, by omega, .inl (by omega)⟩
  · refine hgc ?_ i (by omega) hi2
    refine h.sub (by omega) (by omega) (fun i hi hi2 => leadm_get (by omega)) (fun _ _ _ => Iff.rfl) ?_
    intro b1 l1 r1 e1
    rw [hlp3, hlp2] at e1
    obtain ⟨l0, e0⟩ := lp_grow g2 b1 l1 r1 e1
    rw [H.lp] at e0
    exact ⟨l0, e0⟩
theorem whl_good {R : List Shp} {a E : Nat} {ss : List Str} {fr l : Int} {e : Ex} {b : List Sm} (hb : IHB R a E ss fr b) : IHS R a E ss fr (.whl l e b) := by
  intro m w ha ht h
  unfold mkS at h ⊢
  dsimp only at h ⊢
  have H : Head m (m.add (exRows ss l e fr ++ [.split l fr 0])) (exRows ss l e fr) (.split l fr 0) := head_of
  generalize m.add (exRows ss l e fr ++ [.split l fr 0]) = m1 at *
  have hl1 := H.len
  have w1 := w.grow H.g
  have g2 := mkB_grow ss fr b { m1 with loops := (m.rows.length - 1, [m1.rows.length - 1]) :: m1.loops }
  have wB0 : wfm { m1 with loops := (m.rows.length - 1, [m1.rows.length - 1]) :: m1.loops } := by
    refine ⟨w1.lv, fun q hq z hz => ?_⟩
    rcases List.mem_cons.mp hq with rfl | hq
    · rw [List.mem_singleton.mp hz]; dsimp only; omega
    · exact w1.lp q hq z hz
  have hgb := hb _ wB0 (by dsimp only; omega)
  have wB := wB0.grow g2
  generalize mkB ss fr { m1 with loops := (m.rows.length - 1, [m1.rows.length - 1]) :: m1.loops } b = mB at *
  obtain ⟨Z, hlpB, hZ⟩ : ∃ Z, mB.loops = (m.rows.length - 1, [m1.rows.length - 1] ++ Z) :: m.loops ∧ ∀ z ∈ Z, m1.rows.length ≤ z ∧ kdAt mB.rows z 1 := by
    rcases g2.lp with ⟨e1, _⟩ | ⟨b1, l1, r1, Z, e1, e2, hz⟩
    · cases e1
    · cases e1; rw [H.lp] at e2; exact ⟨Z, e2, hz⟩
  have hm2 : (mB.add [.jump l (m.rows.length - 1 : Nat)]).rows.length = mB.rows.length + 1 := add_len
  have g2' : Grow mB (mB.add [.jump l (m.rows.length - 1 : Nat)]) := Grow.add
  have hj : (mB.add [.jump l (m.rows.length - 1 : Nat)]).rows[mB.rows.length]? = some (.jump l (m.rows.length - 1 : Nat)) := by
    have := add_get (m := mB) (rs := [.jump l (m.rows.length - 1 : Nat)]) (i := 0)
    exact this
  have hlp2 : (mB.add [.jump l (m.rows.length - 1 : Nat)]).loops = mB.loops := rfl
  have hlv2 : (mB.add [.jump l (m.rows.length - 1 : Nat)]).leaves = mB.leaves := rfl
  generalize mB.add [.jump l (m.rows.length - 1 : Nat)] = m2 at *
  rw [hlp2, hlpB] at h ⊢
  dsimp only at h ⊢
  have hl' : (({ m2 with loops := m.loops } : Mk).leads ([m1.rows.length - 1] ++ Z)).rows.length = m2.rows.length := leads_len
  have hlv' : (({ m2 with loops := m.loops } : Mk).leads ([m1.rows.length - 1] ++ Z)).leaves = mB.leaves := leads_rest.2.1.trans hlv2
  have hlp' : (({ m2 with loops := m.loops } : Mk).leads ([m1.rows.length - 1] ++ Z)).loops = m.loops := leads_rest.2.2
  have hget : ∀ i, i ∉ [m1.rows.length - 1] ++ Z → (({ m2 with loops := m.loops } : Mk).leads ([m1.rows.length - 1] ++ Z)).rows[i]? = m2.rows[i]? := fun i hi => leads_get (m := { m2 with loops := m.loops }) hi
  have hg2 : m1.rows.length ≤ mB.rows.length := g2.len
  have hsp0 : m2.rows[m1.rows.length - 1]? = some (.split l fr 0) := by
    rw [g2'.old _ (by omega), g2.old _ (by dsimp only; omega)]; exact H.spl
  have hsp : (({ m2 with loops := m.loops } : Mk).leads ([m1.rows.length - 1] ++ Z)).rows[m1.rows.length - 1]?.map Rw.shp = some (.spl m2.rows.length) :=
    leads_hit (k0 := 2) (.inr rfl) (m := { m2 with loops := m.loops }) (.inl (List.mem_append_left _ (List.mem_singleton.mpr rfl))) (by unfold kdAt; dsimp only; rw [hsp0]; rfl)
  have hjm : ∀ z ∈ Z, (({ m2 with loops := m.loops } : Mk).leads ([m1.rows.length - 1] ++ Z)).rows[z]?.map Rw.shp = some (.jmp m2.rows.length) := fun z hz =>
    leads_hit (k0 := 1) (.inl rfl) (m := { m2 with loops := m.loops }) (.inl (List.mem_append_right _ hz)) ((hZ z hz).2.old g2'.old)
  generalize ({ m2 with loops := m.loops } : Mk).leads ([m1.rows.length - 1] ++ Z) = m' at *
  have hfin := h.fin
  have hpd : ∀ i, m.rows.length ≤ i → pend m' i → i ∈ mB.leaves := by
    rintro i hi (p | ⟨b1, l1, r1, e1, p⟩)
    · rw [← hlv']; exact p
    · rw [hlp'] at e1
      have := w.lp (b1, l1) (by rw [e1]; exact List.mem_cons_self ..) i p
      omega
  have hno : ∀ i, m.rows.length ≤ i → i < m1.rows.length → ¬ pend m' i := fun i hi hi2 p => by
    obtain ⟨Y, e, hY⟩ := g2.lv
    have p := hpd i hi p
    rw [e] at p
    rcases List.mem_append.mp p with p | p
    · have := w.pend ((H.pd i).mp (.inl p)); omega
    · have := (hY i p).1; dsimp only at this; omega
  have hZb : ∀ z ∈ [m1.rows.length - 1] ++ Z, m1.rows.length - 1 ≤ z ∧ z < mB.rows.length := fun z hz => by
    rcases List.mem_append.mp hz with hz | hz
    · rw [List.mem_singleton.mp hz]; omega
    · have := (hZ z hz).1; have := (hZ z hz).2.lt; omega
  have hex := H.ex h (fun r hr => exR_pl hr) (by omega) (fun i hi => by
    rw [hget i (fun z => by have := (hZb i z).1; omega), g2'.old i (by omega)]
    exact g2.old i (by dsimp only; omega)) hno
  have hspR : R[m1.rows.length - 1]? = some (.spl m2.rows.length) := by
    rw [h.own _ (by omega) (by omega) (hno _ (by omega) (by omega))]; exact hsp
  have hpl : ∀ p, m.rows.length - 1 ≤ p → p < m1.rows.length - 1 → R[p]? = some .pl := fun p h1 h2 => by
    by_cases c : p = m.rows.length - 1
    · rw [c]; exact ht
    · exact hex p (by omega) h2
  intro i hi hi2
  rw [hl'] at hi2 hfin
  by_cases c1 : i < m1.rows.length - 1
  · exact .inl (hex i hi c1)
  by_cases c2 : i = m1.rows.length - 1
  · rw [c2]
    exact .inr ⟨m2.rows.length, .inr hspR, by omega, by omega, .inl (by omega)⟩
  by_cases c3 : i < mB.rows.length
  · refine hgb ?_ i (by dsimp only; omega) c3
    refine ⟨fun i hi hi2 hn => ?_, fun i hi hi2 hp => ?_, fun b1 l1 r1 e1 => ?_, by omega⟩
    · dsimp only at hi
      rw [h.own i (by omega) (by omega) fun p => hn (.inl (hpd i (by omega) p)), hget i fun z => hn (.inr ⟨_, _, _, hlpB, z⟩), g2'.old i hi2]
    · dsimp only at hi
      by_cases q : pend m' i
      · exact h.wait i (by omega) (by omega) q
      · refine ⟨m2.rows.length, ?_, by omega, by omega, by omega⟩
        rw [h.own i (by omega) (by omega) q]
        rcases hp with hp | ⟨b1, l1, r1, e1, hp⟩
        · exact (q (.inl (by rw [hlv']; exact hp))).elim
        · rw [hlpB] at e1
          cases e1
          rcases List.mem_append.mp hp with hp | hp
          · have := List.mem_singleton.mp hp; omega
          · exact hjm i hp
    · dsimp only at e1
      cases e1
      exact ⟨by omega, m1.rows.length - 1, m2.rows.length, by omega, by dsimp only; omega, hpl, hspR, by omega, by omega⟩
  · have c4 : i = mB.rows.length := by omega
    have := h.own i hi (by omega) fun p => by
      have := wB.lv i (hpd i hi p)
      omega
    rw [hget i (fun z => by have := (hZb i z).2; omega), c4, hj] at this
    rw [c4]
    exact .inr ⟨m.rows.length - 1, .inl this, by omega, by omega, .inr ⟨m1.rows.length - 1, m2.rows.length, by omega, by omega, hpl, hspR, by omega, by omega⟩⟩
mutual
theorem mkS_good (R : List Shp) (a E : Nat) (ss : List Str) (fr : Int) : ∀ (s : Sm), IHS R a E ss fr s
  | .if1 l e b => if1_good (mkB_good R a E ss fr b)
  | .if2 l e b c => if2_good (mkB_good R a E ss fr b) (mkB_good R a E ss fr c)
  | .whl l e b => whl_good (mkB_good R a E ss fr b)
  | .brk l => by
    intro m w ha ht h i hi hi2
    unfold mkS at h hi2
    split at h
    · rename_i e
      rw [e] at hi2
      dsimp only at hi2
      omega
    · rename_i b lv r e
      rw [e] at hi2
      dsimp only at hi2
      have h1 : i = m.rows.length := by rw [List.length_append, List.length_singleton] at hi2; omega
      exact pend_wait h hi (by exact hi2) (.inr ⟨b, _, r, rfl, by rw [h1]; simp⟩)
  | .agn l => by
    intro m w ha ht h i hi hi2
    unfold mkS at h hi2
    split at h
    · rename_i e
      rw [e] at hi2
      dsimp only at hi2
      omega
    · rename_i b lv r e
      rw [e] at hi2
      dsimp only at hi2
      rw [add_len, List.length_singleton] at hi2
      have h1 : i = m.rows.length := by omega
      have h2 := h.adds w (i := 0) (by simp)
      obtain ⟨g1, s, u, g2, g3, g4, g5, g6, g7⟩ := h.loop b lv r e
      have h3 := h.fin
      rw [add_len, List.length_singleton] at h3 g6
      rw [h1]
      exact .inr ⟨b, .inl h2, g1, by omega, .inr ⟨s, u, g2, g3, g4, g5, by omega, g7⟩⟩
  | .ret l e => by
    intro m w ha ht h i hi hi2
    unfold mkS at h hi2
    dsimp only at h hi2
    by_cases p : pend { m.add (exRows ss l e fr ++ [.copy l 0 fr, .jump l 0]) with leaves := (m.add (exRows ss l e fr ++ [.copy l 0 fr, .jump l 0])).leaves ++ [(m.add (exRows ss l e fr ++ [.copy l 0 fr, .jump l 0])).rows.length - 1] } i
    · exact pend_wait h hi hi2 p
    · refine .inl ?_
      rw [h.own i hi hi2 p]
      dsimp only
      have hl : (m.add (exRows ss l e fr ++ [.copy l 0 fr, .jump l 0])).rows.length = m.rows.length + (exRows ss l e fr).length + 2 := by rw [add_len]; simp; omega
      have hlast : i ≠ m.rows.length + (exRows ss l e fr).length + 1 := fun e1 => p (.inl (by rw [hl]; dsimp only; rw [e1]; simp))
      rw [hl] at hi2
      obtain ⟨j, rfl⟩ : ∃ j, i = m.rows.length + j := ⟨i - m.rows.length, by omega⟩
      rw [add_get]
      by_cases c : j < (exRows ss l e fr).length
      · rw [List.getElem?_append_left c]
        exact all_pl (fun r hr => exR_pl hr) c
      · rw [show j = (exRows ss l e fr).length from by omega, List.getElem?_append_right (by omega), Nat.sub_self]
        rfl
  | .call l x f es => by
    intro m w ha ht h i hi hi2
    unfold mkS at h hi2
    dsimp only at h hi2
    refine Fits.plain (m := m) (rs := exsRows ss l es fr ++ [.call l (slotOf ss x) fr es.length 0]) ⟨h.own, h.wait, h.loop, h.fin⟩ w (fun r hr => ?_) i hi hi2
    rcases List.mem_append.mp hr with hr | hr
    · exact exsR_pl hr
    · rw [List.mem_singleton.mp hr]; rfl
  | .set l x e => by
    intro m w ha ht h i hi hi2
    unfold mkS at h hi2
    refine h.plain w (fun r hr => ?_) i hi hi2
    rcases List.mem_append.mp hr with hr | hr
    · exact exsR_pl hr
    · rw [List.mem_singleton.mp hr]; rfl
  | .put l x e => by
    intro m w ha ht h i hi hi2
    unfold mkS at h hi2
    refine h.plain w (fun r hr => ?_) i hi hi2
    rcases List.mem_append.mp hr with hr | hr
    · exact exsR_pl hr
    · rw [List.mem_singleton.mp hr]; rfl
  | .tell l e => by
    intro m w ha ht h i hi hi2
    unfold mkS at h hi2
    refine h.plain w (fun r hr => ?_) i hi hi2
    rcases List.mem_append.mp hr with hr | hr
    · exact exsR_pl hr
    · rw [List.mem_singleton.mp hr]; rfl
  | .meet l => by
    intro m w ha ht h i hi hi2
    unfold mkS at h hi2
    refine h.plain w (fun r hr => ?_) i hi hi2
    rcases List.mem_append.mp hr with hr | hr
    · exact exsR_pl hr
    · rw [List.mem_singleton.mp hr]; rfl
  | .stop l => by
    intro m w ha ht h i hi hi2
    unfold mkS at h hi2
    refine h.plain w (fun r hr => ?_) i hi hi2
    rcases List.mem_append.mp hr with hr | hr
    · exact exsR_pl hr
    · rw [List.mem_singleton.mp hr]; rfl
  | .join l x z e => by
    intro m w ha ht h i hi hi2
    unfold mkS at h hi2
    refine h.plain w (fun r hr => ?_) i hi hi2
    rcases List.mem_append.mp hr with hr | hr
    · exact exsR_pl hr
    · rw [List.mem_singleton.mp hr]; rfl
theorem mkB_good (R : List Shp) (a E : Nat) (ss : List Str) (fr : Int) : ∀ (b : List Sm), IHB R a E ss fr b
  | [] => by
    intro m w ha h i h1 h2
    unfold mkB at h2
    omega
  | s :: t => by
    intro m w ha h i hi hi2
    unfold mkB at h hi2
    have w1 : wfm (m.add [.tick s.line]) := w.add
    have g1 : Grow m (m.add [.tick s.line]) := Grow.add
    have hl1 : (m.add [.tick s.line]).rows.length = m.rows.length + 1 := add_len
    have hr1 : (m.add [.tick s.line]).rows[m.rows.length]? = some (.tick s.line) := by
      have := add_get (m := m) (rs := [.tick s.line]) (i := 0)
      exact this
    have hp1 : ∀ i, pend (m.add [.tick s.line]) i ↔ pend m i := fun _ => Iff.rfl
    generalize m.add [.tick s.line] = m1 at *
    have g2 := mkS_grow ss fr s m1
    have hs := mkS_good R a E ss fr s m1 w1 (by omega)
    have w2 := w1.grow g2
    generalize mkS ss fr m1 s = m2 at *
    have g3 := mkB_grow ss fr t m2
    have hgt := mkB_good R a E ss fr t m2 w2 (by have := g2.len; omega)
    generalize mkB ss fr m2 t = m3 at *
    have hl2 := g2.len
    have hl3 := g3.len
    have hno : ¬ pend m3 m.rows.length := fun p => by
      have := w.pend ((hp1 _).mp ((pend_grow g2 (by omega)).mp ((pend_grow g3 (by omega)).mp p)))
      omega
    have htick : R[m.rows.length]? = some .pl := by
      rw [h.own _ (Nat.le_refl _) (by omega) hno, g3.old _ (by omega), g2.old _ (by omega), hr1]; rfl
    by_cases c1 : i = m.rows.length
    · rw [c1]; exact .inl htick
    by_cases c2 : i < m2.rows.length
    · exact hs (by rw [hl1, Nat.add_sub_cancel]; exact htick) (h.mid g1 g2 g3) i (by omega) c2
    · exact hgt (h.mid (g1.trans g2) g3 Grow.refl) i (by omega) hi2
end
end Tl
namespace Tl
open PySem PySem.Spec PyProof.Rows L2
/-- the stretch of rows that the row i stands in: a def's -/
def SegR (R : List Shp) (i : Nat) : Prop := ∃ a e : Nat, a ≤ i ∧ i ≤ e ∧ R[e]? = some .bck ∧ ∀ j, a ≤ j → j < e → GoodR R a e j
theorem leads_jmp {ks : List Nat} {m : Mk} {i : Nat} (h : i ∈ ks) (hk : kdAt m.rows i 1) : (m.leads ks).rows[i]?.map Rw.shp = some (.jmp m.rows.length) := by
  have := leads_hit (k0 := 1) (.inl rfl) (.inl h) hk
  rwa [if_pos rfl] at this
theorem mkDef_seg {R : List Shp} {m : Mk} {o : Df} (h0 : m.loops = []) (hR : ∀ i, i < (mkDef m o).rows.length → R[i]? = (mkDef m o).rows[i]?.map Rw.shp) :
    (mkDef m o).loops = [] ∧ m.rows.length < (mkDef m o).rows.length ∧ (∀ i, i < m.rows.length → (mkDef m o).rows[i]? = m.rows[i]?) ∧ (∀ i, m.rows.length ≤ i → i < (mkDef m o).rows.length → SegR R i)
      ∧ ((∀ c ∈ m.calls, kdAt m.rows c.1 4) → ∀ c ∈ (mkDef m o).calls, kdAt (mkDef m o).rows c.1 4) := by
  rw [mkDef_eq] at *
  have g := mkB_grow (slotsF o) ((slotsF o).length + 1) o.body { m with leaves := [] }
  have hb := mkB_good R m.rows.length (mkB (slotsF o) ((slotsF o).length + 1) { m with leaves := [] } o.body).rows.length (slotsF o) ((slotsF o).length + 1) o.body { m with leaves := [] } ⟨(fun z hz => by cases hz), (fun q hq => by rw [show ({ m with leaves := [] } : Mk).loops = m.loops from rfl, h0] at hq; cases hq)⟩ (Nat.le_refl _)
  generalize mkB (slotsF o) ((slotsF o).length + 1) { m with leaves := [] } o.body = m1 at *
  have hlp : m1.loops = [] := by
    rcases g.lp with ⟨_, e⟩ | ⟨b, l, r, Z, e, _⟩
    · exact e
    · rw [show ({ m with leaves := [] } : Mk).loops = m.loops from rfl, h0] at e; cases e
  obtain ⟨Z, hlv, hZ⟩ := g.lv
  have hlv : m1.leaves = Z := hlv
  subst hlv
  have hl : (m1.leads m1.leaves).rows.length = m1.rows.length := leads_len
  have hl2 : ((m1.leads m1.leaves).add [.back o.last]).rows.length = m1.rows.length + 1 := by rw [add_len, hl]; rfl
  have hg := g.len
  dsimp only at hg hZ
  have hold : ∀ i, i < m1.rows.length → ((m1.leads m1.leaves).add [.back o.last]).rows[i]? = (m1.leads m1.leaves).rows[i]? := fun i hi => List.getElem?_append_left (by rw [hl]; exact hi)
  have hback : R[m1.rows.length]? = some .bck := by
    rw [hR _ (by omega)]
    have := add_get (m := m1.leads m1.leaves) (rs := [.back o.last]) (i := 0)
    rw [hl] at this
    rw [show m1.rows.length = m1.rows.length + 0 from rfl, this]
    rfl
  refine ⟨?_, by omega, fun i hi => ?_, fun i hi hi2 => ?_, fun hc c hm => ?_⟩
  · show (m1.leads m1.leaves).loops = []
    rw [leads_rest.2.2]; exact hlp
  · rw [hold i (by omega), leads_get (fun z => by have := (hZ i z).1; omega)]
    exact g.old i hi
  · refine ⟨m.rows.length, m1.rows.length, hi, by omega, hback, hb ?_⟩
    refine ⟨fun i hi hi2 hn => ?_, fun i hi hi2 hp => ?_, fun b l r e => ?_, Nat.le_refl _⟩
    · rw [hR i (by omega), hold i hi2, leads_get (fun z => hn (.inl z))]
    · rcases hp with hp | ⟨b, l, r, e, _⟩
      · refine ⟨m1.rows.length, ?_, hi2, hg, Nat.le_refl _⟩
        rw [hR i (by omega), hold i hi2]
        exact leads_jmp hp (hZ i hp).2
      · rw [hlp] at e; cases e
    · rw [show ({ m with leaves := [] } : Mk).loops = m.loops from rfl, h0] at e; cases e
  · have hm : c ∈ m1.calls := by
      have : ((m1.leads m1.leaves).add [.back o.last]).calls = m1.calls := leads_rest.1
      rw [← this]; exact hm
    have hk : kdAt m1.rows c.1 4 := by
      obtain ⟨Y, e, hY⟩ := g.cs
      rw [e] at hm
      rcases List.mem_append.mp hm with hm | hm
      · exact (hc c hm).old g.old
      · exact (hY c hm).2
    have hk2 : kdAt (m1.leads m1.leaves).rows c.1 4 := by
      have : ∀ (ks : List Nat) (m : Mk), kdAt m.rows c.1 4 → kdAt (m.leads ks).rows c.1 4 := by
        intro ks
        induction ks with
        | nil => exact fun _ h => h
        | cons k ks ih => exact fun m h => ih (m.lead k) h.lead
      exact this _ _ hk
    exact hk2.old Grow.add.old
theorem mkSteps_seg {R : List Shp} : ∀ {os : Pg} {s : Mk × List (Str × Nat)}, s.1.loops = [] → (∀ c ∈ s.1.calls, kdAt s.1.rows c.1 4) → (∀ i, i < (os.foldl mkStep s).1.rows.length → R[i]? = (os.foldl mkStep s).1.rows[i]?.map Rw.shp) →
    s.1.rows.length ≤ (os.foldl mkStep s).1.rows.length ∧ (∀ i, i < s.1.rows.length → (os.foldl mkStep s).1.rows[i]? = s.1.rows[i]?) ∧ (∀ i, s.1.rows.length ≤ i → i < (os.foldl mkStep s).1.rows.length → SegR R i) ∧ ∀ c ∈ (os.foldl mkStep s).1.calls, kdAt (os.foldl mkStep s).1.rows c.1 4
  | [], s, _, hc, _ => ⟨Nat.le_refl _, fun _ _ => rfl, fun i h1 h2 => by rw [List.foldl_nil] at h2; omega, hc⟩
  | o :: os, s, h0, hc, hR => by
    rw [List.foldl_cons] at hR ⊢
    have hs : (mkStep s o).1 = mkDef s.1 o := rfl
    have hl0 : (mkDef s.1 o).loops = [] := (mkDef_seg (R := (mkDef s.1 o).rows.map Rw.shp) h0 fun i _ => List.getElem?_map ..).1
    have hc0 := (mkDef_seg (R := (mkDef s.1 o).rows.map Rw.shp) (o := o) h0 fun i _ => List.getElem?_map ..).2.2.2.2 hc
    obtain ⟨k1, k2, k3, k4⟩ := mkSteps_seg (os := os) (s := mkStep s o) (by rw [hs]; exact hl0) (by rw [hs]; exact hc0) hR
    rw [hs] at k1 k2 k3
    obtain ⟨_, j2, j3, j4, _⟩ := mkDef_seg (R := R) (o := o) h0 fun i hi => by rw [hR i (by omega), k2 i hi]
    refine ⟨by omega, fun i hi => by rw [k2 i (by omega), j3 i hi], fun i h1 h2 => ?_, k4⟩
    by_cases c : i < (mkDef s.1 o).rows.length
    · exact j4 i h1 c
    · exact k3 i (by omega) h2
theorem lead_shp4 {r : Rw} {t : Int} (h : r.kd = 4) : (r.lead t).shp = r.shp := by cases r <;> first | (cases h; done) | rfl
theorem calls_shp (f : Nat × Str → Int) : ∀ {cs : List (Nat × Str)} {rs : List Rw}, (∀ c ∈ cs, kdAt rs c.1 4) → (cs.foldl (fun rows c => leadAt rows c.1 (f c)) rs).map Rw.shp = rs.map Rw.shp
  | [], _, _ => rfl
  | c :: cs, rs, h => by
    rw [List.foldl_cons, calls_shp f (cs := cs) fun d hd => (h d (List.mem_cons_of_mem _ hd)).lead]
    apply List.ext_getElem?
    intro i
    rw [List.getElem?_map, List.getElem?_map, lead_get]
    split
    · rename_i e
      subst e
      have := h c (List.mem_cons_self ..)
      unfold kdAt at this
      obtain ⟨r, hr, hk⟩ := Option.map_eq_some_iff.mp this
      rw [hr]
      simp only [Option.map_some, lead_shp4 hk]
    · rfl
theorem rows_seg {pg : Pg} : ∀ i, i < (rowsF pg).length → SegR ((rowsF pg).map Rw.shp) i := by
  have h1 : rowsF pg = (mkAll (mainFirst pg)).1.calls.foldl (fun rows c => leadAt rows c.1 (beginOf (mkAll (mainFirst pg)).2 c.2)) (mkAll (mainFirst pg)).1.rows := rfl
  have h2 := mkSteps_seg (os := mainFirst pg) (s := (⟨[], [], [], []⟩, [])) (R := (mkAll (mainFirst pg)).1.rows.map Rw.shp) rfl (fun c hc => by cases hc) (fun i _ => by rw [mkAll_eq, List.getElem?_map])
  rw [← mkAll_eq] at h2
  have h3 : (rowsF pg).map Rw.shp = (mkAll (mainFirst pg)).1.rows.map Rw.shp := by
    rw [h1]; exact calls_shp _ h2.2.2.2
  have h4 : (rowsF pg).length = (mkAll (mainFirst pg)).1.rows.length := by
    have := congrArg List.length h3
    simpa using this
  intro i hi
  rw [h3]
  exact h2.2.2.1 i (Nat.zero_le _) (by omega)
/-! ### the ways of a program's rows -/
def nxR (rows : List Rw) (k : Nat) : List Nat := match rows[k]? with
  | some r => (nextF r k).map Int.toNat
  | none => []
def bkR (rows : List Rw) (k : Nat) : Bool := match rows[k]? with
  | some (.back _) => true
  | _ => false
theorem shp_some {rows : List Rw} {k : Nat} {s : Shp} (h : (rows.map Rw.shp)[k]? = some s) : ∃ r, rows[k]? = some r ∧ r.shp = s := by
  rw [List.getElem?_map] at h
  exact Option.map_eq_some_iff.mp h
theorem shp_pl {rows : List Rw} {k : Nat} (h : (rows.map Rw.shp)[k]? = some .pl) : ∃ r, rows[k]? = some r ∧ nextF r k = [(k : Int) + 1] ∧ bkR rows k = false := by
  obtain ⟨r, hr, e⟩ := shp_some h
  refine ⟨r, hr, ?_, ?_⟩
  · cases r <;> first | rfl | (cases e; done)
  · unfold bkR; rw [hr]; cases r <;> first | rfl | (cases e; done)
theorem shp_jmp {rows : List Rw} {k : Nat} {t : Int} (h : (rows.map Rw.shp)[k]? = some (.jmp t)) : ∃ l, rows[k]? = some (.jump l t) ∧ bkR rows k = false := by
  obtain ⟨r, hr, e⟩ := shp_some h
  cases r <;> first | (cases e; done) | (cases e; exact ⟨_, hr, by unfold bkR; rw [hr]⟩)
theorem shp_spl {rows : List Rw} {k : Nat} {t : Int} (h : (rows.map Rw.shp)[k]? = some (.spl t)) : ∃ l f, rows[k]? = some (.split l f t) ∧ bkR rows k = false := by
  obtain ⟨r, hr, e⟩ := shp_some h
  cases r <;> first | (cases e; done) | (cases e; exact ⟨_, _, hr, by unfold bkR; rw [hr]⟩)
theorem shp_bck {rows : List Rw} {k : Nat} (h : (rows.map Rw.shp)[k]? = some .bck) : ∃ l, rows[k]? = some (.back l) ∧ bkR rows k = true := by
  obtain ⟨r, hr, e⟩ := shp_some h
  cases r <;> first | (cases e; done) | exact ⟨_, hr, by unfold bkR; rw [hr]⟩
/-- the rows next to a row, where it does not go back -/
theorem good_next {rows : List Rw} {a e i : Nat} (h : GoodR (rows.map Rw.shp) a e i) (ha : a ≤ i) (he : i < e) : ∃ r, rows[i]? = some r ∧ bkR rows i = false ∧ nextF r i = (nxR rows i).map (fun n : Nat => (n : Int)) ∧ (∀ j ∈ nxR rows i, a ≤ j ∧ j ≤ e) := by
  have key : ∀ (r : Rw) (ns : List Nat), rows[i]? = some r → nextF r i = ns.map (fun n : Nat => (n : Int)) → (∀ j ∈ ns, a ≤ j ∧ j ≤ e) → bkR rows i = false → ∃ r, rows[i]? = some r ∧ bkR rows i = false ∧ nextF r i = (nxR rows i).map (fun n : Nat => (n : Int)) ∧ (∀ j ∈ nxR rows i, a ≤ j ∧ j ≤ e) := by
    intro r ns hr hn hj hb
    have e1 : nxR rows i = ns := by
      unfold nxR; rw [hr]; dsimp only; rw [hn, List.map_map]
      rw [show (Int.toNat ∘ fun n : Nat => (n : Int)) = id from funext fun n => Int.toNat_natCast n, List.map_id]
    exact ⟨r, hr, hb, by rw [e1]; exact hn, by rw [e1]; exact hj⟩
  rcases h with h | ⟨t, h | h, h1, h2, _⟩
  · obtain ⟨r, hr, hn, hb⟩ := shp_pl h
    refine key r [i + 1] hr (by rw [hn]; simp) (fun j hj => ?_) hb
    rw [List.mem_singleton.mp hj]; omega
  · obtain ⟨l, hr, hb⟩ := shp_jmp h
    refine key _ [t] hr (by rfl) (fun j hj => ?_) hb
    rw [List.mem_singleton.mp hj]; omega
  · obtain ⟨l, f, hr, hb⟩ := shp_spl h
    refine key _ (if t = i + 1 then [i + 1] else if t < i + 1 then [t, i + 1] else [i + 1, t]) hr ?_ (fun j hj => ?_) hb
    · rw [next_split]
      by_cases c : t = i + 1
      · rw [if_pos c, if_pos (by omega)]; simp
      · rw [if_neg c, if_neg (by omega)]
        by_cases c2 : t < i + 1
        · rw [if_pos c2, if_pos (by omega)]; simp
        · rw [if_neg c2, if_neg (by omega)]; simp
    · split at hj
      · rw [List.mem_singleton.mp hj]; omega
      · split at hj
        · simp only [List.mem_cons, List.not_mem_nil, or_false] at hj
          rcases hj with rfl | rfl <;> omega
        · simp only [List.mem_cons, List.not_mem_nil, or_false] at hj
          rcases hj with rfl | rfl <;> omega
theorem bck_next {rows : List Rw} {e : Nat} (h : (rows.map Rw.shp)[e]? = some .bck) : nxR rows e = [] ∧ bkR rows e = true := by
  obtain ⟨l, hr, hb⟩ := shp_bck h
  exact ⟨by unfold nxR; rw [hr]; rfl, hb⟩
theorem pl_nx {rows : List Rw} {k : Nat} (h : (rows.map Rw.shp)[k]? = some .pl) : nxR rows k = [k + 1] := by
  obtain ⟨r, hr, hn, hb⟩ := shp_pl h
  unfold nxR; rw [hr]; dsimp only; rw [hn]
  simp
theorem pl_way {rows : List Rw} {s : Nat} : ∀ {d t : Nat}, t + d = s → (∀ p, t ≤ p → p < s → (rows.map Rw.shp)[p]? = some .pl) → Way (nxR rows) (fun _ => True) t s
  | 0, t, h, _ => ⟨0, by rw [← h]; exact .here trivial⟩
  | d + 1, t, h, hp => by
    obtain ⟨n, w⟩ := pl_way (d := d) (t := t + 1) (by omega) (fun p h1 h2 => hp p (by omega) h2)
    exact ⟨n + 1, .step trivial (by rw [pl_nx (hp t (Nat.le_refl _) (by omega))]; simp) w⟩
theorem spl_nx {rows : List Rw} {k t : Nat} (h : (rows.map Rw.shp)[k]? = some (.spl t)) : t ∈ nxR rows k ∧ k + 1 ∈ nxR rows k := by
  obtain ⟨l, f, hr, hb⟩ := shp_spl h
  unfold nxR; rw [hr]; dsimp only; rw [next_split]
  split
  · simp; omega
  · split <;> simp <;> omega
theorem jmp_nx {rows : List Rw} {k t : Nat} (h : (rows.map Rw.shp)[k]? = some (.jmp t)) : t ∈ nxR rows k := by
  obtain ⟨l, hr, hb⟩ := shp_jmp h
  unfold nxR; rw [hr]; dsimp only [nextF]
  simp
theorem step_way {rows : List Rw} {a b c : Nat} (h : b ∈ nxR rows a) (w : Way (nxR rows) (fun _ => True) b c) : Way (nxR rows) (fun _ => True) a c := by
  obtain ⟨n, w⟩ := w; exact ⟨n + 1, .step trivial h w⟩
/-- from each row a later one is come to -/
theorem good_on {rows : List Rw} {a e i : Nat} (h : GoodR (rows.map Rw.shp) a e i) (ha : a ≤ i) (he : i < e) : ∃ j, i < j ∧ j ≤ e ∧ Way (nxR rows) (fun _ => True) i j := by
  rcases h with h | ⟨t, h | h, h1, h2, h3⟩
  · exact ⟨i + 1, by omega, by omega, step_way (by rw [pl_nx h]; simp) ⟨0, .here trivial⟩⟩
  · rcases h3 with h3 | ⟨s, u, g1, g2, g3, g4, g5, g6⟩
    · exact ⟨t, h3, h2, step_way (jmp_nx h) ⟨0, .here trivial⟩⟩
    · exact ⟨u, g5, g6, step_way (jmp_nx h) ((pl_way (d := s - t) (by omega) g3).app (step_way (spl_nx g4).1 ⟨0, .here trivial⟩))⟩
  · exact ⟨i + 1, by omega, by omega, step_way (spl_nx h).2 ⟨0, .here trivial⟩⟩
/-- what the rows of a program keep, as a graph -/
structure GraphR (rows : List Rw) : Prop where
  next : ∀ (k : Nat) r, rows[k]? = some r → nextF r k = (nxR rows k).map (fun n : Nat => (n : Int))
  low : ∀ k, k < rows.length → ∀ a ∈ nxR rows k, a < rows.length
  ends : ∀ k, k < rows.length → Ends (nxR rows) (fun x => bkR rows x = true) k
  dom : ∀ k, k < rows.length → bkR rows k = false → ∃ j, j ≠ k ∧ Dom (nxR rows) (fun x => bkR rows x = true) k j
theorem rows_graph {pg : Pg} : GraphR (rowsF pg) := by
  have hs := rows_seg (pg := pg)
  generalize rowsF pg = rows at *
  have key : ∀ k, k < rows.length → ∃ a e, a ≤ k ∧ k ≤ e ∧ e < rows.length ∧ (rows.map Rw.shp)[e]? = some .bck ∧ ∀ j, a ≤ j → j < e → GoodR (rows.map Rw.shp) a e j := by
    intro k hk
    obtain ⟨a, e, h1, h2, h3, h4⟩ := hs k hk
    exact ⟨a, e, h1, h2, by have := (List.getElem?_eq_some_iff.mp h3).1; simpa using this, h3, h4⟩
  have hend : ∀ d k a e, e - k = d → a ≤ k → k ≤ e → (rows.map Rw.shp)[e]? = some .bck → (∀ j, a ≤ j → j < e → GoodR (rows.map Rw.shp) a e j) → Way (nxR rows) (fun _ => True) k e := by
    intro d
    induction d using Nat.strongRecOn with
    | ind d ih =>
      intro k a e hd ha he hb hg
      by_cases c : k = e
      · subst c; exact ⟨0, .here trivial⟩
      · obtain ⟨j, h1, h2, w⟩ := good_on (hg k ha (by omega)) ha (by omega)
        exact w.app (ih (e - j) (by omega) j a e rfl (by omega) h2 hb hg)
  refine ⟨fun k r hr => ?_, fun k hk j hj => ?_, fun k hk => ?_, fun k hk hb => ?_⟩
  · obtain ⟨a, e, h1, h2, h3, h4, h5⟩ := key k (List.getElem?_eq_some_iff.mp hr).1
    by_cases c : k = e
    · subst c
      obtain ⟨l, hr2, _⟩ := shp_bck h4
      rw [hr] at hr2; cases hr2
      rw [(bck_next h4).1]; rfl
    · obtain ⟨r', hr2, _, hn, _⟩ := good_next (h5 k h1 (by omega)) h1 (by omega)
      rw [hr] at hr2; cases hr2
      exact hn
  · obtain ⟨a, e, h1, h2, h3, h4, h5⟩ := key k hk
    by_cases c : k = e
    · subst c; rw [(bck_next h4).1] at hj; cases hj
    · obtain ⟨_, _, _, _, hn⟩ := good_next (h5 k h1 (by omega)) h1 (by omega)
      have := (hn j hj).2
      omega
  · obtain ⟨a, e, h1, h2, h3, h4, h5⟩ := key k hk
    exact ⟨e, (bck_next h4).2, hend _ k a e rfl h1 h2 h4 h5⟩
  · obtain ⟨a, e, h1, h2, h3, h4, h5⟩ := key k hk
    refine ⟨e, fun c => ?_, ?_⟩
    · subst c; rw [(bck_next h4).2] at hb; cases hb
    · rintro ⟨b, hbb, n, w⟩
      have hk2 := w.keep (fun x => a ≤ x ∧ x ≤ e) (fun x ⟨x1, x2⟩ y hy => ?_) ⟨h1, h2⟩
      · have hne : b ≠ e := w.last
        obtain ⟨_, _, hf, _⟩ := good_next (h5 b hk2.1 (by omega)) hk2.1 (by omega)
        rw [show bkR rows b = true from hbb] at hf; cases hf
      · by_cases c : x = e
        · subst c; rw [(bck_next h4).1] at hy; cases hy
        · obtain ⟨_, _, _, _, hn⟩ := good_next (h5 x x1 (by omega)) x1 (by omega)
          exact hn y hy
end Tl
namespace Tl
open PySem PySem.Spec PyProof.Rows L2
/-! ### bits -/
theorem oq_shlW {X : Cx} : OpQ X (binaryOp .LShift) (bInt CShl fun i j => .int (i * 2 ^ j.toNat)) := OpRimp op_shlW (lr2_int (fun _ _ _ => .int _) bInt_inv)
theorem shl_one {j : Nat} (h : j ≤ 16777216) : CShl 1 (j : Int) := shl_ok (n := 1) (by decide) (by omega)
theorem band_nat (a b : Nat) : Builtin.bitAnd (a : Int) (b : Int) = ((a &&& b : Nat) : Int) := by
  unfold Builtin.bitAnd
  rw [decide_eq_true (Int.natCast_nonneg a), decide_eq_true (Int.natCast_nonneg b)]
  rfl
theorem bor_nat (a b : Nat) : Builtin.bitOr (a : Int) (b : Int) = ((a ||| b : Nat) : Int) := by
  have e : ∀ a : Nat, Builtin.bitNot (a : Int) = -(a : Int) - 1 := fun a => by unfold Builtin.bitNot; omega
  unfold Builtin.bitOr Builtin.bitAnd
  rw [e, e, decide_eq_false (by omega), decide_eq_false (by omega)]
  dsimp only
  have e2 : ∀ a : Nat, (Builtin.bitNot (-(a : Int) - 1)).toNat = a := fun a => by unfold Builtin.bitNot; omega
  rw [e2, e2, e]
  unfold Builtin.bitNot
  omega
theorem shl_nat (k : Nat) : (1 : Int) * 2 ^ ((k : Int).toNat) = ((2 ^ k : Nat) : Int) := by
  rw [Int.toNat_natCast, Int.one_mul]; simp
theorem shr_nat (s k : Nat) : (s : Int) / 2 ^ ((k : Int).toNat) = ((s / 2 ^ k : Nat) : Int) := by
  rw [Int.toNat_natCast]; simp
theorem bit_at (s k : Nat) : (s / 2 ^ k) &&& 1 = if s.testBit k then 1 else 0 := by
  rw [Nat.and_one_is_mod, Nat.testBit_eq_decide_div_mod_eq]
  split
  · rename_i e; exact of_decide_eq_true e
  · rename_i e
    have : s / 2 ^ k % 2 ≠ 1 := fun h => e (decide_eq_true h)
    omega
/-! ### the words of rows -/
def Rw.word : Rw → Str
  | .tick _ => "tick" | .num _ _ _ => "num" | .copy _ _ _ => "copy" | .sign _ _ _ => "sign" | .op _ _ _ _ _ => "op" | .get _ _ _ => "get" | .put _ _ _ => "put" | .tell _ _ => "tell"
  | .split _ _ _ => "split" | .jump _ _ => "jump" | .call _ _ _ _ _ => "call" | .back _ => "back" | .join _ _ _ _ => "join" | .meet _ => "meet" | .stop _ => "stop"
theorem rw_d (r : Rw) : ∃ tl, r.d = .tup (.str r.word :: tl) := by cases r <;> exact ⟨_, rfl⟩
theorem word_back {rows : List Rw} {k : Nat} {r : Rw} (h : rows[k]? = some r) : bkR rows k = decide (r.word = "back") := by
  unfold bkR
  rw [h]
  cases r <;> first | (exact (decide_eq_true rfl).symm) | (refine (decide_eq_false ?_).symm; unfold Rw.word; simp only [ofS_inj, String.reduceEq, not_false_eq_true])
theorem atI_rows {rows : List Rw} {k : Nat} {r : Rw} (h : rows[k]? = some r) : atI (rows.map Rw.d) (k : Int) = some r.d := atI_nat (by rw [List.getElem?_map, h]; rfl)
/-! ### the nearest -/
end Tl
namespace Tl
open PySem PySem.Spec PyProof.Rows L2
def natsD (f : List Nat) : List D := f.map fun n : Nat => .int (n : Nat)
/-! ### a search through a graph -/
def Rch (nx : Nat → List Nat) (shut : Option Nat) (bs : List Nat) (x : Nat) : Prop := ∃ b ∈ bs, Way nx (fun y => some y ≠ shut) b x
structure InvC (nx : Nat → List Nat) (shut : Option Nat) (bs : List Nat) (n : Nat) (seen wt : List Nat) : Prop where
  nd : seen.Nodup
  sn : ∀ x ∈ seen, x < n
  wn : ∀ x ∈ wt, x < n
  snd : ∀ x, x ∈ seen ∨ x ∈ wt → Rch nx shut bs x
  bg : ∀ b ∈ bs, some b ≠ shut → b ∈ seen ∨ b ∈ wt
  cl : ∀ x ∈ seen, ∀ y ∈ nx x, some y ≠ shut → y ∈ seen ∨ y ∈ wt
def offS (shut : Option Nat) (y : Nat) : Bool := decide (some y ≠ shut)
theorem offS_t {shut : Option Nat} {y : Nat} : offS shut y = true ↔ some y ≠ shut := by unfold offS; exact decide_eq_true_iff
section
variable {nx : Nat → List Nat} {shut : Option Nat} {bs seen ws ns : List Nat} {n x : Nat}
theorem InvC.start (hb : ∀ b ∈ bs, b < n) : InvC nx shut bs n [] (bs.filter (offS shut)) := by
  refine ⟨List.nodup_nil, fun _ h => (by cases h), fun y hy => hb y (List.mem_filter.mp hy).1, fun y hy => ?_, fun b h1 h2 => .inr (List.mem_filter.mpr ⟨h1, offS_t.mpr h2⟩), fun _ h => (by cases h)⟩
  rcases hy with h | h
  · cases h
  · obtain ⟨h1, h2⟩ := List.mem_filter.mp h
    exact ⟨y, h1, 0, .here (offS_t.mp h2)⟩
theorem InvC.add (h : InvC nx shut bs n seen (ws ++ [x])) (hx : x ∉ seen) (hn : ∀ y, y ∈ ns ↔ y ∈ nx x) (hl : ∀ y ∈ nx x, y < n) : InvC nx shut bs n (seen ++ [x]) (ws ++ ns.filter (offS shut)) := by
  have rx := h.snd x (.inr (by simp))
  have mem : ∀ y, y ∈ seen ∨ y ∈ ws ++ [x] → y ∈ seen ++ [x] ∨ y ∈ ws ++ ns.filter (offS shut) := fun y hy => by
    rcases hy with hy | hy
    · exact .inl (List.mem_append_left _ hy)
    · rcases List.mem_append.mp hy with hy | hy
      · exact .inr (List.mem_append_left _ hy)
      · exact .inl (List.mem_append_right _ hy)
  have xn := h.wn x (by simp)
  refine ⟨?_, fun y hy => ?_, fun y hy => ?_, fun y hy => ?_, fun b h1 h2 => mem _ (h.bg b h1 h2), fun y hy z hz hs => ?_⟩
  · rw [List.nodup_append]
    exact ⟨h.nd, by simp, fun a ha b hb e => by rw [List.mem_singleton.mp hb] at e; exact hx (e ▸ ha)⟩
  · rcases List.mem_append.mp hy with hy | hy
    · exact h.sn y hy
    · rw [List.mem_singleton.mp hy]; exact xn
  · rcases List.mem_append.mp hy with hy | hy
    · exact h.wn y (List.mem_append_left _ hy)
    · exact hl y ((hn y).mp (List.mem_filter.mp hy).1)
  · rcases hy with hy | hy
    · rcases List.mem_append.mp hy with hy | hy
      · exact h.snd y (.inl hy)
      · rw [List.mem_singleton.mp hy]; exact rx
    · rcases List.mem_append.mp hy with hy | hy
      · exact h.snd y (.inr (List.mem_append_left _ hy))
      · obtain ⟨h1, h2⟩ := List.mem_filter.mp hy
        obtain ⟨b, hb, i, w⟩ := rx
        exact ⟨b, hb, _, w.snoc ((hn y).mp h1) (offS_t.mp h2)⟩
  · rcases List.mem_append.mp hy with hy | hy
    · exact mem _ (h.cl y hy z hz hs)
    · rw [List.mem_singleton.mp hy] at hz
      exact .inr (List.mem_append_right _ (List.mem_filter.mpr ⟨(hn z).mpr hz, offS_t.mpr hs⟩))
theorem InvC.fin (h : InvC nx shut bs n seen []) : x ∈ seen ↔ Rch nx shut bs x := by
  refine ⟨fun hx => h.snd x (.inl hx), ?_⟩
  rintro ⟨b, hb, i, w⟩
  have none_ : ∀ y, y ∈ seen ∨ y ∈ ([] : List Nat) → y ∈ seen := fun y hy => hy.elim id fun z => (by cases z)
  exact w.keepP (fun y => y ∈ seen) (fun y hy _ z hz pz => none_ _ (h.cl y hy z hz pz)) (none_ _ (h.bg b hb w.head))
theorem nodup_low {l : List Nat} {n : Nat} (h : l.Nodup) (hl : ∀ x ∈ l, x < n) : l.length ≤ n := by
  have := List.Nodup.length_le_of_subset h (l₂ := List.range n) (fun x hx => List.mem_range.mpr (hl x hx))
  rwa [List.length_range] at this
theorem InvC.len (h : InvC nx shut bs n seen ws) : seen.length ≤ n := nodup_low h.nd h.sn
end
/-! ### the rows behind a row, as the laws tell them -/
/-! ### what was seen, as a dict -/
theorem putM_new {κ : Type} [DecidableEq κ] {kvs : List (κ × D)} {k : κ} {v : D} (h : valD kvs k = none) : putM kvs k v = kvs ++ [(k, v)] := by
  have hn : ¬ (kvs.any fun q => decide (q.1 = k)) = true := by
    intro ha
    unfold valD at h
    rw [List.any_eq_true] at ha
    obtain ⟨q, hq, e⟩ := ha
    rw [Option.map_eq_none_iff, List.find?_eq_none] at h
    exact h q hq e
  unfold putM
  rw [if_neg hn]
theorem natsD_app {a b : List Nat} : natsD (a ++ b) = natsD a ++ natsD b := List.map_append
theorem natsD_len {a : List Nat} : (natsD a).length = a.length := List.length_map _
end Tl
namespace Tl
open PySem PySem.Spec PyProof.Rows L2
/-! ### a search level by level, each row with the row that it was come to from -/
structure InvP (nx : Nat → List Nat) (bs : List Nat) (goal n : Nat) (cs : List (Nat × Option Nat)) : Prop where
  nd : (cs.map (·.1)).Nodup
  cn : ∀ x ∈ cs.map (·.1), x < n
  fr : ∀ (i : Nat) (c : Nat × Option Nat), cs[i]? = some c → (c.2 = none ∧ c.1 ∈ bs) ∨ ∃ (o j : Nat) (c' : Nat × Option Nat), c.2 = some o ∧ o ≠ goal ∧ c.1 ∈ nx o ∧ j < i ∧ cs[j]? = some c' ∧ c'.1 = o
  bg : ∀ b ∈ bs, b ∈ cs.map (·.1)
section
variable {nx : Nat → List Nat} {bs : List Nat} {goal n : Nat} {cs : List (Nat × Option Nat)}
theorem InvP.len (h : InvP nx bs goal n cs) : cs.length ≤ n := by
  have := nodup_low h.nd h.cn
  rwa [List.length_map] at this
theorem InvP.add (h : InvP nx bs goal n cs) {x y : Nat} (hx : x ∈ cs.map (·.1)) (hg : x ≠ goal) (hy : y ∈ nx x) (hn : y < n) (hs : y ∉ cs.map (·.1)) : InvP nx bs goal n (cs ++ [(y, some x)]) := by
  refine ⟨?_, fun z hz => ?_, fun i c hc => ?_, fun b hb => ?_⟩
  · rw [List.map_append, List.nodup_append]
    exact ⟨h.nd, by simp, fun a ha b hb e => by
      rw [show b = y by simpa using hb] at e
      exact hs (e ▸ ha)⟩
  · rw [List.map_append] at hz
    rcases List.mem_append.mp hz with hz | hz
    · exact h.cn z hz
    · rw [show z = y by simpa using hz]; exact hn
  · rcases Nat.lt_or_ge i cs.length with hi | hi
    · rw [List.getElem?_append_left hi] at hc
      rcases h.fr i c hc with h1 | ⟨o, j, c', h1, h2, h3, h4, h5, h6⟩
      · exact .inl h1
      · exact .inr ⟨o, j, c', h1, h2, h3, h4, by rw [List.getElem?_append_left (by omega)]; exact h5, h6⟩
    · rw [List.getElem?_append_right hi] at hc
      have hz : i - cs.length = 0 := by
        rcases Nat.eq_zero_or_pos (i - cs.length) with z | z
        · exact z
        · rw [List.getElem?_eq_none (by simp; omega)] at hc; cases hc
      rw [hz] at hc
      cases hc
      obtain ⟨c', hc', rfl⟩ := List.mem_map.mp hx
      obtain ⟨j, hj⟩ := List.mem_iff_getElem?.mp hc'
      have hjl := (List.getElem?_eq_some_iff.mp hj).1
      exact .inr ⟨c'.1, j, c', rfl, hg, hy, by omega, by rw [List.getElem?_append_left hjl]; exact hj, rfl⟩
  · rw [List.map_append]; exact List.mem_append_left _ (h.bg b hb)
/-- where nothing more is come to, all is -/
theorem InvP.all (h : InvP nx bs goal n cs) (hc : ∀ x ∈ cs.map (·.1), ∀ y ∈ nx x, y ∈ cs.map (·.1)) {x : Nat} (r : Rch nx none bs x) : x ∈ cs.map (·.1) := by
  obtain ⟨b, hb, m, w⟩ := r
  exact w.keep (fun y => y ∈ cs.map (·.1)) hc (h.bg b hb)
end
end Tl
namespace Tl
open PySem PySem.Spec PyProof.Rows L2
/-! ### sorted(d) of a dict by pairs of whole numbers -/
def pairK (p : Int × Int) : List Key := [.inl p.1, .inl p.2]
def pairD (p : Int × Int) : D := .tup [.int p.1, .int p.2]
def lexLe (p q : Int × Int) : Prop := SrtO.lexB q p = false
def cellP (H : Hp) (u : Value) : Int × Int := match u with
  | .ref b => match H b with
    | some (.tup [.int i, .int j]) => (i, j)
    | _ => (0, 0)
  | _ => (0, 0)
def rSortDP : List V → Hp → VK → Prop := fun xs H Q => ∃ (a : Addr) (kvs : List (List Key × V)) (ps : List (Int × Int)), xs = [.ref a] ∧ L2.Rd H a (.dT kvs) ∧ kvs.map (·.1) = ps.map pairK ∧
  ∀ (p : Addr) (bs : List Addr) (ys : List (Int × Int)), H p = none → Paired (fun (y : Int × Int) b => H b = some (.tup [.int y.1, .int y.2])) ys bs → ys.Perm ps → ys.Pairwise lexLe → Q (.ref p) (upd H p (.lst (bs.map V.ref)))
theorem kt_pairs {H : Hp} : ∀ {kvs : List (List Key × V)} {bs : List Addr} {ps : List (Int × Int)}, IsKeys H kvs bs → kvs.map (·.1) = ps.map pairK → Paired (fun (y : Int × Int) b => H b = some (.tup [.int y.1, .int y.2])) ps bs
  | [], [], [], _, _ => .nil
  | [], _, _ :: _, _, h => by cases h
  | _ :: _, _, [], _, h => by cases h
  | kv :: kvs, b :: bs, p :: ps, .cons h t, e => by
    rw [List.map_cons, List.map_cons] at e
    obtain ⟨e1, e2⟩ := List.cons.inj e
    refine .cons ?_ (kt_pairs t e2)
    rw [e1] at h
    exact h
theorem cell_of {H : Hp} {ps : List (Int × Int)} {bs : List Addr} (h : Paired (fun (y : Int × Int) b => H b = some (.tup [.int y.1, .int y.2])) ps bs) : (bs.map Value.ref).map (cellP H) = ps := by
  induction h with
  | nil => rfl
  | @cons y b ys bs h t ih =>
    rw [List.map_cons, List.map_cons, ih]
    congr 1
    unfold cellP
    dsimp only
    rw [h]
theorem pairs_mem {H : Hp} {ps : List (Int × Int)} {bs : List Addr} (h : Paired (fun (y : Int × Int) b => H b = some (.tup [.int y.1, .int y.2])) ps bs) : ∀ b ∈ bs, H b = some (.tup [.int (cellP H (.ref b)).1, .int (cellP H (.ref b)).2]) := by
  induction h with
  | nil => intro b hb; cases hb
  | @cons y b ys bs h t ih =>
    intro c hc
    rcases List.mem_cons.mp hc with rfl | hc
    · unfold cellP; dsimp only; rw [h]
    · exact ih c hc
theorem call_sortedDP {X : Cx} (hcalm : X.calm = true) : CallR X (.builtin "sorted") rSortDP := by
  intro pins s σ H xs us Q I r q
  obtain ⟨a, kvs, ps, rfl, hd, hks, q⟩ := q
  obtain ⟨u, rfl, rx⟩ := vals1 r
  cases rx
  obtain ⟨z, hs, ks, pr, o, es, ep, ho, hx, hdt, he, hn⟩ := (show ObjOk X.prog X.w H s.heap a (.dT kvs) from hd.ok I.hok)
  have l1 : es.size = ks.length := size_of_entries he
  have l2 : kvs.length = ks.length := Paired.length pr
  have hP := kt_pairs (isKeys_of pr) hks
  have hm := pairs_mem hP
  have hc := cell_of hP
  refine Calls.call_function_entry PyProof.Rows.kind_sorted PyProof.Rows.plain_sorted PyProof.Rows.entry_sorted (PyProof.Rows.args_sorted1 _) ?_
  unfold Builtin.«sorted»
  refine wpAny_bind (m := checkCount "sorted" 1 1 _) (wpAny_pure ?_)
  refine wpAny_bind (PySem.W.kdu_collect (A := X.A.in1) (kdl_raw (prog := X.prog) (w := X.w) hs hx hdt) (I.ok.hd hcalm) ho (by omega) fun h' tk acc hk it => ?_)
  have ea : acc.toList = (ks.map fun x => x.2.1).map Value.ref := by
    have hl : acc.toList.length = ks.length := by rw [Array.length_toList, it.1]; exact l1
    apply List.ext_getElem?
    intro j
    rw [List.getElem?_map, List.getElem?_map]
    cases hj : acc.toList[j]? with
    | none =>
      have h1 := List.getElem?_eq_none_iff.mp hj
      rw [List.getElem?_eq_none (by omega)]
      rfl
    | some v =>
      obtain ⟨en, hen, hv⟩ := it.2 j v (by rw [← Array.getElem?_toList]; exact hj)
      have qe := entry_at he j
      rw [hen] at qe
      cases hb : ks[j]? with
      | none =>
        rw [hb] at qe
        exact nomatch (show some en = none from qe)
      | some b =>
        rw [hb] at qe
        have e2 : en = entryOfKey (tupleKind (mixKind X.prog X.w)) b := Option.some.inj qe
        rw [hv, e2]
        rfl
  generalize hvs : acc.toList = vs at ea ⊢
  generalize ks.map (fun x => x.2.1) = bs at ea hP hm hc
  have hz : vs.length ≤ sizeLine := by
    rw [← hvs, Array.length_toList, it.1]; omega
  have I1 : Inv X pins σ H { s with heap := h', toks := tk } := I.kept hk
  refine wpAny_bind (wpAny_newList ?_ (by omega))
  have hoL : (h'.push (seqObj "list" vs.toArray 0)).get? h'.objs.size = some (seqObj "list" vs.toArray 0) := Heap.get?_push_size _ rfl
  show wpAny _ _ _ _ _ { s with heap := h'.push (seqObj "list" vs.toArray 0), toks := tk }
  refine wpAny_bind (wpAny_holding (wpAny_call_entry PyProof.Rows.slot_list_sort ⟨_, hoL, rfl⟩ PyProof.Rows.entry_list_sort
    (SrtO.list_sort_ord (s := { s with heap := h'.push (seqObj "list" vs.toArray 0), toks := tk }) (SrtO.swo_lex (cellP H)) hoL hz (fun h2 => ?_) fun out g1 g2 => ⟨_, rfl, ?_⟩) (PyProof.Rows.args_list_sort _)))
  · refine SrtO.pairs_sortableO (by omega) (fun v hv => ?_) fun o e => ?_
    · rw [ea] at hv
      obtain ⟨b, hb, rfl⟩ := List.mem_map.mp hv
      obtain ⟨_, its2, r2, o2, ho2, hc2, n2, hd2⟩ := I1.hok _ _ (hm b hb)
      obtain ⟨u1, u2, rfl, ri, rj⟩ := vals2 r2
      obtain ⟨t1, rfl⟩ := ri
      obtain ⟨t2, rfl⟩ := rj
      exact ⟨b, o2, t1, t2, n2, rfl, Heap.get?_push_of_some _ ho2, hc2, hd2⟩
    · have e' : some o = some (seqObj "list" vs.toArray 0) := e.symm.trans hoL
      cases e'
      intro c
      exact absurd (Value.type.inj c) (by decide)
  · obtain ⟨e', he'⟩ := PyProof.Rows.sortedHeap_at (vs := vs) (out := out.toArray) hoL
    have hmo : ∀ v ∈ out, ∃ b, v = Value.ref b ∧ b ∈ bs := fun v hv => by
      have := g2.perm.mem_iff.mp hv
      rw [ea] at this
      obtain ⟨b, hb, rfl⟩ := List.mem_map.mp this
      exact ⟨b, rfl, hb⟩
    have hlen : out.length = vs.length := g2.len
    have hout : ∃ cs : List Addr, out = cs.map Value.ref ∧ ∀ b ∈ cs, b ∈ bs := by
      clear g1 g2 he' hlen
      induction out with
      | nil => exact ⟨[], rfl, fun _ h => by cases h⟩
      | cons v t ih =>
        obtain ⟨b, rfl, hb⟩ := hmo v (List.mem_cons_self ..)
        obtain ⟨cs, rfl, hcs⟩ := ih fun v hv => hmo v (List.mem_cons_of_mem _ hv)
        exact ⟨b :: cs, rfl, fun c hc => (List.mem_cons.mp hc).elim (fun e => e ▸ hb) (hcs c)⟩
    obtain ⟨cs, rfl, hcs⟩ := hout
    have hPc : Paired (fun (y : Int × Int) b => H b = some (.tup [.int y.1, .int y.2])) ((cs.map Value.ref).map (cellP H)) cs := by
      have h0 : ∀ b ∈ cs, H b = some (.tup [.int (cellP H (.ref b)).1, .int (cellP H (.ref b)).2]) := fun b hb => hm b (hcs b hb)
      clear g1 g2 hmo hlen he' hcs
      induction cs with
      | nil => exact .nil
      | cons b t ih => exact .cons (h0 b (List.mem_cons_self ..)) (ih fun b hb => h0 b (List.mem_cons_of_mem _ hb))
    refine wpAny_pure ⟨_, rfl, .ref h'.objs.size, upd H h'.objs.size (.lst (cs.map V.ref)), I1.laid (t' := tk) (fun b u e => ?_) (Nat.le_refl _)
      (show ObjOk X.prog X.w _ _ _ (.lst (cs.map V.ref)) from ⟨?_, cs.map Value.ref, e', vals_refs _, he'⟩), rfl, q _ cs _ (I1.hok.fresh (Nat.le_refl _)) hPc ?_ ?_⟩
    · have hb : b < h'.objs.size := Heap.lt_size e
      rw [PyProof.Rows.sortedHeap_old (Nat.ne_of_lt hb) (by rw [size_push']; exact Nat.lt_succ_of_lt hb)]
      exact Heap.get?_push_of_some _ e
    · rw [List.length_map] at hlen ⊢
      omega
    · rw [← hc]
      have := g2.perm
      rw [ea] at this
      exact this.map _
    · exact List.pairwise_map.mpr g1
theorem pairs_freeze {K : PySem.W.Frag} {G H : Hp} {M : MH} : ∀ {ys : List (Int × Int)} {bs : List Addr} {F : Hp}, Paired (fun (y : Int × Int) b => H b = some (.tup [.int y.1, .int y.2])) ys bs → Rel K G F H M → ∃ F', Same F F' ∧ Rel K G F' H M ∧ Rps K F' (bs.map V.ref) (ys.map pairD)
  | [], [], F, _, R => ⟨F, Same.refl _, R, .nil⟩
  | y :: ys, b :: bs, F, .cons h t, R => by
    obtain ⟨F1, s1, R1, e1⟩ := R.freezeT h
    obtain ⟨F2, s2, R2, r2⟩ := pairs_freeze (ys := ys) (bs := bs) t R1
    exact ⟨F2, s1.trans s2, R2, .cons (.tup (s2 _ _ e1) (.cons (.int _) (.cons (.int _) .nil))) r2⟩
def cSortDP : RLt := fun ds M Q => match ds with
  | [.ref a] => match M a with
    | some (.dT kvs) => ∃ ps : List (Int × Int), kvs.map (·.1) = ps.map pairK ∧ ∀ ys : List (Int × Int), ys.Perm ps → ys.Pairwise lexLe → Q (.lst (ys.map pairD)) M
    | _ => False
  | _ => False
theorem cq_sortDP {X : Cx} (hc : X.calm = true) : CallQ X (.builtin "sorted") cSortDP := by
  intro pins s σ H xs us Q I r h
  obtain ⟨G, F, M, ds, Qt, R, rp, h, k⟩ := h
  match ds, rp, h with
  | [.ref a], .cons (.ref _) .nil, h =>
    have h : (match M a with
      | some (.dT kvs) => ∃ ps : List (Int × Int), kvs.map (·.1) = ps.map pairK ∧ ∀ ys : List (Int × Int), ys.Perm ps → ys.Pairwise lexLe → Qt (.lst (ys.map pairD)) M
      | _ => False) := h
    cases e : M a with
    | none => rw [e] at h; exact h.elim
    | some mo =>
      obtain ⟨_, u, hu, rr⟩ := R.chg a mo e
      rw [e] at h
      cases mo with
      | dT kvs =>
        cases u with
        | dT vs =>
          obtain ⟨ps, hk, h⟩ := h
          refine call_sortedDP hc pins s σ H _ us Q I r ⟨a, vs, ps, rfl, .inl hu, by rw [kp_keys (show KP X.K F vs kvs from rr)]; exact hk, fun p bs ys np hP hp ho => ?_⟩
          obtain ⟨F1, s1, R1, r1⟩ := pairs_freeze hP R
          obtain ⟨s2, R2⟩ := R1.newF (o := .lst (bs.map V.ref)) np
          exact k _ _ _ M _ (s1.trans s2) R2 (.lst upd_same (r1.mono s2)) (h ys hp ho)
        | _ => exact (rr : False).elim
      | _ => exact h.elim
theorem sortDP_T {M : MH} {a : Addr} {kvs : List (List Key × D)} {Q : VD} (ps : List (Int × Int)) (h : M a = some (.dT kvs)) (hk : kvs.map (·.1) = ps.map pairK) (q : ∀ ys : List (Int × Int), ys.Perm ps → ys.Pairwise lexLe → Q (.lst (ys.map pairD)) M) : cSortDP [.ref a] M Q := by
  show (match M a with
      | some (.dT kvs) => ∃ ps : List (Int × Int), kvs.map (·.1) = ps.map pairK ∧ ∀ ys : List (Int × Int), ys.Perm ps → ys.Pairwise lexLe → Q (.lst (ys.map pairD)) M
      | _ => False)
  rw [h]; exact ⟨ps, hk, q⟩
/-- two sorted lists of the same pairs, each once, are one -/
theorem sorted_pairs {a b : List (Int × Int)} (ha : a.Pairwise lexLe) (hb : b.Pairwise lexLe) (na : a.Nodup) (nb : b.Nodup) (h : ∀ p, p ∈ a ↔ p ∈ b) : a = b := by
  have hp : a.Perm b := (List.perm_ext_iff_of_nodup na nb).mpr h
  refine hp.eq_of_pairwise (fun x y hx hy h1 h2 => ?_) ha hb
  have h1 := SrtO.lexB_no.mp h1
  have h2 := SrtO.lexB_no.mp h2
  exact Prod.ext (by omega) (by omega)
end Tl
namespace Tl
open PySem PySem.Spec PyProof.Rows L2
/-! ### the rows of a program without their targets -/
abbrev Rw.z (r : Rw) : Rw := r.lead 0
theorem z_lead (r : Rw) (t : Int) : (r.lead t).z = r.z := by cases r <;> rfl
mutual
def sS (ss : List Str) (fr : Int) : Sm → List Rw
  | .if1 l e b => exRows ss l e fr ++ (.split l fr 0 :: sB ss fr b)
  | .if2 l e b c => exRows ss l e fr ++ (.split l fr 0 :: (sB ss fr b ++ (.jump l 0 :: sB ss fr c)))
  | .whl l e b => exRows ss l e fr ++ (.split l fr 0 :: (sB ss fr b ++ [.jump l 0]))
  | .brk l => [.jump l 0]
  | .agn l => [.jump l 0]
  | .ret l e => exRows ss l e fr ++ [.copy l 0 fr, .jump l 0]
  | .call l x f es => exsRows ss l es fr ++ [.call l (slotOf ss x) fr es.length 0]
  | s => exsRows ss s.line s.exprs fr ++ [lastRow ss fr s]
def sB (ss : List Str) (fr : Int) : List Sm → List Rw
  | [] => []
  | s :: t => .tick s.line :: (sS ss fr s ++ sB ss fr t)
end
def sD (o : Df) : List Rw := sB (slotsF o) ((slotsF o).length + 1) o.body ++ [.back o.last]
def sP (pg : Pg) : List Rw := (mainFirst pg).flatMap sD
theorem zmap_lead {rs : List Rw} {k : Nat} {t : Int} : (leadAt rs k t).map Rw.z = rs.map Rw.z := by
  apply List.ext_getElem?
  intro i
  rw [List.getElem?_map, List.getElem?_map, lead_get]
  split
  · cases rs[i]? with
    | none => rfl
    | some r => simp only [Option.map_some, z_lead]
  · rfl
theorem zrows_lead {m : Mk} {k : Nat} : (m.lead k).rows.map Rw.z = m.rows.map Rw.z := zmap_lead
theorem zrows_leads : ∀ {ks : List Nat} {m : Mk}, (m.leads ks).rows.map Rw.z = m.rows.map Rw.z
  | [], _ => rfl
  | k :: ks, m => (zrows_leads (ks := ks) (m := m.lead k)).trans zrows_lead
theorem zrows_add {m : Mk} {rs : List Rw} : (m.add rs).rows.map Rw.z = m.rows.map Rw.z ++ rs.map Rw.z := List.map_append
theorem inLps_imp {p q : Prop} (h : p → q) : ∀ {b : List Sm}, inLps p b → inLps q b
  | [], _ => by unfold inLps; trivial
  | s :: t, hb => by
    unfold inLps at hb ⊢
    refine ⟨?_, inLps_imp h hb.2⟩
    have := hb.1
    exact go s this
where
  go : ∀ s : Sm, inLp p s → inLp q s
  | .brk _, h1 => by unfold inLp at h1 ⊢; exact h h1
  | .agn _, h1 => by unfold inLp at h1 ⊢; exact h h1
  | .if1 _ _ b, h1 => by unfold inLp at h1 ⊢; exact inLps_imp h h1
  | .if2 _ _ b c, h1 => by unfold inLp at h1 ⊢; exact ⟨inLps_imp h h1.1, inLps_imp h h1.2⟩
  | .whl _ _ b, h1 => by unfold inLp at h1 ⊢; exact h1
  | .set .., _ => by unfold inLp; trivial
  | .put .., _ => by unfold inLp; trivial
  | .tell .., _ => by unfold inLp; trivial
  | .ret .., _ => by unfold inLp; trivial
  | .call .., _ => by unfold inLp; trivial
  | .join .., _ => by unfold inLp; trivial
  | .meet .., _ => by unfold inLp; trivial
  | .stop .., _ => by unfold inLp; trivial
mutual
theorem mkS_skel (ss : List Str) (fr : Int) : ∀ (s : Sm) (m : Mk), inLp (m.loops ≠ []) s → (mkS ss fr m s).rows.map Rw.z = m.rows.map Rw.z ++ (sS ss fr s).map Rw.z
  | .if1 l e b, m, h => by
    unfold inLp at h
    unfold mkS sS
    dsimp only
    rw [zrows_lead, mkB_skel ss fr b _ (by exact h), zrows_add]
    simp only [List.map_append, List.map_cons, List.map_nil, List.append_assoc, List.cons_append, List.nil_append]
  | .if2 l e b c, m, h => by
    unfold inLp at h
    have h1 := mkB_skel ss fr b (m.add (exRows ss l e fr ++ [.split l fr 0])) (by exact h.1)
    have k1 := mkB_keeps ss fr b (m.add (exRows ss l e fr ++ [.split l fr 0]))
    unfold mkS sS
    dsimp only
    rw [zrows_lead, mkB_skel ss fr c (((mkB ss fr (m.add (exRows ss l e fr ++ [Rw.split l fr 0])) b).add [Rw.jump l 0]).lead ((m.add (exRows ss l e fr ++ [Rw.split l fr 0])).rows.length - 1)) (inLps_imp (fun n => k1.lps.ne n) h.2), zrows_lead, zrows_add, h1, zrows_add]
    simp only [List.map_append, List.map_cons, List.map_nil, List.append_assoc, List.cons_append, List.nil_append]
  | .whl l e b, m, h => by
    unfold inLp at h
    have h1 := mkB_skel ss fr b { m.add (exRows ss l e fr ++ [.split l fr 0]) with loops := (m.rows.length - 1, [(m.add (exRows ss l e fr ++ [.split l fr 0])).rows.length - 1]) :: (m.add (exRows ss l e fr ++ [.split l fr 0])).loops } (inLps_imp (fun _ z => by cases z) h)
    unfold mkS sS
    dsimp only
    have h2 : ({ m.add (exRows ss l e fr ++ [.split l fr 0]) with loops := (m.rows.length - 1, [(m.add (exRows ss l e fr ++ [.split l fr 0])).rows.length - 1]) :: (m.add (exRows ss l e fr ++ [.split l fr 0])).loops } : Mk).rows = (m.add (exRows ss l e fr ++ [.split l fr 0])).rows := rfl
    rw [h2, zrows_add] at h1
    generalize mkB ss fr { m.add (exRows ss l e fr ++ [.split l fr 0]) with loops := (m.rows.length - 1, [(m.add (exRows ss l e fr ++ [.split l fr 0])).rows.length - 1]) :: (m.add (exRows ss l e fr ++ [.split l fr 0])).loops } b = m2 at h1 ⊢
    have h3 : ((m2.add [.jump l (m.rows.length - 1 : Nat)]).rows).map Rw.z = m.rows.map Rw.z ++ (exRows ss l e fr ++ (Rw.split l fr 0 :: (sB ss fr b ++ [Rw.jump l 0]))).map Rw.z := by
      rw [zrows_add, h1]
      simp only [List.map_append, List.map_cons, List.map_nil, List.append_assoc, List.cons_append, List.nil_append]
      rfl
    split
    · exact h3
    · rw [zrows_leads]; exact h3
  | .brk l, m, h => by
    unfold inLp at h
    unfold mkS sS
    split
    · rename_i e; exact (h e).elim
    · exact List.map_append
  | .agn l, m, h => by
    unfold inLp at h
    unfold mkS sS
    split
    · rename_i e; exact (h e).elim
    · exact List.map_append
  | .ret l e, m, h => by
    unfold mkS sS
    exact List.map_append
  | .call l x f es, m, h => by
    unfold mkS sS
    exact List.map_append
  | .set .., m, h => by unfold mkS sS; exact List.map_append
  | .put .., m, h => by unfold mkS sS; exact List.map_append
  | .tell .., m, h => by unfold mkS sS; exact List.map_append
  | .join .., m, h => by unfold mkS sS; exact List.map_append
  | .meet .., m, h => by unfold mkS sS; exact List.map_append
  | .stop .., m, h => by unfold mkS sS; exact List.map_append
theorem mkB_skel (ss : List Str) (fr : Int) : ∀ (b : List Sm) (m : Mk), inLps (m.loops ≠ []) b → (mkB ss fr m b).rows.map Rw.z = m.rows.map Rw.z ++ (sB ss fr b).map Rw.z
  | [], m, _ => by unfold mkB sB; simp
  | s :: t, m, h => by
    unfold inLps at h
    have h1 := mkS_skel ss fr s (m.add [.tick s.line]) (by exact h.1)
    have k1 := mkS_keeps ss fr s (m.add [.tick s.line])
    unfold mkB sB
    rw [mkB_skel ss fr t _ (inLps_imp (fun n => k1.lps.ne n) h.2), h1, zrows_add]
    simp only [List.map_append, List.map_cons, List.map_nil, List.append_assoc, List.cons_append, List.nil_append]
end
theorem mkDef_skel {m : Mk} {o : Df} (h0 : m.loops = []) (h : inLps False o.body) : (mkDef m o).rows.map Rw.z = m.rows.map Rw.z ++ (sD o).map Rw.z := by
  rw [mkDef_eq]
  have h1 := mkB_skel (slotsF o) ((slotsF o).length + 1) o.body ⟨m.rows, m.calls, [], m.loops⟩ (inLps_imp (fun z => z.elim) h)
  rw [zrows_add, zrows_leads, h1]
  unfold sD
  rw [List.map_append, List.append_assoc]
theorem mkDef_loops {m : Mk} {o : Df} (h0 : m.loops = []) : (mkDef m o).loops = [] :=
  (mkDef_seg (R := (mkDef m o).rows.map Rw.shp) (o := o) h0 fun i _ => List.getElem?_map ..).1
theorem mkSteps_skel : ∀ {os : Pg} {s : Mk × List (Str × Nat)}, s.1.loops = [] → (∀ o ∈ os, inLps False o.body) → (os.foldl mkStep s).1.rows.map Rw.z = s.1.rows.map Rw.z ++ (os.flatMap sD).map Rw.z
  | [], s, _, _ => by simp
  | o :: os, s, h0, h => by
    rw [List.foldl_cons, mkSteps_skel (os := os) (s := mkStep s o) (mkDef_loops h0) fun x hx => h x (List.mem_cons_of_mem _ hx)]
    rw [show (mkStep s o).1 = mkDef s.1 o from rfl, mkDef_skel h0 (h o (List.mem_cons_self ..))]
    rw [List.flatMap_cons, List.map_append, List.append_assoc]
theorem rows_skel {pg : Pg} (h : ∀ o ∈ pg, inLps False o.body) : (rowsF pg).map Rw.z = (sP pg).map Rw.z := by
  have h1 : (mkAll (mainFirst pg)).1.rows.map Rw.z = (sP pg).map Rw.z := by
    rw [mkAll_eq, mkSteps_skel rfl fun o ho => h o (first_mem.mp ho)]
    rfl
  rw [← h1]
  show ((mkAll (mainFirst pg)).1.calls.foldl (fun rows c => leadAt rows c.1 (beginOf (mkAll (mainFirst pg)).2 c.2)) (mkAll (mainFirst pg)).1.rows).map Rw.z = _
  generalize (mkAll (mainFirst pg)).1.calls = cs
  generalize (mkAll (mainFirst pg)).1.rows = rs
  induction cs generalizing rs with
  | nil => rfl
  | cons c t ih => rw [List.foldl_cons, ih, zmap_lead]
theorem rows_skel_len {pg : Pg} (h : ∀ o ∈ pg, inLps False o.body) : (rowsF pg).length = (sP pg).length := by
  have := congrArg List.length (rows_skel h)
  rwa [List.length_map, List.length_map] at this
/-! calls are led -/
def Cov (m : Mk) : Prop := ∀ i, kdAt m.rows i 4 → ∃ f, (i, f) ∈ m.calls
theorem ex_kd {ss : List Str} {l : Int} : ∀ {e : Ex} {a : Int}, ∀ r ∈ exRows ss l e a, r.kd = 0
  | .num _, _, r, h => by rw [List.mem_singleton.mp h]; rfl
  | .nam _, _, r, h => by rw [List.mem_singleton.mp h]; rfl
  | .lane, _, r, h => by rw [List.mem_singleton.mp h]; rfl
  | .lanes, _, r, h => by rw [List.mem_singleton.mp h]; rfl
  | .mine, _, r, h => by rw [List.mem_singleton.mp h]; rfl
  | .box e, a, r, h => by
    unfold exRows at h
    rcases List.mem_append.mp h with h | h
    · exact ex_kd (e := e) r h
    · rw [List.mem_singleton.mp h]; rfl
  | .op w x y, a, r, h => by
    unfold exRows at h
    rcases List.mem_append.mp h with h | h
    · rcases List.mem_append.mp h with h | h
      · exact ex_kd (e := x) r h
      · exact ex_kd (e := y) r h
    · rw [List.mem_singleton.mp h]; rfl
theorem exs_kd {ss : List Str} {l : Int} : ∀ {es : List Ex} {a : Int}, ∀ r ∈ exsRows ss l es a, r.kd = 0
  | [], _, r, h => by cases h
  | e :: es, a, r, h => by
    unfold exsRows at h
    rcases List.mem_append.mp h with h | h
    · exact ex_kd r h
    · exact exs_kd (es := es) r h
theorem kdAt_add {m : Mk} {rs : List Rw} {i k : Nat} (h : kdAt (m.add rs).rows i k) : kdAt m.rows i k ∨ ∃ r, rs[i - m.rows.length]? = some r ∧ r.kd = k ∧ m.rows.length ≤ i := by
  unfold kdAt at *
  rcases Nat.lt_or_ge i m.rows.length with c | c
  · left
    rw [show (m.add rs).rows = m.rows ++ rs from rfl, List.getElem?_append_left c] at h
    exact h
  · right
    rw [show (m.add rs).rows = m.rows ++ rs from rfl, List.getElem?_append_right c] at h
    obtain ⟨r, hr, e⟩ := Option.map_eq_some_iff.mp h
    exact ⟨r, hr, e, c⟩
theorem kdAt_lead {rows : List Rw} {z k j : Nat} {t : Int} (h : kdAt (leadAt rows j t) z k) : kdAt rows z k := by
  unfold kdAt at *
  rw [lead_get] at h
  split at h
  · rw [Option.map_map, show (Rw.kd ∘ fun x => x.lead t) = Rw.kd from funext fun r => lead_kd r t] at h; exact h
  · exact h
theorem Cov.add {m : Mk} {rs : List Rw} (h : Cov m) (hr : ∀ r ∈ rs, r.kd ≠ 4) : Cov (m.add rs) := fun i hi => by
  rcases kdAt_add hi with c | ⟨r, h1, h2, _⟩
  · exact h i c
  · exact (hr r (List.mem_of_getElem? h1) h2).elim
theorem Cov.lead {m : Mk} {k : Nat} (h : Cov m) : Cov (m.lead k) := fun i hi => h i (kdAt_lead hi)
theorem Cov.leads : ∀ {ks : List Nat} {m : Mk}, Cov m → Cov (m.leads ks)
  | [], _, h => h
  | k :: ks, m, h => Cov.leads (ks := ks) (m := m.lead k) h.lead
theorem kd_ex1 {ss : List Str} {l : Int} {e : Ex} {a : Int} {x : Rw} (hx : x.kd ≠ 4) : ∀ r ∈ exRows ss l e a ++ [x], r.kd ≠ 4 := fun r h => by
  rcases List.mem_append.mp h with h | h
  · rw [ex_kd r h]; decide
  · rw [List.mem_singleton.mp h]; exact hx
theorem kd_exs1 {ss : List Str} {l : Int} {es : List Ex} {a : Int} {x : Rw} (hx : x.kd ≠ 4) : ∀ r ∈ exsRows ss l es a ++ [x], r.kd ≠ 4 := fun r h => by
  rcases List.mem_append.mp h with h | h
  · rw [exs_kd r h]; decide
  · rw [List.mem_singleton.mp h]; exact hx
theorem kd_one {x : Rw} (hx : x.kd ≠ 4) : ∀ r ∈ [x], r.kd ≠ 4 := fun r h => by rw [List.mem_singleton.mp h]; exact hx
mutual
theorem mkS_cov (ss : List Str) (fr : Int) : ∀ (s : Sm) (m : Mk), Cov m → Cov (mkS ss fr m s)
  | .if1 l e b, m, h => by
    unfold mkS
    exact (mkB_cov ss fr b _ (h.add (kd_ex1 (Nat.ne_of_beq_eq_false rfl)))).lead
  | .if2 l e b c, m, h => by
    unfold mkS
    exact (mkB_cov ss fr c _ (((mkB_cov ss fr b _ (h.add (kd_ex1 (Nat.ne_of_beq_eq_false rfl)))).add (kd_one (Nat.ne_of_beq_eq_false rfl))).lead)).lead
  | .whl l e b, m, h => by
    have h1 := mkB_cov ss fr b { m.add (exRows ss l e fr ++ [.split l fr 0]) with loops := (m.rows.length - 1, [(m.add (exRows ss l e fr ++ [.split l fr 0])).rows.length - 1]) :: (m.add (exRows ss l e fr ++ [.split l fr 0])).loops } (show Cov (m.add (exRows ss l e fr ++ [.split l fr 0])) from h.add (kd_ex1 (Nat.ne_of_beq_eq_false rfl)))
    unfold mkS
    dsimp only
    split
    · exact h1.add (kd_one (Nat.ne_of_beq_eq_false rfl))
    · refine Cov.leads ?_
      exact h1.add (kd_one (Nat.ne_of_beq_eq_false rfl))
  | .brk l, m, h => by
    unfold mkS
    split
    · exact h
    · rename_i b lv r e
      exact fun i hi => h.add (rs := [.jump l b]) (kd_one (Nat.ne_of_beq_eq_false rfl)) i hi
  | .agn l, m, h => by
    unfold mkS
    split
    · exact h
    · exact h.add (kd_one (Nat.ne_of_beq_eq_false rfl))
  | .ret l e, m, h => by
    unfold mkS
    refine fun i hi => h.add (rs := exRows ss l e fr ++ [.copy l 0 fr, .jump l 0]) (fun r hr => ?_) i hi
    rcases List.mem_append.mp hr with hr | hr
    · rw [ex_kd r hr]; decide
    · simp only [List.mem_cons, List.not_mem_nil, or_false] at hr
      rcases hr with rfl | rfl <;> exact Nat.ne_of_beq_eq_false rfl
  | .call l x f es, m, h => by
    unfold mkS
    intro i hi
    dsimp only at hi ⊢
    rcases kdAt_add hi with c | ⟨r, h1, h2, h3⟩
    · obtain ⟨f', hf⟩ := h i c
      exact ⟨f', List.mem_append_left _ hf⟩
    · refine ⟨f, List.mem_append_right _ ?_⟩
      rcases Nat.lt_or_ge (i - m.rows.length) (exsRows ss l es fr).length with c | c
      · rw [List.getElem?_append_left c] at h1
        rw [exs_kd r (List.mem_of_getElem? h1)] at h2
        cases h2
      · have hlt := (List.getElem?_eq_some_iff.mp h1).1
        rw [List.length_append, List.length_singleton] at hlt
        have : (m.add (exsRows ss l es fr ++ [.call l (slotOf ss x) fr es.length 0])).rows.length - 1 = i := by
          rw [add_len, List.length_append, List.length_singleton]; omega
        rw [this]; simp
  | .set .., m, h => by unfold mkS; exact h.add (kd_exs1 (Nat.ne_of_beq_eq_false rfl))
  | .put .., m, h => by unfold mkS; exact h.add (kd_exs1 (Nat.ne_of_beq_eq_false rfl))
  | .tell .., m, h => by unfold mkS; exact h.add (kd_exs1 (Nat.ne_of_beq_eq_false rfl))
  | .join .., m, h => by unfold mkS; exact h.add (kd_exs1 (Nat.ne_of_beq_eq_false rfl))
  | .meet .., m, h => by unfold mkS; exact h.add (kd_exs1 (Nat.ne_of_beq_eq_false rfl))
  | .stop .., m, h => by unfold mkS; exact h.add (kd_exs1 (Nat.ne_of_beq_eq_false rfl))
theorem mkB_cov (ss : List Str) (fr : Int) : ∀ (b : List Sm) (m : Mk), Cov m → Cov (mkB ss fr m b)
  | [], m, h => by unfold mkB; exact h
  | s :: t, m, h => by
    unfold mkB
    exact mkB_cov ss fr t _ (mkS_cov ss fr s _ (h.add (kd_one (Nat.ne_of_beq_eq_false rfl))))
end
theorem mkDef_cov {m : Mk} {o : Df} (h : Cov m) : Cov (mkDef m o) := by
  rw [mkDef_eq]
  exact (Cov.leads (mkB_cov _ _ _ ⟨m.rows, m.calls, [], m.loops⟩ h)).add (kd_one (Nat.ne_of_beq_eq_false rfl))
theorem mkSteps_cov : ∀ {os : Pg} {s : Mk × List (Str × Nat)}, Cov s.1 → Cov (os.foldl mkStep s).1
  | [], _, h => h
  | o :: os, s, h => by
    rw [List.foldl_cons]
    exact mkSteps_cov (os := os) (s := mkStep s o) (mkDef_cov h)
theorem mkSteps_begins : ∀ {os : Pg} {s : Mk × List (Str × Nat)}, (∀ p ∈ s.2, p.2 < s.1.rows.length) → ∀ p ∈ (os.foldl mkStep s).2, p.2 < (os.foldl mkStep s).1.rows.length
  | [], _, h => h
  | o :: os, s, h => by
    rw [List.foldl_cons]
    have hl : s.1.rows.length < (mkDef s.1 o).rows.length := by
      rw [mkDef_eq, add_len, leads_len]
      have := (mkB_keeps (slotsF o) ((slotsF o).length + 1) o.body ⟨s.1.rows, s.1.calls, [], s.1.loops⟩).ext.len
      dsimp only at this
      simp only [List.length_singleton]; omega
    refine mkSteps_begins (os := os) (s := mkStep s o) fun p hp => ?_
    rcases List.mem_append.mp (show p ∈ s.2 ++ [(o.name, s.1.rows.length)] from hp) with hp | hp
    · exact Nat.lt_trans (h p hp) hl
    · rw [List.mem_singleton.mp hp]; exact hl
/-- a call goes to a row that is there -/
def CallsIn (rows : List Rw) : Prop := ∀ (k : Nat) (l a f m t : Int), rows[k]? = some (.call l a f m t) → ∃ n : Nat, t = n ∧ n < rows.length
theorem rows_calls {pg : Pg} (h : pg ≠ []) : CallsIn (rowsF pg) := by
  have hc := mkSteps_cov (os := mainFirst pg) (s := (⟨[], [], [], []⟩, [])) (fun i hi => by unfold kdAt at hi; simp at hi)
  have hb := mkSteps_begins (os := mainFirst pg) (s := (⟨[], [], [], []⟩, [])) (fun p hp => by cases hp)
  rw [← mkAll_eq] at hc hb
  have hne : 0 < (mkAll (mainFirst pg)).1.rows.length := by
    have hm : mainFirst pg ≠ [] := fun z => h (by
      have := congrArg List.length z
      rw [first_len] at this
      exact List.eq_nil_of_length_eq_zero this)
    rw [mkAll_eq]
    cases e : mainFirst pg with
    | nil => exact (hm e).elim
    | cons o os =>
      rw [List.foldl_cons]
      have := (mkSteps_ext (os := os) (s := mkStep (⟨[], [], [], []⟩, []) o)).len
      have h2 : 0 < (mkStep ((⟨[], [], [], []⟩ : Mk), ([] : List (Str × Nat))) o).1.rows.length := by
        show 0 < (mkDef _ o).rows.length
        rw [mkDef_eq, add_len]; simp
      omega
  have hbo : ∀ f, ∃ n : Nat, beginOf (mkAll (mainFirst pg)).2 f = n ∧ n < (mkAll (mainFirst pg)).1.rows.length := fun f => by
    unfold beginOf
    cases e : (mkAll (mainFirst pg)).2.reverse.find? fun p => decide (p.1 = f) with
    | none => exact ⟨0, rfl, hne⟩
    | some p => exact ⟨p.2, rfl, hb p (List.mem_reverse.mp (List.mem_of_find?_eq_some e))⟩
  have key : ∀ (cs : List (Nat × Str)) (rs : List Rw), rs.length = (mkAll (mainFirst pg)).1.rows.length → (∀ (k : Nat) (l a f m t : Int), rs[k]? = some (.call l a f m t) → (∃ n : Nat, t = n ∧ n < rs.length) ∨ ∃ f, (k, f) ∈ cs) →
      CallsIn (cs.foldl (fun rows c => leadAt rows c.1 (beginOf (mkAll (mainFirst pg)).2 c.2)) rs) := by
    intro cs
    induction cs with
    | nil => exact fun rs _ hr k l a f m t e => (hr k l a f m t e).elim id fun ⟨_, z⟩ => by cases z
    | cons c cs ih =>
      intro rs hl hr
      rw [List.foldl_cons]
      refine ih _ (by rw [leadAt_len]; exact hl) fun k l a f m t e => ?_
      rw [lead_get] at e
      rw [leadAt_len]
      split at e
      · rename_i ek
        obtain ⟨r, hr1, e⟩ := Option.map_eq_some_iff.mp e
        cases r <;> first | (cases e; done) | skip
        unfold Rw.lead at e
        cases e
        obtain ⟨n, h1, h2⟩ := hbo c.2
        exact .inl ⟨n, h1, by omega⟩
      · rename_i ek
        rcases hr k l a f m t e with h1 | ⟨g, hg⟩
        · exact .inl h1
        · rcases List.mem_cons.mp hg with e2 | hg
          · exact (ek (by rw [← e2])).elim
          · exact .inr ⟨g, hg⟩
  refine key _ _ rfl fun k l a f m t e => .inr (hc k ?_)
  unfold kdAt
  rw [e]; rfl
end Tl
namespace Tl
open PySem PySem.Spec PyProof.Rows L2
/-! ### could: mirrors -/
def formsIn : Ex → List Fo
  | .box e => formsIn e ++ [formF e]
  | .op _ a b => formsIn a ++ formsIn b
  | _ => []
def putForm : Sm → List Fo
  | .put _ a _ => [formF a]
  | _ => []
def formsS (s : Sm) : List Fo := s.exprs.flatMap formsIn ++ putForm s
def formsP (pg : Pg) : List Fo := (mainFirst pg).flatMap fun o => (allBd o.body).flatMap formsS
def Rw.isPut : Rw → Bool
  | .put _ _ _ => true | _ => false
def Rw.isTch : Rw → Bool
  | .get _ _ _ => true | .put _ _ _ => true | _ => false
def Rw.isMt : Rw → Bool
  | .join _ _ _ _ => true | .meet _ => true | _ => false
def Rw.line : Rw → Int
  | .tick l => l | .num l _ _ => l | .copy l _ _ => l | .sign l _ _ => l | .op l _ _ _ _ => l | .get l _ _ => l | .put l _ _ => l | .tell l _ => l
  | .split l _ _ => l | .jump l _ => l | .call l _ _ _ _ => l | .back l => l | .join l _ _ _ => l | .meet l => l | .stop l => l
def rowIs (f : Rw → Bool) (rows : List Rw) (k : Nat) : Bool := (rows[k]?.map f).getD false
def spotsR (rows : List Rw) : List Nat := (List.range rows.length).filter (rowIs Rw.isTch rows)
def startsR (rows : List Rw) : List Nat := 0 :: ((List.range rows.length).filter (rowIs Rw.isMt rows)).map (· + 1)
structure Tc where
  put : Bool
  ln : Int
  fo : Fo
def Tc.w (t : Tc) : Str := if t.put = true then "put" else "get"
def Tc.d (t : Tc) : D := .tup [.str t.w, .int t.ln, t.fo.d]
def tcR (rows : List Rw) (p : Nat × Fo) : Tc := ⟨rowIs Rw.isPut rows p.1, (rows[p.1]?.map Rw.line).getD 0, p.2⟩
def tchR (rows : List Rw) (fs : List Fo) : List (Nat × Tc) := ((spotsR rows).zip fs).map fun p => (p.1, tcR rows p)
def clT (a b : Tc) : Bool := (a.put || b.put) && mayF a.fo b.fo
def prT (a b : Tc) : Int × Int := (min a.ln b.ln, max a.ln b.ln)
def pairsF : List Tc → List (Int × Int)
  | [] => []
  | t :: r => ((t :: r).filter (clT t)).map (prT t) ++ pairsF r
theorem mayF_comm (f g : Fo) : mayF f g = mayF g f := by cases f <;> cases g <;> simp [mayF, eq_comm]
theorem clT_comm (a b : Tc) : clT a b = clT b a := by unfold clT; rw [mayF_comm, Bool.or_comm]
theorem prT_comm (a b : Tc) : prT a b = prT b a := by unfold prT; rw [Int.min_comm, Int.max_comm]
theorem pairsF_mem {ts : List Tc} {p : Int × Int} : p ∈ pairsF ts ↔ ∃ a ∈ ts, ∃ b ∈ ts, clT a b = true ∧ p = prT a b := by
  induction ts with
  | nil => simp [pairsF]
  | cons t r ih =>
    unfold pairsF
    rw [List.mem_append, ih, List.mem_map]
    constructor
    · rintro (⟨b, hb, rfl⟩ | ⟨a, ha, b, hb, h⟩)
      · obtain ⟨h1, h2⟩ := List.mem_filter.mp hb
        exact ⟨t, List.mem_cons_self .., b, h1, h2, rfl⟩
      · exact ⟨a, List.mem_cons_of_mem _ ha, b, List.mem_cons_of_mem _ hb, h⟩
    · rintro ⟨a, ha, b, hb, h1, h2⟩
      rcases List.mem_cons.mp ha with rfl | ha'
      · exact .inl ⟨b, List.mem_filter.mpr ⟨hb, h1⟩, h2.symm⟩
      · rcases List.mem_cons.mp hb with rfl | hb'
        · exact .inl ⟨a, List.mem_filter.mpr ⟨ha, by rw [clT_comm]; exact h1⟩, by rw [prT_comm]; exact h2.symm⟩
        · exact .inr ⟨a, ha', b, hb', h1, h2⟩
theorem pairsF_len {ts : List Tc} : (pairsF ts).length ≤ ts.length * ts.length := by
  induction ts with
  | nil => exact Nat.le_refl _
  | cons t r ih =>
    unfold pairsF
    rw [List.length_append, List.length_map]
    have := List.length_filter_le (clT t) (t :: r)
    simp only [List.length_cons] at this ⊢
    rw [Nat.succ_mul, Nat.mul_succ]
    omega
/-! ### where a phase goes on -/
def callTo (rows : List Rw) (b j : Nat) : Bool := match rows[j]? with
  | some (.call _ _ _ _ t) => decide (t = (b : Int))
  | _ => false
def bhUp (rows : List Rw) (i b : Nat) : List Nat := ((List.range i).filter (callTo rows b)).map (· + 1)
def bhN (rows : List Rw) (b : Nat) : List Nat := bhUp rows rows.length b
def fstR (rows : List Rw) : Nat → Nat
  | 0 => 0
  | i + 1 => if bkR rows i = true then i + 1 else fstR rows i
def onR (rows : List Rw) (k : Nat) : List Nat := match rows[k]? with
  | some (.join _ _ _ _) => []
  | some (.meet _) => []
  | some (.call _ _ _ _ t) => [t.toNat]
  | some (.back _) => bhN rows (fstR rows k)
  | some _ => nxR rows k
  | none => []
abbrev OnW (rows : List Rw) (s k : Nat) : Prop := Way (onR rows) (fun _ => True) s k
structure GraphC (rows : List Rw) : Prop where
  g : GraphR rows
  c : CallsIn rows
theorem call_next {rows : List Rw} {k : Nat} {l a f m t : Int} (h : rows[k]? = some (.call l a f m t)) : nxR rows k = [k + 1] := by
  unfold nxR; rw [h]; dsimp only [nextF]; simp
theorem GraphC.low {rows : List Rw} (h : GraphC rows) {k : Nat} (hk : k < rows.length) : ∀ a ∈ onR rows k, a < rows.length := by
  intro a ha
  have hl := h.g.low k hk a
  unfold onR at ha
  cases e : rows[k]? with
  | none => rw [e] at ha; cases ha
  | some r =>
    rw [e] at ha
    cases r with
    | join => cases ha
    | meet => cases ha
    | call l at_ f m t =>
      obtain ⟨n, rfl, hn⟩ := h.c k l at_ f m t e
      have : a = n := by simpa using ha
      rw [this]; exact hn
    | back l =>
      have ha : a ∈ bhN rows (fstR rows k) := ha
      unfold bhN bhUp at ha
      obtain ⟨j, hj, rfl⟩ := List.mem_map.mp ha
      obtain ⟨hj1, hj2⟩ := List.mem_filter.mp hj
      have hjn := List.mem_range.mp hj1
      unfold callTo at hj2
      cases e2 : rows[j]? with
      | none => rw [e2] at hj2; cases hj2
      | some r2 =>
        rw [e2] at hj2
        cases r2 <;> first | (cases hj2; done) | exact h.g.low j hjn _ (by rw [call_next e2]; simp)
    | _ => exact hl ha
theorem bhUp_succ {rows : List Rw} {i b : Nat} : bhUp rows (i + 1) b = bhUp rows i b ++ (if callTo rows b i = true then [i + 1] else []) := by
  unfold bhUp
  rw [List.range_succ, List.filter_append, List.map_append, List.filter_cons, List.filter_nil]
  split <;> rfl
def bhD (rows : List Rw) (i b : Nat) : Option D := if bhUp rows i b = [] then none else some (.lst (natsD (bhUp rows i b)))
theorem bhD_get {rows : List Rw} {i b : Nat} : (bhD rows i b).getD (.lst []) = .lst (natsD (bhUp rows i b)) := by
  unfold bhD
  split
  · rename_i e; rw [e]; rfl
  · rfl
/-! ### a search with bits -/
structure InvD (nx : Nat → List Nat) (start n : Nat) (seen wt : List Nat) (x : Option Nat) : Prop where
  nd : seen.Nodup
  sn : ∀ y ∈ seen, y < n
  wd : wt.Nodup
  ws : ∀ y ∈ wt, y ∈ seen
  snd : ∀ y ∈ seen, Way nx (fun _ => True) start y
  bg : start ∈ seen
  cl : ∀ y ∈ seen, y ∉ wt → some y ≠ x → ∀ z ∈ nx y, z ∈ seen
section
variable {nx : Nat → List Nat} {start n x y : Nat} {seen wt ws : List Nat}
theorem InvD.init (h : start < n) : InvD nx start n [start] [start] none := by
  refine ⟨by simp, fun y hy => ?_, by simp, fun _ h => h, fun y hy => ?_, by simp, fun y h1 h2 => (h2 h1).elim⟩
  · rw [List.mem_singleton.mp hy]; exact h
  · rw [List.mem_singleton.mp hy]; exact ⟨0, .here trivial⟩
theorem InvD.pop (h : InvD nx start n seen (ws ++ [x]) none) : InvD nx start n seen ws (some x) ∧ x ∈ seen := by
  have hx := h.ws x (by simp)
  refine ⟨⟨h.nd, h.sn, (List.nodup_append.mp h.wd).1, fun y hy => h.ws y (List.mem_append_left _ hy), h.snd, h.bg, fun y h1 h2 h3 z hz => h.cl y h1 ?_ (by simp) z hz⟩, hx⟩
  intro hm
  rcases List.mem_append.mp hm with hm | hm
  · exact h2 hm
  · exact h3 (by rw [List.mem_singleton.mp hm])
theorem InvD.add (h : InvD nx start n seen wt (some x)) (hx : x ∈ seen) (hy : y ∈ nx x) (hn : y < n) (hs : y ∉ seen) : InvD nx start n (seen ++ [y]) (wt ++ [y]) (some x) := by
  have nd1 : ∀ {l : List Nat}, l.Nodup → y ∉ l → (l ++ [y]).Nodup := fun hl hy => by
    rw [List.nodup_append]
    exact ⟨hl, by simp, fun a ha b hb e => by rw [List.mem_singleton.mp hb] at e; exact hy (e ▸ ha)⟩
  refine ⟨nd1 h.nd hs, fun z hz => ?_, nd1 h.wd (fun q => hs (h.ws y q)), fun z hz => ?_, fun z hz => ?_, List.mem_append_left _ h.bg, fun z h1 h2 h3 u hu => ?_⟩
  · rcases List.mem_append.mp hz with hz | hz
    · exact h.sn z hz
    · rw [List.mem_singleton.mp hz]; exact hn
  · rcases List.mem_append.mp hz with hz | hz
    · exact List.mem_append_left _ (h.ws z hz)
    · exact List.mem_append_right _ hz
  · rcases List.mem_append.mp hz with hz | hz
    · exact h.snd z hz
    · rw [List.mem_singleton.mp hz]
      obtain ⟨i, w⟩ := h.snd x hx
      exact ⟨_, w.snoc hy trivial⟩
  · rcases List.mem_append.mp h1 with h1 | h1
    · exact List.mem_append_left _ (h.cl z h1 (fun q => h2 (List.mem_append_left _ q)) h3 u hu)
    · exact (h2 (List.mem_append_right _ h1)).elim
theorem InvD.done (h : InvD nx start n seen wt (some x)) (hx : ∀ z ∈ nx x, z ∈ seen) : InvD nx start n seen wt none := by
  refine ⟨h.nd, h.sn, h.wd, h.ws, h.snd, h.bg, fun y h1 h2 _ z hz => ?_⟩
  by_cases e : y = x
  · subst e; exact hx z hz
  · exact h.cl y h1 h2 (fun q => e (Option.some.inj q)) z hz
theorem InvD.fin (h : InvD nx start n seen [] none) : y ∈ seen ↔ Way nx (fun _ => True) start y :=
  ⟨h.snd y, fun w => w.keep (fun z => z ∈ seen) (fun z hz u hu => h.cl z hz (by simp) (by simp) u hu) h.bg⟩
theorem InvD.len {o : Option Nat} (h : InvD nx start n seen wt o) : seen.length ≤ n ∧ wt.length ≤ n :=
  ⟨nodup_low h.nd h.sn, nodup_low h.wd fun y hy => h.sn y (h.ws y hy)⟩
end
def BitsOf (mask : Nat) (seen : List Nat) : Prop := ∀ j, mask.testBit j = decide (j ∈ seen)
theorem bits_one {s : Nat} : BitsOf (2 ^ s) [s] := fun j => by
  rw [Nat.testBit_two_pow]
  simp [eq_comm]
theorem bits_add {m s : Nat} {seen : List Nat} (h : BitsOf m seen) : BitsOf (m ||| 2 ^ s) (seen ++ [s]) := fun j => by
  rw [Nat.testBit_or, h j, Nat.testBit_two_pow]
  simp [eq_comm]
/-! ### what could tells -/
def CouldR (rows : List Rw) (fs : List Fo) (p : Int × Int) : Prop := ∃ s ∈ startsR rows, ∃ a ∈ tchR rows fs, ∃ b ∈ tchR rows fs, OnW rows s a.1 ∧ OnW rows s b.1 ∧ clT a.2 b.2 = true ∧ p = prT a.2 b.2
def keysD (ps : List (Int × Int)) : List (List Key × D) := ps.map fun p => (pairK p, D.bl true)
theorem pairK_inj {p q : Int × Int} (h : pairK p = pairK q) : p = q := by
  unfold pairK at h
  simp only [List.cons.injEq, Sum.inl.injEq, and_true] at h
  exact Prod.ext h.1 h.2
theorem keys_no {ps : List (Int × Int)} {p : Int × Int} (h : p ∉ ps) : valD (keysD ps) (pairK p) = none := by
  induction ps with
  | nil => rfl
  | cons q t ih =>
    rw [List.mem_cons, not_or] at h
    have : valD (keysD (q :: t)) (pairK p) = valD (keysD t) (pairK p) := valD_neg fun e => h.1 (pairK_inj e).symm
    rw [this, ih h.2]
theorem keys_put {ps : List (Int × Int)} {p : Int × Int} : ∃ qs, putM (keysD ps) (pairK p) (.bl true) = keysD qs ∧ (ps.Nodup → qs.Nodup) ∧ ∀ q, q ∈ qs ↔ q ∈ ps ∨ q = p := by
  by_cases h : p ∈ ps
  · refine ⟨ps, ?_, id, fun q => ⟨.inl, fun z => z.elim id fun e => e ▸ h⟩⟩
    unfold putM
    have ha : ((keysD ps).any fun q => decide (q.1 = pairK p)) = true := by
      rw [List.any_eq_true]
      exact ⟨_, List.mem_map.mpr ⟨p, h, rfl⟩, decide_eq_true rfl⟩
    rw [if_pos ha]
    conv => rhs; rw [← List.map_id (keysD ps)]
    apply List.map_congr_left
    intro q hq
    obtain ⟨r, _, rfl⟩ := List.mem_map.mp hq
    split <;> rfl
  · refine ⟨ps ++ [p], ?_, fun nd => ?_, fun q => by rw [List.mem_append, List.mem_singleton]⟩
    · rw [putM_new (keys_no h)]
      unfold keysD
      rw [List.map_append]; rfl
    · rw [List.nodup_append]
      exact ⟨nd, by simp, fun a ha b hb e => by rw [List.mem_singleton.mp hb] at e; exact h (e ▸ ha)⟩
theorem keys_keys {ps : List (Int × Int)} : (keysD ps).map (·.1) = ps.map pairK := by unfold keysD; rw [List.map_map]; rfl
theorem keys_len {ps : List (Int × Int)} : (keysD ps).length = ps.length := List.length_map _
/-- pairs of lines are few -/
theorem pairs_few {ps : List (Int × Int)} {ls : List Int} (nd : ps.Nodup) (h : ∀ p ∈ ps, p.1 ∈ ls ∧ p.2 ∈ ls) : ps.length ≤ ls.length * ls.length := by
  have := List.Nodup.length_le_of_subset nd (l₂ := ls.flatMap fun a => ls.map fun b => (a, b)) fun p hp => by
    rw [List.mem_flatMap]
    exact ⟨p.1, (h p hp).1, List.mem_map.mpr ⟨p.2, (h p hp).2, rfl⟩⟩
  refine Nat.le_trans this ?_
  have : ∀ l : List Int, (l.flatMap fun a => ls.map fun b => (a, b)).length = l.length * ls.length := fun l => by
    induction l with
    | nil => simp
    | cons a t ih => rw [List.flatMap_cons, List.length_append, ih, List.length_map, List.length_cons, Nat.succ_mul, Nat.add_comm]
  rw [this]; exact Nat.le_refl _
theorem prT_in {ts : List Tc} {a b : Tc} (ha : a ∈ ts) (hb : b ∈ ts) : (prT a b).1 ∈ ts.map Tc.ln ∧ (prT a b).2 ∈ ts.map Tc.ln := by
  have h1 : a.ln ∈ ts.map Tc.ln := List.mem_map.mpr ⟨a, ha, rfl⟩
  have h2 : b.ln ∈ ts.map Tc.ln := List.mem_map.mpr ⟨b, hb, rfl⟩
  unfold prT
  dsimp only
  constructor
  · rw [Int.min_def]; split <;> assumption
  · rw [Int.max_def]; split <;> assumption
end Tl
namespace Tl
open PySem PySem.Spec PyProof.Rows L2
theorem enumD_range {α : Type} {f : α → D} {xs : List α} (d : α) : enumD (xs.map f) = (List.range xs.length).map fun k => .tup [.int (k : Nat), f (xs.getD k d)] := by
  apply List.ext_getElem?
  intro i
  unfold enumD
  rw [List.getElem?_mapIdx, List.getElem?_map, List.getElem?_map]
  by_cases h : i < xs.length
  · rw [List.getElem?_eq_getElem h, List.getElem?_range h]
    simp only [Option.map_some, List.getD_eq_getElem?_getD, List.getElem?_eq_getElem h, Option.getD_some]
  · rw [List.getElem?_eq_none (by omega), List.getElem?_eq_none (by rw [List.length_range]; omega)]
    rfl
theorem cut_drop {xs : List D} (n : Nat) : cutD xs (some (n : Int)) none = xs.drop n := by
  unfold cutD
  rw [HT.sIx_nat, HT.sIx_none]
  by_cases h : n ≤ xs.length
  · rw [Nat.min_eq_left h, List.take_of_length_le (by rw [List.length_drop]; omega)]
  · rw [Nat.min_eq_right (by omega), List.drop_of_length_le (Nat.le_refl _), List.drop_of_length_le (by omega), List.take_nil]
theorem min_if {i j : Int} : (if j < i then j else i) = min i j := by rw [Int.min_def]; split <;> split <;> omega
theorem max_if {i j : Int} : (if j > i then j else i) = max i j := by rw [Int.max_def]; split <;> split <;> omega
theorem rw_d2 (r : Rw) : ∃ tl, r.d = .tup (.str r.word :: .int r.line :: tl) := by cases r <;> exact ⟨_, rfl⟩
theorem word_mt (r : Rw) : r.isMt = true ↔ r.word = "join" ∨ r.word = "meet" := by
  cases r <;> simp [Rw.isMt, Rw.word, ofS_inj]
theorem word_tch (r : Rw) : r.isTch = true ↔ r.word = "get" ∨ r.word = "put" := by
  cases r <;> simp [Rw.isTch, Rw.word, ofS_inj]
theorem word_call (r : Rw) (h : r.word = "call") : ∃ l a f m t, r = .call l a f m t := by
  cases r <;> first | exact ⟨_, _, _, _, _, rfl⟩ | (unfold Rw.word at h; simp [ofS_inj] at h)
theorem callTo_no {rows : List Rw} {i b : Nat} {r : Rw} (hr : rows[i]? = some r) (h : r.word ≠ "call") : callTo rows b i = false := by
  unfold callTo; rw [hr]
  cases r <;> first | rfl | exact (h rfl).elim
theorem tcw_put (t : Tc) : (t.w = Str.ofString "put") ↔ t.put = true := by
  unfold Tc.w
  cases t.put <;> simp [ofS_inj]
theorem tch_w {rows : List Rw} {k : Nat} {r : Rw} {fo : Fo} (hr : rows[k]? = some r) (ht : r.isTch = true) : (tcR rows (k, fo)).d = .tup [.str r.word, .int r.line, fo.d] := by
  unfold tcR Tc.d Tc.w rowIs
  dsimp only
  rw [hr]
  cases r <;> first | (cases ht; done) | rfl
theorem spots_lt {rows : List Rw} {k : Nat} (h : k ∈ spotsR rows) : ∃ r, rows[k]? = some r ∧ r.isTch = true := by
  obtain ⟨h1, h2⟩ := List.mem_filter.mp h
  unfold rowIs at h2
  cases e : rows[k]? with
  | none => rw [e] at h2; cases h2
  | some r => rw [e] at h2; exact ⟨r, rfl, h2⟩
/-- a row behind a meeting is there -/
theorem starts_lt {rows : List Rw} (hG : GraphR rows) (h0 : 0 < rows.length) : ∀ s ∈ startsR rows, s < rows.length := by
  intro s hs
  rcases List.mem_cons.mp hs with rfl | hs
  · exact h0
  · obtain ⟨k, hk, rfl⟩ := List.mem_map.mp hs
    obtain ⟨h1, h2⟩ := List.mem_filter.mp hk
    have hkn := List.mem_range.mp h1
    unfold rowIs at h2
    cases e : rows[k]? with
    | none => rw [e] at h2; cases h2
    | some r =>
      rw [e] at h2
      refine hG.low k hkn _ ?_
      unfold nxR; rw [e]
      cases r <;> first | (cases h2; done) | (dsimp only [nextF]; simp)
theorem bhUp_len {rows : List Rw} {i b : Nat} : (bhUp rows i b).length ≤ i := by
  unfold bhUp
  rw [List.length_map]
  have := List.length_filter_le (callTo rows b) (List.range i)
  rwa [List.length_range] at this
theorem band1 (a : Nat) : Builtin.bitAnd (a : Int) 1 = ((a &&& 1 : Nat) : Int) := band_nat a 1
theorem bit_m1 (x : Int) : Builtin.bitAnd x 1 = x % 2 := bitAnd_m1 x
end Tl
namespace Tl
open PySem PySem.Spec PyProof.Rows L2
/-! ### how many boxes -/
abbrev nb (n : Nat) (e : Ex) : Prop := (formsIn e).length ≤ n
theorem nb_leaf (n k : Int) (xs : List Str) : nb 0 (.num n) ∧ nb 0 .lane ∧ nb 0 .lanes ∧ nb 0 .mine ∧ nb 0 (nmF xs k) ∧ nb 0 (nearF k) := ⟨Nat.le_refl _, Nat.le_refl _, Nat.le_refl _, Nat.le_refl _, Nat.le_refl _, Nat.le_refl _⟩
theorem nb_op {a b : Ex} {w : Op7} {n m : Nat} (h : nb n a) (g : nb m b) : nb (n + m) (.op w a b) := by
  unfold nb formsIn
  rw [List.length_append]
  exact Nat.add_le_add h g
theorem nb_box {a : Ex} {n : Nat} (h : nb n a) : nb (n + 1) (.box a) := by
  unfold nb formsIn
  rw [List.length_append, List.length_singleton]
  exact Nat.succ_le_succ h
theorem nb_mono {a : Ex} {n m : Nat} (h : nb n a) (hm : n ≤ m) : nb m a := Nat.le_trans h hm
theorem placeB_nb (xs : List Str) (i : Int) : nb 1 (placeB xs i) := by
  have z := fun n k => nb_leaf n k xs
  unfold placeB
  dsimp only
  generalize i / 13 = r
  have hnear : nb 0 (nearF r) := Nat.le_refl _
  have hname : nb 0 (nmF xs r) := Nat.le_refl _
  have hlane : nb 0 .lane := Nat.le_refl _
  have hother : nb 0 ([nearF r, .lane, nmF xs r, .mine].getD (r / 15 % 4).toNat (nearF r)) := getD_P (P := nb 0) (by
    intro x hx
    simp only [List.mem_cons, List.not_mem_nil, or_false] at hx
    rcases hx with rfl | rfl | rfl | rfl <;> exact Nat.le_refl _) hnear
  have hbeside : nb 1 ([nmF xs r, .mine, .lanes, .num (r / 7 % 9 - 4), .box .lane, .op .add .lane (nearF r)].getD (r / 90 % 6).toNat (nearF r)) := getD_P (P := nb 1) (by
    intro x hx
    simp only [List.mem_cons, List.not_mem_nil, or_false] at hx
    rcases hx with rfl | rfl | rfl | rfl | rfl | rfl <;> first | exact Nat.zero_le _ | exact nb_box hlane | exact nb_mono (nb_op hlane hnear) (by decide)) (nb_mono hnear (by decide))
  generalize [nearF r, .lane, nmF xs r, .mine].getD (r / 15 % 4).toNat (nearF r) = other at hother ⊢
  generalize [nmF xs r, .mine, .lanes, .num (r / 7 % 9 - 4), .box .lane, .op .add .lane (nearF r)].getD (r / 90 % 6).toNat (nearF r) = bs at hbeside ⊢
  split
  · exact nb_mono hnear (by decide)
  split
  · exact nb_mono hlane (by decide)
  split
  · exact getD_P (P := nb 1) (by
      intro x hx
      simp only [List.mem_cons, List.not_mem_nil, or_false] at hx
      rcases hx with rfl | rfl
      · exact nb_mono (nb_op hlane hnear) (by decide)
      · exact nb_mono (nb_op hnear hlane) (by decide)) (nb_mono hnear (by decide))
  split
  · exact nb_mono (nb_op hlane hnear) (by decide)
  split
  · exact getD_P (P := nb 1) (by
      intro x hx
      simp only [List.mem_cons, List.not_mem_nil, or_false] at hx
      rcases hx with rfl | rfl
      · exact nb_mono (nb_op hbeside hnear) (by decide)
      · exact nb_mono (nb_op hnear hbeside) (by decide)) (nb_mono hnear (by decide))
  split
  · exact nb_box (getD_P (P := nb 0) (by
      intro x hx
      simp only [List.mem_cons, List.not_mem_nil, or_false] at hx
      rcases hx with rfl | rfl | rfl | rfl | rfl
      · exact hnear
      · exact hlane
      · exact nb_op hlane hnear
      · exact nb_op hname hnear
      · exact nb_op hlane hnear) hnear)
  · exact getD_P (P := nb 1) (by
      intro x hx
      simp only [List.mem_cons, List.not_mem_nil, or_false] at hx
      rcases hx with rfl | rfl | rfl | rfl
      · exact nb_mono hname (by decide)
      · exact nb_mono (nb_op hlane hother) (by decide)
      · exact nb_box hlane
      · exact nb_mono (nb_op hother hlane) (by decide)) (nb_mono hnear (by decide))
theorem tower_nb {w : Op7} {leaf : Ex} {r : Int} {e : Ex} (hl : nb 0 leaf) (h : nb 1 e) : ∀ m : Nat, nb 1 ((List.range m).foldl (towerStep w leaf r) e)
  | 0 => h
  | m + 1 => by
    have ih := tower_nb (w := w) (r := r) hl h m
    rw [range_fold]
    generalize (List.range m).foldl (towerStep w leaf r) e = x at ih ⊢
    unfold towerStep
    exact getD_P (P := nb 1) (by
      intro y hy
      simp only [List.mem_cons, List.not_mem_nil, or_false] at hy
      rcases hy with rfl | rfl
      · exact nb_mono (nb_op hl ih) (by decide)
      · exact nb_mono (nb_op ih hl) (by decide)) ih
theorem simpleB_nb (xs : List Str) (i : Int) : nb 3 (simpleB xs i) := by
  unfold simpleB
  dsimp only
  generalize i / 10 = r
  have hlane : nb 0 .lane := Nat.le_refl _
  have hleaf : nb 0 ([Ex.num (r / 14 % 9 - 4), nmF xs (r / 14)].getD (r / 7 % 2).toNat .lane) := getD_P (P := nb 0) (by
    intro x hx
    simp only [List.mem_cons, List.not_mem_nil, or_false] at hx
    rcases hx with rfl | rfl <;> exact Nat.le_refl _) hlane
  generalize [Ex.num (r / 14 % 9 - 4), nmF xs (r / 14)].getD (r / 7 % 2).toNat .lane = leaf at hleaf ⊢
  have hp := fun k => nb_box (placeB_nb xs k)
  split
  · exact Nat.zero_le _
  split
  · exact getD_P (P := nb 3) (by
      intro x hx
      simp only [List.mem_cons, List.not_mem_nil, or_false] at hx
      rcases hx with rfl | rfl | rfl | rfl <;> exact Nat.zero_le _) (Nat.zero_le _)
  split
  · exact nb_mono (hp _) (by decide)
  split
  · exact nb_mono (nb_op hleaf (hp _)) (by decide)
  split
  · exact nb_mono (nb_op (hp _) hleaf) (by decide)
  split
  · exact nb_mono (nb_op (nb_op hleaf (hp _)) (nb_box hleaf)) (by decide)
  split
  · exact nb_mono (nb_op hleaf (nb_op (hp _) hlane)) (by decide)
  · exact nb_mono (tower_nb hleaf (nb_box (getD_P (P := nb 0) (by
      intro x hx
      simp only [List.mem_cons, List.not_mem_nil, or_false] at hx
      rcases hx with rfl | rfl | rfl <;> exact Nat.le_refl _) hlane)) _) (by decide)
/-! ### touches, row by row -/
abbrev Ev := Bool × Option Tc
def evR : List Rw → List Fo → List Ev
  | [], _ => []
  | r :: rs, fs => if r.isTch = true then (match fs with
      | f :: fs' => (r.isMt, some ⟨r.isPut, r.line, f⟩) :: evR rs fs'
      | [] => (r.isMt, none) :: evR rs [])
    else (r.isMt, none) :: evR rs fs
theorem evR_cons {r : Rw} {rs : List Rw} {fs : List Fo} : evR (r :: rs) fs = if r.isTch = true then (match fs with
      | f :: fs' => (r.isMt, some ⟨r.isPut, r.line, f⟩) :: evR rs fs'
      | [] => (r.isMt, none) :: evR rs [])
    else (r.isMt, none) :: evR rs fs := by
  cases fs <;> rfl
def tcnt (rows : List Rw) : Nat := (rows.filter Rw.isTch).length
theorem tcnt_app {a b : List Rw} : tcnt (a ++ b) = tcnt a + tcnt b := by unfold tcnt; rw [List.filter_append, List.length_append]
theorem evR_app : ∀ {a b : List Rw} {fs gs : List Fo}, fs.length = tcnt a → evR (a ++ b) (fs ++ gs) = evR a fs ++ evR b gs
  | [], b, fs, gs, h => by
    have : fs = [] := List.eq_nil_of_length_eq_zero h
    subst this; rfl
  | r :: a, b, fs, gs, h => by
    rw [List.cons_append]
    unfold tcnt at h
    rw [List.filter_cons] at h
    rw [evR_cons, evR_cons (r := r) (rs := a)]
    by_cases e : r.isTch = true
    · rw [if_pos e] at h
      rw [if_pos e, if_pos e]
      cases fs with
      | nil => cases h
      | cons f fs =>
        rw [List.cons_append]
        dsimp only
        rw [evR_app (a := a) (fs := fs) (Nat.succ.inj h)]; rfl
    · rw [if_neg e] at h
      rw [if_neg e, if_neg e]
      rw [evR_app (a := a) (fs := fs) h]; rfl
/-- the touches with their rows, told row by row -/
theorem spots_cons {r : Rw} {rs : List Rw} : spotsR (r :: rs) = (if r.isTch = true then [0] else []) ++ (spotsR rs).map (· + 1) := by
  unfold spotsR
  rw [List.length_cons, List.range_succ_eq_map, List.filter_cons]
  have h1 : rowIs Rw.isTch (r :: rs) 0 = r.isTch := rfl
  have h2 : List.filter (rowIs Rw.isTch (r :: rs)) (List.map Nat.succ (List.range rs.length)) = (List.filter (rowIs Rw.isTch rs) (List.range rs.length)).map (· + 1) := by
    rw [List.filter_map]
    congr 1
  rw [h1, h2]
  split <;> rfl
theorem tch_ev : ∀ {rows : List Rw} {fs : List Fo} {k : Nat} {t : Tc}, (k, t) ∈ tchR rows fs ↔ ∃ b, (evR rows fs)[k]? = some (b, some t)
  | [], fs, k, t => by unfold tchR spotsR evR; simp
  | r :: rs, fs, k, t => by
    have ih := fun fs k => tch_ev (rows := rs) (fs := fs) (k := k) (t := t)
    have hsh : ∀ fs : List Fo, ((((spotsR rs).map (· + 1)).zip fs).map fun p => (p.1, tcR (r :: rs) p)) = (tchR rs fs).map fun a => (a.1 + 1, a.2) := fun fs => by
      unfold tchR
      rw [List.map_map, List.zip_map_left, List.map_map]
      apply List.map_congr_left
      intro p hp
      rfl
    have hmem : ∀ fs : List Fo, (k, t) ∈ (tchR rs fs).map (fun a => (a.1 + 1, a.2)) ↔ ∃ j b, k = j + 1 ∧ (evR rs fs)[j]? = some (b, some t) := fun fs => by
      rw [List.mem_map]
      constructor
      · rintro ⟨⟨j, u⟩, h1, h2⟩
        cases h2
        obtain ⟨b, hb⟩ := (ih fs j).mp h1
        exact ⟨j, b, rfl, hb⟩
      · rintro ⟨j, b, rfl, hb⟩
        exact ⟨(j, t), (ih fs j).mpr ⟨b, hb⟩, rfl⟩
    unfold tchR
    rw [spots_cons]
    unfold evR
    split
    · rename_i e
      cases fs with
      | nil =>
        simp only [List.zip_nil_right, List.map_nil, List.not_mem_nil, false_iff]
        rintro ⟨b, hb⟩
        cases k with
        | zero => cases hb
        | succ k =>
          have := (ih [] k).mpr ⟨b, hb⟩
          unfold tchR at this
          simp at this
      | cons f fs =>
        rw [List.singleton_append, List.zip_cons_cons, List.map_cons, List.mem_cons, hsh, hmem]
        constructor
        · rintro (h | ⟨j, b, rfl, hb⟩)
          · cases h
            exact ⟨_, rfl⟩
          · exact ⟨b, hb⟩
        · rintro ⟨b, hb⟩
          cases k with
          | zero => cases hb; exact .inl rfl
          | succ k => exact .inr ⟨k, b, rfl, hb⟩
    · rw [List.nil_append, hsh, hmem]
      constructor
      · rintro ⟨j, b, rfl, hb⟩
        exact ⟨b, hb⟩
      · rintro ⟨b, hb⟩
        cases k with
        | zero => cases hb
        | succ k => exact ⟨k, b, rfl, hb⟩
/-! ### stretches -/
end Tl
namespace Tl
open PySem PySem.Spec PyProof.Rows L2
/-! ### touches of expressions and statements -/
def getT (l : Int) (f : Fo) : Tc := ⟨false, l, f⟩
/-- rows that touch so, and meet nowhere -/
structure Evs (rows : List Rw) (fs : List Fo) (ts : List Tc) : Prop where
  n : fs.length = tcnt rows
  t : (evR rows fs).filterMap (·.2) = ts
  m : ∀ x ∈ evR rows fs, x.1 = false
theorem Evs.app {a b : List Rw} {fs gs : List Fo} {ts us : List Tc} (h : Evs a fs ts) (g : Evs b gs us) : Evs (a ++ b) (fs ++ gs) (ts ++ us) := by
  refine ⟨by rw [List.length_append, tcnt_app, h.n, g.n], ?_, ?_⟩
  · rw [evR_app h.n, List.filterMap_append, h.t, g.t]
  · intro x hx
    rw [evR_app h.n] at hx
    exact (List.mem_append.mp hx).elim (h.m x) (g.m x)
def Sm.isMt : Sm → Bool
  | .join _ _ _ _ => true | .meet _ => true | _ => false
/-! ### the rows of straight lines -/
/-! the program of straight lines -/
end Tl
namespace Tl
open PySem PySem.Spec PyProof.Rows L2
/-! ### the body of k35 -/
/-! the stretches, with a meeting at last -/
end Tl
namespace Tl
open PySem PySem.Spec PyProof.Rows L2
/-! ### sorted(d) of a dict by whole numbers, any number of them -/
/-! ### the form of a place, found back from its row -/
def Rw.wr : Rw → Option Int
  | .num _ a _ => some a | .copy _ a _ => some a | .sign _ a _ => some a | .op _ a _ _ _ => some a | .get _ a _ => some a | _ => none
def Rw.sl : Rw → Int
  | .get _ _ p => p | .put _ p _ => p | _ => 0
def isLn : Rw → Bool
  | .sign _ _ .lane => true | _ => false
def numOf : Rw → Option Int
  | .num _ _ n => some n | _ => none
def leafR : Rw → Bool
  | .num _ _ _ => true | .sign _ _ _ => true | _ => false
/-- what the row r shows, behind the rows rest (backward) -/
def showF (r : Rw) (rest : List Rw) : Option Fo := match r with
  | .num _ _ n => some (.fixed n)
  | .sign _ _ .lane => some (.lane 0)
  | .op _ _ .add _ _ => match rest with
    | r1 :: r2 :: _ => some (match isLn r2, numOf r1, leafR r1, isLn r1, numOf r2 with
      | true, some n, true, _, _ => .lane n
      | _, _, true, true, some n => .lane n
      | _, _, _, _, _ => .any)
    | _ => none
  | _ => some .any
def backF : List Rw → Int → Option Fo
  | [], _ => none
  | r :: rest, s => if r.wr = some s then showF r rest else backF rest s
/-- each touching row of rs, behind the rows pre (backward), shows the forms fs, in their order -/
inductive Shows : List Rw → List Rw → List Fo → Prop
  | nil (pre : List Rw) : Shows pre [] []
  | no {pre rs : List Rw} {r : Rw} {fs : List Fo} (h : r.isTch = false) (t : Shows (r :: pre) rs fs) : Shows pre (r :: rs) fs
  | yes {pre rs : List Rw} {r : Rw} {f : Fo} {fs : List Fo} (h : r.isTch = true) (hf : backF pre r.sl = some f) (t : Shows (r :: pre) rs fs) : Shows pre (r :: rs) (f :: fs)
theorem Shows.app {pre a b : List Rw} {fs gs : List Fo} (h : Shows pre a fs) (g : Shows (a.reverse ++ pre) b gs) : Shows pre (a ++ b) (fs ++ gs) := by
  induction h with
  | nil pre => exact g
  | no h t ih =>
    refine .no h (ih ?_)
    rw [List.reverse_cons, List.append_assoc] at g
    exact g
  | yes h hf t ih =>
    refine .yes h hf (ih ?_)
    rw [List.reverse_cons, List.append_assoc] at g
    exact g
theorem Shows.cons {pre rs : List Rw} {r : Rw} {fs : List Fo} (h : r.isTch = false) (t : Shows (r :: pre) rs fs) : Shows pre (r :: rs) fs := .no h t
/-! the targets do not matter -/
end Tl
namespace Tl
open PySem PySem.Spec PyProof.Rows L2
/-! ### what is asked of lines holds of the body that is laid of them -/
def okA (a : Ask) : Od → Prop
  | .set x e => a.pn x ∧ a.pe e
  | .put x y => a.pe x ∧ a.pe y
  | .tell e => a.pe e
  | .ret e => a.pe e ∧ a.pr
  | .join x z e => a.pn x ∧ a.pe e ∧ a.pj z
  | .call x f es => a.pn x ∧ (∀ e ∈ es, a.pe e) ∧ a.pc f es
  | .ifo e => a.pe e
  | .whl e => a.pe e
  | _ => True
theorem laidStep_okA {a : Ask} {main : Bool} {s : LS} {o : Od} (h : stkP a s.b0 s.stk ∧ s.stk.length ≤ 5) (ho : okA a o) : stkP a (laidStep main s o).b0 (laidStep main s o).stk ∧ (laidStep main s o).stk.length ≤ 5 := by
  obtain ⟨h, h5⟩ := h
  unfold laidStep
  split
  · rename_i hst
    have plain : ∀ st : Sm, okSt a (lpP s.stk) st → st.deep = 1 → stkP a (addP st s.b0 s.stk).1 (addP st s.b0 s.stk).2 ∧ (addP st s.b0 s.stk).2.length ≤ 5 := fun st h1 h2 => ⟨addP_ok h h1 (by omega), by rw [addP_len]; exact h5⟩
    cases o with
    | fin =>
      unfold laidGo
      dsimp only
      split
      · exact ⟨h, h5⟩
      · rename_i f r e
        rw [e] at h h5
        have h1 := closeP_ok h
        refine ⟨addP_ok h.2.2.2.2 h1.1 h1.2, ?_⟩
        show (addP _ _ _).2.length ≤ 5
        rw [addP_len]
        simp only [List.length_cons] at h5
        omega
    | els =>
      unfold laidGo
      dsimp only
      split
      · exact ⟨h, h5⟩
      · rename_i f r e
        rw [e] at h h5
        refine ⟨⟨h.1, h.2.1, h.2.2.1, fun x hx => ?_, h.2.2.2.2⟩, h5⟩
        cases hx
        refine ⟨trivial, ?_⟩
        have := h.2.2.1
        show deeps [] + _ ≤ 6
        rw [show deeps [] = 0 from by unfold deeps; rfl]; omega
    | ifo e =>
      refine ⟨⟨ho, trivial, ?_, fun x hx => (by cases hx), h⟩, ?_⟩
      · have := of_decide_eq_true hst
        show deeps [] + _ ≤ 6
        rw [show deeps [] = 0 from by unfold deeps; rfl]; omega
      · have := of_decide_eq_true hst
        show s.stk.length + 1 ≤ 5; omega
    | whl e =>
      refine ⟨⟨ho, trivial, ?_, fun x hx => (by cases hx), h⟩, ?_⟩
      · have := of_decide_eq_true hst
        show deeps [] + _ ≤ 6
        rw [show deeps [] = 0 from by unfold deeps; rfl]; omega
      · have := of_decide_eq_true hst
        show s.stk.length + 1 ≤ 5; omega
    | brk => exact plain _ (show okSt _ _ _ from hst) rfl
    | agn => exact plain _ (show okSt _ _ _ from hst) rfl
    | meet => exact plain _ trivial rfl
    | stop => exact plain _ trivial rfl
    | set x e => exact plain _ (show okSt _ _ _ from ho) rfl
    | tell e => exact plain _ (show okSt _ _ _ from ho) rfl
    | ret e => exact plain _ (show okSt _ _ _ from ho) rfl
    | put x y => exact plain _ (show okSt _ _ _ from ho) rfl
    | join x z e => exact plain _ (show okSt _ _ _ from ho) rfl
    | call x f es => exact plain _ (show okSt _ _ _ from ho) rfl
  · exact ⟨h, h5⟩
theorem laidS_okA {a : Ask} {main : Bool} : ∀ {os : List Od} {s : LS}, (∀ o ∈ os, okA a o) → stkP a s.b0 s.stk ∧ s.stk.length ≤ 5 → stkP a (os.foldl (laidStep main) s).b0 (os.foldl (laidStep main) s).stk ∧ (os.foldl (laidStep main) s).stk.length ≤ 5
  | [], _, _, h => h
  | o :: os, s, ho, h => laidS_okA (os := os) (fun x hx => ho x (List.mem_cons_of_mem _ hx)) (laidStep_okA h (ho o (List.mem_cons_self ..)))
theorem laid_okA {a : Ask} {main : Bool} {os : List Od} {l : Int} (ho : ∀ o ∈ os, okA a o) : okSts a false (laidF main os l).1 := by
  refine (stkP_base (laidS_okA (os := os ++ List.replicate 5 .fin) (s := ⟨[], [], l⟩) (fun o h => ?_) ⟨⟨trivial, by show deeps [] ≤ 6; rw [show deeps [] = 0 from by unfold deeps; rfl]; omega⟩, Nat.zero_le _⟩).1).1
  rcases List.mem_append.mp h with h | h
  · exact ho o h
  · rw [(List.mem_replicate.mp h).2]; trivial
theorem prog_okA {opf : List Str → Rm → Int → Od} {a : Ask} (hop : ∀ vs rs i, okNm vs → okRm rs → okA a (opf vs rs i)) {xs : List Str} (hx : okNm xs) (ns : List Int) (most : Nat) : ∀ o ∈ progF opf xs ns most, okSts a false o.body := by
  unfold progF
  dsimp only
  have hvs := vars_ok (spreadF (cellF ns 0) 0) hx
  generalize spreadF (cellF ns 0) 0 = hd at hvs ⊢
  generalize varsF hd xs = vs at hvs ⊢
  have hrs := rooms_ok hd hx hvs
  generalize roomsF hd xs vs = rs at hrs ⊢
  generalize (ns.take most).drop 2 = cs
  have hok := opsF_ok (P := okA a) (opf := opf vs rs) (fun i => hop vs rs i hvs hrs) rs.length cs cs.length
  have hlen := opsF_len (opf vs rs) rs.length cs cs.length
  generalize opsF (opf vs rs) rs.length cs cs.length = oss at hok hlen ⊢
  obtain ⟨h1, h2, h3, h4, h5, h6⟩ := prog_pi oss rs hlen rs.length (Nat.le_refl _)
  intro o ho
  obtain ⟨os, k1, k2, k3, k4⟩ := h2 o ho
  rw [k3]
  exact laid_okA (hok os k1).1
/-! ### few boxes -/
def askN : Ask := ⟨fun _ => True, nb 3, fun _ => True, fun _ es => es.length ≤ 6, True⟩
theorem args_nb {xs : List Str} (r : Int) : ∀ n, (argsG simpleB xs r n).1.length = n ∧ ∀ e ∈ (argsG simpleB xs r n).1, nb 3 e
  | 0 => ⟨rfl, fun e he => (by cases he)⟩
  | n + 1 => by
    have e : argsG simpleB xs r (n + 1) = argStepG simpleB xs (argsG simpleB xs r n) n := range_fold ..
    obtain ⟨h1, h2⟩ := args_nb (xs := xs) r n
    rw [e]
    refine ⟨by show (_ ++ _ : List Ex).length = _; rw [List.length_append, h1]; rfl, fun e he => ?_⟩
    rcases List.mem_append.mp he with h | h
    · exact h2 e h
    · rw [List.mem_singleton.mp h]; exact simpleB_nb _ _
theorem opG_nb {xs : List Str} {rs : Rm} (hr : okRm rs) (i : Int) : okA askN (opG placeB simpleB xs rs i) := by
  have np : ∀ k, nb 3 (placeB xs k) := fun k => nb_mono (placeB_nb xs k) (by decide)
  have ns := simpleB_nb xs
  unfold opG
  dsimp only
  split
  · exact ⟨trivial, ns _⟩
  · split
    · exact ⟨np _, ns _⟩
    · split
      · split <;> exact ns _
      · split
        · split <;> trivial
        · split
          · split
            · trivial
            · split
              · trivial
              · split <;> trivial
          · split
            · split
              · exact ns _
              · exact ⟨ns _, trivial⟩
            · split
              · exact ⟨trivial, ns _, trivial⟩
              · unfold callG
                dsimp only
                split
                · exact ns _
                · rename_i h
                  have hm := pick_others (i := i / 144) h
                  have h2 := others_mem hm
                  obtain ⟨h3, h4⟩ := args_nb (xs := xs) (i / 144 / 3) ((rs.filter notMain).getD (i / 144 % ((rs.filter notMain).length : Int)).toNat ("", [])).2.length
                  exact ⟨trivial, h4, Nat.le_trans (Nat.le_of_eq h3) (hr.2 _ h2.1).2.1⟩
mutual
theorem nb_st : ∀ (lp : Bool) (s : Sm), okSt askN lp s → ((allSt s).flatMap formsS).length ≤ 18 * (allSt s).length
  | lp, .if1 l e b, h => by
    unfold okSt at h
    have h1 := nb_sts lp b h.2
    have h0 : nb 3 e := h.1
    unfold nb at h0
    unfold allSt
    rw [List.flatMap_cons, List.length_append, List.length_cons]
    have : (formsS (.if1 l e b)).length = (formsIn e).length := by simp [formsS, Sm.exprs, putForm]
    omega
  | lp, .if2 l e b c, h => by
    unfold okSt at h
    have h1 := nb_sts lp b h.2.1
    have h2 := nb_sts lp c h.2.2
    have h0 : nb 3 e := h.1
    unfold nb at h0
    unfold allSt
    rw [List.flatMap_cons, List.length_append, List.length_cons, List.flatMap_append, List.length_append, List.length_append]
    have : (formsS (.if2 l e b c)).length = (formsIn e).length := by simp [formsS, Sm.exprs, putForm]
    omega
  | lp, .whl l e b, h => by
    unfold okSt at h
    have h1 := nb_sts true b h.2
    have h0 : nb 3 e := h.1
    unfold nb at h0
    unfold allSt
    rw [List.flatMap_cons, List.length_append, List.length_cons]
    have : (formsS (.whl l e b)).length = (formsIn e).length := by simp [formsS, Sm.exprs, putForm]
    omega
  | lp, .brk l, h => by unfold allSt; exact Nat.zero_le _
  | lp, .agn l, h => by unfold allSt; exact Nat.zero_le _
  | lp, .meet l, h => by unfold allSt; exact Nat.zero_le _
  | lp, .stop l, h => by unfold allSt; exact Nat.zero_le _
  | lp, .ret l e, h => by
    unfold okSt at h
    have h0 : nb 3 e := h.1
    unfold nb at h0
    unfold allSt
    have : ([Sm.ret l e].flatMap formsS).length = (formsIn e).length := by simp [formsS, Sm.exprs, putForm]
    rw [this, List.length_singleton]; omega
  | lp, .set l x e, h => by
    unfold okSt at h
    have h0 : nb 3 e := h.2
    unfold nb at h0
    unfold allSt
    have : ([Sm.set l x e].flatMap formsS).length = (formsIn e).length := by simp [formsS, Sm.exprs, putForm]
    rw [this, List.length_singleton]; omega
  | lp, .tell l e, h => by
    unfold okSt at h
    have h0 : nb 3 e := h
    unfold nb at h0
    unfold allSt
    have : ([Sm.tell l e].flatMap formsS).length = (formsIn e).length := by simp [formsS, Sm.exprs, putForm]
    rw [this, List.length_singleton]; omega
  | lp, .join l x w e, h => by
    unfold okSt at h
    have h0 : nb 3 e := h.2.1
    unfold nb at h0
    unfold allSt
    have : ([Sm.join l x w e].flatMap formsS).length = (formsIn e).length := by simp [formsS, Sm.exprs, putForm]
    rw [this, List.length_singleton]; omega
  | lp, .put l a e, h => by
    unfold okSt at h
    have h0 : nb 3 a := h.1
    have h1 : nb 3 e := h.2
    unfold nb at h0 h1
    unfold allSt
    have : ([Sm.put l a e].flatMap formsS).length = (formsIn a).length + (formsIn e).length + 1 := by simp [formsS, Sm.exprs, putForm]; omega
    rw [this, List.length_singleton]; omega
  | lp, .call l x f es, h => by
    unfold okSt at h
    have h1 : es.length ≤ 6 := h.2.2
    have h2 : ∀ e ∈ es, nb 3 e := h.2.1
    unfold allSt
    have : ([Sm.call l x f es].flatMap formsS).length = (es.flatMap formsIn).length := by simp [formsS, Sm.exprs, putForm]
    rw [this, List.length_singleton]
    have h3 : ∀ es : List Ex, (∀ e ∈ es, nb 3 e) → (es.flatMap formsIn).length ≤ 3 * es.length := fun es => by
      induction es with
      | nil => intro _; exact Nat.le_refl _
      | cons e t ih =>
        intro h
        have a1 := h e (List.mem_cons_self ..)
        unfold nb at a1
        have a2 := ih fun x hx => h x (List.mem_cons_of_mem _ hx)
        rw [List.flatMap_cons, List.length_append, List.length_cons]; omega
    have := h3 es h2
    omega
theorem nb_sts : ∀ (lp : Bool) (b : List Sm), okSts askN lp b → ((allBd b).flatMap formsS).length ≤ 18 * (allBd b).length
  | lp, [], _ => by unfold allBd; exact Nat.le_refl _
  | lp, s :: t, h => by
    unfold okSts at h
    have h1 := nb_st lp s h.1
    have h2 := nb_sts lp t h.2
    unfold allBd
    rw [List.flatMap_append, List.length_append, List.length_append]; omega
end
theorem built_forms {xs : List Str} (hx : okNm xs) (ns : List Int) {most : Nat} (hm : most ≤ 64) : (formsP (progF (opG placeB simpleB) xs ns most)).length ≤ 1200 := by
  have h := prog_okA (a := askN) (opf := opG placeB simpleB) (fun vs rs i _ hr => opG_nb hr i) hx ns most
  obtain ⟨rs, hb⟩ := progG_built (plc := placeB) (smp := simpleB) (fun xs i h => placeB_ok h i) (fun xs i h => simpleB_ok h i) hx ns hm
  generalize progF (opG placeB simpleB) xs ns most = pg at h hb ⊢
  have hl := hb.len
  have hs : ∀ os : Pg, (∀ o ∈ os, okSts askN false o.body) → (os.flatMap fun o => (allBd o.body).flatMap formsS).length ≤ 18 * (os.map fun o => (ln o.body).length).sum := fun os => by
    induction os with
    | nil => intro _; exact Nat.le_refl _
    | cons o t ih =>
      intro h
      have a1 := nb_sts false o.body (h o (List.mem_cons_self ..))
      have a2 := ih fun x hx => h x (List.mem_cons_of_mem _ hx)
      have a3 : (allBd o.body).length = (ln o.body).length := by
        have := congrArg List.length (pln_fst none o.body)
        rw [List.length_map, pln_len] at this
        exact this.symm
      rw [List.flatMap_cons, List.length_append, List.map_cons, List.sum_cons]
      omega
  have hp : (mainFirst pg).Perm pg := by
    unfold mainFirst
    have := List.filter_append_perm (fun o : Df => isMain o.name) pg
    simpa using this
  have h1 := hs (mainFirst pg) fun o ho => h o (first_mem.mp ho)
  have h2 : ((mainFirst pg).map fun o => (ln o.body).length).sum = (pg.map fun o => (ln o.body).length).sum := (hp.map _).sum_nat
  unfold formsP
  omega
/-- a built program's rows are few -/
theorem built_short {own : Int} {ws : List Str} {rs : Rm} {pg : Pg} (h : Built own ws rs pg) : (rowsF pg).length ≤ 1600000 ∧ pg.length ≤ 4 := by
  have hpl : pg.length ≤ 4 := by
    have := congrArg List.length h.names
    rw [List.length_map] at this
    rw [this]; exact h.rooms.1
  have hs := built_small h
  have h1 := mkAll_len (k := 6) (d := 10) (n := 62) (os := mainFirst pg) (s := (⟨[], [], [], []⟩, [])) fun o ho => ⟨(hs.bd o (first_mem.mp ho)).2.1, (hs.bd o (first_mem.mp ho)).2.2.1⟩
  rw [first_len, ← mkAll_eq] at h1
  have h3 : (rowsF pg).length = (mkAll (mainFirst pg)).1.rows.length := by
    have h2 : ∀ (cs : List (Nat × Str)) (f : Nat × Str → Int) (rs : List Rw), (cs.foldl (fun rows c => leadAt rows c.1 (f c)) rs).length = rs.length := by
      intro cs f
      induction cs with
      | nil => intro rs; rfl
      | cons c t ih => intro rs; rw [List.foldl_cons, ih, leadAt_len]
    exact h2 _ (fun c => beginOf (mkAll (mainFirst pg)).2 c.2) _
  have h4 : pg.length * (62 * (6 * 2 ^ 10 + 4) + 1) ≤ 4 * (62 * (6 * 2 ^ 10 + 4) + 1) := Nat.mul_le_mul_right _ hpl
  simp only [List.length_nil] at h1
  refine ⟨?_, hpl⟩
  omega
theorem prog_ne {opf : List Str → Rm → Int → Od} (xs : List Str) (ns : List Int) (most : Nat) : progF opf xs ns most ≠ [] := by
  unfold progF
  dsimp only
  generalize spreadF (cellF ns 0) 0 = hd
  generalize varsF hd xs = vs
  have hr := rooms_len hd xs vs
  generalize roomsF hd xs vs = rs at hr ⊢
  generalize (ns.take most).drop 2 = cs
  have hlen := opsF_len (opf vs rs) rs.length cs cs.length
  generalize opsF (opf vs rs) rs.length cs cs.length = oss at hlen ⊢
  have h1 := (prog_pi oss rs hlen rs.length (Nat.le_refl _)).names
  intro e
  rw [e, List.take_length] at h1
  rw [← h1] at hr
  have : 0 ≤ hd % 4 := Int.emod_nonneg _ (by decide)
  simp at hr
  omega
end Tl
namespace Tl
open PySem PySem.Spec PyProof.Rows L2
/-! ### a search along a list of ways -/
theorem onR_none {rows : List Rw} {k : Nat} (h : rows.length ≤ k) : onR rows k = [] := by
  unfold onR
  rw [List.getElem?_eq_none h]
/-! ### few back rows -/
def isBk : Rw → Bool
  | .back _ => true | _ => false
theorem bk_at {rows : List Rw} {k : Nat} {r : Rw} (h : rows[k]? = some r) : bkR rows k = isBk r := by
  unfold bkR; rw [h]; cases r <;> rfl
/-! ### the touches of the rows, each found back -/
/-! ### the dict of them -/
end Tl
namespace Tl
open PySem PySem.Spec PyProof.Rows L2
/-! ### a dict that is locked while an expression runs -/
/-! ### x in xs, the things being data of any depth -/
def bInD (neg : Bool) : R2t := fun x y M Q => match pyM M x, pyM M y with
  | some d, some (.list es) => SeqAt.shaped d = true ∧ SeqAt.shaped (.list es) = true ∧ Q (.bl (if neg then !(es.any fun z => PyData.eqv z d) else es.any fun z => PyData.eqv z d)) M
  | _, _ => False
section
variable {X : Cx}
theorem oq_inDD (hu : X.A.units + 65 < cLine) : OpQ X (compareOp .In) (bInD false) := OpRimp (op_inD hu) (by
  rintro x y H Q ⟨G, F, M, dx, dy, Qt, R, px, py, h, k⟩
  unfold bInD at h
  cases e1 : pyM M dx with
  | none => simp only [e1] at h
  | some d =>
    cases e2 : pyM M dy with
    | none => simp only [e1, e2] at h
    | some e =>
      cases e with
      | list es =>
        simp only [e1, e2] at h
        exact ⟨d, es, dp_of R px e1, dp_of R py e2, h.1, h.2.1, k _ F H M _ (Same.refl _) R (.bl _) h.2.2⟩
      | _ => simp only [e1, e2] at h)
end
theorem un65 {k : Nat} {A : Around} (hr : Room k A) : A.units + 65 < cLine := by
  have := hr.un
  omega
theorem inD_pl {M : MH} {x y z : D} {ws : List D} {Q : VD} (n : Nat) (hx : asD M x = some z) (hy : asD M y = some (.lst ws)) (ok : okD n z) (ok2 : ∀ w ∈ ws, okD n w) (p : plD z) (p2 : ∀ w ∈ ws, plD w) (h : ∀ b : Bool, (b = true ↔ z ∈ ws) → Q (.bl b) M) (hn : n < 64 := by decide) : bInD false x y M Q := by
  obtain ⟨d, e, c, dp⟩ := okD_py n z ok
  obtain ⟨es, e2, c2, dp2⟩ := okDs_py n ws (okDs_of ok2)
  have e3 : pyD (.lst ws) = some (.list es) := by unfold pyD; rw [e2]; rfl
  unfold bInD
  simp only [pyM_asD hx, pyM_asD hy, e, e3]
  have sh : SeqAt.shaped d = true := Bool.and_eq_true_iff.mpr ⟨c, decide_eq_true (by omega)⟩
  have sh2 : SeqAt.shaped (.list es) = true := Bool.and_eq_true_iff.mpr ⟨by unfold PyData.canLay0; exact c2, decide_eq_true (by unfold PyData.depth; omega)⟩
  refine ⟨sh, sh2, h _ ?_⟩
  rw [if_neg Bool.false_ne_true, List.any_eq_true]
  clear sh2 e3 hy ok2 c2 dp2 h
  induction ws generalizing es with
  | nil =>
    unfold pyDs at e2
    cases e2
    simp
  | cons w ws ih =>
    unfold pyDs at e2
    cases q1 : pyD w with
    | none => simp only [q1] at e2; cases e2
    | some a =>
      cases q2 : pyDs ws with
      | none => simp only [q1, q2] at e2; cases e2
      | some b =>
        simp only [q1, q2] at e2
        cases e2
        have ih := ih (fun w hw => p2 w (List.mem_cons_of_mem _ hw)) b q2
        have hw := pl_eqv w z a d (p2 w (List.mem_cons_self ..)) p q1 e
        constructor
        · rintro ⟨y, hy, he⟩
          rcases List.mem_cons.mp hy with rfl | hy
          · exact List.mem_cons.mpr (.inl (hw.mp he).symm)
          · exact List.mem_cons_of_mem _ (ih.mp ⟨y, hy, he⟩)
        · intro hz
          rcases List.mem_cons.mp hz with hz | hz
          · exact ⟨a, List.mem_cons_self .., hw.mpr hz.symm⟩
          · obtain ⟨y, hy, he⟩ := ih.mpr hz
            exact ⟨y, List.mem_cons_of_mem _ hy, he⟩
end Tl
set_option maxHeartbeats 2000000
namespace Tl
open PySem PySem.Spec PyProof.Rows L2
/-! ### rows with all their targets -/
def exN : Ex → Nat
  | .box e => exN e + 1
  | .op _ a b => exN a + exN b + 1
  | _ => 1
def exsN : List Ex → Nat
  | [] => 0
  | e :: t => exN e + exsN t
theorem exRows_n {ss : List Str} {l : Int} : ∀ {e : Ex} {a : Int}, (exRows ss l e a).length = exN e
  | .num _, _ => rfl | .nam _, _ => rfl | .lane, _ => rfl | .lanes, _ => rfl | .mine, _ => rfl
  | .box e, a => by unfold exRows exN; rw [List.length_append, exRows_n]; rfl
  | .op w x y, a => by unfold exRows exN; rw [List.length_append, List.length_append, exRows_n, exRows_n]; rfl
theorem exsRows_n {ss : List Str} {l : Int} : ∀ {es : List Ex} {a : Int}, (exsRows ss l es a).length = exsN es
  | [], _ => rfl
  | e :: t, a => by unfold exsRows exsN; rw [List.length_append, exRows_n, exsRows_n]
mutual
def szS : Sm → Nat
  | .if1 _ e b => exN e + 1 + szB b
  | .if2 _ e b c => exN e + 1 + szB b + 1 + szB c
  | .whl _ e b => exN e + 1 + szB b + 1
  | .brk _ => 1
  | .agn _ => 1
  | .ret _ e => exN e + 2
  | .call _ _ _ es => exsN es + 1
  | s => exsN s.exprs + 1
def szB : List Sm → Nat
  | [] => 0
  | s :: t => 1 + szS s + szB t
end
section
variable (ss : List Str) (fr : Int) (bg : Str → Int) (last : Int)
mutual
def rS (lb : Nat) (le : Int) (pos : Nat) : Sm → List Rw
  | .if1 l e b => exRows ss l e fr ++ [.split l fr (pos + exN e + 1 + szB b : Nat)] ++ rB lb le (pos + exN e + 1) b
  | .if2 l e b c => exRows ss l e fr ++ [.split l fr (pos + exN e + 1 + szB b + 1 : Nat)] ++ rB lb le (pos + exN e + 1) b ++ [.jump l (pos + exN e + 1 + szB b + 1 + szB c : Nat)] ++ rB lb le (pos + exN e + 1 + szB b + 1) c
  | .whl l e b => exRows ss l e fr ++ [.split l fr (pos + exN e + 1 + szB b + 1 : Nat)] ++ rB (pos - 1) (pos + exN e + 1 + szB b + 1 : Nat) (pos + exN e + 1) b ++ [.jump l (pos - 1 : Nat)]
  | .brk l => [.jump l le]
  | .agn l => [.jump l (lb : Nat)]
  | .ret l e => exRows ss l e fr ++ [.copy l 0 fr, .jump l last]
  | .call l x f es => exsRows ss l es fr ++ [.call l (slotOf ss x) fr es.length (bg f)]
  | s => exsRows ss s.line s.exprs fr ++ [lastRow ss fr s]
def rB (lb : Nat) (le : Int) (pos : Nat) : List Sm → List Rw
  | [] => []
  | s :: t => .tick s.line :: rS lb le (pos + 1) s ++ rB lb le (pos + 1 + szS s) t
end
mutual
theorem rS_len (lb : Nat) (le : Int) (pos : Nat) : ∀ s : Sm, (rS ss fr bg last lb le pos s).length = szS s
  | .if1 l e b => by
    unfold rS szS
    simp only [List.length_append, List.length_cons, List.length_nil, exRows_n, rB_len _ _ _ b]
  | .if2 l e b c => by
    unfold rS szS
    simp only [List.length_append, List.length_cons, List.length_nil, exRows_n, rB_len _ _ _ b, rB_len _ _ _ c]
  | .whl l e b => by
    unfold rS szS
    simp only [List.length_append, List.length_cons, List.length_nil, exRows_n, rB_len _ _ _ b]
  | .brk l => by unfold rS szS; rfl
  | .agn l => by unfold rS szS; rfl
  | .ret l e => by unfold rS szS; simp only [List.length_append, List.length_cons, List.length_nil, exRows_n]
  | .call l x f es => by unfold rS szS; simp only [List.length_append, List.length_cons, List.length_nil, exsRows_n]
  | .set l x e => by unfold rS szS; simp only [List.length_append, List.length_cons, List.length_nil, exsRows_n]
  | .put l a b => by unfold rS szS; simp only [List.length_append, List.length_cons, List.length_nil, exsRows_n]
  | .tell l e => by unfold rS szS; simp only [List.length_append, List.length_cons, List.length_nil, exsRows_n]
  | .join l x w e => by unfold rS szS; simp only [List.length_append, List.length_cons, List.length_nil, exsRows_n]
  | .meet l => by unfold rS szS; simp only [List.length_append, List.length_cons, List.length_nil, exsRows_n]
  | .stop l => by unfold rS szS; simp only [List.length_append, List.length_cons, List.length_nil, exsRows_n]
theorem rB_len (lb : Nat) (le : Int) (pos : Nat) : ∀ b : List Sm, (rB ss fr bg last lb le pos b).length = szB b
  | [] => by unfold rB szB; rfl
  | s :: t => by
    unfold rB szB
    rw [List.length_append, List.length_cons, rS_len _ _ _ s, rB_len _ _ _ t]
    omega
end
end
/-! rows whose targets are put later -/
theorem lead_lead {r : Rw} {t u : Int} : (r.lead t).lead u = r.lead u := by cases r <;> rfl
theorem leadAt_get {rows : List Rw} {k j : Nat} {t : Int} : (leadAt rows k t)[j]? = if k = j then (rows[j]?).map (Rw.lead t) else rows[j]? := by
  unfold leadAt
  rw [List.getElem?_modify]
  by_cases e : k = j
  · simp [e]
  · simp [e]
structure FinR (rows R : List Rw) (ps : List (Nat × Int)) : Prop where
  len : R.length = rows.length
  yes : ∀ k t, (k, t) ∈ ps → k < rows.length ∧ ∀ r, rows[k]? = some r → R[k]? = some (r.lead t)
  no : ∀ k, (∀ t, (k, t) ∉ ps) → R[k]? = rows[k]?
namespace FinR
variable {rows R : List Rw} {ps qs : List (Nat × Int)}
theorem add (h : FinR rows R ps) (rs : List Rw) : FinR (rows ++ rs) (R ++ rs) ps := by
  refine ⟨by rw [List.length_append, List.length_append, h.len], fun k t hk => ?_, fun k hk => ?_⟩
  · obtain ⟨h1, h2⟩ := h.yes k t hk
    refine ⟨by rw [List.length_append]; omega, fun r hr => ?_⟩
    rw [List.getElem?_append_left h1] at hr
    rw [List.getElem?_append_left (by rw [h.len]; exact h1)]
    exact h2 r hr
  · by_cases hl : k < rows.length
    · rw [List.getElem?_append_left hl, List.getElem?_append_left (by rw [h.len]; exact hl)]
      exact h.no k hk
    · rw [List.getElem?_append_right (by rw [h.len]; omega), List.getElem?_append_right (by omega), h.len]
theorem mem (h : FinR rows R ps) (e : ∀ x, x ∈ qs ↔ x ∈ ps) : FinR rows R qs := ⟨h.len, fun k t hk => h.yes k t ((e _).mp hk), fun k hk => h.no k fun t ht => hk t ((e _).mpr ht)⟩
theorem more (h : FinR rows R ps) (r : Rw) (t : Int) : FinR (rows ++ [r]) (R ++ [r.lead t]) (ps ++ [(rows.length, t)]) := by
  refine ⟨by rw [List.length_append, List.length_append, h.len]; rfl, fun k u hk => ?_, fun k hk => ?_⟩
  · rcases List.mem_append.mp hk with hk | hk
    · obtain ⟨h1, h2⟩ := h.yes k u hk
      refine ⟨by rw [List.length_append]; omega, fun r hr => ?_⟩
      rw [List.getElem?_append_left h1] at hr
      rw [List.getElem?_append_left (by rw [h.len]; exact h1)]
      exact h2 r hr
    · obtain ⟨rfl, rfl⟩ := Prod.mk.inj (List.mem_singleton.mp hk)
      refine ⟨by rw [List.length_append]; exact Nat.lt_succ_self _, fun r2 hr => ?_⟩
      rw [List.getElem?_concat_length] at hr
      rw [← h.len, List.getElem?_concat_length]
      cases hr
      rfl
  · have hne : k ≠ rows.length := fun e => hk t (by rw [e]; simp)
    by_cases hl : k < rows.length
    · rw [List.getElem?_append_left hl, List.getElem?_append_left (by rw [h.len]; exact hl)]
      exact h.no k fun u hu => hk u (List.mem_append_left _ hu)
    · rw [List.getElem?_eq_none (by rw [List.length_append, List.length_singleton, h.len]; omega), List.getElem?_eq_none (by rw [List.length_append, List.length_singleton]; omega)]
theorem lead (h : FinR rows R ps) {k : Nat} {T : Int} (hk : ∀ t, (k, t) ∉ ps) : FinR (leadAt rows k T) (leadAt R k T) ps := by
  refine ⟨by rw [leadAt_len, leadAt_len, h.len], fun j u hj => ?_, fun j hj => ?_⟩
  · have hne : ¬ k = j := fun e => hk u (by rw [e]; exact hj)
    obtain ⟨h1, h2⟩ := h.yes j u hj
    refine ⟨by rw [leadAt_len]; exact h1, fun r hr => ?_⟩
    rw [leadAt_get, if_neg hne] at hr ⊢
    exact h2 r hr
  · rw [leadAt_get, leadAt_get, h.no j hj]
theorem done1 {k : Nat} {t : Int} (h : FinR rows R ((k, t) :: ps)) : FinR (leadAt rows k t) R ps := by
  refine ⟨by rw [leadAt_len, h.len], fun j u hj => ?_, fun j hj => ?_⟩
  · obtain ⟨h1, h2⟩ := h.yes j u (List.mem_cons_of_mem _ hj)
    refine ⟨by rw [leadAt_len]; exact h1, fun r hr => ?_⟩
    rw [leadAt_get] at hr
    by_cases e : k = j
    · rw [if_pos e] at hr
      obtain ⟨r0, hr0, rfl⟩ := Option.map_eq_some_iff.mp hr
      rw [lead_lead]
      exact h2 r0 hr0
    · rw [if_neg e] at hr
      exact h2 r hr
  · rw [leadAt_get]
    by_cases e : k = j
    · subst e
      rw [if_pos rfl]
      obtain ⟨h1, h2⟩ := h.yes k t (List.mem_cons_self ..)
      rw [h2 _ (List.getElem?_eq_getElem h1), List.getElem?_eq_getElem h1]
      rfl
    · rw [if_neg e]
      exact h.no j fun u hu => by
        rcases List.mem_cons.mp hu with hu | hu
        · exact e (Prod.mk.inj hu).1.symm
        · exact hj u hu
theorem dones : ∀ {qs : List (Nat × Int)} {rows : List Rw}, FinR rows R (qs ++ ps) → FinR (qs.foldl (fun r p => leadAt r p.1 p.2) rows) R ps
  | [], _, h => h
  | (k, t) :: qs, _, h => dones (qs := qs) (done1 h)
theorem eq (h : FinR rows R []) : R = rows := List.ext_getElem? fun k => h.no k fun t ht => by cases ht
end FinR
theorem leadsT : ∀ {ks : List Nat} {rows : List Rw}, ks.foldl (fun rs k => leadAt rs k rs.length) rows = (ks.map fun k => (k, (rows.length : Int))).foldl (fun r p => leadAt r p.1 p.2) rows
  | [], _ => rfl
  | k :: t, rows => by
    rw [List.foldl_cons, List.map_cons, List.foldl_cons, leadsT]
    dsimp only
    rw [leadAt_len]
/-! what waits, with what it will be led to -/
def zl : List (Nat × List Nat) → List Int → List (Nat × Int)
  | (_, lv) :: r, e :: es => (lv.map fun k => (k, e)) ++ zl r es
  | _, _ => []
theorem zl_cons {b : Nat} {lv : List Nat} {r : List (Nat × List Nat)} {e : Int} {es : List Int} : zl ((b, lv) :: r) (e :: es) = (lv.map fun k => (k, e)) ++ zl r es := rfl
def pnd (bg : Str → Int) (last : Int) (m : Mk) (ends : List Int) : List (Nat × Int) := (m.calls.map fun c => (c.1, bg c.2)) ++ (m.leaves.map fun k => (k, last)) ++ zl m.loops ends
section
variable (ss : List Str) (fr : Int) (bg : Str → Int) (last : Int)
/-- what a statement or block makes of a maker -/
structure FinM (m m' : Mk) (ends : List Int) (R' : List Rw) : Prop where
  fin : FinR m'.rows R' (pnd bg last m' ends)
  old : ∀ x ∈ pnd bg last m' ends, x ∈ pnd bg last m ends ∨ m.rows.length ≤ x.1
  lps : m'.loops.map (·.1) = m.loops.map (·.1)
theorem pnd_lt {m : Mk} {ends : List Int} {R : List Rw} (h : FinR m.rows R (pnd bg last m ends)) {k : Nat} (hk : m.rows.length ≤ k) (t : Int) : (k, t) ∉ pnd bg last m ends := fun q => by
  have := (h.yes k t q).1
  omega
theorem lps_len {m m' : Mk} (h : m'.loops.map (·.1) = m.loops.map (·.1)) : m'.loops.length = m.loops.length := by
  rw [← List.length_map (f := (·.1)), h, List.length_map]
theorem lps_hd {m m' : Mk} {b : Nat} {lv : List Nat} {r : List (Nat × List Nat)} (h : m'.loops.map (·.1) = m.loops.map (·.1)) (e : m.loops = (b, lv) :: r) : ∃ lv' r', m'.loops = (b, lv') :: r' := by
  rw [e] at h
  cases hm : m'.loops with
  | nil => rw [hm] at h; cases h
  | cons p r' =>
    obtain ⟨b', lv'⟩ := p
    rw [hm] at h
    obtain ⟨h1, _⟩ := List.cons.inj h
    exact ⟨lv', r', by rw [show b' = b from h1]⟩
theorem FinM.trans {a b c : Mk} {ends : List Int} {R' R'' : List Rw} (hl : a.rows.length ≤ b.rows.length) (h : FinM bg last a b ends R') (g : FinM bg last b c ends R'') : FinM bg last a c ends R'' :=
  ⟨g.fin, fun x hx => (g.old x hx).elim (fun q => h.old x q) fun q => .inr (Nat.le_trans hl q), g.lps.trans h.lps⟩
theorem FinM.add {m : Mk} {ends : List Int} {R : List Rw} (h : FinR m.rows R (pnd bg last m ends)) (rs : List Rw) : FinM bg last m (m.add rs) ends (R ++ rs) := ⟨h.add rs, fun x hx => .inl hx, rfl⟩
theorem FinM.one {m : Mk} {ends : List Int} {R : List Rw} {s : Sm} (h : FinR m.rows R (pnd bg last m ends)) (e : mkS ss fr m s = m.add (exsRows ss s.line s.exprs fr ++ [lastRow ss fr s])) (e2 : ∀ lb le pos, rS ss fr bg last lb le pos s = exsRows ss s.line s.exprs fr ++ [lastRow ss fr s]) {lb : Nat} {le : Int} :
    FinM bg last m (mkS ss fr m s) ends (R ++ rS ss fr bg last lb le m.rows.length s) := by
  rw [e, e2]
  exact FinM.add bg last h _
theorem leadAt_mid {A B : List Rw} {x : Rw} {k : Nat} {t : Int} (h : k = A.length) : leadAt (A ++ x :: B) k t = A ++ x.lead t :: B := by
  subst h
  apply List.ext_getElem?
  intro j
  rw [leadAt_get]
  by_cases e : A.length = j
  · subst e
    rw [if_pos rfl, List.getElem?_append_right (Nat.le_refl _), List.getElem?_append_right (Nat.le_refl _), Nat.sub_self]
    rfl
  · rw [if_neg e]
    by_cases hl : j < A.length
    · rw [List.getElem?_append_left hl, List.getElem?_append_left hl]
    · obtain ⟨d, hd⟩ : ∃ d, j - A.length = d + 1 := ⟨j - A.length - 1, by omega⟩
      rw [List.getElem?_append_right (by omega), List.getElem?_append_right (by omega), hd]
      rfl
theorem FinM.lead {m m' : Mk} {ends : List Int} {R' : List Rw} {k : Nat} (h : FinM bg last m m' ends R') (hk : ∀ t, (k, t) ∉ pnd bg last m' ends) : FinM bg last m (m'.lead k) ends (leadAt R' k m'.rows.length) := ⟨h.fin.lead hk, h.old, h.lps⟩
mutual
theorem fin_S {lp : Prop} : ∀ (s : Sm) {m : Mk} {ends : List Int} {R : List Rw} {lb : Nat} {le : Int}, FinR m.rows R (pnd bg last m ends) → m.loops.length = ends.length → inLp lp s → (lp → (∃ lv r, m.loops = (lb, lv) :: r) ∧ ∃ es, ends = le :: es) →
    FinM bg last m (mkS ss fr m s) ends (R ++ rS ss fr bg last lb le m.rows.length s)
  | .if1 l e b, m, ends, R, lb, le, h, hl, hi, hp => by
    unfold mkS rS
    dsimp only
    have h1 := FinM.add bg last h (exRows ss l e fr ++ [.split l fr 0])
    have hlen : (m.add (exRows ss l e fr ++ [.split l fr 0])).rows.length = m.rows.length + exN e + 1 := by rw [add_rows, List.length_append, exRows_n]; rfl
    have hlp : (m.add (exRows ss l e fr ++ [.split l fr 0])).loops = m.loops := rfl
    have hpn : pnd bg last (m.add (exRows ss l e fr ++ [.split l fr 0])) ends = pnd bg last m ends := rfl
    generalize m.add (exRows ss l e fr ++ [.split l fr 0]) = m1 at h1 hlen hlp hpn ⊢
    have h2 := fin_B (lp := lp) b (m := m1) (lb := lb) (le := le) h1.fin (by rw [hlp]; exact hl) (by unfold inLp at hi; exact hi) (fun q => by rw [hlp]; exact hp q)
    have hl2 := (mkB_keeps ss fr b m1).ext.len
    have hb := h2.fin.len
    rw [List.length_append, rB_len, h1.fin.len] at hb
    generalize mkB ss fr m1 b = m2 at h2 hl2 hb ⊢
    have hk : ∀ t, (m1.rows.length - 1, t) ∉ pnd bg last m2 ends := fun t q => by
      rcases h2.old _ q with q | q
      · rw [hpn] at q
        exact pnd_lt bg last h (k := m1.rows.length - 1) (by omega) t q
      · dsimp only at q
        omega
    have h3 := FinM.lead bg last (FinM.trans bg last (by omega) h1 h2) hk
    have e : leadAt (R ++ (exRows ss l e fr ++ [Rw.split l fr 0]) ++ rB ss fr bg last lb le m1.rows.length b) (m1.rows.length - 1) m2.rows.length = R ++ (exRows ss l e fr ++ [Rw.split l fr (m.rows.length + exN e + 1 + szB b : Nat)] ++ rB ss fr bg last lb le (m.rows.length + exN e + 1) b) := by
      rw [show R ++ (exRows ss l e fr ++ [Rw.split l fr 0]) ++ rB ss fr bg last lb le m1.rows.length b = (R ++ exRows ss l e fr) ++ Rw.split l fr 0 :: rB ss fr bg last lb le m1.rows.length b by simp only [List.append_assoc, List.cons_append, List.nil_append],
        leadAt_mid (by rw [List.length_append, exRows_n, h.len]; omega), ← hb, hlen]
      simp only [List.append_assoc, List.cons_append, List.nil_append]
      rfl
    rw [e] at h3
    exact h3
  | .if2 l e b c, m, ends, R, lb, le, h, hl, hi, hp => by
    unfold mkS rS
    dsimp only
    unfold inLp at hi
    have h1 := FinM.add bg last h (exRows ss l e fr ++ [.split l fr 0])
    have hlen : (m.add (exRows ss l e fr ++ [.split l fr 0])).rows.length = m.rows.length + exN e + 1 := by rw [add_rows, List.length_append, exRows_n]; rfl
    have hlp : (m.add (exRows ss l e fr ++ [.split l fr 0])).loops = m.loops := rfl
    have hpn : pnd bg last (m.add (exRows ss l e fr ++ [.split l fr 0])) ends = pnd bg last m ends := rfl
    generalize m.add (exRows ss l e fr ++ [.split l fr 0]) = m1 at h1 hlen hlp hpn ⊢
    have h2 := fin_B (lp := lp) b (m := m1) (lb := lb) (le := le) h1.fin (by rw [hlp]; exact hl) hi.1 (fun q => by rw [hlp]; exact hp q)
    have hl2 := (mkB_keeps ss fr b m1).ext.len
    have hb := h2.fin.len
    rw [List.length_append, rB_len, h1.fin.len] at hb
    generalize mkB ss fr m1 b = m2 at h2 hl2 hb ⊢
    have hk : ∀ t, (m1.rows.length - 1, t) ∉ pnd bg last m2 ends := fun t q => by
      rcases h2.old _ q with q | q
      · rw [hpn] at q
        exact pnd_lt bg last h (k := m1.rows.length - 1) (by omega) t q
      · dsimp only at q
        omega
    have h12 := FinM.trans bg last (by omega) h1 h2
    have h3 := FinM.trans bg last (by omega) h12 (FinM.add bg last h12.fin [.jump l 0])
    have hlen3 : (m2.add [.jump l 0]).rows.length = m2.rows.length + 1 := by rw [add_rows]; rfl
    have hpn3 : pnd bg last (m2.add [.jump l 0]) ends = pnd bg last m2 ends := rfl
    generalize m2.add [.jump l 0] = m3 at h3 hlen3 hpn3 ⊢
    have h4 := FinM.lead bg last h3 (k := m1.rows.length - 1) (by rw [hpn3]; exact hk)
    have hlen4 : (m3.lead (m1.rows.length - 1)).rows.length = m3.rows.length := lead_len
    have hpn4 : pnd bg last (m3.lead (m1.rows.length - 1)) ends = pnd bg last m3 ends := rfl
    generalize m3.lead (m1.rows.length - 1) = m4 at h4 hlen4 hpn4 ⊢
    have h5 := fin_B (lp := lp) c (m := m4) (lb := lb) (le := le) h4.fin (by rw [lps_len h4.lps]; exact hl) hi.2 (fun q => by
      obtain ⟨⟨lv, r, e1⟩, e2⟩ := hp q
      exact ⟨lps_hd h4.lps e1, e2⟩)
    have hl5 := (mkB_keeps ss fr c m4).ext.len
    have hb5 := h5.fin.len
    rw [List.length_append, rB_len, h4.fin.len] at hb5
    generalize mkB ss fr m4 c = m5 at h5 hl5 hb5 ⊢
    have hk5 : ∀ t, (m3.rows.length - 1, t) ∉ pnd bg last m5 ends := fun t q => by
      rcases h5.old _ q with q | q
      · rw [hpn4, hpn3] at q
        exact pnd_lt bg last h2.fin (k := m3.rows.length - 1) (by omega) t q
      · dsimp only at q
        omega
    have h6 := FinM.lead bg last (FinM.trans bg last (by omega) h4 h5) hk5
    have e6 : leadAt (leadAt (R ++ (exRows ss l e fr ++ [Rw.split l fr 0]) ++ rB ss fr bg last lb le m1.rows.length b ++ [.jump l 0]) (m1.rows.length - 1) m3.rows.length ++ rB ss fr bg last lb le m4.rows.length c) (m3.rows.length - 1) m5.rows.length = R ++ (exRows ss l e fr ++ [Rw.split l fr (m.rows.length + exN e + 1 + szB b + 1 : Nat)] ++ rB ss fr bg last lb le (m.rows.length + exN e + 1) b ++ [.jump l (m.rows.length + exN e + 1 + szB b + 1 + szB c : Nat)] ++ rB ss fr bg last lb le (m.rows.length + exN e + 1 + szB b + 1) c) := by
      rw [show R ++ (exRows ss l e fr ++ [Rw.split l fr 0]) ++ rB ss fr bg last lb le m1.rows.length b ++ [Rw.jump l 0] = (R ++ exRows ss l e fr) ++ Rw.split l fr 0 :: (rB ss fr bg last lb le m1.rows.length b ++ [Rw.jump l 0]) by simp only [List.append_assoc, List.cons_append, List.nil_append],
        leadAt_mid (by rw [List.length_append, exRows_n, h.len]; omega),
        show (R ++ exRows ss l e fr ++ (Rw.split l fr 0).lead (m3.rows.length : Nat) :: (rB ss fr bg last lb le m1.rows.length b ++ [Rw.jump l 0])) ++ rB ss fr bg last lb le m4.rows.length c = (R ++ exRows ss l e fr ++ (Rw.split l fr 0).lead (m3.rows.length : Nat) :: rB ss fr bg last lb le m1.rows.length b) ++ Rw.jump l 0 :: rB ss fr bg last lb le m4.rows.length c by simp only [List.append_assoc, List.cons_append, List.nil_append],
        leadAt_mid (by simp only [List.length_append, List.length_cons, exRows_n, h.len, rB_len]; omega), ← hb5, hlen4, hlen3, ← hb, hlen]
      simp only [List.append_assoc, List.cons_append, List.nil_append]
      rfl
    rw [e6] at h6
    exact h6
  | .whl l e b, m, ends, R, lb, le, h, hl, hi, hp => by
    unfold inLp at hi
    unfold mkS rS
    dsimp only
    have h1 := (h.add (exRows ss l e fr)).more (.split l fr 0) (m.rows.length + exN e + 1 + szB b + 1 : Nat)
    have e1 : m.rows ++ exRows ss l e fr ++ [.split l fr 0] = (m.add (exRows ss l e fr ++ [.split l fr 0])).rows := by unfold Mk.add; simp only [List.append_assoc]
    have e2 : (m.rows ++ exRows ss l e fr).length = (m.add (exRows ss l e fr ++ [.split l fr 0])).rows.length - 1 := by rw [← e1, List.length_append (bs := [Rw.split l fr 0])]; rfl
    have hlen : (m.add (exRows ss l e fr ++ [.split l fr 0])).rows.length = m.rows.length + exN e + 1 := by rw [add_rows, List.length_append, exRows_n]; rfl
    rw [e1, e2] at h1
    have hlv : (m.add (exRows ss l e fr ++ [.split l fr 0])).leaves = m.leaves := rfl
    have hcl : (m.add (exRows ss l e fr ++ [.split l fr 0])).calls = m.calls := rfl
    have hlp : (m.add (exRows ss l e fr ++ [.split l fr 0])).loops = m.loops := rfl
    generalize m.add (exRows ss l e fr ++ [.split l fr 0]) = m1 at *
    have key : ∀ x, x ∈ pnd bg last ⟨m1.rows, m1.calls, m1.leaves, (m.rows.length - 1, [m1.rows.length - 1]) :: m1.loops⟩ ((m.rows.length + exN e + 1 + szB b + 1 : Nat) :: ends) ↔ x ∈ pnd bg last m ends ++ [(m1.rows.length - 1, ((m.rows.length + exN e + 1 + szB b + 1 : Nat) : Int))] := fun x => by
      unfold pnd
      dsimp only
      rw [hlv, hcl, hlp, zl_cons]
      simp only [List.mem_append, List.map_cons, List.map_nil]
      grind
    have h2 := fin_B (lp := True) b (m := ⟨m1.rows, m1.calls, m1.leaves, (m.rows.length - 1, [m1.rows.length - 1]) :: m1.loops⟩) (ends := (m.rows.length + exN e + 1 + szB b + 1 : Nat) :: ends) (lb := m.rows.length - 1) (le := (m.rows.length + exN e + 1 + szB b + 1 : Nat)) (h1.mem key) (by rw [List.length_cons, List.length_cons, hlp, hl]) hi (fun _ => ⟨⟨_, _, rfl⟩, _, rfl⟩)
    have hb := h2.fin.len
    rw [List.length_append, rB_len, h1.len] at hb
    generalize mkB ss fr ⟨m1.rows, m1.calls, m1.leaves, (m.rows.length - 1, [m1.rows.length - 1]) :: m1.loops⟩ b = m2 at h2 hb ⊢
    dsimp only at h2
    have h3 := h2.fin.add [.jump l (m.rows.length - 1 : Nat)]
    have hold := h2.old
    have hlps := h2.lps
    have e3 : m2.rows ++ [.jump l (m.rows.length - 1 : Nat)] = (m2.add [.jump l (m.rows.length - 1 : Nat)]).rows := rfl
    have e4 : pnd bg last m2 ((m.rows.length + exN e + 1 + szB b + 1 : Nat) :: ends) = pnd bg last (m2.add [.jump l (m.rows.length - 1 : Nat)]) ((m.rows.length + exN e + 1 + szB b + 1 : Nat) :: ends) := rfl
    have e5 : m2.loops = (m2.add [.jump l (m.rows.length - 1 : Nat)]).loops := rfl
    have hlen3 : (m2.add [.jump l (m.rows.length - 1 : Nat)]).rows.length = m2.rows.length + 1 := by rw [add_rows]; rfl
    rw [e3, e4] at h3
    rw [e4] at hold
    rw [e5] at hlps
    clear h2 e3 e4 e5
    generalize m2.add [.jump l (m.rows.length - 1 : Nat)] = m3 at *
    obtain ⟨rows3, calls3, leaves3, loops3⟩ := m3
    cases loops3 with
    | nil => cases hlps
    | cons p r =>
      obtain ⟨b3, lv⟩ := p
      dsimp only at hlps hlen3 ⊢
      obtain ⟨_, hr⟩ := List.cons.inj hlps
      have hE : ((m.rows.length + exN e + 1 + szB b + 1 : Nat) : Int) = (rows3.length : Int) := by rw [hlen3, ← hb, hlen]
      have hrest := leads_rest (ks := lv) (m := ⟨rows3, calls3, leaves3, r⟩)
      have hrows := leads_rows (ks := lv) (m := ⟨rows3, calls3, leaves3, r⟩)
      rw [leadsT] at hrows
      dsimp only at hrest hrows
      have hpe : pnd bg last (Mk.leads ⟨rows3, calls3, leaves3, r⟩ lv) ends = pnd bg last ⟨rows3, calls3, leaves3, r⟩ ends := by unfold pnd; rw [hrest.1, hrest.2.1, hrest.2.2]
      have hmem : ∀ x, x ∈ (lv.map fun k => (k, (rows3.length : Int))) ++ pnd bg last ⟨rows3, calls3, leaves3, r⟩ ends ↔ x ∈ pnd bg last ⟨rows3, calls3, leaves3, (b3, lv) :: r⟩ ((m.rows.length + exN e + 1 + szB b + 1 : Nat) :: ends) := fun x => by
        rw [hE]
        unfold pnd
        dsimp only
        rw [zl_cons]
        simp only [List.mem_append]
        grind
      refine ⟨?_, fun x hx => ?_, by rw [hrest.2.2, hr]; exact congrArg (List.map (·.1)) hlp⟩
      · rw [hpe, hrows]
        have h4 := (h3.mem hmem).dones
        rw [show R ++ (exRows ss l e fr ++ [Rw.split l fr (m.rows.length + exN e + 1 + szB b + 1 : Nat)] ++ rB ss fr bg last (m.rows.length - 1) (m.rows.length + exN e + 1 + szB b + 1 : Nat) (m.rows.length + exN e + 1) b ++ [Rw.jump l (m.rows.length - 1 : Nat)]) = R ++ exRows ss l e fr ++ [(Rw.split l fr 0).lead (m.rows.length + exN e + 1 + szB b + 1 : Nat)] ++ rB ss fr bg last (m.rows.length - 1) (m.rows.length + exN e + 1 + szB b + 1 : Nat) m1.rows.length b ++ [Rw.jump l (m.rows.length - 1 : Nat)] by rw [hlen]; simp only [List.append_assoc]; rfl]
        exact h4
      · rw [hpe] at hx
        rcases hold x ((hmem x).mp (List.mem_append_right _ hx)) with q | q
        · rcases List.mem_append.mp ((key x).mp q) with q | q
          · exact .inl q
          · rw [List.mem_singleton.mp q]
            refine .inr ?_
            dsimp only
            omega
        · refine .inr ?_
          dsimp only at q
          omega
  | .brk l, m, ends, R, lb, le, h, hl, hi, hp => by
    unfold inLp at hi
    obtain ⟨⟨lv, r, e1⟩, es, e2⟩ := hp hi
    unfold mkS rS
    rw [e1]
    dsimp only
    have h1 := h.more (.jump l lb) le
    refine ⟨h1.mem fun x => ?_, fun x hx => ?_, by rw [e1]; rfl⟩
    · unfold pnd
      rw [e1, e2, zl_cons, zl_cons, List.map_append]
      simp only [List.mem_append, List.map_cons, List.map_nil]
      grind
    · unfold pnd at hx ⊢
      rw [e2] at hx ⊢
      rw [e1]
      rw [zl_cons, List.map_append] at hx
      rw [zl_cons]
      simp only [List.mem_append, List.map_cons, List.map_nil, List.mem_singleton] at hx ⊢
      rcases hx with (hx | hx) | (hx | rfl) | hx
      · exact .inl (.inl (.inl hx))
      · exact .inl (.inl (.inr hx))
      · exact .inl (.inr (.inl hx))
      · exact .inr (Nat.le_refl _)
      · exact .inl (.inr (.inr hx))
  | .agn l, m, ends, R, lb, le, h, hl, hi, hp => by
    unfold inLp at hi
    obtain ⟨⟨lv, r, e1⟩, es, e2⟩ := hp hi
    unfold mkS rS
    rw [e1]
    exact FinM.add bg last h _
  | .ret l e, m, ends, R, lb, le, h, hl, hi, hp => by
    unfold mkS rS
    dsimp only
    have h1 := (h.add (exRows ss l e fr ++ [Rw.copy l 0 fr])).more (.jump l 0) last
    have e1 : m.rows ++ (exRows ss l e fr ++ [Rw.copy l 0 fr]) ++ [Rw.jump l 0] = (m.add (exRows ss l e fr ++ [.copy l 0 fr, .jump l 0])).rows := by unfold Mk.add; simp only [List.append_assoc, List.cons_append, List.nil_append]
    have e2 : (m.rows ++ (exRows ss l e fr ++ [Rw.copy l 0 fr])).length = (m.add (exRows ss l e fr ++ [.copy l 0 fr, .jump l 0])).rows.length - 1 := by rw [← e1, List.length_append (bs := [Rw.jump l 0])]; rfl
    have hlen : m.rows.length ≤ (m.rows ++ (exRows ss l e fr ++ [Rw.copy l 0 fr])).length := by rw [List.length_append]; omega
    rw [e1] at h1
    rw [e2] at hlen h1
    have hlv : (m.add (exRows ss l e fr ++ [.copy l 0 fr, .jump l 0])).leaves = m.leaves := rfl
    have hcl : (m.add (exRows ss l e fr ++ [.copy l 0 fr, .jump l 0])).calls = m.calls := rfl
    have hlp : (m.add (exRows ss l e fr ++ [.copy l 0 fr, .jump l 0])).loops = m.loops := rfl
    generalize m.add (exRows ss l e fr ++ [.copy l 0 fr, .jump l 0]) = m1 at *
    have key : ∀ x, x ∈ pnd bg last ⟨m1.rows, m1.calls, m1.leaves ++ [m1.rows.length - 1], m1.loops⟩ ends ↔ x ∈ pnd bg last m ends ++ [(m1.rows.length - 1, last)] := fun x => by
      unfold pnd
      dsimp only
      rw [hlv, hcl, hlp, List.map_append]
      simp only [List.mem_append, List.map_cons, List.map_nil]
      grind
    refine ⟨?_, fun x hx => ?_, by show m1.loops.map (·.1) = _; rw [hlp]⟩
    · rw [show R ++ (exRows ss l e fr ++ [Rw.copy l 0 fr, Rw.jump l last]) = R ++ (exRows ss l e fr ++ [Rw.copy l 0 fr]) ++ [(Rw.jump l 0).lead last] by simp only [List.append_assoc, List.cons_append, List.nil_append]; rfl]
      exact h1.mem key
    · rcases List.mem_append.mp ((key x).mp hx) with q | q
      · exact .inl q
      · rw [List.mem_singleton.mp q]; exact .inr hlen
  | .call l x f es, m, ends, R, lb, le, h, hl, hi, hp => by
    unfold mkS rS
    dsimp only
    have h1 := (h.add (exsRows ss l es fr)).more (.call l (slotOf ss x) fr es.length 0) (bg f)
    have e1 : m.rows ++ exsRows ss l es fr ++ [.call l (slotOf ss x) fr es.length 0] = (m.add (exsRows ss l es fr ++ [.call l (slotOf ss x) fr es.length 0])).rows := by unfold Mk.add; simp only [List.append_assoc]
    have e2 : (m.rows ++ exsRows ss l es fr).length = (m.add (exsRows ss l es fr ++ [.call l (slotOf ss x) fr es.length 0])).rows.length - 1 := by rw [← e1, List.length_append (bs := [Rw.call l (slotOf ss x) fr es.length 0])]; rfl
    have hlen : m.rows.length ≤ (m.rows ++ exsRows ss l es fr).length := by rw [List.length_append]; omega
    rw [e1] at h1
    rw [e2] at hlen h1
    have hlv : (m.add (exsRows ss l es fr ++ [.call l (slotOf ss x) fr es.length 0])).leaves = m.leaves := rfl
    have hcl : (m.add (exsRows ss l es fr ++ [.call l (slotOf ss x) fr es.length 0])).calls = m.calls := rfl
    have hlp : (m.add (exsRows ss l es fr ++ [.call l (slotOf ss x) fr es.length 0])).loops = m.loops := rfl
    generalize m.add (exsRows ss l es fr ++ [.call l (slotOf ss x) fr es.length 0]) = m1 at *
    have key : ∀ y, y ∈ pnd bg last ⟨m1.rows, m1.calls ++ [(m1.rows.length - 1, f)], m1.leaves, m1.loops⟩ ends ↔ y ∈ pnd bg last m ends ++ [(m1.rows.length - 1, bg f)] := fun y => by
      unfold pnd
      dsimp only
      rw [hlv, hcl, hlp, List.map_append]
      simp only [List.mem_append, List.map_cons, List.map_nil]
      grind
    refine ⟨?_, fun y hx => ?_, by show m1.loops.map (·.1) = _; rw [hlp]⟩
    · rw [show R ++ (exsRows ss l es fr ++ [Rw.call l (slotOf ss x) fr es.length (bg f)]) = R ++ exsRows ss l es fr ++ [(Rw.call l (slotOf ss x) fr es.length 0).lead (bg f)] by simp only [List.append_assoc]; rfl]
      exact h1.mem key
    · rcases List.mem_append.mp ((key y).mp hx) with q | q
      · exact .inl q
      · rw [List.mem_singleton.mp q]; exact .inr hlen
  | .set l x e, m, ends, R, lb, le, h, hl, hi, hp => FinM.one ss fr bg last h (by unfold mkS; rfl) (fun _ _ _ => by unfold rS; rfl)
  | .put l a b, m, ends, R, lb, le, h, hl, hi, hp => FinM.one ss fr bg last h (by unfold mkS; rfl) (fun _ _ _ => by unfold rS; rfl)
  | .tell l e, m, ends, R, lb, le, h, hl, hi, hp => FinM.one ss fr bg last h (by unfold mkS; rfl) (fun _ _ _ => by unfold rS; rfl)
  | .join l x w e, m, ends, R, lb, le, h, hl, hi, hp => FinM.one ss fr bg last h (by unfold mkS; rfl) (fun _ _ _ => by unfold rS; rfl)
  | .meet l, m, ends, R, lb, le, h, hl, hi, hp => FinM.one ss fr bg last h (by unfold mkS; rfl) (fun _ _ _ => by unfold rS; rfl)
  | .stop l, m, ends, R, lb, le, h, hl, hi, hp => FinM.one ss fr bg last h (by unfold mkS; rfl) (fun _ _ _ => by unfold rS; rfl)
theorem fin_B {lp : Prop} : ∀ (b : List Sm) {m : Mk} {ends : List Int} {R : List Rw} {lb : Nat} {le : Int}, FinR m.rows R (pnd bg last m ends) → m.loops.length = ends.length → inLps lp b → (lp → (∃ lv r, m.loops = (lb, lv) :: r) ∧ ∃ es, ends = le :: es) →
    FinM bg last m (mkB ss fr m b) ends (R ++ rB ss fr bg last lb le m.rows.length b)
  | [], m, ends, R, lb, le, h, hl, hi, hp => by
    unfold mkB rB
    rw [List.append_nil]
    exact ⟨h, fun x hx => .inl hx, rfl⟩
  | s :: t, m, ends, R, lb, le, h, hl, hi, hp => by
    unfold mkB rB
    unfold inLps at hi
    have h1 := FinM.add bg last h [.tick s.line]
    have hlen : (m.add [.tick s.line]).rows.length = m.rows.length + 1 := by rw [add_rows]; rfl
    have hlp : (m.add [.tick s.line]).loops = m.loops := rfl
    generalize m.add [.tick s.line] = m1 at h1 hlen hlp ⊢
    have h2 := fin_S (lp := lp) s (m := m1) (lb := lb) (le := le) h1.fin (by rw [hlp]; exact hl) hi.1 (fun q => by rw [hlp]; exact hp q)
    have hl2 := (mkS_keeps ss fr s m1).ext.len
    have hb := h2.fin.len
    rw [List.length_append, rS_len, h1.fin.len] at hb
    generalize mkS ss fr m1 s = m2 at h2 hl2 hb ⊢
    have h3 := fin_B (lp := lp) t (m := m2) (lb := lb) (le := le) h2.fin (by rw [lps_len h2.lps, hlp]; exact hl) hi.2 (fun q => by
      obtain ⟨⟨lv, r, e1⟩, e2⟩ := hp q
      exact ⟨lps_hd h2.lps (by rw [hlp]; exact e1), e2⟩)
    have h12 := FinM.trans bg last (by omega) h1 h2
    have h123 := FinM.trans bg last (by omega) h12 h3
    rw [← hb, hlen] at h123
    rw [show R ++ (Rw.tick s.line :: rS ss fr bg last lb le (m.rows.length + 1) s ++ rB ss fr bg last lb le (m.rows.length + 1 + szS s) t) = R ++ [Rw.tick s.line] ++ rS ss fr bg last lb le (m.rows.length + 1) s ++ rB ss fr bg last lb le (m.rows.length + 1 + szS s) t by simp only [List.append_assoc, List.cons_append, List.nil_append]]
    exact h123
end
end
/-! a def's rows, a program's rows -/
def defR (bg : Str → Int) (pos : Nat) (o : Df) : List Rw := rB (slotsF o) ((slotsF o).length + 1) bg (pos + szB o.body : Nat) 0 0 pos o.body ++ [.back o.last]
def allR (bg : Str → Int) : Nat → Pg → List Rw
  | _, [] => []
  | pos, o :: t => defR bg pos o ++ allR bg (pos + szB o.body + 1) t
def begs : Nat → Pg → List (Str × Nat)
  | _, [] => []
  | pos, o :: t => (o.name, pos) :: begs (pos + szB o.body + 1) t
def callP (bg : Str → Int) (m : Mk) : List (Nat × Int) := m.calls.map fun c => (c.1, bg c.2)
theorem defR_len {bg : Str → Int} {pos : Nat} {o : Df} : (defR bg pos o).length = szB o.body + 1 := by unfold defR; rw [List.length_append, rB_len]; rfl
theorem fin_def {bg : Str → Int} {m : Mk} {R : List Rw} {o : Df} (h : FinR m.rows R (callP bg m)) (hl : m.loops = []) (ho : inLps False o.body) :
    FinR (mkDef m o).rows (R ++ defR bg m.rows.length o) (callP bg (mkDef m o)) ∧ (mkDef m o).loops = [] ∧ (mkDef m o).rows.length = m.rows.length + (szB o.body + 1) := by
  rw [mkDef_eq]
  have h1 := fin_B (slotsF o) ((slotsF o).length + 1) bg (m.rows.length + szB o.body : Nat) (lp := False) o.body (m := ⟨m.rows, m.calls, [], m.loops⟩) (ends := []) (R := R) (lb := 0) (le := 0) (h.mem fun x => by
    unfold pnd callP
    dsimp only
    rw [hl]
    simp [zl]) (by rw [hl]; rfl) ho (fun q => q.elim)
  have hb := h1.fin.len
  rw [List.length_append, rB_len, h.len] at hb
  generalize mkB (slotsF o) ((slotsF o).length + 1) ⟨m.rows, m.calls, [], m.loops⟩ o.body = m1 at h1 hb ⊢
  have hl1 : m1.loops = [] := by
    have := h1.lps
    rw [show (⟨m.rows, m.calls, [], m.loops⟩ : Mk).loops = m.loops from rfl, hl] at this
    exact List.map_eq_nil_iff.mp this
  have hrest := leads_rest (ks := m1.leaves) (m := m1)
  have hrows := leads_rows (ks := m1.leaves) (m := m1)
  rw [leadsT] at hrows
  refine ⟨?_, hrest.2.2.trans hl1, by rw [add_rows, leads_len, ← hb]; rfl⟩
  have h2 := (h1.fin.mem (qs := (m1.leaves.map fun k => (k, (m1.rows.length : Int))) ++ callP bg m1) fun x => by
    unfold pnd callP
    rw [hl1, show ((m.rows.length + szB o.body : Nat) : Int) = (m1.rows.length : Int) by rw [← hb]]
    simp only [List.mem_append, zl]
    grind).dones.add [.back o.last]
  rw [← hrows, List.append_assoc] at h2
  have e : callP bg ((m1.leads m1.leaves).add [.back o.last]) = callP bg m1 := by
    show ((m1.leads m1.leaves).calls.map _) = _
    rw [hrest.1]; rfl
  rw [e]
  exact h2
theorem fin_all {bg : Str → Int} : ∀ {os : Pg} {s : Mk × List (Str × Nat)} {R : List Rw}, FinR s.1.rows R (callP bg s.1) → s.1.loops = [] → (∀ o ∈ os, inLps False o.body) →
    FinR (os.foldl mkStep s).1.rows (R ++ allR bg s.1.rows.length os) (callP bg (os.foldl mkStep s).1) ∧ (os.foldl mkStep s).2 = s.2 ++ begs s.1.rows.length os
  | [], s, R, h, hl, ho => by
    unfold allR begs
    rw [List.append_nil, List.append_nil]
    exact ⟨h, rfl⟩
  | o :: t, s, R, h, hl, ho => by
    obtain ⟨h1, h2, h3⟩ := fin_def h hl (ho o (List.mem_cons_self ..))
    obtain ⟨h4, h5⟩ := fin_all (os := t) (s := mkStep s o) h1 h2 fun x hx => ho x (List.mem_cons_of_mem _ hx)
    rw [List.foldl_cons]
    unfold allR begs
    rw [show (mkStep s o).1.rows.length = s.1.rows.length + szB o.body + 1 from h3] at h4 h5
    rw [List.append_assoc] at h4
    refine ⟨h4, ?_⟩
    rw [h5]
    show s.2 ++ [_] ++ _ = _
    rw [List.append_assoc]
    rfl
theorem rows_all {pg : Pg} (h : ∀ o ∈ pg, inLps False o.body) : rowsF pg = allR (beginOf (begs 0 (mainFirst pg))) 0 (mainFirst pg) := by
  have h0 : ∀ bg, FinR ([] : List Rw) [] (callP bg ⟨[], [], [], []⟩) := fun bg => ⟨rfl, fun k t hk => (by cases hk), fun k hk => rfl⟩
  have h1 := fun bg => fin_all (bg := bg) (os := mainFirst pg) (s := (⟨[], [], [], []⟩, [])) (h0 bg) rfl fun o ho => h o (first_mem.mp ho)
  have e2 : (mkAll (mainFirst pg)).2 = begs 0 (mainFirst pg) := (h1 fun _ => 0).2
  obtain ⟨h2, _⟩ := h1 (beginOf (begs 0 (mainFirst pg)))
  rw [List.nil_append] at h2
  have h3 := (h2.mem (qs := callP (beginOf (begs 0 (mainFirst pg))) ((mainFirst pg).foldl mkStep (⟨[], [], [], []⟩, [])).1 ++ []) fun x => by rw [List.append_nil]).dones.eq
  have e3 : allR (beginOf (begs 0 (mainFirst pg))) 0 (mainFirst pg) = _ := h3
  rw [e3]
  unfold rowsF
  dsimp only
  rw [e2]
  unfold callP
  rw [List.foldl_map]
  rfl
end Tl
set_option maxHeartbeats 2000000
namespace Tl
open PySem PySem.Spec PyProof.Rows L2
/-! ### k37: rows beside thinned rows -/
structure Zi where
  r : Rw
  r2 : Option Rw
  f : Option Fo
  f2 : Option Fo
def zR (Z : List Zi) : List Rw := Z.map (·.r)
def zR2 (Z : List Zi) : List Rw := Z.filterMap (·.r2)
def zF (Z : List Zi) : List Fo := Z.filterMap (·.f)
def zF2 (Z : List Zi) : List Fo := Z.filterMap (·.f2)
def psi (Z : List Zi) (k : Nat) : Nat := (zR2 (Z.take k)).length
def kept (Z : List Zi) (k : Nat) : Prop := ∃ z r', Z[k]? = some z ∧ z.r2 = some r'
def plR : Rw → Prop
  | .num .. => True | .copy .. => True | .sign .. => True | .op .. => True | .get .. => True | .tick _ => True | .put .. => True | .tell .. => True | .stop _ => True
  | _ => False
def ctl (Z : List Zi) : Rw → Rw → Prop
  | .join .., b => (match b with | .join .. => True | _ => False)
  | .meet _, b => (match b with | .meet _ => True | _ => False)
  | .back _, b => (match b with | .back _ => True | _ => False)
  | .call _ _ _ _ t, b => (match b with | .call _ _ _ _ t2 => ∃ n : Nat, t = n ∧ t2 = (psi Z n : Nat) ∧ kept Z n | _ => False)
  | .jump _ t, b => (match b with | .jump _ t2 => ∃ n : Nat, t = n ∧ t2 = (psi Z n : Nat) | _ => False)
  | .split _ _ t, b => (match b with | .split _ _ t2 => ∃ n : Nat, t = n ∧ t2 = (psi Z n : Nat) | _ => False)
  | _, b => plR b
structure okZ (Z : List Zi) (L : List Int) (z : Zi) : Prop where
  gone : z.r2 = none → plR z.r ∧ z.f2 = none
  kept : ∀ r', z.r2 = some r' → ctl Z z.r r'
  f : z.f.isSome = z.r.isTch
  f2 : ∀ r', z.r2 = some r' → z.f2.isSome = r'.isTch
  same : ∀ r', z.r2 = some r' → ∀ f, z.f2 = some f → z.f = some f ∧ z.r.isPut = r'.isPut ∧ z.r.line = r'.line
  stay : z.r.line ∉ L → ∃ r', z.r2 = some r' ∧ z.f2 = z.f ∧ z.r.isPut = r'.isPut ∧ z.r.line = r'.line
structure Thin (Z : List Zi) (L : List Int) : Prop where
  ok : ∀ z ∈ Z, okZ Z L z
  first : kept Z 0
  last : ∃ k z l, Z.length = k + 1 ∧ Z[k]? = some z ∧ z.r = .back l
  aft : ∀ k z l, Z[k]? = some z → z.r = .back l → k + 1 < Z.length → kept Z (k + 1)
section
variable {Z : List Zi} {L : List Int}
theorem zR2_app {A B : List Zi} : zR2 (A ++ B) = zR2 A ++ zR2 B := List.filterMap_append ..
theorem zR_app {A B : List Zi} : zR (A ++ B) = zR A ++ zR B := List.map_append ..
theorem zF_app {A B : List Zi} : zF (A ++ B) = zF A ++ zF B := List.filterMap_append ..
theorem zF2_app {A B : List Zi} : zF2 (A ++ B) = zF2 A ++ zF2 B := List.filterMap_append ..
theorem psi_succ {k : Nat} {z : Zi} (h : Z[k]? = some z) : psi Z (k + 1) = psi Z k + (if z.r2.isSome = true then 1 else 0) := by
  unfold psi
  rw [List.take_add_one, h, zR2_app, List.length_append]
  cases e : z.r2 with
  | none => simp [zR2, e]
  | some r => simp [zR2, e]
theorem psi_kept {k : Nat} (h : kept Z k) : psi Z (k + 1) = psi Z k + 1 := by
  obtain ⟨z, r', h1, h2⟩ := h
  rw [psi_succ h1, h2]
  rfl
theorem psi_at {k : Nat} {z : Zi} {r' : Rw} (h1 : Z[k]? = some z) (h2 : z.r2 = some r') : (zR2 Z)[psi Z k]? = some r' := by
  obtain ⟨hk, hz⟩ := List.getElem?_eq_some_iff.mp h1
  have e : Z = Z.take k ++ z :: Z.drop (k + 1) := by
    rw [← hz, ← List.drop_eq_getElem_cons hk, List.take_append_drop]
  have e2 : zR2 Z = zR2 (Z.take k) ++ r' :: zR2 (Z.drop (k + 1)) := by
    conv => lhs; rw [e]
    rw [zR2_app]
    simp [zR2, h2]
  unfold psi
  rw [e2, List.getElem?_append_right (Nat.le_refl _), Nat.sub_self]
  rfl
theorem psi_le {a b : Nat} (h : a ≤ b) : psi Z a ≤ psi Z b := by
  unfold psi
  rw [← Nat.add_sub_cancel' h, List.take_add, zR2_app, List.length_append]
  omega
theorem psi_inj {a b : Nat} (ha : kept Z a) (hb : kept Z b) (h : psi Z a = psi Z b) : a = b := by
  rcases Nat.lt_trichotomy a b with c | c | c
  · have := psi_le (Z := Z) (show a + 1 ≤ b from c)
    rw [psi_kept ha] at this
    omega
  · exact c
  · have := psi_le (Z := Z) (show b + 1 ≤ a from c)
    rw [psi_kept hb] at this
    omega
theorem psi_all : psi Z Z.length = (zR2 Z).length := by unfold psi; rw [List.take_length]
theorem kept_of {j : Nat} (h : j < (zR2 Z).length) : ∃ k, kept Z k ∧ psi Z k = j := by
  have key : ∀ n, n ≤ Z.length → j < psi Z n → ∃ k, kept Z k ∧ psi Z k = j := fun n => by
    induction n with
    | zero => intro _ q; unfold psi at q; simp [zR2] at q
    | succ n ih =>
      intro hn q
      obtain ⟨z, hz⟩ : ∃ z, Z[n]? = some z := ⟨_, List.getElem?_eq_getElem (by omega)⟩
      by_cases c : j < psi Z n
      · exact ih (by omega) c
      · rw [psi_succ hz] at q
        cases e : z.r2 with
        | none => rw [e] at q; simp at q; omega
        | some r' =>
          rw [e] at q
          exact ⟨n, ⟨z, r', hz, e⟩, by simp at q; omega⟩
  exact key Z.length (Nat.le_refl _) (by rw [psi_all]; exact h)
/-! ways -/
def goesTo (rows : List Rw) (k : Nat) (r : Rw) (y : Nat) : Prop := match r with
  | .join .. => False
  | .meet _ => False
  | .call _ _ _ _ t => y = t.toNat
  | .back _ => y ∈ bhN rows (fstR rows k)
  | .jump _ t => y = t.toNat
  | .split _ _ t => y = k + 1 ∨ y = t.toNat
  | _ => y = k + 1
theorem mem_on {rows : List Rw} {k y : Nat} : y ∈ onR rows k ↔ ∃ r, rows[k]? = some r ∧ goesTo rows k r y := by
  unfold onR
  cases e : rows[k]? with
  | none => simp
  | some r =>
    have key : y ∈ (match (some r : Option Rw) with
      | some (.join _ _ _ _) => []
      | some (.meet _) => []
      | some (.call _ _ _ _ t) => [t.toNat]
      | some (.back _) => bhN rows (fstR rows k)
      | some _ => nxR rows k
      | none => []) ↔ goesTo rows k r y := by
      have hn : ∀ q : List Int, nextF r k = q → (y ∈ nxR rows k ↔ y ∈ q.map Int.toNat) := fun q hq => by unfold nxR; rw [e]; dsimp only; rw [hq]
      have one : nextF r k = [(k : Int) + 1] → (y ∈ nxR rows k ↔ y = k + 1) := fun q => by rw [hn _ q]; simp only [List.map_cons, List.map_nil, List.mem_singleton]; omega
      cases r
      case split l f t =>
        show y ∈ nxR rows k ↔ (y = k + 1 ∨ y = t.toNat)
        rw [hn _ next_split]
        split
        · rename_i q; subst q; simp only [List.map_cons, List.map_nil, List.mem_singleton]; omega
        · split <;> (simp only [List.map_cons, List.map_nil, List.mem_cons, List.not_mem_nil, or_false]; omega)
      case jump l t =>
        show y ∈ nxR rows k ↔ y = t.toNat
        rw [hn [t] rfl, List.map_singleton, List.mem_singleton]
      case back l => exact Iff.rfl
      case call => show y ∈ [_] ↔ _; simp [goesTo]
      case join => show y ∈ [] ↔ False; simp
      case meet => show y ∈ [] ↔ False; simp
      all_goals exact one rfl
    constructor
    · intro h; exact ⟨r, rfl, key.mp h⟩
    · rintro ⟨r', h1, h2⟩
      cases h1
      exact key.mpr h2
theorem pl_goes {rows : List Rw} {k y : Nat} {r : Rw} (h : plR r) : goesTo rows k r y ↔ y = k + 1 := by cases r <;> first | exact h.elim | exact Iff.rfl
theorem zR_get {k : Nat} : (zR Z)[k]? = (Z[k]?).map (·.r) := List.getElem?_map ..
theorem bk_pl {r : Rw} (h : plR r) : isBk r = false := by cases r <;> first | exact h.elim | rfl
theorem ctl_bk {a b : Rw} (h : ctl Z a b) : isBk b = isBk a := by
  cases a <;> cases b <;> first | rfl | exact h.elim
theorem fst_psi (hT : Thin Z L) : ∀ k, k ≤ Z.length → fstR (zR2 Z) (psi Z k) = psi Z (fstR (zR Z) k)
  | 0, _ => by
    have : psi Z 0 = 0 := by unfold psi; simp [zR2]
    rw [this]
    show fstR _ 0 = psi Z (fstR _ 0)
    unfold fstR
    exact this.symm
  | k + 1, hk => by
    have ih := fst_psi hT k (by omega)
    obtain ⟨z, hz⟩ : ∃ z, Z[k]? = some z := ⟨_, List.getElem?_eq_getElem (by omega)⟩
    have ok := hT.ok z (List.mem_of_getElem? hz)
    have hb : bkR (zR Z) k = isBk z.r := bk_at (by rw [zR_get, hz]; rfl)
    show _ = psi Z (if bkR (zR Z) k = true then k + 1 else fstR (zR Z) k)
    rw [hb]
    cases e : z.r2 with
    | none =>
      rw [psi_succ hz, e, bk_pl (ok.gone e).1]
      exact ih
    | some r' =>
      have hb2 : bkR (zR2 Z) (psi Z k) = isBk z.r := by rw [bk_at (psi_at hz e), ctl_bk (ok.kept r' e)]
      rw [psi_kept ⟨z, r', hz, e⟩]
      show (if bkR (zR2 Z) (psi Z k) = true then psi Z k + 1 else fstR (zR2 Z) (psi Z k)) = _
      rw [hb2]
      split
      · rw [psi_kept ⟨z, r', hz, e⟩]
      · exact ih
theorem fst_kept (hT : Thin Z L) : ∀ k, k < Z.length → kept Z (fstR (zR Z) k)
  | 0, _ => hT.first
  | k + 1, hk => by
    have ih := fst_kept hT k (by omega)
    obtain ⟨z, hz⟩ : ∃ z, Z[k]? = some z := ⟨_, List.getElem?_eq_getElem (by omega)⟩
    have hb : bkR (zR Z) k = isBk z.r := bk_at (by rw [zR_get, hz]; rfl)
    show kept Z (if bkR (zR Z) k = true then k + 1 else fstR (zR Z) k)
    rw [hb]
    split
    · rename_i q
      obtain ⟨l, hl⟩ : ∃ l, z.r = .back l := by cases e : z.r <;> rw [e] at q <;> first | exact ⟨_, rfl⟩ | cases q
      exact hT.aft k z l hz hl hk
    · exact ih
theorem mem_bh {rows : List Rw} {b y : Nat} : y ∈ bhN rows b ↔ ∃ j l a f m, rows[j]? = some (.call l a f m (b : Int)) ∧ y = j + 1 := by
  unfold bhN bhUp
  rw [List.mem_map]
  constructor
  · rintro ⟨j, hj, rfl⟩
    obtain ⟨h1, h2⟩ := List.mem_filter.mp hj
    unfold callTo at h2
    cases e : rows[j]? with
    | none => rw [e] at h2; cases h2
    | some r =>
      rw [e] at h2
      cases r <;> first | (cases h2; done) | skip
      rename_i l a f m t
      have : t = (b : Int) := of_decide_eq_true h2
      subst this
      exact ⟨j, l, a, f, m, e, rfl⟩
  · rintro ⟨j, l, a, f, m, e, rfl⟩
    refine ⟨j, List.mem_filter.mpr ⟨List.mem_range.mpr (List.getElem?_eq_some_iff.mp e).1, ?_⟩, rfl⟩
    unfold callTo
    rw [e]
    exact decide_eq_true rfl
/-- a step of the rows is a step of the thinned ones, or none -/
theorem step_fwd (hT : Thin Z L) {x y : Nat} (h : y ∈ onR (zR Z) x) : psi Z y = psi Z x ∨ psi Z y ∈ onR (zR2 Z) (psi Z x) := by
  obtain ⟨r, hr, hg⟩ := mem_on.mp h
  rw [zR_get] at hr
  obtain ⟨z, hz, rfl⟩ := Option.map_eq_some_iff.mp hr
  have hx : x < Z.length := (List.getElem?_eq_some_iff.mp hz).1
  have ok := hT.ok z (List.mem_of_getElem? hz)
  cases e : z.r2 with
  | none =>
    left
    rw [pl_goes (ok.gone e).1] at hg
    rw [hg, psi_succ hz, e]
    rfl
  | some r' =>
    right
    have hc := ok.kept r' e
    have hk : kept Z x := ⟨z, r', hz, e⟩
    refine mem_on.mpr ⟨r', psi_at hz e, ?_⟩
    cases hzr : z.r <;> rw [hzr] at hg hc
    case join => exact hg.elim
    case meet => exact hg.elim
    case call =>
      cases r' <;> first | exact hc.elim | skip
      obtain ⟨n, rfl, rfl, _⟩ := hc
      have hg : y = ((n : Nat) : Int).toNat := hg
      rw [Int.toNat_natCast] at hg
      show psi Z y = ((psi Z n : Nat) : Int).toNat
      rw [Int.toNat_natCast, hg]
    case jump =>
      cases r' <;> first | exact hc.elim | skip
      obtain ⟨n, rfl, rfl⟩ := hc
      have hg : y = ((n : Nat) : Int).toNat := hg
      rw [Int.toNat_natCast] at hg
      show psi Z y = ((psi Z n : Nat) : Int).toNat
      rw [Int.toNat_natCast, hg]
    case split =>
      cases r' <;> first | exact hc.elim | skip
      obtain ⟨n, rfl, rfl⟩ := hc
      have hg : y = x + 1 ∨ y = ((n : Nat) : Int).toNat := hg
      rw [Int.toNat_natCast] at hg
      show psi Z y = psi Z x + 1 ∨ psi Z y = ((psi Z n : Nat) : Int).toNat
      rw [Int.toNat_natCast]
      rcases hg with rfl | rfl
      · exact .inl (psi_kept hk)
      · exact .inr rfl
    case back =>
      cases r' <;> first | exact hc.elim | skip
      have hg : y ∈ bhN (zR Z) (fstR (zR Z) x) := hg
      show psi Z y ∈ bhN (zR2 Z) (fstR (zR2 Z) (psi Z x))
      rw [fst_psi hT x (by omega)]
      obtain ⟨j, l, a, f, m, hj, rfl⟩ := mem_bh.mp hg
      rw [zR_get] at hj
      obtain ⟨zj, hzj, hzr2⟩ := Option.map_eq_some_iff.mp hj
      have okj := hT.ok zj (List.mem_of_getElem? hzj)
      cases ej : zj.r2 with
      | none => have := (okj.gone ej).1; rw [hzr2] at this; exact this.elim
      | some rj =>
        have hcj := okj.kept rj ej
        rw [hzr2] at hcj
        cases rj <;> first | exact hcj.elim | skip
        obtain ⟨n, h1, rfl, _⟩ := hcj
        have : n = fstR (zR Z) x := by omega
        subst this
        exact mem_bh.mpr ⟨psi Z j, _, _, _, _, psi_at hzj ej, psi_kept ⟨zj, _, hzj, ej⟩⟩
    all_goals
      have hp : plR r' := hc
      rw [pl_goes hp]
      have hg : y = x + 1 := hg
      rw [hg]
      exact psi_kept hk
theorem way_fwd (hT : Thin Z L) {s k : Nat} (h : OnW (zR Z) s k) : OnW (zR2 Z) (psi Z s) (psi Z k) := by
  obtain ⟨n, h⟩ := h
  induction h with
  | here _ => exact ⟨0, .here trivial⟩
  | step _ hj _ ih =>
    rcases step_fwd hT hj with q | q
    · rw [← q]; exact ih
    · obtain ⟨m, ih⟩ := ih
      exact ⟨m + 1, .step trivial q ih⟩
/-- on to the next row that is kept -/
theorem on_kept (hT : Thin Z L) : ∀ (d x : Nat), Z.length - x = d → x < Z.length → ∃ y, kept Z y ∧ psi Z y = psi Z x ∧ OnW (zR Z) x y
  | 0, x, hd, hx => by omega
  | d + 1, x, hd, hx => by
    obtain ⟨z, hz⟩ : ∃ z, Z[x]? = some z := ⟨_, List.getElem?_eq_getElem hx⟩
    have ok := hT.ok z (List.mem_of_getElem? hz)
    cases e : z.r2 with
    | some r' => exact ⟨x, ⟨z, r', hz, e⟩, rfl, 0, .here trivial⟩
    | none =>
      have hp := (ok.gone e).1
      have hx1 : x + 1 < Z.length := by
        obtain ⟨k, zl, l, h1, h2, h3⟩ := hT.last
        rcases Nat.lt_or_ge (x + 1) Z.length with c | c
        · exact c
        · have : x = k := by omega
          subst this
          rw [hz] at h2
          cases h2
          rw [h3] at hp
          exact hp.elim
      obtain ⟨y, h1, h2, m, h3⟩ := on_kept hT d (x + 1) (by omega) hx1
      have hs : psi Z (x + 1) = psi Z x := by rw [psi_succ hz, e]; rfl
      refine ⟨y, h1, by rw [h2, hs], m + 1, .step trivial (mem_on.mpr ⟨z.r, by rw [zR_get, hz]; rfl, (pl_goes hp).mpr rfl⟩) h3⟩
theorem step_back (hT : Thin Z L) {x j : Nat} (hk : kept Z x) (h : j ∈ onR (zR2 Z) (psi Z x)) : ∃ y, y ∈ onR (zR Z) x ∧ psi Z y = j := by
  obtain ⟨z, r', hz, e⟩ := hk
  have hx : x < Z.length := (List.getElem?_eq_some_iff.mp hz).1
  have ok := hT.ok z (List.mem_of_getElem? hz)
  have hc := ok.kept r' e
  obtain ⟨r2, hr2, hg⟩ := mem_on.mp h
  rw [psi_at hz e] at hr2
  cases hr2
  have hzR : (zR Z)[x]? = some z.r := by rw [zR_get, hz]; rfl
  have hk : kept Z x := ⟨z, r', hz, e⟩
  cases hzr : z.r <;> rw [hzr] at hc hzR
  case join => cases r' <;> first | exact hc.elim | exact hg.elim
  case meet => cases r' <;> first | exact hc.elim | exact hg.elim
  case call =>
    cases r' <;> first | exact hc.elim | skip
    obtain ⟨n, rfl, rfl, _⟩ := hc
    have hg : j = ((psi Z n : Nat) : Int).toNat := hg
    rw [Int.toNat_natCast] at hg
    exact ⟨n, mem_on.mpr ⟨_, hzR, show n = ((n : Nat) : Int).toNat by rw [Int.toNat_natCast]⟩, hg.symm⟩
  case jump =>
    cases r' <;> first | exact hc.elim | skip
    obtain ⟨n, rfl, rfl⟩ := hc
    have hg : j = ((psi Z n : Nat) : Int).toNat := hg
    rw [Int.toNat_natCast] at hg
    exact ⟨n, mem_on.mpr ⟨_, hzR, show n = ((n : Nat) : Int).toNat by rw [Int.toNat_natCast]⟩, hg.symm⟩
  case split =>
    cases r' <;> first | exact hc.elim | skip
    obtain ⟨n, rfl, rfl⟩ := hc
    have hg : j = psi Z x + 1 ∨ j = ((psi Z n : Nat) : Int).toNat := hg
    rw [Int.toNat_natCast] at hg
    rcases hg with rfl | rfl
    · exact ⟨x + 1, mem_on.mpr ⟨_, hzR, .inl rfl⟩, psi_kept hk⟩
    · exact ⟨n, mem_on.mpr ⟨_, hzR, .inr (by rw [Int.toNat_natCast])⟩, rfl⟩
  case back =>
    cases r' <;> first | exact hc.elim | skip
    have hg : j ∈ bhN (zR2 Z) (fstR (zR2 Z) (psi Z x)) := hg
    rw [fst_psi hT x (by omega)] at hg
    obtain ⟨i, l, a, f, m, hi, rfl⟩ := mem_bh.mp hg
    obtain ⟨y, hy, rfl⟩ := kept_of (List.getElem?_eq_some_iff.mp hi).1
    obtain ⟨zy, ry, hzy, ey⟩ := hy
    have oky := hT.ok zy (List.mem_of_getElem? hzy)
    rw [psi_at hzy ey] at hi
    cases hi
    have hcy := oky.kept _ ey
    cases hzry : zy.r <;> rw [hzry] at hcy <;> first | exact hcy.elim | skip
    obtain ⟨n, rfl, h2, hn⟩ := hcy
    have hn2 : n = fstR (zR Z) x := psi_inj hn (fst_kept hT x hx) (by omega)
    subst hn2
    refine ⟨y + 1, mem_on.mpr ⟨_, hzR, ?_⟩, psi_kept ⟨zy, _, hzy, ey⟩⟩
    exact mem_bh.mpr ⟨y, _, _, _, _, by rw [zR_get, hzy, Option.map_some, hzry], rfl⟩
  all_goals
    have hp : plR r' := hc
    rw [pl_goes hp] at hg
    exact ⟨x + 1, mem_on.mpr ⟨_, hzR, rfl⟩, by rw [hg]; exact psi_kept hk⟩
theorem way_back (hT : Thin Z L) (hlow : ∀ x, ∀ y ∈ onR (zR Z) x, y < Z.length) {s j : Nat} (hs : s < Z.length) (h : OnW (zR2 Z) (psi Z s) j) : ∃ x, kept Z x ∧ psi Z x = j ∧ OnW (zR Z) s x := by
  have key : ∀ n a, WayN (onR (zR2 Z)) (fun _ => True) n a j → ∀ x, kept Z x → psi Z x = a → OnW (zR Z) s x → ∃ x, kept Z x ∧ psi Z x = j ∧ OnW (zR Z) s x := fun n => by
    induction n with
    | zero =>
      intro a w x hx hp hw
      cases w
      exact ⟨x, hx, hp, hw⟩
    | succ n ih =>
      intro a w x hx hp hw
      cases w with
      | step _ hj w =>
        rw [← hp] at hj
        obtain ⟨y, hy, hpy⟩ := step_back hT hx hj
        have hyl := hlow x y hy
        obtain ⟨y2, k1, k2, k3⟩ := on_kept hT _ y rfl hyl
        obtain ⟨m, hw⟩ := hw
        obtain ⟨m3, k3⟩ := k3
        exact ih _ w y2 k1 (by rw [k2, hpy]) ⟨_, (hw.snoc hy trivial).app k3⟩
  obtain ⟨y, k1, k2, k3⟩ := on_kept hT _ s rfl hs
  obtain ⟨n, h⟩ := h
  exact key n _ h y k1 k2 k3
/-! touches -/
theorem ev_zip : ∀ {W : List (Rw × Option Fo)}, (∀ w ∈ W, w.2.isSome = w.1.isTch) → evR (W.map (·.1)) (W.filterMap (·.2)) = W.map fun w => (w.1.isMt, w.2.map fun f => ⟨w.1.isPut, w.1.line, f⟩)
  | [], _ => rfl
  | w :: t, h => by
    have hw := h w (List.mem_cons_self ..)
    have ih := ev_zip fun x hx => h x (List.mem_cons_of_mem _ hx)
    rw [List.map_cons, List.map_cons, List.filterMap_cons, evR_cons]
    cases e : w.2 with
    | none =>
      rw [e] at hw
      rw [← hw, if_neg (by simp)]
      dsimp only
      rw [ih]
      rfl
    | some f =>
      rw [e] at hw
      rw [← hw, if_pos (by rfl)]
      dsimp only
      rw [ih]
      rfl
theorem tch_z (hT : Thin Z L) {k : Nat} {t : Tc} : (k, t) ∈ tchR (zR Z) (zF Z) ↔ ∃ z f, Z[k]? = some z ∧ z.f = some f ∧ t = ⟨z.r.isPut, z.r.line, f⟩ := by
  have e := ev_zip (W := Z.map fun z => (z.r, z.f)) fun w hw => by
    obtain ⟨z, hz, rfl⟩ := List.mem_map.mp hw
    exact (hT.ok z hz).f
  rw [List.map_map, List.map_map, List.filterMap_map] at e
  rw [tch_ev, show evR (zR Z) (zF Z) = _ from e]
  simp only [List.getElem?_map]
  constructor
  · rintro ⟨b, h⟩
    obtain ⟨z, hz, q⟩ := Option.map_eq_some_iff.mp h
    have q2 := congrArg Prod.snd q
    dsimp only [Function.comp] at q2
    obtain ⟨f, hf, rfl⟩ := Option.map_eq_some_iff.mp q2
    exact ⟨z, f, hz, hf, rfl⟩
  · rintro ⟨z, f, hz, hf, rfl⟩
    refine ⟨z.r.isMt, ?_⟩
    rw [hz, Option.map_some]
    dsimp only [Function.comp]
    rw [hf]
    rfl
theorem tch_z2 (hT : Thin Z L) {j : Nat} {t : Tc} : (j, t) ∈ tchR (zR2 Z) (zF2 Z) ↔ ∃ k z r' f, Z[k]? = some z ∧ z.r2 = some r' ∧ psi Z k = j ∧ z.f2 = some f ∧ t = ⟨r'.isPut, r'.line, f⟩ := by
  let W : List (Rw × Option Fo) := Z.filterMap fun z => z.r2.map fun r => (r, z.f2)
  have hW : ∀ A : List Zi, (A.filterMap fun z => z.r2.map fun r => ((r, z.f2) : Rw × Option Fo)).map (·.1) = zR2 A := fun A => by
    induction A with
    | nil => rfl
    | cons z t ih =>
      unfold zR2 at ih ⊢
      rw [List.filterMap_cons, List.filterMap_cons]
      cases e : z.r2 with
      | none => exact ih
      | some r => dsimp only [Option.map_some]; rw [List.map_cons, ih]
  have hF : ∀ A : List Zi, (∀ z ∈ A, okZ Z L z) → (A.filterMap fun z => z.r2.map fun r => ((r, z.f2) : Rw × Option Fo)).filterMap (·.2) = zF2 A := fun A => by
    induction A with
    | nil => intro _; rfl
    | cons z t ih =>
      intro h
      have ih := ih fun x hx => h x (List.mem_cons_of_mem _ hx)
      have ok := h z (List.mem_cons_self ..)
      unfold zF2 at ih ⊢
      rw [List.filterMap_cons, List.filterMap_cons]
      cases e : z.r2 with
      | none =>
        rw [(ok.gone e).2]
        exact ih
      | some r =>
        dsimp only [Option.map_some]
        rw [List.filterMap_cons, ih]
  have e := ev_zip (W := W) fun w hw => by
    obtain ⟨z, hz, q⟩ := List.mem_filterMap.mp hw
    obtain ⟨r, hr, rfl⟩ := Option.map_eq_some_iff.mp q
    exact (hT.ok z hz).f2 r hr
  rw [show W.map (·.1) = zR2 Z from hW Z, show W.filterMap (·.2) = zF2 Z from hF Z hT.ok] at e
  rw [tch_ev, e]
  simp only [List.getElem?_map]
  have hat : ∀ {k : Nat} {z : Zi} {r' : Rw}, Z[k]? = some z → z.r2 = some r' → W[psi Z k]? = some (r', z.f2) := fun {k z r'} h1 h2 => by
    obtain ⟨hk, hz⟩ := List.getElem?_eq_some_iff.mp h1
    have e : Z = Z.take k ++ z :: Z.drop (k + 1) := by
      rw [← hz, ← List.drop_eq_getElem_cons hk, List.take_append_drop]
    show (Z.filterMap fun z => z.r2.map fun r => ((r, z.f2) : Rw × Option Fo))[psi Z k]? = _
    have e3 : (Z.filterMap fun z => z.r2.map fun r => ((r, z.f2) : Rw × Option Fo)) = ((Z.take k ++ z :: Z.drop (k + 1)).filterMap fun z => z.r2.map fun r => ((r, z.f2) : Rw × Option Fo)) := by rw [← e]
    rw [e3]
    have hl : ((Z.take k).filterMap fun z => z.r2.map fun r => ((r, z.f2) : Rw × Option Fo)).length = psi Z k := by
      rw [← List.length_map (f := (·.1)), hW]; rfl
    rw [List.filterMap_append, List.getElem?_append_right (by omega), List.filterMap_cons, h2, hl, Nat.sub_self]
    rfl
  constructor
  · rintro ⟨b, h⟩
    obtain ⟨w, hw, q⟩ := Option.map_eq_some_iff.mp h
    have hj : j < (zR2 Z).length := by
      have := (List.getElem?_eq_some_iff.mp hw).1
      rw [← hW Z, List.length_map]; exact this
    obtain ⟨k, ⟨z, r', hz, hr⟩, rfl⟩ := kept_of hj
    rw [hat hz hr] at hw
    cases hw
    have q2 := congrArg Prod.snd q
    dsimp only at q2
    obtain ⟨f, hf, rfl⟩ := Option.map_eq_some_iff.mp q2
    exact ⟨k, z, r', f, hz, hr, rfl, hf, rfl⟩
  · rintro ⟨k, z, r', f, hz, hr, rfl, hf, rfl⟩
    refine ⟨r'.isMt, ?_⟩
    rw [hat hz hr, Option.map_some]
    dsimp only
    rw [hf]
    rfl
/-! starts -/
theorem mem_starts {rows : List Rw} {s : Nat} : s ∈ startsR rows ↔ s = 0 ∨ ∃ k r, rows[k]? = some r ∧ r.isMt = true ∧ s = k + 1 := by
  unfold startsR
  rw [List.mem_cons, List.mem_map]
  constructor
  · rintro (h | ⟨k, hk, rfl⟩)
    · exact .inl h
    · obtain ⟨h1, h2⟩ := List.mem_filter.mp hk
      unfold rowIs at h2
      cases e : rows[k]? with
      | none => rw [e] at h2; cases h2
      | some r => rw [e] at h2; exact .inr ⟨k, r, e, h2, rfl⟩
  · rintro (h | ⟨k, r, e, h2, rfl⟩)
    · exact .inl h
    · refine .inr ⟨k, List.mem_filter.mpr ⟨List.mem_range.mpr (List.getElem?_eq_some_iff.mp e).1, ?_⟩, rfl⟩
      unfold rowIs
      rw [e]
      exact h2
theorem ctl_mt {a b : Rw} (h : ctl Z a b) : b.isMt = a.isMt := by
  cases a <;> cases b <;> first | rfl | exact h.elim
theorem mt_pl {r : Rw} (h : plR r) : r.isMt = false := by cases r <;> first | exact h.elim | rfl
theorem start_fwd (hT : Thin Z L) {s : Nat} (h : s ∈ startsR (zR Z)) : psi Z s ∈ startsR (zR2 Z) ∧ s < Z.length := by
  rcases mem_starts.mp h with rfl | ⟨k, r, hr, hm, rfl⟩
  · obtain ⟨z, r', h1, h2⟩ := hT.first
    exact ⟨mem_starts.mpr (.inl (by unfold psi; simp [zR2])), (List.getElem?_eq_some_iff.mp h1).1⟩
  · rw [zR_get] at hr
    obtain ⟨z, hz, rfl⟩ := Option.map_eq_some_iff.mp hr
    have ok := hT.ok z (List.mem_of_getElem? hz)
    cases e : z.r2 with
    | none => rw [mt_pl (ok.gone e).1] at hm; cases hm
    | some r' =>
      refine ⟨mem_starts.mpr (.inr ⟨psi Z k, r', psi_at hz e, by rw [ctl_mt (ok.kept r' e)]; exact hm, psi_kept ⟨z, r', hz, e⟩⟩), ?_⟩
      have hk := (List.getElem?_eq_some_iff.mp hz).1
      obtain ⟨k2, z2, l, q1, q2, q3⟩ := hT.last
      rcases Nat.lt_or_ge (k + 1) Z.length with c | c
      · exact c
      · have : k = k2 := by omega
        subst this
        rw [hz] at q2
        cases q2
        rw [q3] at hm
        cases hm
theorem start_back (hT : Thin Z L) {j : Nat} (h : j ∈ startsR (zR2 Z)) : ∃ s ∈ startsR (zR Z), psi Z s = j := by
  rcases mem_starts.mp h with rfl | ⟨i, r, hr, hm, rfl⟩
  · exact ⟨0, mem_starts.mpr (.inl rfl), by unfold psi; simp [zR2]⟩
  · obtain ⟨k, ⟨z, r', hz, e⟩, rfl⟩ := kept_of (List.getElem?_eq_some_iff.mp hr).1
    rw [psi_at hz e] at hr
    cases hr
    have ok := hT.ok z (List.mem_of_getElem? hz)
    exact ⟨k + 1, mem_starts.mpr (.inr ⟨k, z.r, by rw [zR_get, hz]; rfl, by rw [← ctl_mt (ok.kept r e)]; exact hm, rfl⟩), psi_kept ⟨z, r, hz, e⟩⟩
/-- what the thinned rows could tell, the rows could -/
theorem thin_sub (hT : Thin Z L) (hlow : ∀ x, ∀ y ∈ onR (zR Z) x, y < Z.length) {p : Int × Int} (h : CouldR (zR2 Z) (zF2 Z) p) : CouldR (zR Z) (zF Z) p := by
  obtain ⟨j, hj, ⟨a, ta⟩, ha, ⟨b, tb⟩, hb, wa, wb, hc, hp⟩ := h
  obtain ⟨s, hs, rfl⟩ := start_back hT hj
  have hsl := (start_fwd hT hs).2
  obtain ⟨ka, za, ra, fa, h1, h2, rfl, h3, rfl⟩ := (tch_z2 hT).mp ha
  obtain ⟨kb, zb, rb, fb, g1, g2, rfl, g3, rfl⟩ := (tch_z2 hT).mp hb
  obtain ⟨q1, q2, q3⟩ := (hT.ok za (List.mem_of_getElem? h1)).same ra h2 fa h3
  obtain ⟨u1, u2, u3⟩ := (hT.ok zb (List.mem_of_getElem? g1)).same rb g2 fb g3
  have key : ∀ {k : Nat} {z : Zi} {r' : Rw}, Z[k]? = some z → z.r2 = some r' → OnW (zR2 Z) (psi Z s) (psi Z k) → OnW (zR Z) s k := fun {k z r'} e1 e2 w => by
    obtain ⟨x, x1, x2, x3⟩ := way_back hT hlow hsl w
    rw [← psi_inj x1 ⟨z, r', e1, e2⟩ x2]
    exact x3
  refine ⟨s, hs, (ka, ⟨za.r.isPut, za.r.line, fa⟩), (tch_z hT).mpr ⟨za, fa, h1, q1, rfl⟩, (kb, ⟨zb.r.isPut, zb.r.line, fb⟩), (tch_z hT).mpr ⟨zb, fb, g1, u1, rfl⟩, key h1 h2 wa, key g1 g2 wb, ?_, ?_⟩
  · rw [q2, q3, u2, u3]; exact hc
  · rw [q2, q3, u2, u3]; exact hp
/-- pairs of lines that were not turned stay -/
theorem thin_stay (hT : Thin Z L) {p : Int × Int} (h1 : p.1 ∉ L) (h2 : p.2 ∉ L) (h : CouldR (zR Z) (zF Z) p) : CouldR (zR2 Z) (zF2 Z) p := by
  obtain ⟨s, hs, ⟨a, ta⟩, ha, ⟨b, tb⟩, hb, wa, wb, hc, hp⟩ := h
  obtain ⟨za, fa, e1, e2, rfl⟩ := (tch_z hT).mp ha
  obtain ⟨zb, fb, g1, g2, rfl⟩ := (tch_z hT).mp hb
  have hl : za.r.line ∉ L ∧ zb.r.line ∉ L := by
    rw [hp] at h1 h2
    unfold prT at h1 h2
    dsimp only at h1 h2
    rw [Int.min_def] at h1
    rw [Int.max_def] at h2
    split at h1
    · rename_i q; rw [if_pos q] at h2; exact ⟨h1, h2⟩
    · rename_i q; rw [if_neg q] at h2; exact ⟨h2, h1⟩
  obtain ⟨ra, r1, r2, r3, r4⟩ := (hT.ok za (List.mem_of_getElem? e1)).stay hl.1
  obtain ⟨rb, u1, u2, u3, u4⟩ := (hT.ok zb (List.mem_of_getElem? g1)).stay hl.2
  refine ⟨psi Z s, (start_fwd hT hs).1, (psi Z a, ⟨ra.isPut, ra.line, fa⟩), (tch_z2 hT).mpr ⟨a, za, ra, fa, e1, r1, rfl, by rw [r2, e2], rfl⟩, (psi Z b, ⟨rb.isPut, rb.line, fb⟩), (tch_z2 hT).mpr ⟨b, zb, rb, fb, g1, u1, rfl, by rw [u2, g2], rfl⟩, way_fwd hT wa, way_fwd hT wb, ?_, ?_⟩
  · rw [← r3, ← r4, ← u3, ← u4]; exact hc
  · rw [← r3, ← r4, ← u3, ← u4]; exact hp
end
end Tl
set_option maxHeartbeats 2000000
namespace Tl
open PySem PySem.Spec PyProof.Rows L2
/-! ### k37: a program and its thinned one, row beside row -/
abbrev Tn := Int → Option (Option Str)
mutual
def thinS (tn : Tn) : Sm → Sm
  | .if1 l e b => .if1 l e (thinB tn b)
  | .if2 l e b c => .if2 l e (thinB tn b) (thinB tn c)
  | .whl l e b => .whl l e (thinB tn b)
  | .put l a b => (match tn l with
    | none => .put l a b
    | some none => .tell l b
    | some (some x) => .set l x b)
  | s => s
def thinB (tn : Tn) : List Sm → List Sm
  | [] => []
  | s :: t => thinS tn s :: thinB tn t
end
def thinD (tn : Tn) (o : Df) : Df := ⟨o.name, o.ps, thinB tn o.body, o.first, o.last⟩
def thinP (tn : Tn) (pg : Pg) : Pg := pg.map (thinD tn)
mutual
/-- the lines that are turned -/
def offS' (tn : Tn) : Sm → List Int
  | .if1 _ _ b => offB tn b
  | .if2 _ _ b c => offB tn b ++ offB tn c
  | .whl _ _ b => offB tn b
  | .put l _ _ => if (tn l).isSome = true then [l] else []
  | _ => []
def offB (tn : Tn) : List Sm → List Int
  | [] => []
  | s :: t => offS' tn s ++ offB tn t
end
/-! rows of expressions -/
def zE (ss ss2 : List Str) (l : Int) : Ex → Int → Int → List Zi
  | .num n, a, a2 => [⟨.num l a n, some (.num l a2 n), none, none⟩]
  | .nam x, a, a2 => [⟨.copy l a (slotOf ss x), some (.copy l a2 (slotOf ss2 x)), none, none⟩]
  | .lane, a, a2 => [⟨.sign l a .lane, some (.sign l a2 .lane), none, none⟩]
  | .lanes, a, a2 => [⟨.sign l a .lanes, some (.sign l a2 .lanes), none, none⟩]
  | .mine, a, a2 => [⟨.sign l a .mine, some (.sign l a2 .mine), none, none⟩]
  | .box e, a, a2 => zE ss ss2 l e a a2 ++ [⟨.get l a a, some (.get l a2 a2), some (formF e), some (formF e)⟩]
  | .op w x y, a, a2 => zE ss ss2 l x a a2 ++ zE ss ss2 l y (a + 1) (a2 + 1) ++ [⟨.op l a w a (a + 1), some (.op l a2 w a2 (a2 + 1)), none, none⟩]
def zEs (ss ss2 : List Str) (l : Int) : List Ex → Int → Int → List Zi
  | [], _, _ => []
  | e :: t, a, a2 => zE ss ss2 l e a a2 ++ zEs ss ss2 l t (a + 1) (a2 + 1)
/-- rows that are gone -/
def gE (ss : List Str) (l : Int) : Ex → Int → List Zi
  | .num n, a => [⟨.num l a n, none, none, none⟩]
  | .nam x, a => [⟨.copy l a (slotOf ss x), none, none, none⟩]
  | .lane, a => [⟨.sign l a .lane, none, none, none⟩]
  | .lanes, a => [⟨.sign l a .lanes, none, none, none⟩]
  | .mine, a => [⟨.sign l a .mine, none, none, none⟩]
  | .box e, a => gE ss l e a ++ [⟨.get l a a, none, some (formF e), none⟩]
  | .op w x y, a => gE ss l x a ++ gE ss l y (a + 1) ++ [⟨.op l a w a (a + 1), none, none, none⟩]
section
variable {ss ss2 : List Str} {l : Int}
theorem zE_R : ∀ {e : Ex} {a a2 : Int}, zR (zE ss ss2 l e a a2) = exRows ss l e a ∧ zR2 (zE ss ss2 l e a a2) = exRows ss2 l e a2 ∧ zF (zE ss ss2 l e a a2) = formsIn e ∧ zF2 (zE ss ss2 l e a a2) = formsIn e
  | .num _, _, _ => ⟨rfl, rfl, rfl, rfl⟩ | .nam _, _, _ => ⟨rfl, rfl, rfl, rfl⟩ | .lane, _, _ => ⟨rfl, rfl, rfl, rfl⟩ | .lanes, _, _ => ⟨rfl, rfl, rfl, rfl⟩ | .mine, _, _ => ⟨rfl, rfl, rfl, rfl⟩
  | .box e, a, a2 => by
    obtain ⟨h1, h2, h3, h4⟩ := zE_R (e := e) (a := a) (a2 := a2)
    unfold zE exRows formsIn
    rw [zR_app, zR2_app, zF_app, zF2_app, h1, h2, h3, h4]
    exact ⟨rfl, rfl, rfl, rfl⟩
  | .op w x y, a, a2 => by
    obtain ⟨h1, h2, h3, h4⟩ := zE_R (e := x) (a := a) (a2 := a2)
    obtain ⟨g1, g2, g3, g4⟩ := zE_R (e := y) (a := a + 1) (a2 := a2 + 1)
    unfold zE exRows formsIn
    rw [zR_app, zR2_app, zF_app, zF2_app, zR_app, zR2_app, zF_app, zF2_app, h1, h2, h3, h4, g1, g2, g3, g4]
    exact ⟨rfl, rfl, by simp [zF], by simp [zF2]⟩
theorem zEs_R : ∀ {es : List Ex} {a a2 : Int}, zR (zEs ss ss2 l es a a2) = exsRows ss l es a ∧ zR2 (zEs ss ss2 l es a a2) = exsRows ss2 l es a2 ∧ zF (zEs ss ss2 l es a a2) = es.flatMap formsIn ∧ zF2 (zEs ss ss2 l es a a2) = es.flatMap formsIn
  | [], _, _ => ⟨rfl, rfl, rfl, rfl⟩
  | e :: t, a, a2 => by
    obtain ⟨h1, h2, h3, h4⟩ := zE_R (ss := ss) (ss2 := ss2) (l := l) (e := e) (a := a) (a2 := a2)
    obtain ⟨g1, g2, g3, g4⟩ := zEs_R (es := t) (a := a + 1) (a2 := a2 + 1)
    unfold zEs exsRows
    rw [zR_app, zR2_app, zF_app, zF2_app, h1, h2, h3, h4, g1, g2, g3, g4, List.flatMap_cons]
    exact ⟨rfl, rfl, rfl, rfl⟩
theorem gE_R : ∀ {e : Ex} {a : Int}, zR (gE ss l e a) = exRows ss l e a ∧ zR2 (gE ss l e a) = [] ∧ zF (gE ss l e a) = formsIn e ∧ zF2 (gE ss l e a) = []
  | .num _, _ => ⟨rfl, rfl, rfl, rfl⟩ | .nam _, _ => ⟨rfl, rfl, rfl, rfl⟩ | .lane, _ => ⟨rfl, rfl, rfl, rfl⟩ | .lanes, _ => ⟨rfl, rfl, rfl, rfl⟩ | .mine, _ => ⟨rfl, rfl, rfl, rfl⟩
  | .box e, a => by
    obtain ⟨h1, h2, h3, h4⟩ := gE_R (e := e) (a := a)
    unfold gE exRows formsIn
    rw [zR_app, zR2_app, zF_app, zF2_app, h1, h2, h3, h4]
    exact ⟨rfl, rfl, rfl, rfl⟩
  | .op w x y, a => by
    obtain ⟨h1, h2, h3, h4⟩ := gE_R (e := x) (a := a)
    obtain ⟨g1, g2, g3, g4⟩ := gE_R (e := y) (a := a + 1)
    unfold gE exRows formsIn
    rw [zR_app, zR2_app, zF_app, zF2_app, zR_app, zR2_app, zF_app, zF2_app, h1, h2, h3, h4, g1, g2, g3, g4]
    exact ⟨rfl, rfl, by simp [zF], by simp [zF2]⟩
/-- a row that stays and needs no place -/
def stayZ (z : Zi) : Prop := ∃ r', z.r2 = some r' ∧ plR z.r ∧ plR r' ∧ z.f2 = z.f ∧ z.f.isSome = z.r.isTch ∧ z.r.isPut = r'.isPut ∧ z.r.line = r'.line ∧ r'.isTch = z.r.isTch
def goneZ (L : List Int) (z : Zi) : Prop := z.r2 = none ∧ plR z.r ∧ z.f2 = none ∧ z.f.isSome = z.r.isTch ∧ z.r.line ∈ L
theorem stay_ok {Z : List Zi} {L : List Int} {z : Zi} (h : stayZ z) : okZ Z L z := by
  obtain ⟨r', h1, h2, h3, h4, h5, h6, h7, h8⟩ := h
  refine ⟨fun q => (by rw [h1] at q; cases q), fun r q => ?_, h5, fun r q => ?_, fun r q f hf => ?_, fun _ => ⟨r', h1, h4, h6, h7⟩⟩
  · rw [h1] at q; cases q
    cases hz : z.r <;> rw [hz] at h2 <;> first | exact h2.elim | exact h3
  · rw [h1] at q; cases q
    rw [h4, h5, h8]
  · rw [h1] at q; cases q
    exact ⟨by rw [← h4]; exact hf, h6, h7⟩
theorem gone_ok {Z : List Zi} {L : List Int} {z : Zi} (h : goneZ L z) : okZ Z L z := by
  obtain ⟨h1, h2, h3, h4, h5⟩ := h
  exact ⟨fun _ => ⟨h2, h3⟩, fun r q => (by rw [h1] at q; cases q), h4, fun r q => (by rw [h1] at q; cases q), fun r q => (by rw [h1] at q; cases q), fun q => absurd h5 q⟩
theorem zE_stay : ∀ {e : Ex} {a a2 : Int}, ∀ z ∈ zE ss ss2 l e a a2, stayZ z
  | .num _, _, _, z, h => by rw [List.mem_singleton.mp h]; exact ⟨_, rfl, trivial, trivial, rfl, rfl, rfl, rfl, rfl⟩
  | .nam _, _, _, z, h => by rw [List.mem_singleton.mp h]; exact ⟨_, rfl, trivial, trivial, rfl, rfl, rfl, rfl, rfl⟩
  | .lane, _, _, z, h => by rw [List.mem_singleton.mp h]; exact ⟨_, rfl, trivial, trivial, rfl, rfl, rfl, rfl, rfl⟩
  | .lanes, _, _, z, h => by rw [List.mem_singleton.mp h]; exact ⟨_, rfl, trivial, trivial, rfl, rfl, rfl, rfl, rfl⟩
  | .mine, _, _, z, h => by rw [List.mem_singleton.mp h]; exact ⟨_, rfl, trivial, trivial, rfl, rfl, rfl, rfl, rfl⟩
  | .box e, a, a2, z, h => by
    rcases List.mem_append.mp h with h | h
    · exact zE_stay z h
    · rw [List.mem_singleton.mp h]; exact ⟨_, rfl, trivial, trivial, rfl, rfl, rfl, rfl, rfl⟩
  | .op w x y, a, a2, z, h => by
    rcases List.mem_append.mp h with h | h
    · rcases List.mem_append.mp h with h | h
      · exact zE_stay z h
      · exact zE_stay z h
    · rw [List.mem_singleton.mp h]; exact ⟨_, rfl, trivial, trivial, rfl, rfl, rfl, rfl, rfl⟩
theorem zEs_stay : ∀ {es : List Ex} {a a2 : Int}, ∀ z ∈ zEs ss ss2 l es a a2, stayZ z
  | [], _, _, z, h => by cases h
  | e :: t, a, a2, z, h => by
    rcases List.mem_append.mp h with h | h
    · exact zE_stay z h
    · exact zEs_stay z h
theorem gE_gone {L : List Int} (hl : l ∈ L) : ∀ {e : Ex} {a : Int}, ∀ z ∈ gE ss l e a, goneZ L z
  | .num _, _, z, h => by rw [List.mem_singleton.mp h]; exact ⟨rfl, trivial, rfl, rfl, hl⟩
  | .nam _, _, z, h => by rw [List.mem_singleton.mp h]; exact ⟨rfl, trivial, rfl, rfl, hl⟩
  | .lane, _, z, h => by rw [List.mem_singleton.mp h]; exact ⟨rfl, trivial, rfl, rfl, hl⟩
  | .lanes, _, z, h => by rw [List.mem_singleton.mp h]; exact ⟨rfl, trivial, rfl, rfl, hl⟩
  | .mine, _, z, h => by rw [List.mem_singleton.mp h]; exact ⟨rfl, trivial, rfl, rfl, hl⟩
  | .box e, a, z, h => by
    rcases List.mem_append.mp h with h | h
    · exact gE_gone hl z h
    · rw [List.mem_singleton.mp h]; exact ⟨rfl, trivial, rfl, rfl, hl⟩
  | .op w x y, a, z, h => by
    rcases List.mem_append.mp h with h | h
    · rcases List.mem_append.mp h with h | h
      · exact gE_gone hl z h
      · exact gE_gone hl z h
    · rw [List.mem_singleton.mp h]; exact ⟨rfl, trivial, rfl, rfl, hl⟩
end
/-! rows of statements -/
structure Zx where
  ss : List Str
  ss2 : List Str
  bg : Str → Int
  bg2 : Str → Int
  last : Nat
  last2 : Nat
def Zx.fr (x : Zx) : Int := (x.ss.length : Int) + 1
def Zx.fr2 (x : Zx) : Int := (x.ss2.length : Int) + 1
section
variable (tn : Tn) (X : Zx)
mutual
def zS (lb lb2 le le2 pos pos2 : Nat) : Sm → List Zi
  | .if1 l e b => zE X.ss X.ss2 l e X.fr X.fr2 ++ ([⟨.split l X.fr (pos + exN e + 1 + szB b : Nat), some (.split l X.fr2 (pos2 + exN e + 1 + szB (thinB tn b) : Nat)), none, none⟩] ++ zB lb lb2 le le2 (pos + exN e + 1) (pos2 + exN e + 1) b)
  | .if2 l e b c => zE X.ss X.ss2 l e X.fr X.fr2 ++ ([⟨.split l X.fr (pos + exN e + 1 + szB b + 1 : Nat), some (.split l X.fr2 (pos2 + exN e + 1 + szB (thinB tn b) + 1 : Nat)), none, none⟩] ++ (zB lb lb2 le le2 (pos + exN e + 1) (pos2 + exN e + 1) b ++
      ([⟨.jump l (pos + exN e + 1 + szB b + 1 + szB c : Nat), some (.jump l (pos2 + exN e + 1 + szB (thinB tn b) + 1 + szB (thinB tn c) : Nat)), none, none⟩] ++ zB lb lb2 le le2 (pos + exN e + 1 + szB b + 1) (pos2 + exN e + 1 + szB (thinB tn b) + 1) c)))
  | .whl l e b => zE X.ss X.ss2 l e X.fr X.fr2 ++ ([⟨.split l X.fr (pos + exN e + 1 + szB b + 1 : Nat), some (.split l X.fr2 (pos2 + exN e + 1 + szB (thinB tn b) + 1 : Nat)), none, none⟩] ++ (zB (pos - 1) (pos2 - 1) (pos + exN e + 1 + szB b + 1) (pos2 + exN e + 1 + szB (thinB tn b) + 1) (pos + exN e + 1) (pos2 + exN e + 1) b ++
      [⟨.jump l (pos - 1 : Nat), some (.jump l (pos2 - 1 : Nat)), none, none⟩]))
  | .brk l => [⟨.jump l (le : Nat), some (.jump l (le2 : Nat)), none, none⟩]
  | .agn l => [⟨.jump l (lb : Nat), some (.jump l (lb2 : Nat)), none, none⟩]
  | .ret l e => zE X.ss X.ss2 l e X.fr X.fr2 ++ [⟨.copy l 0 X.fr, some (.copy l 0 X.fr2), none, none⟩, ⟨.jump l (X.last : Nat), some (.jump l (X.last2 : Nat)), none, none⟩]
  | .call l x f es => zEs X.ss X.ss2 l es X.fr X.fr2 ++ [⟨.call l (slotOf X.ss x) X.fr es.length (X.bg f), some (.call l (slotOf X.ss2 x) X.fr2 es.length (X.bg2 f)), none, none⟩]
  | .put l a b => (match tn l with
    | none => zE X.ss X.ss2 l a X.fr X.fr2 ++ (zE X.ss X.ss2 l b (X.fr + 1) (X.fr2 + 1) ++ [⟨.put l X.fr (X.fr + 1), some (.put l X.fr2 (X.fr2 + 1)), some (formF a), some (formF a)⟩])
    | some none => gE X.ss l a X.fr ++ (zE X.ss X.ss2 l b (X.fr + 1) X.fr2 ++ [⟨.put l X.fr (X.fr + 1), some (.tell l X.fr2), some (formF a), none⟩])
    | some (some x) => gE X.ss l a X.fr ++ (zE X.ss X.ss2 l b (X.fr + 1) X.fr2 ++ [⟨.put l X.fr (X.fr + 1), some (.copy l (slotOf X.ss2 x) X.fr2), some (formF a), none⟩]))
  | .set l x e => zE X.ss X.ss2 l e X.fr X.fr2 ++ [⟨.copy l (slotOf X.ss x) X.fr, some (.copy l (slotOf X.ss2 x) X.fr2), none, none⟩]
  | .tell l e => zE X.ss X.ss2 l e X.fr X.fr2 ++ [⟨.tell l X.fr, some (.tell l X.fr2), none, none⟩]
  | .join l x w e => zE X.ss X.ss2 l e X.fr X.fr2 ++ [⟨.join l (slotOf X.ss x) w X.fr, some (.join l (slotOf X.ss2 x) w X.fr2), none, none⟩]
  | .meet l => [⟨.meet l, some (.meet l), none, none⟩]
  | .stop l => [⟨.stop l, some (.stop l), none, none⟩]
def zB (lb lb2 le le2 pos pos2 : Nat) : List Sm → List Zi
  | [] => []
  | s :: t => [⟨.tick s.line, some (.tick s.line), none, none⟩] ++ (zS lb lb2 le le2 (pos + 1) (pos2 + 1) s ++ zB lb lb2 le le2 (pos + 1 + szS s) (pos2 + 1 + szS (thinS tn s)) t)
end
theorem thin_line (s : Sm) : (thinS tn s).line = s.line := by
  cases s <;> (unfold thinS; try rfl)
  split <;> rfl
variable {tn X}
theorem ex1 {ss : List Str} {l : Int} {e : Ex} {a : Int} : exsRows ss l [e] a = exRows ss l e a := exs_one
theorem one_R {z : Zi} {r' : Rw} (h : z.r2 = some r') : zR2 [z] = [r'] := by simp [zR2, h]
theorem allSt_leaf {s : Sm} (h : s.blocks = []) : allSt s = [s] := by rw [allSt_eq, h]; rfl
mutual
theorem zS_R : ∀ (s : Sm) {lb lb2 le le2 pos pos2 : Nat}, zR (zS tn X lb lb2 le le2 pos pos2 s) = rS X.ss X.fr X.bg X.last lb le pos s ∧ zR2 (zS tn X lb lb2 le le2 pos pos2 s) = rS X.ss2 X.fr2 X.bg2 X.last2 lb2 le2 pos2 (thinS tn s) ∧
    zF (zS tn X lb lb2 le le2 pos pos2 s) = (allSt s).flatMap formsS ∧ zF2 (zS tn X lb lb2 le le2 pos pos2 s) = (allSt (thinS tn s)).flatMap formsS
  | .if1 l e b, lb, lb2, le, le2, pos, pos2 => by
    obtain ⟨h1, h2, h3, h4⟩ := zB_R b (lb := lb) (lb2 := lb2) (le := le) (le2 := le2) (pos := pos + exN e + 1) (pos2 := pos2 + exN e + 1)
    obtain ⟨g1, g2, g3, g4⟩ := zE_R (ss := X.ss) (ss2 := X.ss2) (l := l) (e := e) (a := X.fr) (a2 := X.fr2)
    unfold thinS zS
    refine ⟨?_, ?_, ?_, ?_⟩
    · rw [zR_app, zR_app, g1, h1]; unfold rS; simp [zR]
    · rw [zR2_app, zR2_app, g2, h2]; unfold rS; simp [zR2]
    · rw [zF_app, zF_app, g3, h3, allSt]; simp [zF, formsS, Sm.exprs, putForm]
    · rw [zF2_app, zF2_app, g4, h4, allSt]; simp [zF2, formsS, Sm.exprs, putForm]
  | .if2 l e b c, lb, lb2, le, le2, pos, pos2 => by
    obtain ⟨h1, h2, h3, h4⟩ := zB_R b (lb := lb) (lb2 := lb2) (le := le) (le2 := le2) (pos := pos + exN e + 1) (pos2 := pos2 + exN e + 1)
    obtain ⟨k1, k2, k3, k4⟩ := zB_R c (lb := lb) (lb2 := lb2) (le := le) (le2 := le2) (pos := pos + exN e + 1 + szB b + 1) (pos2 := pos2 + exN e + 1 + szB (thinB tn b) + 1)
    obtain ⟨g1, g2, g3, g4⟩ := zE_R (ss := X.ss) (ss2 := X.ss2) (l := l) (e := e) (a := X.fr) (a2 := X.fr2)
    unfold thinS zS
    refine ⟨?_, ?_, ?_, ?_⟩
    · rw [zR_app, zR_app, zR_app, zR_app, g1, h1, k1]; unfold rS; simp [zR]
    · rw [zR2_app, zR2_app, zR2_app, zR2_app, g2, h2, k2]; unfold rS; simp [zR2]
    · rw [zF_app, zF_app, zF_app, zF_app, g3, h3, k3, allSt]; simp [zF, formsS, Sm.exprs, putForm]
    · rw [zF2_app, zF2_app, zF2_app, zF2_app, g4, h4, k4, allSt]; simp [zF2, formsS, Sm.exprs, putForm]
  | .whl l e b, lb, lb2, le, le2, pos, pos2 => by
    obtain ⟨h1, h2, h3, h4⟩ := zB_R b (lb := pos - 1) (lb2 := pos2 - 1) (le := pos + exN e + 1 + szB b + 1) (le2 := pos2 + exN e + 1 + szB (thinB tn b) + 1) (pos := pos + exN e + 1) (pos2 := pos2 + exN e + 1)
    obtain ⟨g1, g2, g3, g4⟩ := zE_R (ss := X.ss) (ss2 := X.ss2) (l := l) (e := e) (a := X.fr) (a2 := X.fr2)
    unfold thinS zS
    refine ⟨?_, ?_, ?_, ?_⟩
    · rw [zR_app, zR_app, zR_app, g1, h1]; unfold rS; simp [zR]
    · rw [zR2_app, zR2_app, zR2_app, g2, h2]; unfold rS; simp [zR2]
    · rw [zF_app, zF_app, zF_app, g3, h3, allSt]; simp [zF, formsS, Sm.exprs, putForm]
    · rw [zF2_app, zF2_app, zF2_app, g4, h4, allSt]; simp [zF2, formsS, Sm.exprs, putForm]
  | .brk l, lb, lb2, le, le2, pos, pos2 => by
    unfold thinS zS rS
    rw [allSt_leaf rfl]
    exact ⟨rfl, rfl, rfl, rfl⟩
  | .agn l, lb, lb2, le, le2, pos, pos2 => by
    unfold thinS zS rS
    rw [allSt_leaf rfl]
    exact ⟨rfl, rfl, rfl, rfl⟩
  | .meet l, lb, lb2, le, le2, pos, pos2 => by
    unfold thinS zS rS
    rw [allSt_leaf rfl]
    exact ⟨rfl, rfl, rfl, rfl⟩
  | .stop l, lb, lb2, le, le2, pos, pos2 => by
    unfold thinS zS rS
    rw [allSt_leaf rfl]
    exact ⟨rfl, rfl, rfl, rfl⟩
  | .ret l e, lb, lb2, le, le2, pos, pos2 => by
    obtain ⟨g1, g2, g3, g4⟩ := zE_R (ss := X.ss) (ss2 := X.ss2) (l := l) (e := e) (a := X.fr) (a2 := X.fr2)
    unfold thinS zS rS
    rw [allSt_leaf rfl, zR_app, zR2_app, zF_app, zF2_app, g1, g2, g3, g4]
    exact ⟨rfl, rfl, by simp [zF, formsS, Sm.exprs, putForm], by simp [zF2, formsS, Sm.exprs, putForm]⟩
  | .call l x f es, lb, lb2, le, le2, pos, pos2 => by
    obtain ⟨g1, g2, g3, g4⟩ := zEs_R (ss := X.ss) (ss2 := X.ss2) (l := l) (es := es) (a := X.fr) (a2 := X.fr2)
    unfold thinS zS rS
    rw [allSt_leaf rfl, zR_app, zR2_app, zF_app, zF2_app, g1, g2, g3, g4]
    exact ⟨rfl, rfl, by simp [zF, formsS, Sm.exprs, putForm], by simp [zF2, formsS, Sm.exprs, putForm]⟩
  | .set l x e, lb, lb2, le, le2, pos, pos2 => by
    obtain ⟨g1, g2, g3, g4⟩ := zE_R (ss := X.ss) (ss2 := X.ss2) (l := l) (e := e) (a := X.fr) (a2 := X.fr2)
    unfold thinS zS rS
    rw [allSt_leaf rfl, zR_app, zR2_app, zF_app, zF2_app, g1, g2, g3, g4]
    refine ⟨?_, ?_, by simp [zF, formsS, Sm.exprs, putForm], by simp [zF2, formsS, Sm.exprs, putForm]⟩ <;> (simp only [Sm.exprs, ex1]; rfl)
  | .tell l e, lb, lb2, le, le2, pos, pos2 => by
    obtain ⟨g1, g2, g3, g4⟩ := zE_R (ss := X.ss) (ss2 := X.ss2) (l := l) (e := e) (a := X.fr) (a2 := X.fr2)
    unfold thinS zS rS
    rw [allSt_leaf rfl, zR_app, zR2_app, zF_app, zF2_app, g1, g2, g3, g4]
    refine ⟨?_, ?_, by simp [zF, formsS, Sm.exprs, putForm], by simp [zF2, formsS, Sm.exprs, putForm]⟩ <;> (simp only [Sm.exprs, ex1]; rfl)
  | .join l x w e, lb, lb2, le, le2, pos, pos2 => by
    obtain ⟨g1, g2, g3, g4⟩ := zE_R (ss := X.ss) (ss2 := X.ss2) (l := l) (e := e) (a := X.fr) (a2 := X.fr2)
    unfold thinS zS rS
    rw [allSt_leaf rfl, zR_app, zR2_app, zF_app, zF2_app, g1, g2, g3, g4]
    refine ⟨?_, ?_, by simp [zF, formsS, Sm.exprs, putForm], by simp [zF2, formsS, Sm.exprs, putForm]⟩ <;> (simp only [Sm.exprs, ex1]; rfl)
  | .put l a b, lb, lb2, le, le2, pos, pos2 => by
    have e1 : rS X.ss X.fr X.bg X.last lb le pos (.put l a b) = exRows X.ss l a X.fr ++ (exRows X.ss l b (X.fr + 1) ++ [.put l X.fr (X.fr + 1)]) := by
      unfold rS
      simp only [Sm.exprs, exsRows, List.append_nil, List.append_assoc]
      rfl
    have e3 : (allSt (.put l a b)).flatMap formsS = formsIn a ++ (formsIn b ++ [formF a]) := by rw [allSt_leaf rfl]; simp [formsS, Sm.exprs, putForm]
    rw [e1, e3]
    unfold zS thinS
    split
    · obtain ⟨g1, g2, g3, g4⟩ := zE_R (ss := X.ss) (ss2 := X.ss2) (l := l) (e := a) (a := X.fr) (a2 := X.fr2)
      obtain ⟨h1, h2, h3, h4⟩ := zE_R (ss := X.ss) (ss2 := X.ss2) (l := l) (e := b) (a := X.fr + 1) (a2 := X.fr2 + 1)
      rw [allSt_leaf rfl, zR_app, zR2_app, zF_app, zF2_app, zR_app, zR2_app, zF_app, zF2_app, g1, g2, g3, g4, h1, h2, h3, h4]
      refine ⟨rfl, ?_, rfl, by simp [zF2, formsS, Sm.exprs, putForm]⟩
      unfold rS
      simp only [Sm.exprs, exsRows, List.append_nil, List.append_assoc]
      rfl
    · obtain ⟨g1, g2, g3, g4⟩ := gE_R (ss := X.ss) (l := l) (e := a) (a := X.fr)
      obtain ⟨h1, h2, h3, h4⟩ := zE_R (ss := X.ss) (ss2 := X.ss2) (l := l) (e := b) (a := X.fr + 1) (a2 := X.fr2)
      rw [allSt_leaf rfl, zR_app, zR2_app, zF_app, zF2_app, zR_app, zR2_app, zF_app, zF2_app, g1, g2, g3, g4, h1, h2, h3, h4]
      refine ⟨rfl, ?_, rfl, by simp [zF2, formsS, Sm.exprs, putForm]⟩
      unfold rS
      simp only [Sm.exprs, ex1]
      rfl
    · obtain ⟨g1, g2, g3, g4⟩ := gE_R (ss := X.ss) (l := l) (e := a) (a := X.fr)
      obtain ⟨h1, h2, h3, h4⟩ := zE_R (ss := X.ss) (ss2 := X.ss2) (l := l) (e := b) (a := X.fr + 1) (a2 := X.fr2)
      rw [allSt_leaf rfl, zR_app, zR2_app, zF_app, zF2_app, zR_app, zR2_app, zF_app, zF2_app, g1, g2, g3, g4, h1, h2, h3, h4]
      refine ⟨rfl, ?_, rfl, by simp [zF2, formsS, Sm.exprs, putForm]⟩
      unfold rS
      simp only [Sm.exprs, ex1]
      rfl
theorem zB_R : ∀ (b : List Sm) {lb lb2 le le2 pos pos2 : Nat}, zR (zB tn X lb lb2 le le2 pos pos2 b) = rB X.ss X.fr X.bg X.last lb le pos b ∧ zR2 (zB tn X lb lb2 le le2 pos pos2 b) = rB X.ss2 X.fr2 X.bg2 X.last2 lb2 le2 pos2 (thinB tn b) ∧
    zF (zB tn X lb lb2 le le2 pos pos2 b) = (allBd b).flatMap formsS ∧ zF2 (zB tn X lb lb2 le le2 pos pos2 b) = (allBd (thinB tn b)).flatMap formsS
  | [], lb, lb2, le, le2, pos, pos2 => by
    unfold thinB zB rB
    rw [show allBd [] = [] from by unfold allBd; rfl]
    exact ⟨rfl, rfl, rfl, rfl⟩
  | s :: t, lb, lb2, le, le2, pos, pos2 => by
    obtain ⟨h1, h2, h3, h4⟩ := zS_R s (lb := lb) (lb2 := lb2) (le := le) (le2 := le2) (pos := pos + 1) (pos2 := pos2 + 1)
    obtain ⟨k1, k2, k3, k4⟩ := zB_R t (lb := lb) (lb2 := lb2) (le := le) (le2 := le2) (pos := pos + 1 + szS s) (pos2 := pos2 + 1 + szS (thinS tn s))
    unfold thinB zB
    refine ⟨?_, ?_, ?_, ?_⟩
    · rw [zR_app, zR_app, h1, k1]; conv => rhs; rw [rB]
      rfl
    · rw [zR2_app, zR2_app, h2, k2]; conv => rhs; rw [rB, thin_line]
      rfl
    · rw [zF_app, zF_app, h3, k3, allBd, List.flatMap_append]; rfl
    · rw [zF2_app, zF2_app, h4, k4, allBd, List.flatMap_append]; rfl
end
/-! each row beside its own -/
theorem zS_len (s : Sm) {lb lb2 le le2 pos pos2 : Nat} : (zS tn X lb lb2 le le2 pos pos2 s).length = szS s ∧ (zR2 (zS tn X lb lb2 le le2 pos pos2 s)).length = szS (thinS tn s) := by
  obtain ⟨h1, h2, _⟩ := zS_R (tn := tn) (X := X) s (lb := lb) (lb2 := lb2) (le := le) (le2 := le2) (pos := pos) (pos2 := pos2)
  have := congrArg List.length h1
  rw [rS_len] at this
  exact ⟨by rw [← this]; exact (List.length_map _).symm, by rw [h2, rS_len]⟩
theorem zB_len (b : List Sm) {lb lb2 le le2 pos pos2 : Nat} : (zB tn X lb lb2 le le2 pos pos2 b).length = szB b ∧ (zR2 (zB tn X lb lb2 le le2 pos pos2 b)).length = szB (thinB tn b) := by
  obtain ⟨h1, h2, _⟩ := zB_R (tn := tn) (X := X) b (lb := lb) (lb2 := lb2) (le := le) (le2 := le2) (pos := pos) (pos2 := pos2)
  have := congrArg List.length h1
  rw [rB_len] at this
  exact ⟨by rw [← this]; exact (List.length_map _).symm, by rw [h2, rB_len]⟩
theorem zE_len {ss ss2 : List Str} {l : Int} {e : Ex} {a a2 : Int} : (zE ss ss2 l e a a2).length = exN e ∧ (zR2 (zE ss ss2 l e a a2)).length = exN e := by
  obtain ⟨h1, h2, _⟩ := zE_R (ss := ss) (ss2 := ss2) (l := l) (e := e) (a := a) (a2 := a2)
  have := congrArg List.length h1
  rw [exRows_n] at this
  exact ⟨by rw [← this]; exact (List.length_map _).symm, by rw [h2, exRows_n]⟩
/-- A stands at pos in Z, pos2 rows kept ahead -/
def AtZ (Z : List Zi) (pos pos2 : Nat) (A : List Zi) : Prop := (∃ B, Z.drop pos = A ++ B) ∧ psi Z pos = pos2
theorem AtZ.app {Z A B : List Zi} {pos pos2 : Nat} (h : AtZ Z pos pos2 (A ++ B)) : AtZ Z pos pos2 A ∧ AtZ Z (pos + A.length) (pos2 + (zR2 A).length) B := by
  obtain ⟨⟨C, h1⟩, h2⟩ := h
  refine ⟨⟨⟨B ++ C, by rw [h1, List.append_assoc]⟩, h2⟩, ⟨C, ?_⟩, ?_⟩
  · rw [← List.drop_drop, h1, List.append_assoc, List.drop_left]
  · have : Z.take (pos + A.length) = Z.take pos ++ A := by rw [List.take_add, h1, List.append_assoc, List.take_left]
    unfold psi at h2 ⊢
    rw [this, zR2_app, List.length_append, h2]
theorem AtZ.end_ {Z A : List Zi} {pos pos2 : Nat} (h : AtZ Z pos pos2 A) : psi Z (pos + A.length) = pos2 + (zR2 A).length := by
  have h : AtZ Z pos pos2 (A ++ []) := by rw [List.append_nil]; exact h
  exact h.app.2.2
theorem AtZ.one {Z : List Zi} {z : Zi} {r' : Rw} {pos pos2 : Nat} (h : AtZ Z pos pos2 [z]) (hr : z.r2 = some r') : psi Z (pos + 1) = pos2 + 1 := by
  have := h.end_
  rw [one_R hr] at this
  exact this
structure OkX (Z : List Zi) (X : Zx) : Prop where
  last : psi Z X.last = X.last2
  call : ∀ f, ∃ n : Nat, X.bg f = n ∧ X.bg2 f = (psi Z n : Nat) ∧ kept Z n
def okZs (Z : List Zi) (L : List Int) (A : List Zi) : Prop := ∀ z ∈ A, okZ Z L z
theorem okZs_app {Z A B : List Zi} {L : List Int} (h : okZs Z L A) (g : okZs Z L B) : okZs Z L (A ++ B) := fun z hz => (List.mem_append.mp hz).elim (h z) (g z)
theorem okZs_one {Z : List Zi} {L : List Int} {z : Zi} (h : okZ Z L z) : okZs Z L [z] := fun y hy => by rw [List.mem_singleton.mp hy]; exact h
theorem ctl_ok {Z : List Zi} {L : List Int} {a b : Rw} (h : ctl Z a b) (h1 : a.isTch = false) (h2 : b.isTch = false) (hl : a.line = b.line) (hp : a.isPut = b.isPut) : okZ Z L ⟨a, some b, none, none⟩ :=
  ⟨fun q => (by cases q), fun r q => (by cases q; exact h), h1.symm, fun r q => (by cases q; exact h2.symm), fun r q f hf => (by cases hf), fun _ => ⟨b, rfl, rfl, hp, hl⟩⟩
theorem zE_oks {Z : List Zi} {L : List Int} {ss ss2 : List Str} {l : Int} {e : Ex} {a a2 : Int} : okZs Z L (zE ss ss2 l e a a2) := fun z hz => stay_ok (zE_stay z hz)
mutual
theorem zS_ok {Z : List Zi} {L : List Int} (hX : OkX Z X) : ∀ (s : Sm) {lb lb2 le le2 pos pos2 : Nat}, 0 < pos → 0 < pos2 → (∀ l ∈ offS' tn s, l ∈ L) → AtZ Z pos pos2 (zS tn X lb lb2 le le2 pos pos2 s) → psi Z (pos - 1) = pos2 - 1 → psi Z lb = lb2 → psi Z le = le2 → okZs Z L (zS tn X lb lb2 le le2 pos pos2 s)
  | .if1 l e b, lb, lb2, le, le2, pos, pos2, h0, h02, ho, h, hb, h1, h2 => by
    unfold offS' at ho
    unfold zS at h ⊢
    obtain ⟨_, a2⟩ := h.app
    rw [zE_len.1, zE_len.2] at a2
    obtain ⟨_, a4⟩ := a2.app
    rw [List.length_singleton, one_R rfl, List.length_singleton] at a4
    have he := a4.end_
    rw [(zB_len b).1, (zB_len b).2] at he
    exact okZs_app zE_oks (okZs_app (okZs_one (ctl_ok ⟨_, rfl, by rw [he], ⟩ rfl rfl rfl rfl)) (zB_ok hX b ho a4 h1 h2))
  | .if2 l e b c, lb, lb2, le, le2, pos, pos2, h0, h02, ho, h, hb, h1, h2 => by
    unfold offS' at ho
    unfold zS at h ⊢
    obtain ⟨_, a2⟩ := h.app
    rw [zE_len.1, zE_len.2] at a2
    obtain ⟨_, a4⟩ := a2.app
    rw [List.length_singleton, one_R rfl, List.length_singleton] at a4
    obtain ⟨a5, a6⟩ := a4.app
    rw [(zB_len b).1, (zB_len b).2] at a6
    obtain ⟨a7, a8⟩ := a6.app
    rw [List.length_singleton, one_R rfl, List.length_singleton] at a8
    have hj := a8.2
    have he := a8.end_
    rw [(zB_len c).1, (zB_len c).2] at he
    refine okZs_app zE_oks (okZs_app (okZs_one (ctl_ok ⟨_, rfl, by rw [hj], ⟩ rfl rfl rfl rfl)) (okZs_app (zB_ok hX b (fun l hl => ho l (List.mem_append_left _ hl)) a5 h1 h2) (okZs_app (okZs_one (ctl_ok ⟨_, rfl, by rw [he]⟩ rfl rfl rfl rfl)) (zB_ok hX c (fun l hl => ho l (List.mem_append_right _ hl)) a8 h1 h2))))
  | .whl l e b, lb, lb2, le, le2, pos, pos2, h0, h02, ho, h, hb, h1, h2 => by
    unfold offS' at ho
    unfold zS at h ⊢
    obtain ⟨_, a2⟩ := h.app
    rw [zE_len.1, zE_len.2] at a2
    obtain ⟨_, a4⟩ := a2.app
    rw [List.length_singleton, one_R rfl, List.length_singleton] at a4
    obtain ⟨a5, a6⟩ := a4.app
    rw [(zB_len b).1, (zB_len b).2] at a6
    have he := a6.one rfl
    refine okZs_app zE_oks (okZs_app (okZs_one (ctl_ok ⟨_, rfl, by rw [he], ⟩ rfl rfl rfl rfl)) (okZs_app (zB_ok hX b ho a5 hb he) (okZs_one (ctl_ok ⟨_, rfl, by rw [hb]⟩ rfl rfl rfl rfl))))
  | .brk l, lb, lb2, le, le2, pos, pos2, h0, h02, ho, h, hb, h1, h2 => by
    unfold zS
    exact okZs_one (ctl_ok ⟨_, rfl, by rw [h2]⟩ rfl rfl rfl rfl)
  | .agn l, lb, lb2, le, le2, pos, pos2, h0, h02, ho, h, hb, h1, h2 => by
    unfold zS
    exact okZs_one (ctl_ok ⟨_, rfl, by rw [h1]⟩ rfl rfl rfl rfl)
  | .meet l, lb, lb2, le, le2, pos, pos2, h0, h02, ho, h, hb, h1, h2 => by
    unfold zS
    exact okZs_one (ctl_ok trivial rfl rfl rfl rfl)
  | .stop l, lb, lb2, le, le2, pos, pos2, h0, h02, ho, h, hb, h1, h2 => by
    unfold zS
    exact okZs_one (stay_ok ⟨_, rfl, trivial, trivial, rfl, rfl, rfl, rfl, rfl⟩)
  | .ret l e, lb, lb2, le, le2, pos, pos2, h0, h02, ho, h, hb, h1, h2 => by
    unfold zS
    refine okZs_app zE_oks fun z hz => ?_
    rcases List.mem_cons.mp hz with rfl | hz
    · exact stay_ok ⟨_, rfl, trivial, trivial, rfl, rfl, rfl, rfl, rfl⟩
    · rw [List.mem_singleton.mp hz]
      exact ctl_ok ⟨_, rfl, by rw [hX.last]⟩ rfl rfl rfl rfl
  | .call l x f es, lb, lb2, le, le2, pos, pos2, h0, h02, ho, h, hb, h1, h2 => by
    unfold zS
    obtain ⟨n, q1, q2, q3⟩ := hX.call f
    exact okZs_app (fun z hz => stay_ok (zEs_stay z hz)) (okZs_one (ctl_ok ⟨n, q1, q2, q3⟩ rfl rfl rfl rfl))
  | .set l x e, lb, lb2, le, le2, pos, pos2, h0, h02, ho, h, hb, h1, h2 => by
    unfold zS
    exact okZs_app zE_oks (okZs_one (stay_ok ⟨_, rfl, trivial, trivial, rfl, rfl, rfl, rfl, rfl⟩))
  | .tell l e, lb, lb2, le, le2, pos, pos2, h0, h02, ho, h, hb, h1, h2 => by
    unfold zS
    exact okZs_app zE_oks (okZs_one (stay_ok ⟨_, rfl, trivial, trivial, rfl, rfl, rfl, rfl, rfl⟩))
  | .join l x w e, lb, lb2, le, le2, pos, pos2, h0, h02, ho, h, hb, h1, h2 => by
    unfold zS
    exact okZs_app zE_oks (okZs_one (ctl_ok trivial rfl rfl rfl rfl))
  | .put l a b, lb, lb2, le, le2, pos, pos2, h0, h02, ho, h, hb, h1, h2 => by
    unfold offS' at ho
    have turned : ∀ {r' : Rw}, (tn l).isSome = true → plR r' → r'.isTch = false → okZ Z L ⟨.put l X.fr (X.fr + 1), some r', some (formF a), none⟩ := fun {r'} ht hp hr => by
      rw [if_pos ht] at ho
      have hl := ho l (List.mem_singleton.mpr rfl)
      exact ⟨fun q => (by cases q), fun r q => (by cases q; exact hp), rfl, fun r q => (by cases q; exact hr.symm), fun r q f hf => (by cases hf), fun q => absurd hl q⟩
    unfold zS
    split
    · exact okZs_app zE_oks (okZs_app zE_oks (okZs_one (stay_ok ⟨_, rfl, trivial, trivial, rfl, rfl, rfl, rfl, rfl⟩)))
    · rename_i ht
      have ht2 : (tn l).isSome = true := by rw [ht]; rfl
      have hl : l ∈ L := by rw [if_pos ht2] at ho; exact ho l (List.mem_singleton.mpr rfl)
      exact okZs_app (fun z hz => gone_ok (gE_gone hl z hz)) (okZs_app zE_oks (okZs_one (turned ht2 trivial rfl)))
    · rename_i ht
      have ht2 : (tn l).isSome = true := by rw [ht]; rfl
      have hl : l ∈ L := by rw [if_pos ht2] at ho; exact ho l (List.mem_singleton.mpr rfl)
      exact okZs_app (fun z hz => gone_ok (gE_gone hl z hz)) (okZs_app zE_oks (okZs_one (turned ht2 trivial rfl)))
theorem zB_ok {Z : List Zi} {L : List Int} (hX : OkX Z X) : ∀ (b : List Sm) {lb lb2 le le2 pos pos2 : Nat}, (∀ l ∈ offB tn b, l ∈ L) → AtZ Z pos pos2 (zB tn X lb lb2 le le2 pos pos2 b) → psi Z lb = lb2 → psi Z le = le2 → okZs Z L (zB tn X lb lb2 le le2 pos pos2 b)
  | [], lb, lb2, le, le2, pos, pos2, _, _, _, _ => by unfold zB; exact fun z hz => by cases hz
  | s :: t, lb, lb2, le, le2, pos, pos2, ho, h, h1, h2 => by
    unfold offB at ho
    unfold zB at h ⊢
    obtain ⟨a1, a2⟩ := h.app
    have hp := a1.one rfl
    rw [List.length_singleton, one_R rfl, List.length_singleton] at a2
    obtain ⟨a3, a4⟩ := a2.app
    rw [(zS_len s).1, (zS_len s).2] at a4
    refine okZs_app (okZs_one (stay_ok ⟨_, rfl, trivial, trivial, rfl, rfl, rfl, rfl, rfl⟩)) (okZs_app ?_ ?_)
    · exact zS_ok hX s (Nat.succ_pos _) (Nat.succ_pos _) (fun l hl => ho l (List.mem_append_left _ hl)) a3 a1.2 h1 h2
    · exact zB_ok hX t (fun l hl => ho l (List.mem_append_right _ hl)) a4 h1 h2
end
end
end Tl
set_option maxHeartbeats 2000000
namespace Tl
open PySem PySem.Spec PyProof.Rows L2
/-! ### k37: programs -/
section
variable (tn : Tn)
def xD (bg bg2 : Str → Int) (pos pos2 : Nat) (o : Df) : Zx := ⟨slotsF o, slotsF (thinD tn o), bg, bg2, pos + szB o.body, pos2 + szB (thinB tn o.body)⟩
def zD (bg bg2 : Str → Int) (pos pos2 : Nat) (o : Df) : List Zi := zB tn (xD tn bg bg2 pos pos2 o) 0 0 0 0 pos pos2 o.body ++ [⟨.back o.last, some (.back o.last), none, none⟩]
def zAll (bg bg2 : Str → Int) : Nat → Nat → Pg → List Zi
  | _, _, [] => []
  | pos, pos2, o :: t => zD tn bg bg2 pos pos2 o ++ zAll bg bg2 (pos + szB o.body + 1) (pos2 + szB (thinB tn o.body) + 1) t
def begs3 : Nat → Nat → Pg → List (Str × Nat × Nat)
  | _, _, [] => []
  | pos, pos2, o :: t => (o.name, pos, pos2) :: begs3 (pos + szB o.body + 1) (pos2 + szB (thinB tn o.body) + 1) t
variable {tn}
theorem begs3_1 : ∀ {os : Pg} {pos pos2 : Nat}, (begs3 tn pos pos2 os).map (fun x => (x.1, x.2.1)) = begs pos os ∧ (begs3 tn pos pos2 os).map (fun x => (x.1, x.2.2)) = begs pos2 (os.map (thinD tn))
  | [], _, _ => ⟨rfl, rfl⟩
  | o :: t, pos, pos2 => by
    obtain ⟨h1, h2⟩ := begs3_1 (os := t) (pos := pos + szB o.body + 1) (pos2 := pos2 + szB (thinB tn o.body) + 1)
    unfold begs3 begs
    rw [List.map_cons, List.map_cons, h1, h2]
    exact ⟨rfl, rfl⟩
theorem zD_R {bg bg2 : Str → Int} {pos pos2 : Nat} {o : Df} : zR (zD tn bg bg2 pos pos2 o) = defR bg pos o ∧ zR2 (zD tn bg bg2 pos pos2 o) = defR bg2 pos2 (thinD tn o) ∧ zF (zD tn bg bg2 pos pos2 o) = (allBd o.body).flatMap formsS ∧ zF2 (zD tn bg bg2 pos pos2 o) = (allBd (thinD tn o).body).flatMap formsS := by
  obtain ⟨h1, h2, h3, h4⟩ := zB_R (tn := tn) (X := xD tn bg bg2 pos pos2 o) o.body (lb := 0) (lb2 := 0) (le := 0) (le2 := 0) (pos := pos) (pos2 := pos2)
  unfold zD
  rw [zR_app, zR2_app, zF_app, zF2_app, h1, h2, h3, h4]
  refine ⟨rfl, rfl, ?_, ?_⟩
  · simp [zF]
  · simp [zF2]; rfl
theorem zAll_R {bg bg2 : Str → Int} : ∀ {os : Pg} {pos pos2 : Nat}, zR (zAll tn bg bg2 pos pos2 os) = allR bg pos os ∧ zR2 (zAll tn bg bg2 pos pos2 os) = allR bg2 pos2 (os.map (thinD tn)) ∧ zF (zAll tn bg bg2 pos pos2 os) = os.flatMap (fun o => (allBd o.body).flatMap formsS) ∧
    zF2 (zAll tn bg bg2 pos pos2 os) = (os.map (thinD tn)).flatMap fun o => (allBd o.body).flatMap formsS
  | [], _, _ => ⟨rfl, rfl, rfl, rfl⟩
  | o :: t, pos, pos2 => by
    obtain ⟨h1, h2, h3, h4⟩ := zD_R (tn := tn) (bg := bg) (bg2 := bg2) (pos := pos) (pos2 := pos2) (o := o)
    obtain ⟨g1, g2, g3, g4⟩ := zAll_R (os := t) (bg := bg) (bg2 := bg2) (pos := pos + szB o.body + 1) (pos2 := pos2 + szB (thinB tn o.body) + 1)
    unfold zAll
    rw [zR_app, zR2_app, zF_app, zF2_app, h1, h2, h3, h4, g1, g2, g3, g4]
    exact ⟨rfl, rfl, rfl, rfl⟩
theorem zD_len {bg bg2 : Str → Int} {pos pos2 : Nat} {o : Df} : (zD tn bg bg2 pos pos2 o).length = szB o.body + 1 ∧ (zR2 (zD tn bg bg2 pos pos2 o)).length = szB (thinB tn o.body) + 1 := by
  obtain ⟨h1, h2, _⟩ := zD_R (tn := tn) (bg := bg) (bg2 := bg2) (pos := pos) (pos2 := pos2) (o := o)
  have := congrArg List.length h1
  rw [defR_len] at this
  exact ⟨by rw [← this]; exact (List.length_map _).symm, by rw [h2, defR_len]; rfl⟩
/-- a def's rows begin with one that stays -/
theorem zD_head {bg bg2 : Str → Int} {pos pos2 : Nat} {o : Df} : ∃ z r' C, zD tn bg bg2 pos pos2 o = z :: C ∧ z.r2 = some r' := by
  unfold zD
  cases o.body with
  | nil => exact ⟨_, _, [], by unfold zB; rfl, rfl⟩
  | cons s t => exact ⟨_, _, _, by unfold zB; rfl, rfl⟩
theorem AtZ.head {Z A : List Zi} {pos pos2 : Nat} {z : Zi} {r' : Rw} (h : AtZ Z pos pos2 (z :: A)) (hr : z.r2 = some r') : kept Z pos := by
  obtain ⟨⟨B, e⟩, _⟩ := h
  refine ⟨z, r', ?_, hr⟩
  have := congrArg (fun l => l[0]?) e
  simpa using this
theorem zAll_begs {Z : List Zi} {bg bg2 : Str → Int} : ∀ {os : Pg} {pos pos2 : Nat}, AtZ Z pos pos2 (zAll tn bg bg2 pos pos2 os) → ∀ x ∈ begs3 tn pos pos2 os, psi Z x.2.1 = x.2.2 ∧ kept Z x.2.1
  | [], _, _, _, x, hx => by cases hx
  | o :: t, pos, pos2, h, x, hx => by
    unfold zAll at h
    obtain ⟨a1, a2⟩ := h.app
    rw [zD_len.1, zD_len.2] at a2
    rcases List.mem_cons.mp hx with rfl | hx
    · obtain ⟨z, r', C, e, hr⟩ := zD_head (tn := tn) (bg := bg) (bg2 := bg2) (pos := pos) (pos2 := pos2) (o := o)
      rw [e] at a1
      exact ⟨a1.2, a1.head hr⟩
    · exact zAll_begs a2 x hx
theorem zAll_ok {Z : List Zi} {L : List Int} {bg bg2 : Str → Int} (hc : ∀ f, ∃ n : Nat, bg f = n ∧ bg2 f = (psi Z n : Nat) ∧ kept Z n) : ∀ {os : Pg} {pos pos2 : Nat}, (∀ o ∈ os, ∀ l ∈ offB tn o.body, l ∈ L) → AtZ Z pos pos2 (zAll tn bg bg2 pos pos2 os) → okZs Z L (zAll tn bg bg2 pos pos2 os)
  | [], _, _, _, _ => fun z hz => by cases hz
  | o :: t, pos, pos2, ho, h => by
    unfold zAll at h ⊢
    obtain ⟨a1, a2⟩ := h.app
    rw [zD_len.1, zD_len.2] at a2
    refine okZs_app ?_ (zAll_ok hc (fun x hx => ho x (List.mem_cons_of_mem _ hx)) a2)
    unfold zD at a1 ⊢
    obtain ⟨a3, a4⟩ := a1.app
    rw [(zB_len _).1, (zB_len _).2] at a4
    have h0 : psi Z 0 = 0 := by unfold psi; simp [zR2]
    exact okZs_app (zB_ok ⟨a4.2, hc⟩ o.body (ho o (List.mem_cons_self ..)) a3 h0 h0) (okZs_one (ctl_ok trivial rfl rfl rfl rfl))
/-! no back inside a block -/
theorem nb_E {ss ss2 : List Str} {l : Int} {e : Ex} {a a2 : Int} : ∀ z ∈ zE ss ss2 l e a a2, isBk z.r = false := fun z hz => by
  obtain ⟨_, _, h, _⟩ := zE_stay z hz
  exact bk_pl h
theorem nb_Es {ss ss2 : List Str} {l : Int} {es : List Ex} {a a2 : Int} : ∀ z ∈ zEs ss ss2 l es a a2, isBk z.r = false := fun z hz => by
  obtain ⟨_, _, h, _⟩ := zEs_stay z hz
  exact bk_pl h
theorem nb_g {ss : List Str} {l : Int} {e : Ex} {a : Int} : ∀ z ∈ gE ss l e a, isBk z.r = false := fun z hz => bk_pl (gE_gone (L := [l]) (List.mem_singleton.mpr rfl) z hz).2.1
theorem nb_app {A B : List Zi} (h : ∀ z ∈ A, isBk z.r = false) (g : ∀ z ∈ B, isBk z.r = false) : ∀ z ∈ A ++ B, isBk z.r = false := fun z hz => (List.mem_append.mp hz).elim (h z) (g z)
theorem nb_one {z : Zi} (h : isBk z.r = false) : ∀ y ∈ [z], isBk y.r = false := fun y hy => by rw [List.mem_singleton.mp hy]; exact h
mutual
theorem zS_nb {X : Zx} : ∀ (s : Sm) {lb lb2 le le2 pos pos2 : Nat}, ∀ z ∈ zS tn X lb lb2 le le2 pos pos2 s, isBk z.r = false
  | .if1 l e b, lb, lb2, le, le2, pos, pos2 => by unfold zS; exact nb_app nb_E (nb_app (nb_one rfl) (zB_nb b))
  | .if2 l e b c, lb, lb2, le, le2, pos, pos2 => by unfold zS; exact nb_app nb_E (nb_app (nb_one rfl) (nb_app (zB_nb b) (nb_app (nb_one rfl) (zB_nb c))))
  | .whl l e b, lb, lb2, le, le2, pos, pos2 => by unfold zS; exact nb_app nb_E (nb_app (nb_one rfl) (nb_app (zB_nb b) (nb_one rfl)))
  | .brk l, lb, lb2, le, le2, pos, pos2 => by unfold zS; exact nb_one rfl
  | .agn l, lb, lb2, le, le2, pos, pos2 => by unfold zS; exact nb_one rfl
  | .meet l, lb, lb2, le, le2, pos, pos2 => by unfold zS; exact nb_one rfl
  | .stop l, lb, lb2, le, le2, pos, pos2 => by unfold zS; exact nb_one rfl
  | .ret l e, lb, lb2, le, le2, pos, pos2 => by unfold zS; exact nb_app nb_E (nb_app (A := [_]) (nb_one rfl) (nb_one rfl))
  | .call l x f es, lb, lb2, le, le2, pos, pos2 => by unfold zS; exact nb_app nb_Es (nb_one rfl)
  | .set l x e, lb, lb2, le, le2, pos, pos2 => by unfold zS; exact nb_app nb_E (nb_one rfl)
  | .tell l e, lb, lb2, le, le2, pos, pos2 => by unfold zS; exact nb_app nb_E (nb_one rfl)
  | .join l x w e, lb, lb2, le, le2, pos, pos2 => by unfold zS; exact nb_app nb_E (nb_one rfl)
  | .put l a b, lb, lb2, le, le2, pos, pos2 => by
    unfold zS
    split
    · exact nb_app nb_E (nb_app nb_E (nb_one rfl))
    · exact nb_app nb_g (nb_app nb_E (nb_one rfl))
    · exact nb_app nb_g (nb_app nb_E (nb_one rfl))
theorem zB_nb {X : Zx} : ∀ (b : List Sm) {lb lb2 le le2 pos pos2 : Nat}, ∀ z ∈ zB tn X lb lb2 le le2 pos pos2 b, isBk z.r = false
  | [], lb, lb2, le, le2, pos, pos2 => by unfold zB; exact fun z hz => by cases hz
  | s :: t, lb, lb2, le, le2, pos, pos2 => by unfold zB; exact nb_app (nb_one rfl) (nb_app (zS_nb s) (zB_nb t))
end
theorem aft_app {A B : List Zi} (hA : ∀ k z l, A[k]? = some z → z.r = .back l → k + 1 < A.length → kept A (k + 1)) (hB : ∀ k z l, B[k]? = some z → z.r = .back l → k + 1 < B.length → kept B (k + 1)) (h0 : B = [] ∨ kept B 0) : ∀ k z l, (A ++ B)[k]? = some z → z.r = .back l → k + 1 < (A ++ B).length → kept (A ++ B) (k + 1) := by
  intro k z l hz hr hk
  rcases Nat.lt_or_ge (k + 1) A.length with c | c
  · rw [List.getElem?_append_left (by omega)] at hz
    obtain ⟨z', r', h1, h2⟩ := hA k z l hz hr c
    exact ⟨z', r', by rw [List.getElem?_append_left c]; exact h1, h2⟩
  · rw [List.length_append] at hk
    rcases Nat.eq_or_lt_of_le c with c | c
    · rcases h0 with h0 | ⟨z', r', h1, h2⟩
      · rw [h0, List.length_nil] at hk; omega
      · exact ⟨z', r', by rw [List.getElem?_append_right (by omega), show k + 1 - A.length = 0 by omega]; exact h1, h2⟩
    · rw [List.getElem?_append_right (by omega)] at hz
      obtain ⟨z', r', h1, h2⟩ := hB (k - A.length) z l hz hr (by omega)
      exact ⟨z', r', by rw [List.getElem?_append_right (by omega), show k + 1 - A.length = k - A.length + 1 by omega]; exact h1, h2⟩
theorem zAll_aft {bg bg2 : Str → Int} : ∀ {os : Pg} {pos pos2 : Nat}, (∀ k z l, (zAll tn bg bg2 pos pos2 os)[k]? = some z → z.r = .back l → k + 1 < (zAll tn bg bg2 pos pos2 os).length → kept (zAll tn bg bg2 pos pos2 os) (k + 1)) ∧ (zAll tn bg bg2 pos pos2 os = [] ∨ kept (zAll tn bg bg2 pos pos2 os) 0)
  | [], _, _ => ⟨fun k z l h => (by cases h), .inl rfl⟩
  | o :: t, pos, pos2 => by
    obtain ⟨h1, h2⟩ := zAll_aft (bg := bg) (bg2 := bg2) (os := t) (pos := pos + szB o.body + 1) (pos2 := pos2 + szB (thinB tn o.body) + 1)
    unfold zAll
    refine ⟨aft_app (fun k z l hz hr hk => ?_) h1 h2, .inr ?_⟩
    · exfalso
      rw [zD_len.1] at hk
      unfold zD at hz
      rw [List.getElem?_append_left (by rw [(zB_len _).1]; omega)] at hz
      have := zB_nb _ z (List.mem_of_getElem? hz)
      rw [hr] at this
      cases this
    · obtain ⟨z, r', C, e, hr⟩ := zD_head (tn := tn) (bg := bg) (bg2 := bg2) (pos := pos) (pos2 := pos2) (o := o)
      rw [e]
      exact ⟨z, r', rfl, hr⟩
theorem zAll_last {bg bg2 : Str → Int} : ∀ {os : Pg} {pos pos2 : Nat}, os ≠ [] → ∃ k z l, (zAll tn bg bg2 pos pos2 os).length = k + 1 ∧ (zAll tn bg bg2 pos pos2 os)[k]? = some z ∧ z.r = .back l
  | [], _, _, h => absurd rfl h
  | [o], pos, pos2, _ => by
    unfold zAll zAll zD
    rw [List.append_nil]
    refine ⟨szB o.body, ⟨.back o.last, some (.back o.last), none, none⟩, o.last, by rw [List.length_append, (zB_len _).1]; rfl, ?_, rfl⟩
    rw [List.getElem?_append_right (by rw [(zB_len _).1]; exact Nat.le_refl _), (zB_len _).1, Nat.sub_self]
    rfl
  | o :: o2 :: t, pos, pos2, _ => by
    obtain ⟨k, z, l, h1, h2, h3⟩ := zAll_last (bg := bg) (bg2 := bg2) (os := o2 :: t) (pos := pos + szB o.body + 1) (pos2 := pos2 + szB (thinB tn o.body) + 1) (by simp)
    rw [zAll]
    refine ⟨(zD tn bg bg2 pos pos2 o).length + k, z, l, by rw [List.length_append, h1]; rfl, ?_, h3⟩
    rw [List.getElem?_append_right (Nat.le_add_right _ _), Nat.add_sub_cancel_left]
    exact h2
theorem begin_two {S : List (Str × Nat × Nat)} {f : Str} : (beginOf (S.map fun x => (x.1, x.2.1)) f = 0 ∧ beginOf (S.map fun x => (x.1, x.2.2)) f = 0) ∨ ∃ x ∈ S, beginOf (S.map fun x => (x.1, x.2.1)) f = (x.2.1 : Nat) ∧ beginOf (S.map fun x => (x.1, x.2.2)) f = (x.2.2 : Nat) := by
  unfold beginOf
  rw [← List.map_reverse, ← List.map_reverse, List.find?_map, List.find?_map]
  have e : (fun p : Str × Nat => decide (p.1 = f)) ∘ (fun x : Str × Nat × Nat => (x.1, x.2.1)) = (fun p : Str × Nat => decide (p.1 = f)) ∘ (fun x : Str × Nat × Nat => (x.1, x.2.2)) := rfl
  rw [e]
  cases q : S.reverse.find? ((fun p : Str × Nat => decide (p.1 = f)) ∘ fun x : Str × Nat × Nat => (x.1, x.2.2)) with
  | none => exact .inl ⟨rfl, rfl⟩
  | some x => exact .inr ⟨x, List.mem_reverse.mp (List.mem_of_find?_eq_some q), rfl, rfl⟩
theorem first_thin {pg : Pg} : mainFirst (thinP tn pg) = (mainFirst pg).map (thinD tn) := by
  unfold mainFirst thinP
  rw [List.filter_map, List.filter_map, List.map_append]
  rfl
mutual
theorem thin_lp {lp : Prop} : ∀ (s : Sm), inLp lp s → inLp lp (thinS tn s)
  | .if1 l e b, h => by unfold thinS; unfold inLp at h ⊢; exact thin_lps b h
  | .if2 l e b c, h => by unfold thinS; unfold inLp at h ⊢; exact ⟨thin_lps b h.1, thin_lps c h.2⟩
  | .whl l e b, h => by unfold thinS; unfold inLp at h ⊢; exact thin_lps b h
  | .brk l, h => by unfold thinS; exact h
  | .agn l, h => by unfold thinS; exact h
  | .meet l, h => by unfold thinS; exact h
  | .stop l, h => by unfold thinS; exact h
  | .ret l e, h => by unfold thinS; exact h
  | .call l x f es, h => by unfold thinS; exact h
  | .set l x e, h => by unfold thinS; exact h
  | .tell l e, h => by unfold thinS; exact h
  | .join l x w e, h => by unfold thinS; exact h
  | .put l a b, h => by unfold thinS; split <;> (unfold inLp; trivial)
theorem thin_lps {lp : Prop} : ∀ (b : List Sm), inLps lp b → inLps lp (thinB tn b)
  | [], h => by unfold thinB; exact h
  | s :: t, h => by unfold thinB; unfold inLps at h ⊢; exact ⟨thin_lp s h.1, thin_lps t h.2⟩
end
def offP (tn : Tn) (pg : Pg) : List Int := pg.flatMap fun o => offB tn o.body
/-- a program and its thinned one -/
theorem thin_prog {pg : Pg} (tn : Tn) (h : ∀ o ∈ pg, inLps False o.body) (hne : pg ≠ []) : ∃ Z, Thin Z (offP tn pg) ∧ zR Z = rowsF pg ∧ zF Z = formsP pg ∧ zR2 Z = rowsF (thinP tn pg) ∧ zF2 Z = formsP (thinP tn pg) := by
  have h2 : ∀ o ∈ thinP tn pg, inLps False o.body := fun o ho => by
    obtain ⟨x, hx, rfl⟩ := List.mem_map.mp ho
    exact thin_lps x.body (h x hx)
  have hm : mainFirst pg ≠ [] := fun z => hne (by
    have := congrArg List.length z
    rw [first_len] at this
    exact List.eq_nil_of_length_eq_zero this)
  let S := begs3 tn 0 0 (mainFirst pg)
  let bg := beginOf (S.map fun x => (x.1, x.2.1))
  let bg2 := beginOf (S.map fun x => (x.1, x.2.2))
  obtain ⟨e1, e2⟩ := begs3_1 (tn := tn) (os := mainFirst pg) (pos := 0) (pos2 := 0)
  let Z := zAll tn bg bg2 0 0 (mainFirst pg)
  obtain ⟨r1, r2, r3, r4⟩ := zAll_R (tn := tn) (bg := bg) (bg2 := bg2) (os := mainFirst pg) (pos := 0) (pos2 := 0)
  have h0 : psi Z 0 = 0 := by unfold psi; simp [zR2]
  have hAt : AtZ Z 0 0 (zAll tn bg bg2 0 0 (mainFirst pg)) := ⟨⟨[], by rw [List.drop_zero, List.append_nil]⟩, h0⟩
  obtain ⟨ha, hk⟩ := zAll_aft (tn := tn) (bg := bg) (bg2 := bg2) (os := mainFirst pg) (pos := 0) (pos2 := 0)
  have hl := zAll_last (tn := tn) (bg := bg) (bg2 := bg2) (os := mainFirst pg) (pos := 0) (pos2 := 0) hm
  have hk0 : kept Z 0 := hk.elim (fun z => by obtain ⟨k, _, _, q, _⟩ := hl; rw [z] at q; cases q) id
  have hb := zAll_begs hAt
  have hc : ∀ f, ∃ n : Nat, bg f = n ∧ bg2 f = (psi Z n : Nat) ∧ kept Z n := fun f => by
    rcases begin_two (S := S) (f := f) with ⟨q1, q2⟩ | ⟨x, hx, q1, q2⟩
    · exact ⟨0, q1, by rw [h0]; exact q2, hk0⟩
    · obtain ⟨p1, p2⟩ := hb x hx
      exact ⟨x.2.1, q1, by rw [p1]; exact q2, p2⟩
  refine ⟨Z, ⟨?_, hk0, hl, ha⟩, ?_, r3, ?_, ?_⟩
  · refine zAll_ok hc (fun o ho l hl => ?_) hAt
    exact List.mem_flatMap.mpr ⟨o, first_mem.mp ho, hl⟩
  · rw [rows_all h, ← e1]; exact r1
  · rw [rows_all h2, first_thin, ← e2]; exact r2
  · rw [show formsP (thinP tn pg) = _ from rfl]
    unfold formsP
    rw [first_thin]
    exact r4
/-- what the law asks -/
theorem thin_could {pg : Pg} (tn : Tn) (h : ∀ o ∈ pg, inLps False o.body) (hne : pg ≠ []) {p : Int × Int} : (CouldR (rowsF (thinP tn pg)) (formsP (thinP tn pg)) p → CouldR (rowsF pg) (formsP pg) p) ∧
    (p.1 ∉ offP tn pg → p.2 ∉ offP tn pg → CouldR (rowsF pg) (formsP pg) p → CouldR (rowsF (thinP tn pg)) (formsP (thinP tn pg)) p) := by
  obtain ⟨Z, hT, r1, r2, r3, r4⟩ := thin_prog tn h hne
  have hG : GraphC (rowsF pg) := ⟨rows_graph, rows_calls hne⟩
  rw [← r1] at hG ⊢
  rw [← r2, ← r3, ← r4]
  have hlow : ∀ x, ∀ y ∈ onR (zR Z) x, y < Z.length := fun x y hy => by
    have hx : x < (zR Z).length := by
      rcases Nat.lt_or_ge x (zR Z).length with c | c
      · exact c
      · rw [onR_none c] at hy; cases hy
    have := hG.low hx y hy
    rwa [show (zR Z).length = Z.length from List.length_map _] at this
  exact ⟨thin_sub hT hlow, thin_stay hT⟩
theorem forms_thin {pg : Pg} (tn : Tn) (h : ∀ o ∈ pg, inLps False o.body) (hne : pg ≠ []) : (formsP (thinP tn pg)).length ≤ (formsP pg).length := by
  obtain ⟨Z, hT, r1, r2, r3, r4⟩ := thin_prog tn h hne
  rw [← r2, ← r4]
  have : ∀ A : List Zi, (∀ z ∈ A, z ∈ Z) → (zF2 A).length ≤ (zF A).length := fun A => by
    induction A with
    | nil => intro _; exact Nat.le_refl _
    | cons z t ih =>
      intro q
      have ih := ih fun x hx => q x (List.mem_cons_of_mem _ hx)
      have ok := hT.ok z (q z (List.mem_cons_self ..))
      unfold zF zF2 at ih ⊢
      rw [List.filterMap_cons, List.filterMap_cons]
      cases e2 : z.f2 with
      | none =>
        cases e1 : z.f with
        | none => exact ih
        | some f => exact Nat.le_succ_of_le ih
      | some f2 =>
        cases er : z.r2 with
        | none => rw [(ok.gone er).2] at e2; cases e2
        | some r' =>
          rw [(ok.same r' er f2 e2).1]
          exact Nat.succ_le_succ ih
  exact this Z fun z hz => hz
/-! small programs -/
mutual
theorem thin_all : ∀ (s : Sm), allSt (thinS tn s) = (allSt s).map (thinS tn)
  | .if1 l e b => by rw [thinS, allSt, allSt, thin_allB b]; simp [thinS]
  | .if2 l e b c => by rw [thinS, allSt, allSt, thin_allB b, thin_allB c]; simp [thinS]
  | .whl l e b => by rw [thinS, allSt, allSt, thin_allB b]; simp [thinS]
  | .brk l => by unfold thinS; rw [allSt_leaf rfl]; simp [thinS]
  | .agn l => by unfold thinS; rw [allSt_leaf rfl]; simp [thinS]
  | .meet l => by unfold thinS; rw [allSt_leaf rfl]; simp [thinS]
  | .stop l => by unfold thinS; rw [allSt_leaf rfl]; simp [thinS]
  | .ret l e => by unfold thinS; rw [allSt_leaf rfl]; simp [thinS]
  | .call l x f es => by unfold thinS; rw [allSt_leaf rfl]; simp [thinS]
  | .set l x e => by unfold thinS; rw [allSt_leaf rfl]; simp [thinS]
  | .tell l e => by unfold thinS; rw [allSt_leaf rfl]; simp [thinS]
  | .join l x w e => by unfold thinS; rw [allSt_leaf rfl]; simp [thinS]
  | .put l a b => by
    rw [allSt_leaf (s := .put l a b) rfl, List.map_singleton]
    refine allSt_leaf ?_
    unfold thinS
    split <;> rfl
theorem thin_allB : ∀ (b : List Sm), allBd (thinB tn b) = (allBd b).map (thinS tn)
  | [] => by unfold thinB; rw [show allBd [] = [] from by unfold allBd; rfl]; rfl
  | s :: t => by rw [thinB, allBd, allBd, thin_all s, thin_allB t, List.map_append]
end
mutual
theorem thin_deep : ∀ (s : Sm), (thinS tn s).deep = s.deep
  | .if1 l e b => by unfold thinS Sm.deep; rw [thin_deeps b]
  | .if2 l e b c => by unfold thinS Sm.deep; rw [thin_deeps b, thin_deeps c]
  | .whl l e b => by unfold thinS Sm.deep; rw [thin_deeps b]
  | .brk l => by unfold thinS; rfl
  | .agn l => by unfold thinS; rfl
  | .meet l => by unfold thinS; rfl
  | .stop l => by unfold thinS; rfl
  | .ret l e => by unfold thinS; rfl
  | .call l x f es => by unfold thinS; rfl
  | .set l x e => by unfold thinS; rfl
  | .tell l e => by unfold thinS; rfl
  | .join l x w e => by unfold thinS; rfl
  | .put l a b => by unfold thinS; split <;> rfl
theorem thin_deeps : ∀ (b : List Sm), deeps (thinB tn b) = deeps b
  | [] => by unfold thinB; rfl
  | s :: t => by unfold thinB deeps; rw [thin_deep s, thin_deeps t]
end
theorem thin_small {n k d : Nat} {s : Sm} (h : smallS k d s) : smallS k d (thinS tn s) := by
  cases s <;> (unfold thinS; try exact h)
  rename_i l a b
  obtain ⟨h1, h2⟩ := h
  have h1 : 2 ≤ k := h1
  split
  · exact ⟨h1, h2⟩
  · exact ⟨by show 1 ≤ k; omega, fun e he => h2 e (by rw [List.mem_singleton.mp he]; simp [Sm.exprs])⟩
  · exact ⟨by show 1 ≤ k; omega, fun e he => h2 e (by rw [List.mem_singleton.mp he]; simp [Sm.exprs])⟩
theorem thin_Small {n k d : Nat} {pg : Pg} (h : Small n k d pg) : Small n k d (thinP tn pg) := by
  refine ⟨by unfold thinP; rw [List.length_map]; exact h.few, fun o ho => ?_, fun o ho f hf => ?_⟩
  · obtain ⟨x, hx, rfl⟩ := List.mem_map.mp ho
    obtain ⟨h1, h2, h3, h4, h5⟩ := h.bd x hx
    refine ⟨by unfold thinD; dsimp only; rw [thin_deeps]; exact h1, by unfold thinD; dsimp only; rw [thin_allB, List.length_map]; exact h2, fun t ht => ?_, h4, thin_lps x.body h5⟩
    unfold thinD at ht
    dsimp only at ht
    rw [thin_allB] at ht
    obtain ⟨y, hy, rfl⟩ := List.mem_map.mp ht
    exact thin_small (n := n) (h3 y hy)
  · obtain ⟨x, hx, rfl⟩ := List.mem_map.mp ho
    obtain ⟨l, y, es, hs⟩ := hf
    unfold thinD at hs
    dsimp only at hs
    rw [thin_allB] at hs
    obtain ⟨s, hs1, hs2⟩ := List.mem_map.mp hs
    have : s = .call l y f es := by
      cases s <;> (unfold thinS at hs2; first | exact hs2 | (cases hs2; done) | (split at hs2 <;> cases hs2))
    rw [this] at hs1
    have := h.calls x hx f ⟨l, y, es, hs1⟩
    unfold thinP
    rw [List.map_map]
    exact this
mutual
theorem off_lenS : ∀ (s : Sm), (offS' tn s).length ≤ (allSt s).length
  | .if1 l e b => by unfold offS'; rw [allSt, List.length_cons]; have := off_lenB b; omega
  | .if2 l e b c => by unfold offS'; rw [allSt, List.length_cons, List.length_append, List.length_append]; have := off_lenB b; have := off_lenB c; omega
  | .whl l e b => by unfold offS'; rw [allSt, List.length_cons]; have := off_lenB b; omega
  | .put l a b => by
    unfold offS'
    rw [allSt_leaf rfl]
    split <;> simp
  | .brk l => by unfold offS'; exact Nat.zero_le _
  | .agn l => by unfold offS'; exact Nat.zero_le _
  | .meet l => by unfold offS'; exact Nat.zero_le _
  | .stop l => by unfold offS'; exact Nat.zero_le _
  | .ret l e => by unfold offS'; exact Nat.zero_le _
  | .call l x f es => by unfold offS'; exact Nat.zero_le _
  | .set l x e => by unfold offS'; exact Nat.zero_le _
  | .tell l e => by unfold offS'; exact Nat.zero_le _
  | .join l x w e => by unfold offS'; exact Nat.zero_le _
theorem off_lenB : ∀ (b : List Sm), (offB tn b).length ≤ (allBd b).length
  | [] => by unfold offB; exact Nat.zero_le _
  | s :: t => by unfold offB; rw [allBd, List.length_append, List.length_append]; have := off_lenS s; have := off_lenB t; omega
end
end
end Tl
namespace K37
open PySem PySem.Spec PyProof.Rows L2 Tl
def top (i : Nat) : Stmt := PySem.Challenge.pw_widelanes_k37_fewer_touches.main.body.getD i (.Pass ⟨0, 0, 0, 0⟩)
def fl_Maker : List Str := ["rows", "slots", "free", "calls", "leaves", "loops"]
abbrev s_expressions_of : Stmt := top 1
abbrev nm_expressions_of : List Str := ["deed", "word"]
theorem sc_expressions_of : FnScope nm_expressions_of ["deed"] (defScope s_expressions_of) := ⟨rfl, rfl, rfl, by decide +kernel, rfl, by decide +kernel, by decide +kernel⟩
def e_expressions_of : He.DefD := ⟨("expressions_of", none), "expressions_of", "expressions_of", defArgs s_expressions_of, defBody s_expressions_of, defScope s_expressions_of, [], []⟩
abbrev s_given_by : Stmt := top 2
abbrev nm_given_by : List Str := ["deed"]
theorem sc_given_by : FnScope nm_given_by ["deed"] (defScope s_given_by) := ⟨rfl, rfl, rfl, by decide +kernel, rfl, by decide +kernel, by decide +kernel⟩
def e_given_by : He.DefD := ⟨("given_by", none), "given_by", "given_by", defArgs s_given_by, defBody s_given_by, defScope s_given_by, [], []⟩
abbrev s_blocks_of : Stmt := top 3
abbrev nm_blocks_of : List Str := ["deed"]
theorem sc_blocks_of : FnScope nm_blocks_of ["deed"] (defScope s_blocks_of) := ⟨rfl, rfl, rfl, by decide +kernel, rfl, by decide +kernel, by decide +kernel⟩
def e_blocks_of : He.DefD := ⟨("blocks_of", none), "blocks_of", "blocks_of", defArgs s_blocks_of, defBody s_blocks_of, defScope s_blocks_of, [], []⟩
abbrev s_all_of : Stmt := top 4
abbrev nm_all_of : List Str := ["body", "found", "deed", "block"]
theorem sc_all_of : FnScope nm_all_of ["body"] (defScope s_all_of) := ⟨rfl, rfl, rfl, by decide +kernel, rfl, by decide +kernel, by decide +kernel⟩
def e_all_of : He.DefD := ⟨("all_of", none), "all_of", "all_of", defArgs s_all_of, defBody s_all_of, defScope s_all_of, [], []⟩
abbrev s_note_names : Stmt := top 6
abbrev nm_note_names : List Str := ["told", "slots", "part"]
theorem sc_note_names : FnScope nm_note_names ["told", "slots"] (defScope s_note_names) := ⟨rfl, rfl, rfl, by decide +kernel, rfl, by decide +kernel, by decide +kernel⟩
def e_note_names : He.DefD := ⟨("note_names", none), "note_names", "note_names", defArgs s_note_names, defBody s_note_names, defScope s_note_names, [], []⟩
abbrev s_slots_of : Stmt := top 7
abbrev nm_slots_of : List Str := ["one", "slots", "name", "deed", "told"]
theorem sc_slots_of : FnScope nm_slots_of ["one"] (defScope s_slots_of) := ⟨rfl, rfl, rfl, by decide +kernel, rfl, by decide +kernel, by decide +kernel⟩
def e_slots_of : He.DefD := ⟨("slots_of", none), "slots_of", "slots_of", defArgs s_slots_of, defBody s_slots_of, defScope s_slots_of, [], []⟩
abbrev s_add_expression : Stmt := top 8
abbrev nm_add_expression : List Str := ["rows", "line", "told", "at", "slots", "word"]
theorem sc_add_expression : FnScope nm_add_expression ["rows", "line", "told", "at", "slots"] (defScope s_add_expression) := ⟨rfl, rfl, rfl, by decide +kernel, rfl, by decide +kernel, by decide +kernel⟩
def e_add_expression : He.DefD := ⟨("add_expression", none), "add_expression", "add_expression", defArgs s_add_expression, defBody s_add_expression, defScope s_add_expression, [], []⟩
abbrev s_Maker___init : Stmt := inClass (top 9) 0
abbrev nm_Maker___init : List Str := ["self"]
theorem sc_Maker___init : FnScope nm_Maker___init ["self"] (defScope s_Maker___init) := ⟨rfl, rfl, rfl, by decide +kernel, rfl, by decide +kernel, by decide +kernel⟩
def e_Maker___init : He.DefD := ⟨("Maker", some "__init__"), "__init__", "Maker.__init__", defArgs s_Maker___init, defBody s_Maker___init, defScope s_Maker___init, [], []⟩
abbrev s_Maker_added : Stmt := inClass (top 9) 1
abbrev nm_Maker_added : List Str := ["self", "row"]
theorem sc_Maker_added : FnScope nm_Maker_added ["self", "row"] (defScope s_Maker_added) := ⟨rfl, rfl, rfl, by decide +kernel, rfl, by decide +kernel, by decide +kernel⟩
def e_Maker_added : He.DefD := ⟨("Maker", some "added"), "added", "Maker.added", defArgs s_Maker_added, defBody s_Maker_added, defScope s_Maker_added, [], []⟩
abbrev s_Maker_reckon : Stmt := inClass (top 9) 2
abbrev nm_Maker_reckon : List Str := ["self", "line", "told", "at"]
theorem sc_Maker_reckon : FnScope nm_Maker_reckon ["self", "line", "told", "at"] (defScope s_Maker_reckon) := ⟨rfl, rfl, rfl, by decide +kernel, rfl, by decide +kernel, by decide +kernel⟩
def e_Maker_reckon : He.DefD := ⟨("Maker", some "reckon"), "reckon", "Maker.reckon", defArgs s_Maker_reckon, defBody s_Maker_reckon, defScope s_Maker_reckon, [], []⟩
abbrev s_Maker_tested : Stmt := inClass (top 9) 3
abbrev nm_Maker_tested : List Str := ["self", "line", "told"]
theorem sc_Maker_tested : FnScope nm_Maker_tested ["self", "line", "told"] (defScope s_Maker_tested) := ⟨rfl, rfl, rfl, by decide +kernel, rfl, by decide +kernel, by decide +kernel⟩
def e_Maker_tested : He.DefD := ⟨("Maker", some "tested"), "tested", "Maker.tested", defArgs s_Maker_tested, defBody s_Maker_tested, defScope s_Maker_tested, [], []⟩
abbrev s_Maker_lead : Stmt := inClass (top 9) 4
abbrev nm_Maker_lead : List Str := ["self", "k", "target"]
theorem sc_Maker_lead : FnScope nm_Maker_lead ["self", "k", "target"] (defScope s_Maker_lead) := ⟨rfl, rfl, rfl, by decide +kernel, rfl, by decide +kernel, by decide +kernel⟩
def e_Maker_lead : He.DefD := ⟨("Maker", some "lead"), "lead", "Maker.lead", defArgs s_Maker_lead, defBody s_Maker_lead, defScope s_Maker_lead, [], []⟩
abbrev s_Maker_lead_here : Stmt := inClass (top 9) 5
abbrev nm_Maker_lead_here : List Str := ["self", "some", "k"]
theorem sc_Maker_lead_here : FnScope nm_Maker_lead_here ["self", "some"] (defScope s_Maker_lead_here) := ⟨rfl, rfl, rfl, by decide +kernel, rfl, by decide +kernel, by decide +kernel⟩
def e_Maker_lead_here : He.DefD := ⟨("Maker", some "lead_here"), "lead_here", "Maker.lead_here", defArgs s_Maker_lead_here, defBody s_Maker_lead_here, defScope s_Maker_lead_here, [], []⟩
abbrev s_last_row : Stmt := top 10
abbrev nm_last_row : List Str := ["deed", "slots", "at", "word"]
theorem sc_last_row : FnScope nm_last_row ["deed", "slots", "at"] (defScope s_last_row) := ⟨rfl, rfl, rfl, by decide +kernel, rfl, by decide +kernel, by decide +kernel⟩
def e_last_row : He.DefD := ⟨("last_row", none), "last_row", "last_row", defArgs s_last_row, defBody s_last_row, defScope s_last_row, [], []⟩
abbrev s_make_way : Stmt := top 11
abbrev nm_make_way : List Str := ["maker", "deed", "line", "begin", "leaving", "k"]
theorem sc_make_way : FnScope nm_make_way ["maker", "deed"] (defScope s_make_way) := ⟨rfl, rfl, rfl, by decide +kernel, rfl, by decide +kernel, by decide +kernel⟩
def e_make_way : He.DefD := ⟨("make_way", none), "make_way", "make_way", defArgs s_make_way, defBody s_make_way, defScope s_make_way, [], []⟩
abbrev s_make_plain : Stmt := top 12
abbrev nm_make_plain : List Str := ["maker", "deed", "line", "at", "told", "row"]
theorem sc_make_plain : FnScope nm_make_plain ["maker", "deed"] (defScope s_make_plain) := ⟨rfl, rfl, rfl, by decide +kernel, rfl, by decide +kernel, by decide +kernel⟩
def e_make_plain : He.DefD := ⟨("make_plain", none), "make_plain", "make_plain", defArgs s_make_plain, defBody s_make_plain, defScope s_make_plain, [], []⟩
abbrev s_make_if : Stmt := top 13
abbrev nm_make_if : List Str := ["maker", "deed", "waiting", "jump"]
theorem sc_make_if : FnScope nm_make_if ["maker", "deed"] (defScope s_make_if) := ⟨rfl, rfl, rfl, by decide +kernel, rfl, by decide +kernel, by decide +kernel⟩
def e_make_if : He.DefD := ⟨("make_if", none), "make_if", "make_if", defArgs s_make_if, defBody s_make_if, defScope s_make_if, [], []⟩
abbrev s_make_while : Stmt := top 14
abbrev nm_make_while : List Str := ["maker", "deed", "begin", "leaving"]
theorem sc_make_while : FnScope nm_make_while ["maker", "deed"] (defScope s_make_while) := ⟨rfl, rfl, rfl, by decide +kernel, rfl, by decide +kernel, by decide +kernel⟩
def e_make_while : He.DefD := ⟨("make_while", none), "make_while", "make_while", defArgs s_make_while, defBody s_make_while, defScope s_make_while, [], []⟩
abbrev s_make_block : Stmt := top 15
abbrev nm_make_block : List Str := ["maker", "body", "deed"]
theorem sc_make_block : FnScope nm_make_block ["maker", "body"] (defScope s_make_block) := ⟨rfl, rfl, rfl, by decide +kernel, rfl, by decide +kernel, by decide +kernel⟩
def e_make_block : He.DefD := ⟨("make_block", none), "make_block", "make_block", defArgs s_make_block, defBody s_make_block, defScope s_make_block, [], []⟩
abbrev s_make_def : Stmt := top 16
abbrev nm_make_def : List Str := ["maker", "one"]
theorem sc_make_def : FnScope nm_make_def ["maker", "one"] (defScope s_make_def) := ⟨rfl, rfl, rfl, by decide +kernel, rfl, by decide +kernel, by decide +kernel⟩
def e_make_def : He.DefD := ⟨("make_def", none), "make_def", "make_def", defArgs s_make_def, defBody s_make_def, defScope s_make_def, [], []⟩
abbrev s_made : Stmt := top 17
abbrev nm_made : List Str := ["program", "maker", "begins", "one", "others", "k", "name"]
theorem sc_made : FnScope nm_made ["program"] (defScope s_made) := ⟨rfl, rfl, rfl, by decide +kernel, rfl, by decide +kernel, by decide +kernel⟩
def e_made : He.DefD := ⟨("made", none), "made", "made", defArgs s_made, defBody s_made, defScope s_made, [], []⟩
abbrev s_next_rows : Stmt := top 19
abbrev nm_next_rows : List Str := ["rows", "k", "row"]
theorem sc_next_rows : FnScope nm_next_rows ["rows", "k"] (defScope s_next_rows) := ⟨rfl, rfl, rfl, by decide +kernel, rfl, by decide +kernel, by decide +kernel⟩
def e_next_rows : He.DefD := ⟨("next_rows", none), "next_rows", "next_rows", defArgs s_next_rows, defBody s_next_rows, defScope s_next_rows, [], []⟩
abbrev s_form_of : Stmt := top 21
abbrev nm_form_of : List Str := ["told", "one", "other"]
theorem sc_form_of : FnScope nm_form_of ["told"] (defScope s_form_of) := ⟨rfl, rfl, rfl, by decide +kernel, rfl, by decide +kernel, by decide +kernel⟩
def e_form_of : He.DefD := ⟨("form_of", none), "form_of", "form_of", defArgs s_form_of, defBody s_form_of, defScope s_form_of, [], []⟩
abbrev s_may_meet : Stmt := top 22
abbrev nm_may_meet : List Str := ["one", "other"]
theorem sc_may_meet : FnScope nm_may_meet ["one", "other"] (defScope s_may_meet) := ⟨rfl, rfl, rfl, by decide +kernel, rfl, by decide +kernel, by decide +kernel⟩
def e_may_meet : He.DefD := ⟨("may_meet", none), "may_meet", "may_meet", defArgs s_may_meet, defBody s_may_meet, defScope s_may_meet, [], []⟩
abbrev s_forms_in : Stmt := top 23
abbrev nm_forms_in : List Str := ["told", "some", "part"]
theorem sc_forms_in : FnScope nm_forms_in ["told"] (defScope s_forms_in) := ⟨rfl, rfl, rfl, by decide +kernel, rfl, by decide +kernel, by decide +kernel⟩
def e_forms_in : He.DefD := ⟨("forms_in", none), "forms_in", "forms_in", defArgs s_forms_in, defBody s_forms_in, defScope s_forms_in, [], []⟩
abbrev s_forms_of : Stmt := top 24
abbrev nm_forms_of : List Str := ["program", "some", "one", "others", "deed", "told"]
theorem sc_forms_of : FnScope nm_forms_of ["program"] (defScope s_forms_of) := ⟨rfl, rfl, rfl, by decide +kernel, rfl, by decide +kernel, by decide +kernel⟩
def e_forms_of : He.DefD := ⟨("forms_of", none), "forms_of", "forms_of", defArgs s_forms_of, defBody s_forms_of, defScope s_forms_of, [], []⟩
abbrev s_behind_calls : Stmt := top 25
abbrev nm_behind_calls : List Str := ["rows", "found", "k", "row"]
theorem sc_behind_calls : FnScope nm_behind_calls ["rows"] (defScope s_behind_calls) := ⟨rfl, rfl, rfl, by decide +kernel, rfl, by decide +kernel, by decide +kernel⟩
def e_behind_calls : He.DefD := ⟨("behind_calls", none), "behind_calls", "behind_calls", defArgs s_behind_calls, defBody s_behind_calls, defScope s_behind_calls, [], []⟩
abbrev s_goes_on : Stmt := top 26
abbrev nm_goes_on : List Str := ["rows", "behind", "found", "first", "k", "row"]
theorem sc_goes_on : FnScope nm_goes_on ["rows"] (defScope s_goes_on) := ⟨rfl, rfl, rfl, by decide +kernel, rfl, by decide +kernel, by decide +kernel⟩
def e_goes_on : He.DefD := ⟨("goes_on", none), "goes_on", "goes_on", defArgs s_goes_on, defBody s_goes_on, defScope s_goes_on, [], []⟩
abbrev s_come_to : Stmt := top 27
abbrev nm_come_to : List Str := ["ways", "start", "mask", "waiting", "k"]
theorem sc_come_to : FnScope nm_come_to ["ways", "start"] (defScope s_come_to) := ⟨rfl, rfl, rfl, by decide +kernel, rfl, by decide +kernel, by decide +kernel⟩
def e_come_to : He.DefD := ⟨("come_to", none), "come_to", "come_to", defArgs s_come_to, defBody s_come_to, defScope s_come_to, [], []⟩
abbrev s_pairs_of : Stmt := top 28
abbrev nm_pairs_of : List Str := ["touches", "found", "k", "one", "other"]
theorem sc_pairs_of : FnScope nm_pairs_of ["touches"] (defScope s_pairs_of) := ⟨rfl, rfl, rfl, by decide +kernel, rfl, by decide +kernel, by decide +kernel⟩
def e_pairs_of : He.DefD := ⟨("pairs_of", none), "pairs_of", "pairs_of", defArgs s_pairs_of, defBody s_pairs_of, defScope s_pairs_of, [], []⟩
abbrev s_could : Stmt := top 29
abbrev nm_could : List Str := ["program", "rows", "spots", "forms", "ways", "starts", "found", "start", "mask", "here", "pair", "k", "row", "form"]
theorem sc_could : FnScope nm_could ["program"] (defScope s_could) := ⟨rfl, rfl, rfl, by decide +kernel, rfl, by decide +kernel, by decide +kernel⟩
def e_could : He.DefD := ⟨("could", none), "could", "could", defArgs s_could, defBody s_could, defScope s_could, [], []⟩
abbrev s_l_cell_at : Stmt := top 31
abbrev nm_l_cell_at : List Str := ["_law_script", "_law_k"]
theorem sc_l_cell_at : FnScope nm_l_cell_at ["_law_script", "_law_k"] (defScope s_l_cell_at) := ⟨rfl, rfl, rfl, by decide +kernel, rfl, by decide +kernel, by decide +kernel⟩
def e_l_cell_at : He.DefD := ⟨("_law_cell_at", none), "_law_cell_at", "_law_cell_at", defArgs s_l_cell_at, defBody s_l_cell_at, defScope s_l_cell_at, [], []⟩
abbrev s_l_spread : Stmt := top 32
abbrev nm_l_spread : List Str := ["_law_cell", "_law_k", "_law_big", "_law_number"]
theorem sc_l_spread : FnScope nm_l_spread ["_law_cell", "_law_k"] (defScope s_l_spread) := ⟨rfl, rfl, rfl, by decide +kernel, rfl, by decide +kernel, by decide +kernel⟩
def e_l_spread : He.DefD := ⟨("_law_spread", none), "_law_spread", "_law_spread", defArgs s_l_spread, defBody s_l_spread, defScope s_l_spread, [], []⟩
abbrev s_l_names : Stmt := top 33
abbrev nm_l_names : List Str := ["_law_number", "_law_letters", "_law_kept", "_law_long", "_law_place_here", "_law_rest", "_law_base", "_law_k", "_law_found", "_law_sign", "_law_word"]
theorem sc_l_names : FnScope nm_l_names ["_law_number"] (defScope s_l_names) := ⟨rfl, rfl, rfl, by decide +kernel, rfl, by decide +kernel, by decide +kernel⟩
def e_l_names : He.DefD := ⟨("_law_names", none), "_law_names", "_law_names", defArgs s_l_names, defBody s_l_names, defScope s_l_names, [], []⟩
abbrev s_l_place : Stmt := top 34
abbrev nm_l_place : List Str := ["_law_number", "_law_names_here", "_law_kind", "_law_rest", "_law_near", "_law_lane", "_law_name", "_law_beside", "_law_other"]
theorem sc_l_place : FnScope nm_l_place ["_law_number", "_law_names_here"] (defScope s_l_place) := ⟨rfl, rfl, rfl, by decide +kernel, rfl, by decide +kernel, by decide +kernel⟩
def e_l_place : He.DefD := ⟨("_law_place", none), "_law_place", "_law_place", defArgs s_l_place, defBody s_l_place, defScope s_l_place, [], []⟩
abbrev s_l_simple : Stmt := top 35
abbrev nm_l_simple : List Str := ["_law_number", "_law_names_here", "_law_kind", "_law_rest", "_law_word", "_law_leaf", "_law_box", "_law_told", "_law_k"]
theorem sc_l_simple : FnScope nm_l_simple ["_law_number", "_law_names_here"] (defScope s_l_simple) := ⟨rfl, rfl, rfl, by decide +kernel, rfl, by decide +kernel, by decide +kernel⟩
def e_l_simple : He.DefD := ⟨("_law_simple", none), "_law_simple", "_law_simple", defArgs s_l_simple, defBody s_l_simple, defScope s_l_simple, [], []⟩
abbrev s_l_call : Stmt := top 36
abbrev nm_l_call : List Str := ["_law_rest", "_law_x", "_law_names_here", "_law_rooms_here", "_law_others", "_law_name", "_law_params", "_law_handed", "_law_k", "_law_room"]
theorem sc_l_call : FnScope nm_l_call ["_law_rest", "_law_x", "_law_names_here", "_law_rooms_here"] (defScope s_l_call) := ⟨rfl, rfl, rfl, by decide +kernel, rfl, by decide +kernel, by decide +kernel⟩
def e_l_call : He.DefD := ⟨("_law_call", none), "_law_call", "_law_call", defArgs s_l_call, defBody s_l_call, defScope s_l_call, [], []⟩
abbrev s_l_op : Stmt := top 37
abbrev nm_l_op : List Str := ["_law_number", "_law_names_here", "_law_rooms_here", "_law_kind", "_law_x", "_law_rest"]
theorem sc_l_op : FnScope nm_l_op ["_law_number", "_law_names_here", "_law_rooms_here"] (defScope s_l_op) := ⟨rfl, rfl, rfl, by decide +kernel, rfl, by decide +kernel, by decide +kernel⟩
def e_l_op : He.DefD := ⟨("_law_op", none), "_law_op", "_law_op", defArgs s_l_op, defBody s_l_op, defScope s_l_op, [], []⟩
abbrev s_l_closed_up : Stmt := top 38
abbrev nm_l_closed_up : List Str := ["_law_frame"]
theorem sc_l_closed_up : FnScope nm_l_closed_up ["_law_frame"] (defScope s_l_closed_up) := ⟨rfl, rfl, rfl, by decide +kernel, rfl, by decide +kernel, by decide +kernel⟩
def e_l_closed_up : He.DefD := ⟨("_law_closed_up", none), "_law_closed_up", "_law_closed_up", defArgs s_l_closed_up, defBody s_l_closed_up, defScope s_l_closed_up, [], []⟩
abbrev s_l_may_stand : Stmt := top 39
abbrev nm_l_may_stand : List Str := ["_law_op_here", "_law_pile", "_law_main", "_law_frame"]
theorem sc_l_may_stand : FnScope nm_l_may_stand ["_law_op_here", "_law_pile", "_law_main"] (defScope s_l_may_stand) := ⟨rfl, rfl, rfl, by decide +kernel, rfl, by decide +kernel, by decide +kernel⟩
def e_l_may_stand : He.DefD := ⟨("_law_may_stand", none), "_law_may_stand", "_law_may_stand", defArgs s_l_may_stand, defBody s_l_may_stand, defScope s_l_may_stand, [], []⟩
abbrev s_l_laid : Stmt := top 40
abbrev nm_l_laid : List Str := ["_law_ops", "_law_line", "_law_main", "_law_body", "_law_here", "_law_pile", "_law_op_here", "_law_frame"]
theorem sc_l_laid : FnScope nm_l_laid ["_law_ops", "_law_line", "_law_main"] (defScope s_l_laid) := ⟨rfl, rfl, rfl, by decide +kernel, rfl, by decide +kernel, by decide +kernel⟩
def e_l_laid : He.DefD := ⟨("_law_laid", none), "_law_laid", "_law_laid", defArgs s_l_laid, defBody s_l_laid, defScope s_l_laid, [], []⟩
abbrev s_l_rooms : Stmt := top 41
abbrev nm_l_rooms : List Str := ["_law_head", "_law_names_here", "_law_variables_here", "_law_many", "_law_rooms_here", "_law_k", "_law_digits", "_law_count", "_law_j"]
theorem sc_l_rooms : FnScope nm_l_rooms ["_law_head", "_law_names_here", "_law_variables_here"] (defScope s_l_rooms) := ⟨rfl, rfl, rfl, by decide +kernel, rfl, by decide +kernel, by decide +kernel⟩
def e_l_rooms : He.DefD := ⟨("_law_rooms", none), "_law_rooms", "_law_rooms", defArgs s_l_rooms, defBody s_l_rooms, defScope s_l_rooms, [], []⟩
abbrev s_l_variables : Stmt := top 42
abbrev nm_l_variables : List Str := ["_law_head", "_law_names_here"]
theorem sc_l_variables : FnScope nm_l_variables ["_law_head", "_law_names_here"] (defScope s_l_variables) := ⟨rfl, rfl, rfl, by decide +kernel, rfl, by decide +kernel, by decide +kernel⟩
def e_l_variables : He.DefD := ⟨("_law_variables", none), "_law_variables", "_law_variables", defArgs s_l_variables, defBody s_l_variables, defScope s_l_variables, [], []⟩
abbrev s_l_program : Stmt := top 43
abbrev nm_l_program : List Str := ["_law_script", "_law_names_here", "_law_most", "_law_head", "_law_variables_here", "_law_rooms_here", "_law_room", "_law_ops", "_law_k", "_law_cell", "_law_number", "_law_program_here", "_law_line", "_law_body", "_law_last"]
theorem sc_l_program : FnScope nm_l_program ["_law_script", "_law_names_here", "_law_most"] (defScope s_l_program) := ⟨rfl, rfl, rfl, by decide +kernel, rfl, by decide +kernel, by decide +kernel⟩
def e_l_program : He.DefD := ⟨("_law_program", none), "_law_program", "_law_program", defArgs s_l_program, defBody s_l_program, defScope s_l_program, [], []⟩
abbrev s_l_turned : Stmt := top 44
abbrev nm_l_turned : List Str := ["_law_deed", "_law_bits", "_law_name"]
theorem sc_l_turned : FnScope nm_l_turned ["_law_deed", "_law_bits", "_law_name"] (defScope s_l_turned) := ⟨rfl, rfl, rfl, by decide +kernel, rfl, by decide +kernel, by decide +kernel⟩
def e_l_turned : He.DefD := ⟨("_law_turned", none), "_law_turned", "_law_turned", defArgs s_l_turned, defBody s_l_turned, defScope s_l_turned, [], []⟩
abbrev s_l_thinned : Stmt := top 45
abbrev nm_l_thinned : List Str := ["_law_body", "_law_bits", "_law_name", "_law_found", "_law_deed", "_law_blocks"]
theorem sc_l_thinned : FnScope nm_l_thinned ["_law_body", "_law_bits", "_law_name"] (defScope s_l_thinned) := ⟨rfl, rfl, rfl, by decide +kernel, rfl, by decide +kernel, by decide +kernel⟩
def e_l_thinned : He.DefD := ⟨("_law_thinned", none), "_law_thinned", "_law_thinned", defArgs s_l_thinned, defBody s_l_thinned, defScope s_l_thinned, [], []⟩
abbrev s_l_lines : Stmt := top 46
abbrev nm_l_lines : List Str := ["_law_body", "_law_bits", "_law_lines_here", "_law_deed"]
theorem sc_l_lines : FnScope nm_l_lines ["_law_body", "_law_bits"] (defScope s_l_lines) := ⟨rfl, rfl, rfl, by decide +kernel, rfl, by decide +kernel, by decide +kernel⟩
def e_l_lines : He.DefD := ⟨("_law_lines", none), "_law_lines", "_law_lines", defArgs s_l_lines, defBody s_l_lines, defScope s_l_lines, [], []⟩
abbrev s_law : Stmt := top 47
abbrev nm_law : List Str := ["_law_script", "_law_names_here", "_law_bits", "_law_program_here", "_law_thin", "_law_lines_here", "_law_one", "_law_found", "_law_fewer", "_law_stay", "_law_pair"]
theorem sc_law : FnScope nm_law ["_law_script"] (defScope s_law) := ⟨rfl, rfl, rfl, by decide +kernel, rfl, by decide +kernel, by decide +kernel⟩
def e_law : He.DefD := ⟨("law", none), "law", "law", defArgs s_law, defBody s_law, defScope s_law, [], []⟩
def fn : List He.DefD := [e_expressions_of, e_given_by, e_blocks_of, e_all_of, e_note_names, e_slots_of, e_add_expression, e_Maker___init, e_Maker_added, e_Maker_reckon, e_Maker_tested, e_Maker_lead, e_Maker_lead_here, e_last_row, e_make_way, e_make_plain, e_make_if, e_make_while, e_make_block, e_make_def, e_made, e_next_rows, e_form_of, e_may_meet, e_forms_in, e_forms_of, e_behind_calls, e_goes_on, e_come_to, e_pairs_of, e_could, e_l_cell_at, e_l_spread, e_l_names, e_l_place, e_l_simple, e_l_call, e_l_op, e_l_closed_up, e_l_may_stand, e_l_laid, e_l_rooms, e_l_variables, e_l_program, e_l_turned, e_l_thinned, e_l_lines, e_law]
def fa : List He.Fa := [.glo "expressions_of", .glo "given_by", .glo "blocks_of", .glo "all_of", .glo "note_names", .glo "slots_of", .glo "add_expression", .glo "last_row", .glo "make_way", .glo "make_plain", .glo "make_if", .glo "make_while", .glo "make_block", .glo "make_def", .glo "made", .glo "next_rows", .glo "form_of", .glo "may_meet", .glo "forms_in", .glo "forms_of", .glo "behind_calls", .glo "goes_on", .glo "come_to", .glo "pairs_of", .glo "could", .glo "_law_cell_at", .glo "_law_spread", .glo "_law_names", .glo "_law_place", .glo "_law_simple", .glo "_law_call", .glo "_law_op", .glo "_law_closed_up", .glo "_law_may_stand", .glo "_law_laid", .glo "_law_rooms", .glo "_law_variables", .glo "_law_program", .glo "_law_turned", .glo "_law_thinned", .glo "_law_lines", .glo "law", .cls "Maker", .noat "Maker" "rows", .noat "Maker" "slots", .noat "Maker" "free", .noat "Maker" "calls", .noat "Maker" "leaves", .noat "Maker" "loops", .mkr "Maker", .glo "Maker", .meth "Maker" "added", .meth "Maker" "reckon", .meth "Maker" "tested", .meth "Maker" "lead", .meth "Maker" "lead_here", .free "list", .free "len", .free "sorted", .free "enumerate", .free "min", .free "max", .free "zip", .free "range", .free "any", .free "isinstance", .free "all"]
abbrev Tp (K : PySem.W.Frag) (mg : Str → Option Value) : Prop := Top fa fn K mg
section
variable {K : PySem.W.Frag} {mg : Str → Option Value}
theorem m_expressions_of (T : Tp K mg) : mg "expressions_of" = some (.ref (He.ga K "expressions_of")) := T.glo 0
theorem m_given_by (T : Tp K mg) : mg "given_by" = some (.ref (He.ga K "given_by")) := T.glo 1
theorem m_blocks_of (T : Tp K mg) : mg "blocks_of" = some (.ref (He.ga K "blocks_of")) := T.glo 2
theorem m_all_of (T : Tp K mg) : mg "all_of" = some (.ref (He.ga K "all_of")) := T.glo 3
theorem m_note_names (T : Tp K mg) : mg "note_names" = some (.ref (He.ga K "note_names")) := T.glo 4
theorem m_slots_of (T : Tp K mg) : mg "slots_of" = some (.ref (He.ga K "slots_of")) := T.glo 5
theorem m_add_expression (T : Tp K mg) : mg "add_expression" = some (.ref (He.ga K "add_expression")) := T.glo 6
theorem m_last_row (T : Tp K mg) : mg "last_row" = some (.ref (He.ga K "last_row")) := T.glo 7
theorem m_make_way (T : Tp K mg) : mg "make_way" = some (.ref (He.ga K "make_way")) := T.glo 8
theorem m_make_plain (T : Tp K mg) : mg "make_plain" = some (.ref (He.ga K "make_plain")) := T.glo 9
theorem m_make_if (T : Tp K mg) : mg "make_if" = some (.ref (He.ga K "make_if")) := T.glo 10
theorem m_make_while (T : Tp K mg) : mg "make_while" = some (.ref (He.ga K "make_while")) := T.glo 11
theorem m_make_block (T : Tp K mg) : mg "make_block" = some (.ref (He.ga K "make_block")) := T.glo 12
theorem m_make_def (T : Tp K mg) : mg "make_def" = some (.ref (He.ga K "make_def")) := T.glo 13
theorem m_made (T : Tp K mg) : mg "made" = some (.ref (He.ga K "made")) := T.glo 14
theorem m_next_rows (T : Tp K mg) : mg "next_rows" = some (.ref (He.ga K "next_rows")) := T.glo 15
theorem m_form_of (T : Tp K mg) : mg "form_of" = some (.ref (He.ga K "form_of")) := T.glo 16
theorem m_may_meet (T : Tp K mg) : mg "may_meet" = some (.ref (He.ga K "may_meet")) := T.glo 17
theorem m_forms_in (T : Tp K mg) : mg "forms_in" = some (.ref (He.ga K "forms_in")) := T.glo 18
theorem m_forms_of (T : Tp K mg) : mg "forms_of" = some (.ref (He.ga K "forms_of")) := T.glo 19
theorem m_behind_calls (T : Tp K mg) : mg "behind_calls" = some (.ref (He.ga K "behind_calls")) := T.glo 20
theorem m_goes_on (T : Tp K mg) : mg "goes_on" = some (.ref (He.ga K "goes_on")) := T.glo 21
theorem m_come_to (T : Tp K mg) : mg "come_to" = some (.ref (He.ga K "come_to")) := T.glo 22
theorem m_pairs_of (T : Tp K mg) : mg "pairs_of" = some (.ref (He.ga K "pairs_of")) := T.glo 23
theorem m_could (T : Tp K mg) : mg "could" = some (.ref (He.ga K "could")) := T.glo 24
theorem m_l_cell_at (T : Tp K mg) : mg "_law_cell_at" = some (.ref (He.ga K "_law_cell_at")) := T.glo 25
theorem m_l_spread (T : Tp K mg) : mg "_law_spread" = some (.ref (He.ga K "_law_spread")) := T.glo 26
theorem m_l_names (T : Tp K mg) : mg "_law_names" = some (.ref (He.ga K "_law_names")) := T.glo 27
theorem m_l_place (T : Tp K mg) : mg "_law_place" = some (.ref (He.ga K "_law_place")) := T.glo 28
theorem m_l_simple (T : Tp K mg) : mg "_law_simple" = some (.ref (He.ga K "_law_simple")) := T.glo 29
theorem m_l_call (T : Tp K mg) : mg "_law_call" = some (.ref (He.ga K "_law_call")) := T.glo 30
theorem m_l_op (T : Tp K mg) : mg "_law_op" = some (.ref (He.ga K "_law_op")) := T.glo 31
theorem m_l_closed_up (T : Tp K mg) : mg "_law_closed_up" = some (.ref (He.ga K "_law_closed_up")) := T.glo 32
theorem m_l_may_stand (T : Tp K mg) : mg "_law_may_stand" = some (.ref (He.ga K "_law_may_stand")) := T.glo 33
theorem m_l_laid (T : Tp K mg) : mg "_law_laid" = some (.ref (He.ga K "_law_laid")) := T.glo 34
theorem m_l_rooms (T : Tp K mg) : mg "_law_rooms" = some (.ref (He.ga K "_law_rooms")) := T.glo 35
theorem m_l_variables (T : Tp K mg) : mg "_law_variables" = some (.ref (He.ga K "_law_variables")) := T.glo 36
theorem m_l_program (T : Tp K mg) : mg "_law_program" = some (.ref (He.ga K "_law_program")) := T.glo 37
theorem m_l_turned (T : Tp K mg) : mg "_law_turned" = some (.ref (He.ga K "_law_turned")) := T.glo 38
theorem m_l_thinned (T : Tp K mg) : mg "_law_thinned" = some (.ref (He.ga K "_law_thinned")) := T.glo 39
theorem m_l_lines (T : Tp K mg) : mg "_law_lines" = some (.ref (He.ga K "_law_lines")) := T.glo 40
theorem m_law (T : Tp K mg) : mg "law" = some (.ref (He.ga K "law")) := T.glo 41
theorem c_Maker_rows (T : Tp K mg) : ∀ C, (C = He.ga K "Maker") → Cls K C ∧ NoAttr K C "rows" := by
  rintro _ (rfl)
  · exact ⟨T.cls 42, T.noat 43⟩
theorem c_Maker_slots (T : Tp K mg) : ∀ C, (C = He.ga K "Maker") → Cls K C ∧ NoAttr K C "slots" := by
  rintro _ (rfl)
  · exact ⟨T.cls 42, T.noat 44⟩
theorem c_Maker_free (T : Tp K mg) : ∀ C, (C = He.ga K "Maker") → Cls K C ∧ NoAttr K C "free" := by
  rintro _ (rfl)
  · exact ⟨T.cls 42, T.noat 45⟩
theorem c_Maker_calls (T : Tp K mg) : ∀ C, (C = He.ga K "Maker") → Cls K C ∧ NoAttr K C "calls" := by
  rintro _ (rfl)
  · exact ⟨T.cls 42, T.noat 46⟩
theorem c_Maker_leaves (T : Tp K mg) : ∀ C, (C = He.ga K "Maker") → Cls K C ∧ NoAttr K C "leaves" := by
  rintro _ (rfl)
  · exact ⟨T.cls 42, T.noat 47⟩
theorem c_Maker_loops (T : Tp K mg) : ∀ C, (C = He.ga K "Maker") → Cls K C ∧ NoAttr K C "loops" := by
  rintro _ (rfl)
  · exact ⟨T.cls 42, T.noat 48⟩
theorem m_list (T : Tp K mg) : mg "list" = none := T.free 56
theorem m_len (T : Tp K mg) : mg "len" = none := T.free 57
theorem m_sorted (T : Tp K mg) : mg "sorted" = none := T.free 58
theorem m_enumerate (T : Tp K mg) : mg "enumerate" = none := T.free 59
theorem m_min (T : Tp K mg) : mg "min" = none := T.free 60
theorem m_max (T : Tp K mg) : mg "max" = none := T.free 61
theorem m_zip (T : Tp K mg) : mg "zip" = none := T.free 62
theorem m_range (T : Tp K mg) : mg "range" = none := T.free 63
theorem m_any (T : Tp K mg) : mg "any" = none := T.free 64
theorem m_isinstance (T : Tp K mg) : mg "isinstance" = none := T.free 65
theorem m_all (T : Tp K mg) : mg "all" = none := T.free 66
end
end K37
local macro_rules | `(tactic| walk_at "vc") => `(tactic| simp only [Tl.utSdk, Tl.uDisp1, Tl.uIsB, Tl.uSortDI, Tl.op_lane, Tl.op_lanes, Tl.op_mine, Tl.op_num, Tl.op_name, Tl.op_box, Tl.cut_tail, Tl.val_name, Tl.val_row, Tl.val_def, Tl.val_back, Tl.ofS_inj, String.reduceEq, Tl.uDic, Tl.oDA_ki, Tl.oDA_ks, Tl.oDA_t, Tl.oPA_ki, Tl.oPA_ks, Tl.oPA_t, Tl.consK_s, Tl.kT_nil, Tl.kT_i, Tl.kT_s, Tl.uzDict, Tl.uIn, Tl.uRepS, Tl.uRep, Tl.uRepM, Tl.uCatT, Tl.uSlT, Tl.oLD_k, Tl.oLD_t, Tl.uLenD, Tl.z_tDnK, Tl.z_tDnT, Tl.z_tDg, Tl.z_tDi, Tl.z_tDg2, Tl.z_tRe, Tl.z_sRe, Tl.wip, Tl.uObj, Tl.oAt_i, Tl.cxK, Tl.cxKn, true_or, or_true, or_false, false_or, Nat.zero_le, Nat.le_refl, Tl.mup_same, Tl.mup_mup, Tl.uAlt, Tl.z_tFd, Tl.z_sFd, Tl.z_sFa, Tl.z_tMe, Tl.z_tMk, Tl.nthD, Tl.putD, Tl.uFo, Tl.uLcF, Tl.uLcV', Tl.uAsRef, Tl.z_sNx, Tl.z_sSq, Tl.z_sBk, Tl.z_sCt, Tl.z_sDr, Tl.z_sRt, Tl.z_sRtN, Tl.z_sIf, Tl.z_sAs, Tl.z_gN, Tl.z_gSb, Tl.z_tK, Tl.z_tO, Tl.z_tU, Tl.z_tCa, Tl.z_tN, Tl.z_tCs, Tl.z_tAn, Tl.tOr', Tl.z_tNo, Tl.z_tIfE, Tl.z_tCl, Tl.z_tTu, Tl.z_tLi, Tl.z_tLm, Tl.z_tSc, Tl.z_oNo, Tl.z_tMt, Tl.z_tMt0, Tl.z_tYe, Tl.z_tLt, Tl.kit_ii, Tl.kit_ib, Tl.kit_bi, Tl.kit_bb, Tl.kit_si, Tl.kit_ss, Tl.kit_is, Tl.kit_tt, Tl.kit_ll, Tl.kit_lt, Tl.kit_tl, Tl.kit_ts, Tl.kit_ls, Tl.kit_sl, Tl.kit_st, Tl.kit_it, Tl.kit_il, Tl.kit_dd, Tl.kit_ni, Tl.kit_nb, Tl.begin_, Tl.nth, List.map, List.length, List.replicate, List.append, List.set, List.nil_append, List.cons_append, List.append_nil, Nat.reduceAdd, Nat.reduceSub, Nat.zero_add, reduceIte, Bool.false_eq_true, Bool.true_eq_false, Bool.not_eq_true', Bool.not_eq_false', Bool.not_true, Bool.not_false, not_true_eq_false, not_false_eq_true, decide_eq_true_eq, decide_eq_false_iff_not, decide_not, Option.isSome_some, true_and, and_true, Int.reduceLT, Int.reduceLE, Int.reduceNeg, List.cons.injEq, Option.some.injEq, PySem.sizeLine_eq, Nat.reduceLeDiff, List.length_map, List.length_append, List.length_cons, List.length_nil, Tl.oBl_i, Tl.oInt_i, Tl.oStr_i, Tl.oTup_i, Tl.oSome_i, Tl.oBl_if, Tl.uV, Tl.uBo, Tl.uAnV, Tl.uOrV, Tl.uNoV, Tl.uCh, Tl.uNl0, Tl.uCs1, Tl.uTp, Tl.uAg, Tl.uInt, Tl.uInt0, Tl.uNegI, Tl.uEq, Tl.uNe, Tl.dScal_ii, Tl.dScal_ss, Tl.dScal_bb, Tl.dScal_nn, Tl.dScal_ni, Tl.dScal_in, Tl.dScal_is, Tl.dScal_si, Tl.uIsN, Tl.uNotN, Tl.nonD_n, Tl.nonD_i, Tl.nonD_s, Tl.nonD_t, Tl.nonD_l, Tl.nonD_b, Tl.nonD_r, Tl.uCatS, Tl.uCatL, Tl.uCatM, Tl.lstOf_l, Tl.lstOf_c, Tl.lstOf_m, Tl.trkOf_l, Tl.trkOf_m, Tl.tupOf_t, Tl.tupOf_b, Tl.seqOf_t, Tl.seqOf_b, Tl.seqOf_l, Tl.seqOf_c, Tl.seqOf_r, Tl.uIx_t, Tl.uIx_b, Tl.uIx_l, Tl.uIx_c, Tl.uIx_s, Tl.uIx_r, Tl.uYes, Tl.uSlL, Tl.uSlM, Tl.uSlS, Tl.uIsi, Tl.dTy_n, Tl.dTy_b, Tl.dTy_i, Tl.dTy_s, Tl.dTy_t, Tl.dTy_l, Tl.uLen, Tl.lenOf_t, Tl.lenOf_b, Tl.lenOf_l, Tl.lenOf_c, Tl.lenOf_m, Tl.uIntI, Tl.uIntB, Tl.uLs, Tl.uTu, Tl.oL1_i, Tl.oL2_i, Tl.oL3_i, Tl.uR1, Tl.uR2, Tl.uR3, Tl.uEn, Tl.uZi, Tl.uSt, Tl.uRv, Tl.uDivmod, Tl.uList, Tl.uListM, Tl.uSum, Tl.uMax, Tl.uMin, Tl.intLst_l, Tl.intLst_c, Tl.blLst_l, Tl.uMax2, Tl.uMin2, Tl.uAbs, Tl.uAny, Tl.uAll, Tl.mLst_m, Tl.uAppend, Tl.uExtend, Tl.uPop, Tl.uSet, Tl.lMt_l, Tl.isS_m, Tl.atI_0, Tl.atI_1, Tl.atI_2, Tl.atI_3, Tl.atI_4, Tl.atI_5])
local macro_rules | `(tactic| walk_at "vh") => `(tactic| simp only [Tl.utSdk, Tl.uDisp1, Tl.uIsB, Tl.uSortDI, Tl.op_lane, Tl.op_lanes, Tl.op_mine, Tl.op_num, Tl.op_name, Tl.op_box, Tl.cut_tail, Tl.val_name, Tl.val_row, Tl.val_def, Tl.val_back, Tl.ofS_inj, String.reduceEq, Tl.uDic, Tl.oDA_ki, Tl.oDA_ks, Tl.oDA_t, Tl.oPA_ki, Tl.oPA_ks, Tl.oPA_t, Tl.consK_s, Tl.kT_nil, Tl.kT_i, Tl.kT_s, Tl.uzDict, Tl.uIn, Tl.uRepS, Tl.uRep, Tl.uRepM, Tl.uCatT, Tl.uSlT, Tl.oLD_k, Tl.oLD_t, Tl.uLenD, Tl.z_tDnK, Tl.z_tDnT, Tl.z_tDg, Tl.z_tDi, Tl.z_tDg2, Tl.z_tRe, Tl.z_sRe, Tl.wip, Tl.uObj, Tl.oAt_i, Tl.cxK, Tl.cxKn, true_or, or_true, or_false, false_or, Nat.zero_le, Nat.le_refl, Tl.mup_same, Tl.mup_mup, Tl.uAlt, Tl.z_tFd, Tl.z_sFd, Tl.z_sFa, Tl.z_tMe, Tl.z_tMk, Tl.nthD, Tl.putD, Tl.uFo, Tl.uLcF, Tl.uLcV', Tl.uAsRef, Tl.z_sNx, Tl.z_sSq, Tl.z_sBk, Tl.z_sCt, Tl.z_sDr, Tl.z_sRt, Tl.z_sRtN, Tl.z_sIf, Tl.z_sAs, Tl.z_gN, Tl.z_gSb, Tl.z_tK, Tl.z_tO, Tl.z_tU, Tl.z_tCa, Tl.z_tN, Tl.z_tCs, Tl.z_tAn, Tl.tOr', Tl.z_tNo, Tl.z_tIfE, Tl.z_tCl, Tl.z_tTu, Tl.z_tLi, Tl.z_tLm, Tl.z_tSc, Tl.z_oNo, Tl.z_tMt, Tl.z_tMt0, Tl.z_tYe, Tl.z_tLt, Tl.kit_ii, Tl.kit_ib, Tl.kit_bi, Tl.kit_bb, Tl.kit_si, Tl.kit_ss, Tl.kit_is, Tl.kit_tt, Tl.kit_ll, Tl.kit_lt, Tl.kit_tl, Tl.kit_ts, Tl.kit_ls, Tl.kit_sl, Tl.kit_st, Tl.kit_it, Tl.kit_il, Tl.kit_dd, Tl.kit_ni, Tl.kit_nb, Tl.begin_, Tl.nth, List.map, List.length, List.replicate, List.append, List.set, List.nil_append, List.cons_append, List.append_nil, Nat.reduceAdd, Nat.reduceSub, Nat.zero_add, reduceIte, Bool.false_eq_true, Bool.true_eq_false, Bool.not_eq_true', Bool.not_eq_false', Bool.not_true, Bool.not_false, not_true_eq_false, not_false_eq_true, decide_eq_true_eq, decide_eq_false_iff_not, decide_not, Option.isSome_some, true_and, and_true, Int.reduceLT, Int.reduceLE, Int.reduceNeg, List.cons.injEq, Option.some.injEq, PySem.sizeLine_eq, Nat.reduceLeDiff, List.length_map, List.length_append, List.length_cons, List.length_nil, Tl.oBl_i, Tl.oInt_i, Tl.oStr_i, Tl.oTup_i, Tl.oSome_i, Tl.oBl_if, Tl.uV, Tl.uBo, Tl.uAnV, Tl.uOrV, Tl.uNoV, Tl.uCh, Tl.uNl0, Tl.uCs1, Tl.uTp, Tl.uAg, Tl.uInt, Tl.uInt0, Tl.uNegI, Tl.uEq, Tl.uNe, Tl.dScal_ii, Tl.dScal_ss, Tl.dScal_bb, Tl.dScal_nn, Tl.dScal_ni, Tl.dScal_in, Tl.dScal_is, Tl.dScal_si, Tl.uIsN, Tl.uNotN, Tl.nonD_n, Tl.nonD_i, Tl.nonD_s, Tl.nonD_t, Tl.nonD_l, Tl.nonD_b, Tl.nonD_r, Tl.uCatS, Tl.uCatL, Tl.uCatM, Tl.lstOf_l, Tl.lstOf_c, Tl.lstOf_m, Tl.trkOf_l, Tl.trkOf_m, Tl.tupOf_t, Tl.tupOf_b, Tl.seqOf_t, Tl.seqOf_b, Tl.seqOf_l, Tl.seqOf_c, Tl.seqOf_r, Tl.uIx_t, Tl.uIx_b, Tl.uIx_l, Tl.uIx_c, Tl.uIx_s, Tl.uIx_r, Tl.uYes, Tl.uSlL, Tl.uSlM, Tl.uSlS, Tl.uIsi, Tl.dTy_n, Tl.dTy_b, Tl.dTy_i, Tl.dTy_s, Tl.dTy_t, Tl.dTy_l, Tl.uLen, Tl.lenOf_t, Tl.lenOf_b, Tl.lenOf_l, Tl.lenOf_c, Tl.lenOf_m, Tl.uIntI, Tl.uIntB, Tl.uLs, Tl.uTu, Tl.oL1_i, Tl.oL2_i, Tl.oL3_i, Tl.uR1, Tl.uR2, Tl.uR3, Tl.uEn, Tl.uZi, Tl.uSt, Tl.uRv, Tl.uDivmod, Tl.uList, Tl.uListM, Tl.uSum, Tl.uMax, Tl.uMin, Tl.intLst_l, Tl.intLst_c, Tl.blLst_l, Tl.uMax2, Tl.uMin2, Tl.uAbs, Tl.uAny, Tl.uAll, Tl.mLst_m, Tl.uAppend, Tl.uExtend, Tl.uPop, Tl.uSet, Tl.lMt_l, Tl.isS_m, Tl.atI_0, Tl.atI_1, Tl.atI_2, Tl.atI_3, Tl.atI_4, Tl.atI_5, *])
namespace K37
open PySem PySem.Spec PyProof.Rows L2 Tl
section
variable {P : Program} {w : World} {K : PySem.W.Frag} {mg : Str → Option Value} {base : Heap}
def spExprsOf : SpT := fun ds M Q _ => ∃ s : Sm, ds = [s.d] ∧ s.exprs.length ≤ 1000 ∧ Q (.lst (s.exprs.map Ex.d)) M
theorem ok_expressions_of (T : Tp K mg) : Fn P w K mg base CX0 1 "expressions_of" spExprsOf := by
  refine fn_top T 0 e_expressions_of (m_expressions_of T) sc_expressions_of (by rintro _ M Q Et ⟨n, rfl, _⟩; rfl) (fun cdv A outer s H E hr => ⟨_, (qss_cons (qs_set (i := 1) sc_expressions_of.nd (q_ix (qv 0) q_int))
 (qss_cons (qs_if (qt_cmp oq_eq (qv 1) q_str)
  (qss_one (qs_ret (q_lst (qa_cons (q_ix (qv 0) q_int) (qa_cons (q_ix (qv 0) q_int) qa_nil)))))
  qss_nil)
 (qss_cons (qs_if (qt_w (qw_or (qt_cmp oq_eq (qv 1) q_str) (qw_or (qt_cmp oq_eq (qv 1) q_str) (qw_or (qt_cmp oq_eq (qv 1) q_str) (qw_or1 (qt_cmp oq_eq (qv 1) q_str))))))
  (qss_one (qs_ret (q_lst (qa_cons (q_ix (qv 0) q_int) qa_nil))))
  qss_nil)
 (qss_cons (qs_if (qt_cmp oq_eq (qv 1) q_str)
  (qss_one (qs_ret (q_lst (qa_cons (q_ix (qv 0) q_int) qa_nil))))
  qss_nil)
 (qss_cons (qs_if (qt_cmp oq_eq (qv 1) q_str)
  (qss_one (qs_ret (q_callTy cq_list (m_list T) (by decide +kernel) (qa_cons (q_ix (qv 0) q_int) qa_nil))))
  qss_nil)
 (qss_cons (qs_if (qt_cmp oq_eq (qv 1) q_str)
  (qss_one (qs_ret (q_lst (qa_cons (q_ix (qv 0) q_int) qa_nil))))
  qss_nil)
 (qss_one (qs_ret (q_lst qa_nil))))))))), ?_⟩) (fun _ _ _ _ _ _ us hl => match us, hl with | [_], _ => rfl)
  rintro _ M Q Et ⟨s, rfl, hl, h⟩
  cases s with
  | call l x f es => unfold Sm.exprs at hl; unfold Sm.d; walk_at "vc"; exact h
  | _ => unfold Sm.d; walk_at "vc"; exact h
def givenD : Option Str → D
  | none => .non
  | some x => .str x
def spGiven : SpT := fun ds M Q _ => ∃ s : Sm, ds = [s.d] ∧ Q (givenD s.given) M
theorem ok_given_by (T : Tp K mg) : Fn P w K mg base CX0 1 "given_by" spGiven := by
  refine fn_top T 1 e_given_by (m_given_by T) sc_given_by (by rintro _ M Q Et ⟨n, rfl, _⟩; rfl) (fun cdv A outer s H E hr => ⟨_, (qss_cons (qs_if (qt_w (qw_or (qt_cmp oq_eq (q_ix (qv 0) q_int) q_str) (qw_or (qt_cmp oq_eq (q_ix (qv 0) q_int) q_str) (qw_or1 (qt_cmp oq_eq (q_ix (qv 0) q_int) q_str)))))
  (qss_one (qs_ret (q_ix (qv 0) q_int)))
  qss_nil)
 (qss_one (qs_ret q_non))), ?_⟩) (fun _ _ _ _ _ _ us hl => match us, hl with | [_], _ => rfl)
  rintro _ M Q Et ⟨s, rfl, h⟩
  cases s <;> (unfold Sm.d; walk_at "vc"; exact h)
def spBlocks : SpT := fun ds M Q _ => ∃ s : Sm, ds = [s.d] ∧ Q (.lst (s.blocks.map fun b => .lst (stD b))) M
theorem ok_blocks_of (T : Tp K mg) : Fn P w K mg base CX0 1 "blocks_of" spBlocks := by
  refine fn_top T 2 e_blocks_of (m_blocks_of T) sc_blocks_of (by rintro _ M Q Et ⟨n, rfl, _⟩; rfl) (fun cdv A outer s H E hr => ⟨_, (qss_cons (qs_if (qt_cmp oq_eq (q_ix (qv 0) q_int) q_str)
  (qss_one (qs_ret (q_lst (qa_cons (q_ix (qv 0) q_int) qa_nil))))
  qss_nil)
 (qss_cons (qs_if (qt_cmp oq_eq (q_ix (qv 0) q_int) q_str)
  (qss_cons (qs_if (qt_cmp oq_isN (q_ix (qv 0) q_int) q_non)
  (qss_one (qs_ret (q_lst (qa_cons (q_ix (qv 0) q_int) qa_nil))))
  qss_nil)
 (qss_one (qs_ret (q_lst (qa_cons (q_ix (qv 0) q_int) (qa_cons (q_ix (qv 0) q_int) qa_nil))))))
  qss_nil)
 (qss_one (qs_ret (q_lst qa_nil))))), ?_⟩) (fun _ _ _ _ _ _ us hl => match us, hl with | [_], _ => rfl)
  rintro _ M Q Et ⟨s, rfl, h⟩
  cases s <;> (unfold Sm.d; walk_at "vc"; exact h)
def spAllOf (n : Nat) : SpT := fun ds M Q _ => ∃ b : List Sm, ds = [.lst (stD b)] ∧ deeps b < n ∧ (allBd b).length ≤ 100000 ∧ Q (.lst ((allBd b).map Sm.d)) M
theorem ok_all_of (T : Tp K mg) : ∀ n, Fn P w K mg base CX0 (n + 2) "all_of" (spAllOf n)
  | 0 => by
    refine fn_top T 3 e_all_of (m_all_of T) sc_all_of (by rintro _ M Q Et ⟨n, rfl, _⟩; rfl) (fun cdv A outer s H E hr => ⟨_, qss_never, ?_⟩) (fun _ _ _ _ _ _ us hl => match us, hl with | [_], _ => rfl)
    rintro _ M Q Et ⟨b, rfl, hd, hl, h⟩
    omega
  | n + 1 => by
    have ih := ok_all_of T n
    refine fn_top T 3 e_all_of (m_all_of T) sc_all_of (by rintro _ M Q Et ⟨n, rfl, _⟩; rfl) (fun cdv A outer s H E hr => ⟨_, (qss_cons (qs_set (i := 1) sc_all_of.nd (q_lstM qa_nil))
 (qss_cons (qs_for PassesOwn.never rfl (qi_list (qv 0)) (qg_name (i := 2) sc_all_of.nd)
  (qss_cons (qs_expr (q_append (qv 1) (qa_cons (qv 2) qa_nil)))
 (qss_one (qs_for PassesOwn.never rfl (qi_list (q_call (ok_blocks_of T) (hr.mono (by omega)) (qa_cons (qv 2) qa_nil))) (qg_name (i := 3) sc_all_of.nd)
  (qss_one (qs_expr (q_extend (qv 1) (qa_cons (q_call ih (hr.mono (by omega)) (qa_cons (qv 3) qa_nil)) qa_nil))))))))
 (qss_one (qs_ret (q_re (qv 1)))))), ?_⟩) (fun _ _ _ _ _ _ us hl => match us, hl with | [_], _ => rfl)
    rintro _ M Q Et ⟨b, rfl, hd, hl, h⟩
    walk_at "vc"
    intro p hp
    rw [stD_map]
    refine for_map b Sm.d rfl (fun ys τ M1 => M1 = mup M p (.lst ((allBd ys).map Sm.d)) ∧ ∃ v2 v3, τ = [some (.lst (b.map Sm.d)), some (.ref p), v2, v3]) ⟨by rw [show allBd [] = [] from by unfold allBd; rfl]; rfl, none, none, rfl⟩ (fun _ _ _ _ => trivial) ?_ ?_
    · rintro ys s zs τ M1 Nx hx ⟨rfl, v2, v3, rfl⟩ hN
      have hs : s.deep ≤ n := by
        have := deeps_mem (b := b) (s := s) (by rw [hx]; simp)
        omega
      have hlen : (allBd ys).length + (allSt s).length ≤ 100000 := by
        rw [hx, allBd_app, allBd, List.length_append, List.length_append] at hl
        omega
      rw [allSt_eq, List.length_cons] at hlen
      have hstep : allBd (ys ++ [s]) = allBd ys ++ s :: (s.blocks.map allBd).flatten := by rw [allBd_app, allBd_one, allSt_eq]
      walk_at "vc"
      refine ⟨by omega, s, rfl, ?_⟩
      walk_at "vc"
      refine for_map s.blocks (fun b => .lst (stD b)) rfl (fun bs τ M1 => M1 = mup M p (.lst ((allBd ys ++ s :: (bs.map allBd).flatten).map Sm.d)) ∧ ∃ v3, τ = [some (.lst (b.map Sm.d)), some (.ref p), some s.d, v3]) ⟨by simp, v3, rfl⟩ (fun _ _ _ _ => trivial) ?_ ?_
      · rintro bs b' zs' τ M1 Nx' hx' ⟨rfl, v3, rfl⟩ hN'
        have hb' : b' ∈ s.blocks := by rw [hx']; simp
        have hle : ((bs.map allBd).flatten).length + (allBd b').length ≤ ((s.blocks.map allBd).flatten).length := by
          rw [hx', List.map_append, List.map_cons, List.flatten_append, List.flatten_cons, List.length_append, List.length_append]
          omega
        walk_at "vc"
        refine ⟨b', rfl, block_deep hs hb', by omega, ?_⟩
        walk_at "vc"
        refine ⟨by (try simp only [List.length_map, List.length_append, List.length_cons]); omega, hN' _ _ ⟨?_, _, rfl⟩⟩
        simp only [List.map_append, List.map_cons, List.map_nil, List.flatten_append, List.flatten_cons, List.flatten_nil, List.append_nil, List.append_assoc, List.cons_append]
      · rintro τ M1 ⟨rfl, v3, rfl⟩
        exact hN _ _ ⟨by rw [hstep], _, _, rfl⟩
    · rintro τ M1 ⟨rfl, v2, v3, rfl⟩
      walk_at "vc"
      exact ⟨_, _, ReR.made hp, h⟩
def spNote (n : Nat) : SpT := fun ds M Q _ => ∃ (e : Ex) (a : Addr) (ss : List Str), ds = [e.d, .ref a] ∧ M a = some (.dK (slotD ss)) ∧ e.deep < n ∧ (noteE ss e).length < 16777216 ∧ Q .non (mup M a (.dK (slotD (noteE ss e))))
theorem ok_note_names (T : Tp K mg) : ∀ n, Fn P w K mg base CX0 (n + 1) "note_names" (spNote n)
  | 0 => by
    refine fn_top T 4 e_note_names (m_note_names T) sc_note_names (by rintro _ M Q Et ⟨n, _, _, rfl, _⟩; rfl) (fun cdv A outer s H E hr => ⟨_, qss_never, ?_⟩) (fun _ _ _ _ _ _ us hl => match us, hl with | [_, _], _ => rfl)
    rintro _ M Q Et ⟨e, a, ss, rfl, hM, hd, hl, h⟩
    omega
  | n + 1 => by
    have ih := ok_note_names T n
    refine fn_top T 4 e_note_names (m_note_names T) sc_note_names (by rintro _ M Q Et ⟨n, _, _, rfl, _⟩; rfl) (fun cdv A outer s H E hr => ⟨_, (qss_one (qs_if (qt_cmp oq_eq (q_ix (qv 0) q_int) q_str)
  (qss_one (qs_expr (q_setdefault2 (qv 1) (q_ix (qv 0) q_int) (q_op oq_addI (q_callB cq_lenD (m_len T) (by decide +kernel) (qa_cons (qv 1) qa_nil)) q_int))))
  (qss_one (qs_if (qt_cmp oq_ne (q_ix (qv 0) q_int) q_str)
  (qss_one (qs_for PassesOwn.never rfl (qi_tup (q_sliceT (qv 0) (qo_some q_int) qo_none)) (qg_name (i := 2) sc_note_names.nd)
  (qss_one (qs_expr (q_call ih (hr.mono (by omega)) (qa_cons (qv 2) (qa_cons (qv 1) qa_nil)))))))
  qss_nil)))), ?_⟩) (fun _ _ _ _ _ _ us hl => match us, hl with | [_, _], _ => rfl)
    rintro _ M Q Et ⟨e, a, ss, rfl, hM, hd, hl, h⟩
    have hloop : ∀ (es : List Ex) (td : D), (∀ x ∈ es, x.deep < n) → (es.foldl noteE ss).length < 16777216 → Q .non (mup M a (.dK (slotD (es.foldl noteE ss)))) →
        ForGo (gN 2) (sDr (tCl (spNote n) Et0 (tCs (tV 2) (tCs (tV 1) tN)))) { nx := fun _ M' => Q .non M', rt := Q } [some td, some (.ref a), none] { items := es.map Ex.d, src := fun _ => True } M := by
      intro es td hes hel hq
      refine for_map es Ex.d rfl (fun ys τ M1 => M1 = mup M a (.dK (slotD (ys.foldl noteE ss))) ∧ ∃ v2, τ = [some td, some (.ref a), v2]) ⟨(mup_idem hM).symm, none, rfl⟩ (fun _ _ _ _ => trivial) ?_ ?_
      · rintro ys x zs τ M1 Nx hx ⟨rfl, v2, rfl⟩ hN
        rw [hx, List.foldl_append, List.foldl_cons] at hel
        have h1 := notes_len (f := noteE) (fun ss x => noteE_len) (l := zs) (ss := noteE (ys.foldl noteE ss) x)
        walk_at "vc"
        refine ⟨x, a, ys.foldl noteE ss, rfl, mup_same, hes x (by rw [hx]; simp), by omega, ?_⟩
        rw [mup_mup]
        exact hN _ _ ⟨by rw [List.foldl_append]; rfl, _, rfl⟩
      · rintro τ M1 ⟨rfl, v2, rfl⟩
        exact hq
    cases e with
    | nam x =>
      unfold Ex.d
      walk_at "vc"
      refine ⟨⟨a, _, rfl, hM, True.intro⟩, ?_⟩
      rw [hM]
      walk_at "vc"
      exact sd_name hM hl (by rw [slotD_len]) fun d => h
    | num i => unfold Ex.d; walk_at "vc"; rw [show noteE ss (.num i) = ss from rfl, mup_idem hM] at h; exact h
    | box e =>
      unfold Ex.d; walk_at "vc"
      exact hloop [e] _ (fun x hx => by rw [List.mem_singleton.mp hx]; unfold Ex.deep at hd; omega) hl h
    | op w b c =>
      unfold Ex.d; walk_at "vc"
      exact hloop [b, c] _ (fun x hx => by
        unfold Ex.deep at hd
        rcases List.mem_cons.mp hx with rfl | hx
        · omega
        · rw [List.mem_singleton.mp hx]; omega) hl h
    | _ => unfold Ex.d; walk_at "vc"; exact hloop [] _ (fun x hx => by cases hx) hl h
def spSlots : SpT := fun ds M Q _ => ∃ o : Df, ds = [o.d] ∧ okRow o ∧ ∀ a, M a = none → Q (.ref a) (mup M a (.dK (slotD (slotsF o))))
theorem noteS_len (ss : List Str) (s : Sm) : ss.length ≤ (noteS ss s).length := by
  unfold noteS
  refine Nat.le_trans ?_ (notes_len (f := noteE) (fun ss x => noteE_len))
  split
  · exact noteN_len
  · omega
theorem ok_slots_of (T : Tp K mg) : Fn P w K mg base CX0 14 "slots_of" spSlots := by
  refine fn_top T 5 e_slots_of (m_slots_of T) sc_slots_of (by rintro _ M Q Et ⟨n, rfl, _⟩; rfl) (fun cdv A outer s H E hr => ⟨_, (qss_cons (qs_set (i := 1) sc_slots_of.nd q_dnewK)
 (qss_cons (qs_for PassesOwn.never rfl (qi_list (q_ix (qv 0) q_int)) (qg_name (i := 2) sc_slots_of.nd)
  (qss_one (qs_expr (q_setdefault2 (qv 1) (qv 2) (q_op oq_addI (q_callB cq_lenD (m_len T) (by decide +kernel) (qa_cons (qv 1) qa_nil)) q_int)))))
 (qss_cons (qs_for PassesOwn.never rfl (qi_list (q_call (ok_all_of T 10) (hr.mono (by decide)) (qa_cons (q_ix (qv 0) q_int) qa_nil))) (qg_name (i := 3) sc_slots_of.nd)
  (qss_cons (qs_set (i := 2) sc_slots_of.nd (q_call (ok_given_by T) (hr.mono (by decide)) (qa_cons (qv 3) qa_nil)))
 (qss_cons (qs_if (qt_cmp oq_notN (qv 2) q_non)
  (qss_one (qs_expr (q_setdefault2 (qv 1) (qv 2) (q_op oq_addI (q_callB cq_lenD (m_len T) (by decide +kernel) (qa_cons (qv 1) qa_nil)) q_int))))
  qss_nil)
 (qss_one (qs_for PassesOwn.never rfl (qi_list (q_call (ok_expressions_of T) (hr.mono (by decide)) (qa_cons (qv 3) qa_nil))) (qg_name (i := 4) sc_slots_of.nd)
  (qss_one (qs_expr (q_call (ok_note_names T 12) (hr.mono (by decide)) (qa_cons (qv 4) (qa_cons (qv 1) qa_nil))))))))))
 (qss_one (qs_ret (qv 1)))))), ?_⟩) (fun _ _ _ _ _ _ us hl => match us, hl with | [_], _ => rfl)
  rintro _ M Q Et ⟨o, rfl, ok, h⟩
  have hsl := ok.slots
  unfold slotsF at hsl h
  unfold Df.d
  walk_at "vc"
  intro a ha
  refine for_map o.ps D.str rfl (fun ys τ M1 => M1 = mup M a (.dK (slotD (ys.foldl noteN []))) ∧ ∃ v2 v3 v4, τ = [some o.d, some (.ref a), v2, v3, v4]) ⟨rfl, none, none, none, rfl⟩ (fun _ _ _ _ => trivial) ?_ ?_
  · rintro ys x zs τ M1 Nx hx ⟨rfl, v2, v3, v4, rfl⟩ hN
    rw [hx, List.foldl_append, List.foldl_cons] at hsl
    have h1 := notes_len (f := noteN) (fun ss x => noteN_len) (l := zs) (ss := noteN (ys.foldl noteN []) x)
    have h2 := notes_len (f := noteS) noteS_len (l := allBd o.body) (ss := zs.foldl noteN (noteN (ys.foldl noteN []) x))
    rw [List.foldl_append] at hN
    generalize ys.foldl noteN [] = ss at *
    walk_at "vc"
    refine ⟨⟨a, _, rfl, mup_same, True.intro⟩, sd_name mup_same (by omega) (by rw [slotD_len]) fun d => ?_⟩
    rw [mup_mup]
    exact hN _ _ ⟨rfl, _, _, _, rfl⟩
  · rintro τ M1 ⟨rfl, v2, v3, v4, rfl⟩
    generalize o.ps.foldl noteN [] = s0 at *
    unfold Df.d
    walk_at "vc"
    refine ⟨o.body, rfl, ok.deep, ok.many, ?_⟩
    walk_at "vc"
    refine for_map (allBd o.body) Sm.d rfl (fun ys τ M1 => M1 = mup M a (.dK (slotD (ys.foldl noteS s0))) ∧ ∃ v2 v3 v4, τ = [some o.d, some (.ref a), v2, v3, v4]) ⟨rfl, v2, v3, v4, rfl⟩ (fun _ _ _ _ => trivial) ?_ ?_
    · rintro ys x zs τ M1 Nx hx ⟨rfl, v2, v3, v4, rfl⟩ hN
      rw [hx, List.foldl_append, List.foldl_cons] at hsl
      have h1 := notes_len (f := noteS) noteS_len (l := zs) (ss := noteS (ys.foldl noteS s0) x)
      have hex := ok.exs x (by rw [hx]; simp)
      rw [List.foldl_append] at hN
      generalize ys.foldl noteS s0 = ss at *
      walk_at "vc"
      refine ⟨x, rfl, ?_⟩
      have tail : ∀ s1 v2 bk, x.exprs.foldl noteE s1 = noteS ss x → ForGo (gN 4) (sDr (tCl (spNote 12) Et0 (tCs (tV 4) (tCs (tV 1) tN)))) { nx := Nx, ct := Nx, bk := bk, rt := Q } [some o.d, some (.ref a), v2, some x.d, v4] { items := x.exprs.map Ex.d, src := fun _ => True } (mup M a (.dK (slotD s1))) := by
        intro s1 v2 bk es
        refine for_map x.exprs Ex.d rfl (fun ys τ M1 => M1 = mup M a (.dK (slotD (ys.foldl noteE s1))) ∧ ∃ v2 v4, τ = [some o.d, some (.ref a), v2, some x.d, v4]) ⟨rfl, v2, v4, rfl⟩ (fun _ _ _ _ => trivial) ?_ ?_
        · rintro ys' e zs' τ M1 Nx' hx' ⟨rfl, v2, v4, rfl⟩ hN'
          have he := hex.2 e (by rw [hx']; simp)
          rw [hx', List.foldl_append, List.foldl_cons] at es
          have h2 := notes_len (f := noteE) (fun ss x => noteE_len) (l := zs') (ss := noteE (ys'.foldl noteE s1) e)
          rw [es] at h2
          rw [List.foldl_append] at hN'
          walk_at "vc"
          refine ⟨e, a, ys'.foldl noteE s1, rfl, mup_same, he, by omega, ?_⟩
          rw [mup_mup]
          exact hN' _ _ ⟨rfl, _, _, rfl⟩
        · rintro τ M1 ⟨rfl, v2, v4, rfl⟩
          rw [es]
          exact hN _ _ ⟨rfl, _, _, _, rfl⟩
      cases hg : x.given with
      | none =>
        unfold givenD; walk_at "vc"
        refine ⟨x, rfl, hex.1, ?_⟩
        walk_at "vc"
        exact tail _ _ _ (by unfold noteS; rw [hg])
      | some y =>
        have hns : noteS ss x = x.exprs.foldl noteE (noteN ss y) := by unfold noteS; rw [hg]
        have h2 := notes_len (f := noteE) (fun ss x => noteE_len) (l := x.exprs) (ss := noteN ss y)
        rw [← hns] at h2
        unfold givenD; walk_at "vc"
        refine ⟨⟨a, _, rfl, mup_same, True.intro⟩, sd_name mup_same (by omega) (by rw [slotD_len]) fun d => ?_⟩
        rw [mup_mup]
        refine ⟨x, rfl, hex.1, ?_⟩
        walk_at "vc"
        exact tail _ _ _ hns.symm
    · rintro τ M1 ⟨rfl, v2, v3, v4, rfl⟩
      walk_at "vc"
      exact h _ ha
def spAddEx (n : Nat) : SpT := fun ds M Q _ => ∃ (r p : Addr) (rows : List Rw) (l at_ : Int) (e : Ex) (ss : List Str), ds = [.ref r, .int l, e.d, .int at_, .ref p] ∧ M r = some (.lst (rows.map Rw.d)) ∧ M p = some (.dK (slotD ss)) ∧ e.deep < n ∧ e.inS ss ∧ rows.length + (exRows ss l e at_).length < 16777216 ∧
  Q .non (mup M r (.lst ((rows ++ exRows ss l e at_).map Rw.d)))
theorem ok_add_expression (T : Tp K mg) : ∀ n, Fn P w K mg base CX0 (n + 1) "add_expression" (spAddEx n)
  | 0 => by
    refine fn_top T 6 e_add_expression (m_add_expression T) sc_add_expression (by rintro _ M Q Et ⟨_, _, _, _, _, _, _, rfl, _⟩; rfl) (fun cdv A outer s H E hr => ⟨_, qss_never, ?_⟩) (fun _ _ _ _ _ _ us hl => match us, hl with | [_, _, _, _, _], _ => rfl)
    rintro _ M Q Et ⟨r, p, rows, l, at_, e, ss, rfl, hr, hp, hd, hi, hl, h⟩
    omega
  | n + 1 => by
    have ih := ok_add_expression T n
    refine fn_top T 6 e_add_expression (m_add_expression T) sc_add_expression (by rintro _ M Q Et ⟨_, _, _, _, _, _, _, rfl, _⟩; rfl) (fun cdv A outer s H E hr => ⟨_, (qss_cons (qs_set (i := 5) sc_add_expression.nd (q_ix (qv 2) q_int))
 (qss_one (qs_if (qt_cmp oq_eq (qv 5) q_str)
  (qss_one (qs_expr (q_append (qv 0) (qa_cons (q_tup (qa_cons q_str (qa_cons (qv 1) (qa_cons (qv 3) (qa_cons (q_ix (qv 2) q_int) qa_nil))))) qa_nil))))
  (qss_one (qs_if (qt_cmp oq_eq (qv 5) q_str)
  (qss_one (qs_expr (q_append (qv 0) (qa_cons (q_tup (qa_cons q_str (qa_cons (qv 1) (qa_cons (qv 3) (qa_cons (q_dget (hu_of hr) (qv 4) (q_ix (qv 2) q_int)) qa_nil))))) qa_nil))))
  (qss_one (qs_if (qt_w (qw_or (qt_cmp oq_eq (qv 5) q_str) (qw_or (qt_cmp oq_eq (qv 5) q_str) (qw_or1 (qt_cmp oq_eq (qv 5) q_str)))))
  (qss_one (qs_expr (q_append (qv 0) (qa_cons (q_tup (qa_cons q_str (qa_cons (qv 1) (qa_cons (qv 3) (qa_cons (qv 5) qa_nil))))) qa_nil))))
  (qss_one (qs_if (qt_cmp oq_eq (qv 5) q_str)
  (qss_cons (qs_expr (q_call ih (hr.mono (by omega)) (qa_cons (qv 0) (qa_cons (qv 1) (qa_cons (q_ix (qv 2) q_int) (qa_cons (qv 3) (qa_cons (qv 4) qa_nil)))))))
 (qss_one (qs_expr (q_append (qv 0) (qa_cons (q_tup (qa_cons q_str (qa_cons (qv 1) (qa_cons (qv 3) (qa_cons (qv 3) qa_nil))))) qa_nil)))))
  (qss_cons (qs_expr (q_call ih (hr.mono (by omega)) (qa_cons (qv 0) (qa_cons (qv 1) (qa_cons (q_ix (qv 2) q_int) (qa_cons (qv 3) (qa_cons (qv 4) qa_nil)))))))
 (qss_cons (qs_expr (q_call ih (hr.mono (by omega)) (qa_cons (qv 0) (qa_cons (qv 1) (qa_cons (q_ix (qv 2) q_int) (qa_cons (q_op oq_addI (qv 3) q_int) (qa_cons (qv 4) qa_nil)))))))
 (qss_one (qs_expr (q_append (qv 0) (qa_cons (q_tup (qa_cons q_str (qa_cons (qv 1) (qa_cons (qv 3) (qa_cons (qv 5) (qa_cons (qv 3) (qa_cons (q_op oq_addI (qv 3) q_int) qa_nil))))))) qa_nil))))))))))))))), ?_⟩) (fun _ _ _ _ _ _ us hl => match us, hl with | [_, _, _, _, _], _ => rfl)
    rintro _ M Q Et ⟨r, p, rows, l, at_, e, ss, rfl, hr, hp, hd, hi, hl, h⟩
    have hpr : p ≠ r := by rintro rfl; rw [hp] at hr; cases hr
    have one : ∀ M1 rows1 (x : Rw), M1 r = some (.lst (rows1.map Rw.d)) → rows1.length < 16777216 → Q .non (mup M1 r (.lst ((rows1 ++ [x]).map Rw.d))) →
        ((lstOf M1 (.ref r)).isSome = true ∧ oSome (mLst M1 r) fun ds => ds.length < 16777216 ∧ Q .non (mup M1 r (.lst (ds ++ [x.d])))) := by
      intro M1 rows1 x h1 h2 h3
      rw [List.map_append] at h3
      exact ⟨is_m h1, ap_m h1 ⟨by rw [List.length_map]; exact h2, h3⟩⟩
    cases e with
    | nam x =>
      unfold Ex.d
      walk_at "vc"
      rw [hp]
      walk_at "vc"
      rw [slot_there hi]
      walk_at "vc"
      exact one M rows (.copy l at_ (slotOf ss x)) hr (by omega) h
    | num i => unfold Ex.d; walk_at "vc"; exact one M rows (.num l at_ i) hr (by omega) h
    | lane => unfold Ex.d; walk_at "vc"; exact one M rows (.sign l at_ .lane) hr (by omega) h
    | lanes => unfold Ex.d; walk_at "vc"; exact one M rows (.sign l at_ .lanes) hr (by omega) h
    | mine => unfold Ex.d; walk_at "vc"; exact one M rows (.sign l at_ .mine) hr (by omega) h
    | box e =>
      unfold exRows at hl h
      rw [List.length_append] at hl
      unfold Ex.deep at hd
      unfold Ex.d; walk_at "vc"
      refine ⟨r, p, rows, l, at_, e, ss, rfl, hr, hp, by omega, hi, by omega, ?_⟩
      refine one _ (rows ++ exRows ss l e at_) (.get l at_ at_) mup_same (by rw [List.length_append]; simp only [List.length_cons] at hl; omega) ?_
      rw [mup_mup, List.append_assoc]
      exact h
    | op w x y =>
      unfold exRows at hl h
      rw [List.length_append, List.length_append] at hl
      simp only [List.length_cons, List.length_nil] at hl
      unfold Ex.deep at hd
      unfold Ex.d; walk_at "vc"
      refine ⟨r, p, rows, l, at_, x, ss, rfl, hr, hp, by omega, hi.1, by omega, ?_⟩
      walk_at "vc"
      refine ⟨r, p, rows ++ exRows ss l x at_, l, at_ + 1, y, ss, rfl, mup_same, by rw [mup_ne hpr]; exact hp, by omega, hi.2, by rw [List.length_append]; omega, ?_⟩
      rw [mup_mup]
      walk_at "vc"
      refine ⟨by omega, ?_⟩
      rw [← List.append_assoc, ← List.append_assoc, List.map_append] at h
      exact h
def isMk (K : PySem.W.Frag) (A : MkA) : Prop := A.C = He.ga K "Maker" ∧ A.fl = fl_Maker
theorem mk_s {K : PySem.W.Frag} {A : MkA} {M0 M : MH} {ss : List Str} {fr : Int} {m : Mk} {L : Lps} (k : isMk K A) (h : MkS A M0 M ss fr m L) : M A.s = some (.obj (He.ga K "Maker") A.dx fl_Maker [.ref A.r, .ref A.p, .int fr, .ref A.c, .ref A.v, .ref A.o]) := by
  have := h.s_
  unfold MkA.obj at this
  rw [k.1, k.2] at this
  exact this
def spAdded (K : PySem.W.Frag) : SpT := fun ds M Q _ => ∃ (A : MkA) (M0 : MH) (ss : List Str) (fr : Int) (m : Mk) (L : Lps) (x : Rw), isMk K A ∧ ds = [.ref A.s, x.d] ∧ MkS A M0 M ss fr m L ∧ m.rows.length < 16777215 ∧ Q (natD m.rows.length) (mup M A.r (.lst ((m.rows ++ [x]).map Rw.d)))
theorem ok_Maker_added (T : Tp K mg) : Fm P w K mg base CX0 1 "Maker" "added" (spAdded K) := by
  refine fm_top T e_Maker_added 8 sc_Maker_added (T.meth 51) (T.cls 42) (by rintro _ M Q Et ⟨_, _, _, _, _, _, _, _, rfl, _⟩; rfl) (fun cdv A outer s H E hr => ⟨_, (qss_cons (qs_expr (q_append (q_fld 0 fl_Maker (c_Maker_rows T) (qv 0)) (qa_cons (qv 1) qa_nil)))
 (qss_one (qs_ret (q_op oq_sub (q_callB cq_len (m_len T) (by decide +kernel) (qa_cons (q_fld 0 fl_Maker (c_Maker_rows T) (qv 0)) qa_nil)) q_int)))), ?_⟩) (fun _ _ _ _ _ _ us hl => match us, hl with | [_, _], _ => rfl)
  rintro _ M Q Et ⟨A, M0, ss, fr, m, L, x, hk, rfl, hm, hl, h⟩
  have hr := hm.r_
  walk_at "vc"
  rw [mk_s hk hm]
  walk_at "vc"
  refine ⟨is_m hr, ap_m hr ⟨by rw [List.length_map]; omega, ?_⟩⟩
  have h2 := hm.rows (rs := m.rows ++ [x])
  rw [List.map_append] at h2 h
  change MkS _ _ (mup M A.r (.lst (m.rows.map Rw.d ++ [x.d]))) _ _ _ _ at h2
  rw [mk_s hk h2]
  walk_at "vc"
  rw [show ((m.rows.length + 1 : Nat) : Int) - 1 = (m.rows.length : Int) by omega]
  exact h
def spReckon (K : PySem.W.Frag) : SpT := fun ds M Q _ => ∃ (A : MkA) (M0 : MH) (ss : List Str) (fr : Int) (m : Mk) (L : Lps) (l at_ : Int) (e : Ex), isMk K A ∧ ds = [.ref A.s, .int l, e.d, .int at_] ∧ MkS A M0 M ss fr m L ∧ e.deep < 12 ∧ e.inS ss ∧ m.rows.length + (exRows ss l e at_).length < 16777216 ∧ Q .non (mup M A.r (.lst ((m.rows ++ exRows ss l e at_).map Rw.d)))
theorem ok_Maker_reckon (T : Tp K mg) : Fm P w K mg base CX0 14 "Maker" "reckon" (spReckon K) := by
  refine fm_top T e_Maker_reckon 9 sc_Maker_reckon (T.meth 52) (T.cls 42) (by rintro _ M Q Et ⟨_, _, _, _, _, _, _, _, _, _, rfl, _⟩; rfl) (fun cdv A outer s H E hr => ⟨_, (qss_one (qs_expr (q_call (ok_add_expression T 12) (hr.mono (by decide)) (qa_cons (q_fld 0 fl_Maker (c_Maker_rows T) (qv 0)) (qa_cons (qv 1) (qa_cons (qv 2) (qa_cons (qv 3) (qa_cons (q_fld 1 fl_Maker (c_Maker_slots T) (qv 0)) qa_nil)))))))), ?_⟩) (fun _ _ _ _ _ _ us hl => match us, hl with | [_, _, _, _], _ => rfl)
  rintro _ M Q Et ⟨A, M0, ss, fr, m, L, l, at_, e, hk, rfl, hm, hd, hi, hl, h⟩
  walk_at "vc"
  rw [mk_s hk hm]
  walk_at "vc"
  exact ⟨A.r, A.p, m.rows, l, at_, e, ss, rfl, hm.r_, hm.p_, hd, hi, hl, h⟩
def spTested (K : PySem.W.Frag) : SpT := fun ds M Q _ => ∃ (A : MkA) (M0 : MH) (ss : List Str) (fr : Int) (m : Mk) (L : Lps) (l : Int) (e : Ex), isMk K A ∧ ds = [.ref A.s, .int l, e.d] ∧ MkS A M0 M ss fr m L ∧ e.deep < 12 ∧ e.inS ss ∧ m.rows.length + (exRows ss l e fr).length < 16777215 ∧
  Q (natD (m.rows.length + (exRows ss l e fr).length)) (mup M A.r (.lst ((m.rows ++ (exRows ss l e fr ++ [Rw.split l fr 0])).map Rw.d)))
theorem ok_Maker_tested (T : Tp K mg) : Fm P w K mg base CX0 15 "Maker" "tested" (spTested K) := by
  refine fm_top T e_Maker_tested 10 sc_Maker_tested (T.meth 53) (T.cls 42) (by rintro _ M Q Et ⟨_, _, _, _, _, _, _, _, _, rfl, _⟩; rfl) (fun cdv A outer s H E hr => ⟨_, (qss_cons (qs_expr (q_meth fl_Maker (ok_Maker_reckon T) (hr.mono (by decide)) (qv 0) (qa_cons (qv 1) (qa_cons (qv 2) (qa_cons (q_fld 2 fl_Maker (c_Maker_free T) (qv 0)) qa_nil)))))
 (qss_one (qs_ret (q_meth fl_Maker (ok_Maker_added T) (hr.mono (by decide)) (qv 0) (qa_cons (q_tup (qa_cons q_str (qa_cons (qv 1) (qa_cons (q_fld 2 fl_Maker (c_Maker_free T) (qv 0)) (qa_cons q_int qa_nil))))) qa_nil))))), ?_⟩) (fun _ _ _ _ _ _ us hl => match us, hl with | [_, _, _], _ => rfl)
  rintro _ M Q Et ⟨A, M0, ss, fr, m, L, l, e, hk, rfl, hm, hd, hi, hl, h⟩
  walk_at "vc"
  rw [mk_s hk hm]
  walk_at "vc"
  refine ⟨A, M0, ss, fr, m, L, l, fr, e, hk, rfl, hm, hd, hi, by omega, ?_⟩
  have h2 := hm.rows (rs := m.rows ++ exRows ss l e fr)
  walk_at "vc"
  rw [mk_s hk h2]
  walk_at "vc"
  refine ⟨A, M0, ss, fr, _, L, .split l fr 0, hk, rfl, h2, by rw [List.length_append]; omega, ?_⟩
  rw [mup_mup, List.length_append, List.append_assoc]
  exact h
def spLead (K : PySem.W.Frag) : SpT := fun ds M Q _ => ∃ (A : MkA) (M0 : MH) (ss : List Str) (fr : Int) (m : Mk) (L : Lps) (k : Nat) (t : Int), isMk K A ∧ ds = [.ref A.s, natD k, .int t] ∧ MkS A M0 M ss fr m L ∧ ledAt m.rows k ∧ Q .non (mup M A.r (.lst ((leadAt m.rows k t).map Rw.d)))
theorem ok_Maker_lead (T : Tp K mg) : Fm P w K mg base CX0 1 "Maker" "lead" (spLead K) := by
  refine fm_top T e_Maker_lead 11 sc_Maker_lead (T.meth 54) (T.cls 42) (by rintro _ M Q Et ⟨_, _, _, _, _, _, _, _, _, rfl, _⟩; rfl) (fun cdv A outer s H E hr => ⟨_, (qss_one (qs_asg (q_op oq_catT (q_sliceT (q_ix (q_fld 0 fl_Maker (c_Maker_rows T) (qv 0)) (qv 1)) qo_none (qo_some (q_un uq_neg q_int))) (q_tup (qa_cons (qv 2) qa_nil))) (qg_sub (q_fld 0 fl_Maker (c_Maker_rows T) (qv 0)) (qv 1) sq_list))), ?_⟩) (fun _ _ _ _ _ _ us hl => match us, hl with | [_, _, _], _ => rfl)
  rintro _ M Q Et ⟨A, M0, ss, fr, m, L, k, t, hk, rfl, hm, ⟨x, hx, hx2⟩, h⟩
  have hr := hm.r_
  unfold natD
  walk_at "vc"
  rw [mk_s hk hm]
  walk_at "vc"
  refine apl_m hr ?_
  rw [atI_nat (v := x.d) (by rw [List.getElem?_map, hx]; rfl)]
  have hkl : k < m.rows.length := (List.getElem?_eq_some_iff.mp hx).1
  have hset := leadAt_set (t := t) hx
  have h2 := hm.rows (rs := leadAt m.rows k t)
  rw [hset] at h2 h
  have hix : ixN (m.rows.map Rw.d).length (k : Int) = some k := ix_nat (by rw [List.length_map]; exact hkl)
  cases x with
  | split a b c => unfold Rw.d; walk_at "vc"; rw [cut_init4]; walk_at "vc"; rw [mk_s hk hm]; walk_at "vc"; exact ap_m hr (by unfold oSome; rw [hix]; exact h)
  | jump a b => unfold Rw.d; walk_at "vc"; rw [cut_init3]; walk_at "vc"; rw [mk_s hk hm]; walk_at "vc"; exact ap_m hr (by unfold oSome; rw [hix]; exact h)
  | call a b c d e => unfold Rw.d; walk_at "vc"; rw [cut_init6]; walk_at "vc"; rw [mk_s hk hm]; walk_at "vc"; exact ap_m hr (by unfold oSome; rw [hix]; exact h)
  | _ => exact hx2.elim
def leadsAt (rows : List Rw) (ks : List Nat) : List Rw := ks.foldl (fun rs k => leadAt rs k rs.length) rows
def spLeadHere (K : PySem.W.Frag) : SpT := fun ds M Q _ => ∃ (A : MkA) (M0 : MH) (ss : List Str) (fr : Int) (m : Mk) (L : Lps) (ks : List Nat) (d : D), isMk K A ∧ ds = [.ref A.s, d] ∧ (d = .lst (ks.map natD) ∨ ∃ q, d = .ref q ∧ q ≠ A.r ∧ M q = some (.lst (ks.map natD))) ∧ MkS A M0 M ss fr m L ∧ (∀ k ∈ ks, ledAt m.rows k) ∧ Q .non (mup M A.r (.lst ((leadsAt m.rows ks).map Rw.d)))
theorem ok_Maker_lead_here (T : Tp K mg) : Fm P w K mg base CX0 2 "Maker" "lead_here" (spLeadHere K) := by
  refine fm_top T e_Maker_lead_here 12 sc_Maker_lead_here (T.meth 55) (T.cls 42) (by rintro _ M Q Et ⟨_, _, _, _, _, _, _, _, _, rfl, _⟩; rfl) (fun cdv A outer s H E hr => ⟨_, (qss_one (qs_for PassesOwn.never rfl (qi_list (qv 1)) (qg_name (i := 2) sc_Maker_lead_here.nd)
  (qss_one (qs_expr (q_meth fl_Maker (ok_Maker_lead T) (hr.mono (by decide)) (qv 0) (qa_cons (qv 2) (qa_cons (q_callB cq_len (m_len T) (by decide +kernel) (qa_cons (q_fld 0 fl_Maker (c_Maker_rows T) (qv 0)) qa_nil)) qa_nil))))))), ?_⟩) (fun _ _ _ _ _ _ us hl => match us, hl with | [_, _], _ => rfl)
  rintro _ M Q Et ⟨A, M0, ss, fr, m, L, ks, d, hk, rfl, hd, hm, hks, h⟩
  walk_at "vc"
  have hl : ∀ o, lstOf (mup M A.r o) d = some (ks.map natD) := by
    intro o
    rcases hd with rfl | ⟨q, rfl, hq, hM⟩
    · rfl
    · unfold lstOf; dsimp only; rw [mup_ne hq, hM]
  have hl0 : lstOf M d = some (ks.map natD) := by rw [← hl (.lst (m.rows.map Rw.d)), mup_idem hm.r_]
  rw [hl0]
  walk_at "vc"
  refine for_map ks natD rfl (fun ys τ M1 => M1 = mup M A.r (.lst ((leadsAt m.rows ys).map Rw.d)) ∧ ∃ v2, τ = [some (.ref A.s), some d, v2]) ⟨(mup_idem hm.r_).symm, none, rfl⟩ ?_ ?_ ?_
  · rintro ys τ M1 ⟨rfl, v2, rfl⟩
    exact hl _
  · rintro ys k zs τ M1 Nx hx ⟨rfl, v2, rfl⟩ hN
    have h2 := hm.rows (rs := leadsAt m.rows ys)
    have hled : ledAt (leadsAt m.rows ys) k := by
      have h0 := hks k (by rw [hx]; simp)
      clear hN hx h2
      unfold leadsAt
      generalize m.rows = rows at h0 ⊢
      induction ys generalizing rows with
      | nil => exact h0
      | cons y t ih => exact ih _ (ledAt_lead h0)
    walk_at "vc"
    rw [mk_s hk h2]
    walk_at "vc"
    refine ⟨A, M0, ss, fr, _, L, k, _, hk, rfl, h2, hled, ?_⟩
    rw [mup_mup]
    exact hN _ _ ⟨by unfold leadsAt; rw [List.foldl_append]; rfl, _, rfl⟩
  · rintro τ M1 ⟨rfl, v2, rfl⟩
    exact h
def spLast : SpT := fun ds M Q _ => ∃ (s : Sm) (p : Addr) (ss : List Str) (fr : Int), ds = [s.d, .ref p, .int fr] ∧ M p = some (.dK (slotD ss)) ∧ isPlain s ∧ (∀ x, s.given = some x → x ∈ ss) ∧ Q (lastRow ss fr s).d M
theorem ok_last_row (T : Tp K mg) : Fn P w K mg base CX0 1 "last_row" spLast := by
  refine fn_top T 13 e_last_row (m_last_row T) sc_last_row (by rintro _ M Q Et ⟨_, _, _, _, rfl, _⟩; rfl) (fun cdv A outer s H E hr => ⟨_, (qss_cons (qs_set (i := 3) sc_last_row.nd (q_ix (qv 0) q_int))
 (qss_cons (qs_if (qt_cmp oq_eq (qv 3) q_str)
  (qss_one (qs_ret (q_tup (qa_cons q_str (qa_cons (q_ix (qv 0) q_int) (qa_cons (q_dget (hu_of hr) (qv 1) (q_ix (qv 0) q_int)) (qa_cons (qv 2) qa_nil)))))))
  qss_nil)
 (qss_cons (qs_if (qt_cmp oq_eq (qv 3) q_str)
  (qss_one (qs_ret (q_tup (qa_cons q_str (qa_cons (q_ix (qv 0) q_int) (qa_cons (qv 2) (qa_cons (q_op oq_addI (qv 2) q_int) qa_nil)))))))
  qss_nil)
 (qss_cons (qs_if (qt_cmp oq_eq (qv 3) q_str)
  (qss_one (qs_ret (q_tup (qa_cons q_str (qa_cons (q_ix (qv 0) q_int) (qa_cons (qv 2) qa_nil))))))
  qss_nil)
 (qss_cons (qs_if (qt_cmp oq_eq (qv 3) q_str)
  (qss_one (qs_ret (q_tup (qa_cons q_str (qa_cons (q_ix (qv 0) q_int) (qa_cons (q_dget (hu_of hr) (qv 1) (q_ix (qv 0) q_int)) (qa_cons (q_ix (qv 0) q_int) (qa_cons (qv 2) qa_nil))))))))
  qss_nil)
 (qss_one (qs_ret (q_tup (qa_cons (qv 3) (qa_cons (q_ix (qv 0) q_int) qa_nil)))))))))), ?_⟩) (fun _ _ _ _ _ _ us hl => match us, hl with | [_, _, _], _ => rfl)
  rintro _ M Q Et ⟨s, p, ss, fr, rfl, hp, hpl, hg, h⟩
  cases s with
  | set l x e =>
    have hx := hg x rfl
    unfold Sm.d; walk_at "vc"
    rw [hp]
    walk_at "vc"
    rw [slot_there hx]
    walk_at "vc"
    exact h
  | join l x w e =>
    have hx := hg x rfl
    unfold Sm.d; walk_at "vc"
    rw [hp]
    walk_at "vc"
    rw [slot_there hx]
    walk_at "vc"
    exact h
  | put l a b => unfold Sm.d; walk_at "vc"; exact h
  | tell l e => unfold Sm.d; walk_at "vc"; exact h
  | meet l => unfold Sm.d; walk_at "vc"; exact h
  | stop l => unfold Sm.d; walk_at "vc"; exact h
  | _ => exact hpl.elim
end
end K37
namespace K37
open PySem PySem.Spec PyProof.Rows L2 Tl
section
variable {P : Program} {w : World} {K : PySem.W.Frag} {mg : Str → Option Value} {base : Heap}
/-- what the last of the walk of a block must still know: what stands, and that it is not too much -/
def spWay (K : PySem.W.Frag) : SpT := fun ds M Q _ => ∃ (A : MkA) (M0 : MH) (ss : List Str) (fr : Int) (m : Mk) (L : Lps) (s : Sm), isMk K A ∧ ds = [.ref A.s, s.d] ∧ MkS A M0 M ss fr m L ∧ m.ok ∧ (∀ e ∈ s.exprs, e.deep < 12 ∧ e.inS ss) ∧ (mkS ss fr m s).rows.length < 16777215 ∧
  (match s with | .brk _ => m.loops ≠ [] | .agn _ => m.loops ≠ [] | .ret _ _ => True | _ => False) ∧ ∀ M' L', MkS A M0 M' ss fr (mkS ss fr m s) L' → L'.map (·.1) = L.map (·.1) → Q .non M'
theorem ok_make_way (T : Tp K mg) : Fn P w K mg base CX0 15 "make_way" (spWay K) := by
  refine fn_top T 14 e_make_way (m_make_way T) sc_make_way (by rintro _ M Q Et ⟨_, _, _, _, _, _, _, _, rfl, _⟩; rfl) (fun cdv A outer s H E hr => ⟨_, (qss_cons (qs_set (i := 2) sc_make_way.nd (q_ix (qv 1) q_int))
 (qss_one (qs_if (qt_cmp oq_eq (q_ix (qv 1) q_int) q_str)
  (qss_cons (qs_expr (q_meth fl_Maker (ok_Maker_reckon T) (hr.mono (by decide)) (qv 0) (qa_cons (qv 2) (qa_cons (q_ix (qv 1) q_int) (qa_cons (q_fld 2 fl_Maker (c_Maker_free T) (qv 0)) qa_nil)))))
 (qss_cons (qs_expr (q_append (q_fld 0 fl_Maker (c_Maker_rows T) (qv 0)) (qa_cons (q_tup (qa_cons q_str (qa_cons (qv 2) (qa_cons q_int (qa_cons (q_fld 2 fl_Maker (c_Maker_free T) (qv 0)) qa_nil))))) qa_nil)))
 (qss_one (qs_expr (q_append (q_fld 4 fl_Maker (c_Maker_leaves T) (qv 0)) (qa_cons (q_meth fl_Maker (ok_Maker_added T) (hr.mono (by decide)) (qv 0) (qa_cons (q_tup (qa_cons q_str (qa_cons (qv 2) (qa_cons q_int qa_nil)))) qa_nil)) qa_nil))))))
  (qss_cons (qs_asg (q_ix (q_fld 5 fl_Maker (c_Maker_loops T) (qv 0)) (q_un uq_neg q_int)) (qg_tup (n := 2) rfl (qgs_cons (qg_name (i := 3) sc_make_way.nd) (qgs_cons (qg_name (i := 4) sc_make_way.nd) qgs_nil))))
 (qss_cons (qs_set (i := 5) sc_make_way.nd (q_meth fl_Maker (ok_Maker_added T) (hr.mono (by decide)) (qv 0) (qa_cons (q_tup (qa_cons q_str (qa_cons (qv 2) (qa_cons (qv 3) qa_nil)))) qa_nil)))
 (qss_one (qs_if (qt_cmp oq_eq (q_ix (qv 1) q_int) q_str)
  (qss_one (qs_expr (q_append (qv 4) (qa_cons (qv 5) qa_nil))))
  qss_nil))))))), ?_⟩) (fun _ _ _ _ _ _ us hl => match us, hl with | [_, _], _ => rfl)
  rintro _ M Q Et ⟨A, M0, ss, fr, m, L, s, hk, rfl, hm, ho, he, hl, hs, h⟩
  cases s with
  | ret l e =>
    have he' := he e (by simp [Sm.exprs])
    have e1 : (mkS ss fr m (.ret l e)).rows.length = m.rows.length + (exRows ss l e fr).length + 2 := by
      unfold mkS Mk.add
      simp only [List.length_append, List.length_cons, List.length_nil]
      omega
    rw [e1] at hl
    unfold Sm.d; walk_at "vc"
    rw [mk_s hk hm]
    walk_at "vc"
    refine ⟨A, M0, ss, fr, m, L, l, fr, e, hk, rfl, hm, he'.1, he'.2, by omega, ?_⟩
    have h1 := hm.rows (rs := m.rows ++ exRows ss l e fr)
    walk_at "vc"
    rw [mk_s hk h1]
    walk_at "vc"
    refine ⟨by omega, ?_⟩
    have h2 := hm.rowsA (m.rows ++ exRows ss l e fr) (.copy l 0 fr)
    simp only [Rw.d] at h2
    rw [mk_s hk h2]
    walk_at "vc"
    refine ⟨is_m h2.v_, A, M0, ss, fr, _, L, .jump l 0, hk, rfl, h2, by rw [List.length_append, List.length_append]; simp only [List.length_cons, List.length_nil]; omega, ?_⟩
    have h3 := hm.rows (rs := m.rows ++ exRows ss l e fr ++ [.copy l 0 fr] ++ [.jump l 0])
    rw [mup_mup]
    walk_at "vc"
    have hv := ho.lv
    refine ap_m h3.v_ ⟨by rw [List.length_map]; dsimp only; omega, ?_⟩
    have h4 := h3.leavesA (m.rows.length + (exRows ss l e fr).length + 1)
    refine h _ L ?_ rfl
    have e2 : mkS ss fr m (.ret l e) = ⟨m.rows ++ exRows ss l e fr ++ [.copy l 0 fr] ++ [.jump l 0], m.calls, m.leaves ++ [m.rows.length + (exRows ss l e fr).length + 1], m.loops⟩ := by
      unfold mkS Mk.add
      simp [List.append_assoc]
      omega
    rw [e2]
    exact h4
  | brk l =>
    cases L with
    | nil => exact absurd hm.lps hs
    | cons q R =>
      obtain ⟨q, b, lv⟩ := q
      have hl : m.rows.length < 16777214 := by
        unfold mkS at hl
        rw [hm.lps] at hl
        simp only [List.map_cons, Mk.add, List.length_append, List.length_cons, List.length_nil] at hl
        omega
      unfold Sm.d; walk_at "vc"
      rw [mk_s hk hm]
      walk_at "vc"
      refine apl_m hm.o_ ?_
      rw [List.reverse_cons, List.map_append, List.map_cons, List.map_nil, Tl.atI_lst1]
      unfold lpD natD
      walk_at "vc"
      rw [mk_s hk hm]
      walk_at "vc"
      refine ⟨A, M0, ss, fr, m, _, .jump l b, hk, rfl, hm, by omega, ?_⟩
      have h1 := hm.rows (rs := m.rows ++ [.jump l b])
      walk_at "vc"
      have hls := ho.ls (b, lv) (by rw [hm.lps]; simp)
      refine ⟨is_m h1.q_, ap_m h1.q_ ⟨by rw [List.length_map]; dsimp only at hls; omega, ?_⟩⟩
      have h2 := h1.leavingA m.rows.length
      refine h _ ((q, b, lv ++ [m.rows.length]) :: R) ?_ rfl
      have e2 : mkS ss fr m (.brk l) = ⟨m.rows ++ [.jump l b], m.calls, m.leaves, (b, lv ++ [m.rows.length]) :: R.map (·.2)⟩ := by
        unfold mkS
        rw [hm.lps]
        rfl
      rw [e2]
      exact h2
  | agn l =>
    cases L with
    | nil => exact absurd hm.lps hs
    | cons q R =>
      obtain ⟨q, b, lv⟩ := q
      have hl : m.rows.length < 16777214 := by
        unfold mkS at hl
        rw [hm.lps] at hl
        simp only [List.map_cons, Mk.add, List.length_append, List.length_cons, List.length_nil] at hl
        omega
      unfold Sm.d; walk_at "vc"
      rw [mk_s hk hm]
      walk_at "vc"
      refine apl_m hm.o_ ?_
      rw [List.reverse_cons, List.map_append, List.map_cons, List.map_nil, Tl.atI_lst1]
      unfold lpD natD
      walk_at "vc"
      rw [mk_s hk hm]
      walk_at "vc"
      refine ⟨A, M0, ss, fr, m, _, .jump l b, hk, rfl, hm, by omega, ?_⟩
      have h1 := hm.rows (rs := m.rows ++ [.jump l b])
      walk_at "vc"
      refine h _ _ ?_ rfl
      have e2 : mkS ss fr m (.agn l) = { m with rows := m.rows ++ [.jump l b] } := by
        unfold mkS Mk.add
        rw [hm.lps]
        rfl
      rw [e2]
      exact h1
  | _ => exact hs.elim
def isPc (s : Sm) : Prop := isPlain s ∨ ∃ l x f es, s = .call l x f es
def spPlain (K : PySem.W.Frag) : SpT := fun ds M Q _ => ∃ (A : MkA) (M0 : MH) (ss : List Str) (fr : Int) (m : Mk) (L : Lps) (s : Sm), isMk K A ∧ ds = [.ref A.s, s.d] ∧ MkS A M0 M ss fr m L ∧ m.ok ∧ s.exprs.length ≤ 1000 ∧ (∀ e ∈ s.exprs, e.deep < 12 ∧ e.inS ss) ∧ (∀ x, s.given = some x → x ∈ ss) ∧ (mkS ss fr m s).rows.length < 16777215 ∧
  isPc s ∧ ∀ M', MkS A M0 M' ss fr (mkS ss fr m s) L → Q .non M'
theorem ok_make_plain (T : Tp K mg) : Fn P w K mg base CX0 15 "make_plain" (spPlain K) := by
  refine fn_top T 15 e_make_plain (m_make_plain T) sc_make_plain (by rintro _ M Q Et ⟨_, _, _, _, _, _, _, _, rfl, _⟩; rfl) (fun cdv A outer s H E hr => ⟨_, (qss_cons (qs_set (i := 2) sc_make_plain.nd (q_ix (qv 1) q_int))
 (qss_cons (qs_set (i := 3) sc_make_plain.nd (q_fld 2 fl_Maker (c_Maker_free T) (qv 0)))
 (qss_cons (qs_for PassesOwn.never rfl (qi_list (q_call (ok_expressions_of T) (hr.mono (by decide)) (qa_cons (qv 1) qa_nil))) (qg_name (i := 4) sc_make_plain.nd)
  (qss_cons (qs_expr (q_meth fl_Maker (ok_Maker_reckon T) (hr.mono (by decide)) (qv 0) (qa_cons (qv 2) (qa_cons (qv 4) (qa_cons (qv 3) qa_nil)))))
 (qss_one (qs_aug (i := 3) sc_make_plain.nd oq_iaddI q_int))))
 (qss_one (qs_if (qt_cmp oq_eq (q_ix (qv 1) q_int) q_str)
  (qss_cons (qs_set (i := 5) sc_make_plain.nd (q_tup (qa_cons q_str (qa_cons (qv 2) (qa_cons (q_dget (hu_of hr) (q_fld 1 fl_Maker (c_Maker_slots T) (qv 0)) (q_ix (qv 1) q_int)) (qa_cons (q_fld 2 fl_Maker (c_Maker_free T) (qv 0)) (qa_cons (q_callB cq_len (m_len T) (by decide +kernel) (qa_cons (q_ix (qv 1) q_int) qa_nil)) (qa_cons q_int qa_nil))))))))
 (qss_one (qs_expr (q_append (q_fld 3 fl_Maker (c_Maker_calls T) (qv 0)) (qa_cons (q_tup (qa_cons (q_meth fl_Maker (ok_Maker_added T) (hr.mono (by decide)) (qv 0) (qa_cons (qv 5) qa_nil)) (qa_cons (q_ix (qv 1) q_int) qa_nil))) qa_nil)))))
  (qss_one (qs_expr (q_append (q_fld 0 fl_Maker (c_Maker_rows T) (qv 0)) (qa_cons (q_call (ok_last_row T) (hr.mono (by decide)) (qa_cons (qv 1) (qa_cons (q_fld 1 fl_Maker (c_Maker_slots T) (qv 0)) (qa_cons (q_fld 2 fl_Maker (c_Maker_free T) (qv 0)) qa_nil)))) qa_nil))))))))), ?_⟩) (fun _ _ _ _ _ _ us hl => match us, hl with | [_, _], _ => rfl)
  rintro _ M Q Et ⟨A, M0, ss, fr, m, L, s, hk, rfl, hm, ho, hn, he, hg, hl, hs, h⟩
  have hrows : (exsRows ss s.line s.exprs fr).length + m.rows.length + 1 ≤ (mkS ss fr m s).rows.length := by
    rcases hs with hs | ⟨l, x, f, es, rfl⟩
    · rw [mkS_plain hs]
      unfold Mk.add
      simp only [List.length_append, List.length_cons, List.length_nil]
      omega
    · unfold mkS Mk.add
      simp only [List.length_append, List.length_cons, List.length_nil, Sm.exprs, Sm.line]
      omega
  have e0 : bIx s.d (.int 1) M = fun Q => Q (.int s.line) M := by rw [sm_d]; funext Q; walk_at "vc"
  walk_at "vc"
  rw [e0]
  walk_at "vc"
  rw [mk_s hk hm]
  walk_at "vc"
  refine ⟨s, rfl, hn, ?_⟩
  walk_at "vc"
  refine for_map s.exprs Ex.d rfl (fun ys τ M1 => M1 = mup M A.r (.lst ((m.rows ++ exsRows ss s.line ys fr).map Rw.d)) ∧ ∃ v4 v5, τ = [some (.ref A.s), some s.d, some (.int s.line), some (.int (fr + (ys.length : Int))), v4, v5]) ⟨?_, none, none, ?_⟩ (fun _ _ _ _ => trivial) ?_ ?_
  · rw [show exsRows ss s.line [] fr = [] from rfl, List.append_nil, mup_idem hm.r_]
  · rw [List.length_nil, show fr + ((0 : Nat) : Int) = fr by omega]
  · rintro ys x zs τ M1 Nx hx ⟨rfl, v4, v5, rfl⟩ hN
    have h1 := hm.rows (rs := m.rows ++ exsRows ss s.line ys fr)
    obtain ⟨he1, he2⟩ := he x (by rw [hx]; simp)
    have hle := exs_len_le (ss := ss) (l := s.line) (ys := ys ++ [x]) (zs := zs) (a := fr)
    rw [List.append_assoc, show [x] ++ zs = x :: zs from rfl, ← hx, exs_app, exs_one, List.length_append] at hle
    walk_at "vc"
    rw [mk_s hk h1]
    walk_at "vc"
    refine ⟨A, M0, ss, fr, _, L, s.line, _, x, hk, rfl, h1, he1, he2, by simp only [List.length_append]; omega, ?_⟩
    rw [mup_mup]
    walk_at "vc"
    exact hN _ _ ⟨by rw [exs_app, exs_one, List.append_assoc], some x.d, v5, by rw [show fr + (ys.length : Int) + 1 = fr + ((ys ++ [x]).length : Nat) by rw [List.length_append, List.length_singleton]; omega]⟩
  · rintro τ M1 ⟨rfl, v4, v5, rfl⟩
    have h1 := hm.rows (rs := m.rows ++ exsRows ss s.line s.exprs fr)
    rcases hs with hs | ⟨l, x, f, es, rfl⟩
    · have e1 : ∀ M Q, bIx s.d (.int 0) M Q = Q (.str s.word) M := by intro M Q; rw [sm_d]; walk_at "vc"
      have hw : ¬ s.word = Str.ofString "call" := by cases s <;> first | exact hs.elim | (show ¬ (Str.ofString _ = Str.ofString "call"); decide)
      dsimp only
      walk_at "vc"
      rw [e1]
      walk_at "vc"
      rw [if_neg hw]
      rw [mk_s hk h1]
      walk_at "vc"
      refine ⟨s, A.p, ss, fr, rfl, h1.p_, hs, hg, ?_⟩
      refine ap_m h1.r_ ⟨by rw [List.length_map, List.length_append]; omega, ?_⟩
      rw [mup_mup]
      have h2 := hm.rowsA (m.rows ++ exsRows ss s.line s.exprs fr) (lastRow ss fr s)
      refine h _ ?_
      rw [mkS_plain hs]
      unfold Mk.add
      rw [← List.append_assoc]
      exact h2
    · have hx := hg x rfl
      have hc := ho.cs
      have e3 : mkS ss fr m (.call l x f es) = ⟨m.rows ++ exsRows ss l es fr ++ [.call l (slotOf ss x) fr es.length 0], m.calls ++ [((m.rows ++ exsRows ss l es fr).length, f)], m.leaves, m.loops⟩ := by
        unfold mkS Mk.add
        simp [List.append_assoc]
      unfold Sm.d
      walk_at "vc"
      rw [mk_s hk h1]
      walk_at "vc"
      rw [h1.p_]
      walk_at "vc"
      rw [slot_there hx]
      walk_at "vc"
      refine ⟨is_m h1.c_, A, M0, ss, fr, _, L, .call l (slotOf ss x) fr es.length 0, hk, rfl, h1, ?_, ?_⟩
      · dsimp only
        rw [List.length_append]
        omega
      have h2 := hm.rows (rs := m.rows ++ exsRows ss l es fr ++ [.call l (slotOf ss x) fr es.length 0])
      rw [mup_mup]
      refine ap_m h2.c_ ⟨by rw [List.length_map]; dsimp only; omega, ?_⟩
      have h3 := h2.callsA ((m.rows ++ exsRows ss l es fr).length, f)
      refine h _ ?_
      rw [e3]
      exact h3
end
end K37
namespace K37
open PySem PySem.Spec PyProof.Rows L2 Tl
section
variable {P : Program} {w : World} {K : PySem.W.Frag} {mg : Str → Option Value} {base : Heap}
def isIf : Sm → Prop
  | .if1 _ _ _ => True | .if2 _ _ _ _ => True | _ => False
def isWh : Sm → Prop
  | .whl _ _ _ => True | _ => False
def spDeed (K : PySem.W.Frag) (is : Sm → Prop) (n : Nat) : SpT := fun ds M Q _ => ∃ (A : MkA) (M0 : MH) (ss : List Str) (fr : Int) (m : Mk) (L : Lps) (s : Sm) (lp : Prop), isMk K A ∧ ds = [.ref A.s, s.d] ∧ MkS A M0 M ss fr m L ∧ m.ok ∧ 0 < m.rows.length ∧ s.deep ≤ n ∧ (∀ t ∈ allSt s, okRs ss t) ∧ inLp lp s ∧ (lp → m.loops ≠ []) ∧ (mkS ss fr m s).rows.length < 16777215 ∧ is s ∧
  ∀ M' L', MkS A M0 M' ss fr (mkS ss fr m s) L' → L'.map (·.1) = L.map (·.1) → Q .non M'
def spBlk (K : PySem.W.Frag) (n : Nat) : SpT := fun ds M Q _ => ∃ (A : MkA) (M0 : MH) (ss : List Str) (fr : Int) (m : Mk) (L : Lps) (b : List Sm) (lp : Prop), isMk K A ∧ ds = [.ref A.s, .lst (stD b)] ∧ MkS A M0 M ss fr m L ∧ m.ok ∧ deeps b < n ∧ okRb ss lp b ∧ (lp → m.loops ≠ []) ∧ (mkB ss fr m b).rows.length < 16777215 ∧
  ∀ M' L', MkS A M0 M' ss fr (mkB ss fr m b) L' → L'.map (·.1) = L.map (·.1) → Q .non M'
theorem self_in {s : Sm} : s ∈ allSt s := by rw [allSt_eq]; simp
theorem ok_make_if (T : Tp K mg) {k n : Nat} (hb : Fn P w K mg base CX0 k "make_block" (spBlk K n)) (hk20 : 20 ≤ k) : Fn P w K mg base CX0 (k + 1) "make_if" (spDeed K isIf n) := by
  refine fn_top T 16 e_make_if (m_make_if T) sc_make_if (by rintro _ M Q Et ⟨_, _, _, _, _, _, _, _, _, rfl, _⟩; rfl) (fun cdv A outer s H E hr => ⟨_, (qss_cons (qs_set (i := 2) sc_make_if.nd (q_meth fl_Maker (ok_Maker_tested T) (hr.mono (by omega)) (qv 0) (qa_cons (q_ix (qv 1) q_int) (qa_cons (q_ix (qv 1) q_int) qa_nil))))
 (qss_cons (qs_expr (q_call hb (hr.mono (by omega)) (qa_cons (qv 0) (qa_cons (q_ix (qv 1) q_int) qa_nil))))
 (qss_cons (qs_if (qt_cmp oq_notN (q_ix (qv 1) q_int) q_non)
  (qss_cons (qs_set (i := 3) sc_make_if.nd (q_meth fl_Maker (ok_Maker_added T) (hr.mono (by omega)) (qv 0) (qa_cons (q_tup (qa_cons q_str (qa_cons (q_ix (qv 1) q_int) (qa_cons q_int qa_nil)))) qa_nil)))
 (qss_cons (qs_expr (q_meth fl_Maker (ok_Maker_lead_here T) (hr.mono (by omega)) (qv 0) (qa_cons (q_lst (qa_cons (qv 2) qa_nil)) qa_nil)))
 (qss_cons (qs_expr (q_call hb (hr.mono (by omega)) (qa_cons (qv 0) (qa_cons (q_ix (qv 1) q_int) qa_nil))))
 (qss_one (qs_set (i := 2) sc_make_if.nd (qv 3))))))
  qss_nil)
 (qss_one (qs_expr (q_meth fl_Maker (ok_Maker_lead_here T) (hr.mono (by omega)) (qv 0) (qa_cons (q_lst (qa_cons (qv 2) qa_nil)) qa_nil))))))), ?_⟩) (fun _ _ _ _ _ _ us hl => match us, hl with | [_, _], _ => rfl)
  rintro _ M Q Et ⟨A, M0, ss, fr, m, L, s, lp, hk, rfl, hm, ho, hpos, hd, hst, hlp, hne, hl, hs, h⟩
  cases s with
  | if1 l e b =>
    have he := (hst _ self_in).ex e (by simp [Sm.exprs])
    have hdb : deeps b < n := block_deep hd (by simp [Sm.blocks])
    have hB : okRb ss lp b := ⟨fun t ht => hst t (by rw [allSt_eq]; simp [Sm.blocks]; exact Or.inr ht), by unfold inLp at hlp; exact hlp⟩
    have e1 : mkS ss fr m (.if1 l e b) = (mkB ss fr (m.add (exRows ss l e fr ++ [.split l fr 0])) b).lead (m.rows.length + (exRows ss l e fr).length) := by
      unfold mkS Mk.add; simp [List.append_assoc]
    rw [e1] at hl h
    rw [lead_len] at hl
    have k1 := mkB_keeps ss fr b (m.add (exRows ss l e fr ++ [.split l fr 0]))
    have l1 : (m.add (exRows ss l e fr ++ [.split l fr 0])).rows.length = m.rows.length + (exRows ss l e fr).length + 1 := by unfold Mk.add; simp; omega
    have hled : ledAt (m.add (exRows ss l e fr ++ [.split l fr 0])).rows (m.rows.length + (exRows ss l e fr).length) := by
      have := add_split_led (m := m) (rs := exRows ss l e fr) (x := .split l fr 0) True.intro
      rw [l1, Nat.add_sub_cancel] at this
      exact this
    have kl := k1.ext.len
    unfold Sm.d; walk_at "vc"
    rw [mk_s hk hm]
    walk_at "vc"
    refine ⟨A, M0, ss, fr, m, L, l, e, hk, rfl, hm, he.1, he.2, by omega, ?_⟩
    have h1 : MkS A M0 (mup M A.r (.lst ((m.rows ++ (exRows ss l e fr ++ [Rw.split l fr 0])).map Rw.d))) ss fr (m.add (exRows ss l e fr ++ [.split l fr 0])) L := hm.rows (rs := m.rows ++ (exRows ss l e fr ++ [Rw.split l fr 0]))
    have ho1 : (m.add (exRows ss l e fr ++ [.split l fr 0])).ok := ho.add
    have hne1 : lp → (m.add (exRows ss l e fr ++ [.split l fr 0])).loops ≠ [] := hne
    generalize m.add (exRows ss l e fr ++ [.split l fr 0]) = m1 at *
    refine ⟨A, M0, ss, fr, m1, L, b, lp, hk, rfl, h1, ho1, hdb, hB, hne1, hl, fun M' L' hM' hL' => ?_⟩
    walk_at "vc"
    rw [mk_s hk hM']
    walk_at "vc"
    refine ⟨A, M0, ss, fr, _, L', [m.rows.length + (exRows ss l e fr).length], _, hk, rfl, Or.inl rfl, hM', fun k hk => by rw [List.mem_singleton.mp hk]; exact k1.ext.led _ hled, ?_⟩
    exact h _ L' (hM'.rows (rs := leadsAt (mkB ss fr m1 b).rows [m.rows.length + (exRows ss l e fr).length])) hL'
  | if2 l e b c =>
    have he := (hst _ self_in).ex e (by simp [Sm.exprs])
    have hdb : deeps b < n := block_deep hd (by simp [Sm.blocks])
    have hdc : deeps c < n := block_deep hd (by simp [Sm.blocks])
    unfold inLp at hlp
    have hB : okRb ss lp b := ⟨fun t ht => hst t (by rw [allSt_eq]; simp [Sm.blocks]; exact Or.inr (Or.inl ht)), hlp.1⟩
    have hC : okRb ss lp c := ⟨fun t ht => hst t (by rw [allSt_eq]; simp [Sm.blocks]; exact Or.inr (Or.inr ht)), hlp.2⟩
    have e1 : mkS ss fr m (.if2 l e b c) = (mkB ss fr (((mkB ss fr (m.add (exRows ss l e fr ++ [.split l fr 0])) b).add [.jump l 0]).lead (m.rows.length + (exRows ss l e fr).length)) c).lead (mkB ss fr (m.add (exRows ss l e fr ++ [.split l fr 0])) b).rows.length := by
      unfold mkS
      dsimp only
      rw [show ((m.add (exRows ss l e fr ++ [.split l fr 0])).rows.length - 1) = m.rows.length + (exRows ss l e fr).length by unfold Mk.add; simp [List.append_assoc]]
      rw [show (((mkB ss fr (m.add (exRows ss l e fr ++ [.split l fr 0])) b).add [.jump l 0]).rows.length - 1) = (mkB ss fr (m.add (exRows ss l e fr ++ [.split l fr 0])) b).rows.length by
        rw [show ((mkB ss fr (m.add (exRows ss l e fr ++ [.split l fr 0])) b).add [.jump l 0]).rows = (mkB ss fr (m.add (exRows ss l e fr ++ [.split l fr 0])) b).rows ++ [.jump l 0] from rfl, List.length_append]; rfl]
    rw [e1] at hl h
    rw [lead_len] at hl
    have k1 := mkB_keeps ss fr b (m.add (exRows ss l e fr ++ [.split l fr 0]))
    have l1 : (m.add (exRows ss l e fr ++ [.split l fr 0])).rows.length = m.rows.length + (exRows ss l e fr).length + 1 := by unfold Mk.add; simp; omega
    have hled : ledAt (m.add (exRows ss l e fr ++ [.split l fr 0])).rows (m.rows.length + (exRows ss l e fr).length) := by
      have := add_split_led (m := m) (rs := exRows ss l e fr) (x := .split l fr 0) True.intro
      rw [l1, Nat.add_sub_cancel] at this
      exact this
    have h1 : MkS A M0 (mup M A.r (.lst ((m.rows ++ (exRows ss l e fr ++ [Rw.split l fr 0])).map Rw.d))) ss fr (m.add (exRows ss l e fr ++ [.split l fr 0])) L := hm.rows (rs := m.rows ++ (exRows ss l e fr ++ [Rw.split l fr 0]))
    have ho1 : (m.add (exRows ss l e fr ++ [.split l fr 0])).ok := ho.add
    have hne1 : lp → (m.add (exRows ss l e fr ++ [.split l fr 0])).loops ≠ [] := hne
    unfold Sm.d; walk_at "vc"
    rw [mk_s hk hm]
    walk_at "vc"
    generalize m.add (exRows ss l e fr ++ [.split l fr 0]) = m1 at *
    have k2 := mkB_keeps ss fr c (((mkB ss fr m1 b).add [.jump l 0]).lead (m.rows.length + (exRows ss l e fr).length))
    have kl := k1.ext.len
    have kl2 := k2.ext.len
    rw [lead_len, show ((mkB ss fr m1 b).add [.jump l 0]).rows.length = (mkB ss fr m1 b).rows.length + 1 from List.length_append] at kl2
    refine ⟨A, M0, ss, fr, m, L, l, e, hk, rfl, hm, he.1, he.2, by omega, ?_⟩
    refine ⟨A, M0, ss, fr, m1, L, b, lp, hk, rfl, h1, ho1, hdb, hB, hne1, by omega, fun M' L' hM' hL' => ?_⟩
    walk_at "vc"
    rw [mk_s hk hM']
    walk_at "vc"
    refine ⟨A, M0, ss, fr, _, L', .jump l 0, hk, rfl, hM', by omega, ?_⟩
    have h2 : MkS A M0 (mup M' A.r (.lst (((mkB ss fr m1 b).rows ++ [Rw.jump l 0]).map Rw.d))) ss fr ((mkB ss fr m1 b).add [.jump l 0]) L' := hM'.rows (rs := (mkB ss fr m1 b).rows ++ [.jump l 0])
    have ho2 : ((mkB ss fr m1 b).add [.jump l 0]).ok := (k1.ok ho1).add
    walk_at "vc"
    rw [mk_s hk h2]
    walk_at "vc"
    refine ⟨A, M0, ss, fr, _, L', [m.rows.length + (exRows ss l e fr).length], _, hk, rfl, Or.inl rfl, h2, fun k hk => by rw [List.mem_singleton.mp hk]; exact ledAt_app (k1.ext.led _ hled), ?_⟩
    have h3 : MkS A M0 (mup M' A.r (.lst ((leadsAt ((mkB ss fr m1 b).add [.jump l 0]).rows [m.rows.length + (exRows ss l e fr).length]).map Rw.d))) ss fr (((mkB ss fr m1 b).add [.jump l 0]).lead (m.rows.length + (exRows ss l e fr).length)) L' := hM'.rows (rs := leadsAt ((mkB ss fr m1 b).add [.jump l 0]).rows [m.rows.length + (exRows ss l e fr).length])
    have hl2 : ledAt (((mkB ss fr m1 b).add [.jump l 0]).lead (m.rows.length + (exRows ss l e fr).length)).rows (mkB ss fr m1 b).rows.length := ledAt_lead (ledAt_last (x := .jump l 0) True.intro)
    rw [mup_mup]
    walk_at "vc"
    refine ⟨A, M0, ss, fr, _, L', c, lp, hk, rfl, h3, ho2.lead, hdc, hC, fun q => k1.lps.ne (hne1 q), hl, fun M'' L'' hM'' hL'' => ?_⟩
    walk_at "vc"
    rw [mk_s hk hM'']
    walk_at "vc"
    refine ⟨A, M0, ss, fr, _, L'', [(mkB ss fr m1 b).rows.length], _, hk, rfl, Or.inl rfl, hM'', fun k hk => by rw [List.mem_singleton.mp hk]; exact k2.ext.led _ hl2, ?_⟩
    exact h _ L'' (hM''.rows (rs := leadsAt (mkB ss fr (((mkB ss fr m1 b).add [.jump l 0]).lead (m.rows.length + (exRows ss l e fr).length)) c).rows [(mkB ss fr m1 b).rows.length])) (hL''.trans hL')
  | _ => exact hs.elim
theorem ok_make_while (T : Tp K mg) {k n : Nat} (hb : Fn P w K mg base CX0 k "make_block" (spBlk K n)) (hk20 : 20 ≤ k) : Fn P w K mg base CX0 (k + 1) "make_while" (spDeed K isWh n) := by
  refine fn_top T 17 e_make_while (m_make_while T) sc_make_while (by rintro _ M Q Et ⟨_, _, _, _, _, _, _, _, _, rfl, _⟩; rfl) (fun cdv A outer s H E hr => ⟨_, (qss_cons (qs_set (i := 2) sc_make_while.nd (q_op oq_sub (q_callB cq_len (m_len T) (by decide +kernel) (qa_cons (q_fld 0 fl_Maker (c_Maker_rows T) (qv 0)) qa_nil)) q_int))
 (qss_cons (qs_set (i := 3) sc_make_while.nd (q_lstM (qa_cons (q_meth fl_Maker (ok_Maker_tested T) (hr.mono (by omega)) (qv 0) (qa_cons (q_ix (qv 1) q_int) (qa_cons (q_ix (qv 1) q_int) qa_nil))) qa_nil)))
 (qss_cons (qs_expr (q_append (q_fld 5 fl_Maker (c_Maker_loops T) (qv 0)) (qa_cons (q_tup (qa_cons (qv 2) (qa_cons (qv 3) qa_nil))) qa_nil)))
 (qss_cons (qs_expr (q_call hb (hr.mono (by omega)) (qa_cons (qv 0) (qa_cons (q_ix (qv 1) q_int) qa_nil))))
 (qss_cons (qs_expr (q_append (q_fld 0 fl_Maker (c_Maker_rows T) (qv 0)) (qa_cons (q_tup (qa_cons q_str (qa_cons (q_ix (qv 1) q_int) (qa_cons (qv 2) qa_nil)))) qa_nil)))
 (qss_cons (qs_expr (q_pop (q_fld 5 fl_Maker (c_Maker_loops T) (qv 0))))
 (qss_one (qs_expr (q_meth fl_Maker (ok_Maker_lead_here T) (hr.mono (by omega)) (qv 0) (qa_cons (qv 3) qa_nil)))))))))), ?_⟩) (fun _ _ _ _ _ _ us hl => match us, hl with | [_, _], _ => rfl)
  rintro _ M Q Et ⟨A, M0, ss, fr, m, L, s, lp, hk, rfl, hm, ho, hpos, hd, hst, hlp, hne, hl, hs, h⟩
  cases s with
  | whl l e b =>
    have he := (hst _ self_in).ex e (by simp [Sm.exprs])
    have hdb : deeps b < n := block_deep hd (by simp [Sm.blocks])
    have hB : okRb ss True b := ⟨fun t ht => hst t (by rw [allSt_eq]; simp [Sm.blocks]; exact Or.inr ht), by unfold inLp at hlp; exact hlp⟩
    have hr0 := hm.r_
    have l1 : (m.add (exRows ss l e fr ++ [.split l fr 0])).rows.length = m.rows.length + (exRows ss l e fr).length + 1 := by unfold Mk.add; simp; omega
    have hled : ledAt (m.add (exRows ss l e fr ++ [.split l fr 0])).rows (m.rows.length + (exRows ss l e fr).length) := by
      have := add_split_led (m := m) (rs := exRows ss l e fr) (x := .split l fr 0) True.intro
      rw [l1, Nat.add_sub_cancel] at this
      exact this
    have h1 : MkS A M0 (mup M A.r (.lst ((m.rows ++ (exRows ss l e fr ++ [Rw.split l fr 0])).map Rw.d))) ss fr (m.add (exRows ss l e fr ++ [.split l fr 0])) L := hm.rows (rs := m.rows ++ (exRows ss l e fr ++ [Rw.split l fr 0]))
    have ho1 := (Mk.ok.add (rs := exRows ss l e fr ++ [.split l fr 0]) ho).loop (b := m.rows.length - 1) (by rw [l1]; have := ho.lp; show m.loops.length + 1 ≤ _; omega) hled
    have k1 := mkB_keeps ss fr b ((m.add (exRows ss l e fr ++ [.split l fr 0])).into (m.rows.length - 1) [m.rows.length + (exRows ss l e fr).length])
    obtain ⟨z, hz⟩ := k1.lps
    have hz : (mkB ss fr ((m.add (exRows ss l e fr ++ [.split l fr 0])).into (m.rows.length - 1) [m.rows.length + (exRows ss l e fr).length]) b).loops = (m.rows.length - 1, [m.rows.length + (exRows ss l e fr).length] ++ z) :: m.loops := hz
    have e1 := mkS_whl hz
    rw [e1] at hl h
    rw [leads_len] at hl
    have kl := k1.ext.len
    rw [show ((m.add (exRows ss l e fr ++ [.split l fr 0])).into (m.rows.length - 1) [m.rows.length + (exRows ss l e fr).length]).rows.length = m.rows.length + (exRows ss l e fr).length + 1 from l1] at kl
    have hl3 : (mkB ss fr ((m.add (exRows ss l e fr ++ [.split l fr 0])).into (m.rows.length - 1) [m.rows.length + (exRows ss l e fr).length]) b).rows.length + 1 < 16777215 := by
      rw [show (((mkB ss fr ((m.add (exRows ss l e fr ++ [.split l fr 0])).into (m.rows.length - 1) [m.rows.length + (exRows ss l e fr).length]) b).add [.jump l (m.rows.length - 1 : Nat)]).out m.loops).rows.length = (mkB ss fr ((m.add (exRows ss l e fr ++ [.split l fr 0])).into (m.rows.length - 1) [m.rows.length + (exRows ss l e fr).length]) b).rows.length + 1 from List.length_append] at hl
      exact hl
    have hlp := ho.lp
    rw [hm.lps, List.length_map] at hlp
    unfold Sm.d; walk_at "vc"
    rw [mk_s hk hm]
    walk_at "vc"
    rw [lenOf_of hr0]
    walk_at "vc"
    refine ⟨A, M0, ss, fr, m, L, l, e, hk, rfl, hm, he.1, he.2, by omega, ?_⟩
    intro q hq
    have hf := h1.other (o := .lst [natD (m.rows.length + (exRows ss l e fr).length)]) hq
    rw [mk_s hk hf]
    walk_at "vc"
    refine ⟨is_m hf.o_, ap_m hf.o_ ⟨by rw [List.length_map, List.length_reverse]; omega, ?_⟩⟩
    have h2 := h1.beginA (b := m.rows.length - 1) (lv := [m.rows.length + (exRows ss l e fr).length]) (d := .int ((m.rows.length : Int) - 1)) hq (by unfold natD; congr 1; omega)
    generalize (m.add (exRows ss l e fr ++ [.split l fr 0])).into (m.rows.length - 1) [m.rows.length + (exRows ss l e fr).length] = m1 at *
    refine ⟨A, M0, ss, fr, m1, _, b, True, hk, rfl, h2, ho1, hdb, hB, ?_, by omega, fun M' L' hM' hL' => ?_⟩
    · intro _ q
      have := h2.lps
      rw [q] at this
      cases this
    have ho2 := k1.ok ho1
    walk_at "vc"
    rw [mk_s hk hM']
    walk_at "vc"
    refine ⟨is_m hM'.r_, ap_m hM'.r_ ⟨by rw [List.length_map]; omega, ?_⟩⟩
    rw [show D.int ((m.rows.length : Int) - 1) = .int ((m.rows.length - 1 : Nat) : Int) by congr 1; omega]
    have h3 := hM'.rowsA (mkB ss fr m1 b).rows (.jump l (m.rows.length - 1 : Nat))
    simp only [Rw.d] at h3
    rw [mk_s hk h3]
    walk_at "vc"
    have hlps := hM'.lps
    rw [hz] at hlps
    cases L' with
    | nil => cases hlps
    | cons p R =>
      obtain ⟨q', b', lv'⟩ := p
      rw [List.map_cons] at hlps hL'
      obtain ⟨hp, hR⟩ := List.cons.inj hlps
      obtain ⟨hq', hR'⟩ := List.cons.inj hL'
      simp only at hp hq'
      subst hq'
      cases hp
      refine ⟨is_m h3.o_, ap_m h3.o_ ?_⟩
      rw [List.reverse_cons, List.map_append, List.map_cons, List.map_nil, List.getLast?_concat, List.dropLast_concat]
      have h4 := h3.end_
      have hn := h3.qne
      have hq4 := h3.q_
      walk_at "vc"
      rw [mk_s hk h4]
      walk_at "vc"
      refine ⟨A, M0, ss, fr, _, R, [m.rows.length + (exRows ss l e fr).length] ++ z, _, hk, rfl, Or.inr ⟨q', rfl, hn.1, by rw [mup_ne hn.2]; exact hq4⟩, h4, fun j hj => ledAt_app (ho2.lsd _ (by rw [hz]; exact List.mem_cons_self ..) j hj), ?_⟩
      have h5 := h4.rows (rs := leadsAt ((mkB ss fr m1 b).rows ++ [Rw.jump l (m.rows.length - 1 : Nat)]) ([m.rows.length + (exRows ss l e fr).length] ++ z))
      refine h _ R ?_ hR'
      rw [leads_eq]
      rw [← hR] at h5
      exact h5
  | _ => exact hs.elim
theorem ok_make_block (T : Tp K mg) : ∀ n, Fn P w K mg base CX0 (2 * n + 30) "make_block" (spBlk K n)
  | 0 => by
    refine fn_top T 18 e_make_block (m_make_block T) sc_make_block (by rintro _ M Q Et ⟨_, _, _, _, _, _, _, _, _, rfl, _⟩; rfl) (fun cdv A outer s H E hr => ⟨_, qss_never, ?_⟩) (fun _ _ _ _ _ _ us hl => match us, hl with | [_, _], _ => rfl)
    rintro _ M Q Et ⟨A, M0, ss, fr, m, L, b, lp, hk, rfl, hm, ho, hd, h⟩
    omega
  | n + 1 => by
    have ih := ok_make_block T n
    refine fn_top T 18 e_make_block (m_make_block T) sc_make_block (by rintro _ M Q Et ⟨_, _, _, _, _, _, _, _, _, rfl, _⟩; rfl) (fun cdv A outer s H E hr => ⟨_, (qss_one (qs_for PassesOwn.never rfl (qi_list (qv 1)) (qg_name (i := 2) sc_make_block.nd)
  (qss_cons (qs_expr (q_append (q_fld 0 fl_Maker (c_Maker_rows T) (qv 0)) (qa_cons (q_tup (qa_cons q_str (qa_cons (q_ix (qv 2) q_int) qa_nil))) qa_nil)))
 (qss_one (qs_if (qt_cmp oq_eq (q_ix (qv 2) q_int) q_str)
  (qss_one (qs_expr (q_call (ok_make_if T ih (by omega)) (hr.mono (by omega)) (qa_cons (qv 0) (qa_cons (qv 2) qa_nil)))))
  (qss_one (qs_if (qt_cmp oq_eq (q_ix (qv 2) q_int) q_str)
  (qss_one (qs_expr (q_call (ok_make_while T ih (by omega)) (hr.mono (by omega)) (qa_cons (qv 0) (qa_cons (qv 2) qa_nil)))))
  (qss_one (qs_if (qt_w (qw_or (qt_cmp oq_eq (q_ix (qv 2) q_int) q_str) (qw_or (qt_cmp oq_eq (q_ix (qv 2) q_int) q_str) (qw_or1 (qt_cmp oq_eq (q_ix (qv 2) q_int) q_str)))))
  (qss_one (qs_expr (q_call (ok_make_way T) (hr.mono (by omega)) (qa_cons (qv 0) (qa_cons (qv 2) qa_nil)))))
  (qss_one (qs_expr (q_call (ok_make_plain T) (hr.mono (by omega)) (qa_cons (qv 0) (qa_cons (qv 2) qa_nil)))))))))))))), ?_⟩) (fun _ _ _ _ _ _ us hl => match us, hl with | [_, _], _ => rfl)
    rintro _ M Q Et ⟨A, M0, ss, fr, m, L, b, lp, hk, rfl, hm, ho, hd, hB, hne, hl, h⟩
    walk_at "vc"
    rw [stD_map]
    refine for_map b Sm.d rfl (fun ys τ M1 => (∃ L1, MkS A M0 M1 ss fr (mkB ss fr m ys) L1 ∧ L1.map (·.1) = L.map (·.1)) ∧ ∃ v2, τ = [some (.ref A.s), some (.lst (b.map Sm.d)), v2]) ⟨⟨L, by rw [mkB_nil]; exact hm, rfl⟩, none, rfl⟩ (fun _ _ _ _ => trivial) ?_ ?_
    · rintro ys s zs τ M1 Nx hx ⟨⟨L1, hM1, hL1⟩, v2, rfl⟩ hN
      have hs : s ∈ b := by rw [hx]; simp
      obtain ⟨hst, hlp, hall⟩ := hB.at_ hs
      have hdp : s.deep ≤ n := by have := deeps_mem hs; omega
      have kys := mkB_keeps ss fr ys m
      have hle : (mkS ss fr ((mkB ss fr m ys).add [.tick s.line]) s).rows.length ≤ (mkB ss fr m b).rows.length := by
        have := (mkB_keeps ss fr zs (mkS ss fr ((mkB ss fr m ys).add [.tick s.line]) s)).ext.len
        rw [hx, show ys ++ s :: zs = (ys ++ [s]) ++ zs by simp, mkB_app, mkB_app, mkB_one]
        exact this
      have hle2 := (mkS_keeps ss fr s ((mkB ss fr m ys).add [.tick s.line])).ext.len
      have l2 : ((mkB ss fr m ys).add [.tick s.line]).rows.length = (mkB ss fr m ys).rows.length + 1 := List.length_append
      have h2 : MkS A M0 (mup M1 A.r (.lst ((mkB ss fr m ys).rows.map Rw.d ++ [(Rw.tick s.line).d]))) ss fr ((mkB ss fr m ys).add [.tick s.line]) L1 := hM1.rowsA (mkB ss fr m ys).rows (.tick s.line)
      simp only [Rw.d] at h2
      have ho2 : ((mkB ss fr m ys).add [.tick s.line]).ok := (kys.ok ho).add
      have hne2 : lp → ((mkB ss fr m ys).add [.tick s.line]).loops ≠ [] := fun q => kys.lps.ne (hne q)
      have hN' : ∀ M' L', MkS A M0 M' ss fr (mkS ss fr ((mkB ss fr m ys).add [.tick s.line]) s) L' → L'.map (·.1) = L1.map (·.1) → ∀ v, Nx [some (.ref A.s), some (.lst (b.map Sm.d)), v] M' := fun M' L' a1 a2 v => hN _ _ ⟨⟨L', by rw [mkB_app, mkB_one]; exact a1, a2.trans hL1⟩, v, rfl⟩
      have hb1 : (mkB ss fr m ys).rows.length < 16777215 := by omega
      generalize (mkB ss fr m ys).add [.tick s.line] = m2 at *
      clear hN hx
      have hpos : 0 < m2.rows.length := by omega
      cases s with
      | if1 l e c =>
        unfold Sm.d; walk_at "vc"; rw [mk_s hk hM1]; walk_at "vc"
        refine ⟨is_m hM1.r_, ap_m hM1.r_ ⟨by rw [List.length_map]; omega, ?_⟩⟩
        exact ⟨A, M0, ss, fr, m2, L1, .if1 l e c, lp, hk, rfl, h2, ho2, hpos, hdp, hall, hlp, hne2, by omega, True.intro, fun M' L' a b => hN' M' L' a b _⟩
      | if2 l e c d =>
        unfold Sm.d; walk_at "vc"; rw [mk_s hk hM1]; walk_at "vc"
        refine ⟨is_m hM1.r_, ap_m hM1.r_ ⟨by rw [List.length_map]; omega, ?_⟩⟩
        exact ⟨A, M0, ss, fr, m2, L1, .if2 l e c d, lp, hk, rfl, h2, ho2, hpos, hdp, hall, hlp, hne2, by omega, True.intro, fun M' L' a b => hN' M' L' a b _⟩
      | whl l e c =>
        unfold Sm.d; walk_at "vc"; rw [mk_s hk hM1]; walk_at "vc"
        refine ⟨is_m hM1.r_, ap_m hM1.r_ ⟨by rw [List.length_map]; omega, ?_⟩⟩
        exact ⟨A, M0, ss, fr, m2, L1, .whl l e c, lp, hk, rfl, h2, ho2, hpos, hdp, hall, hlp, hne2, by omega, True.intro, fun M' L' a b => hN' M' L' a b _⟩
      | brk l =>
        unfold inLp at hlp
        unfold Sm.d; walk_at "vc"; rw [mk_s hk hM1]; walk_at "vc"
        refine ⟨is_m hM1.r_, ap_m hM1.r_ ⟨by rw [List.length_map]; omega, ?_⟩⟩
        exact ⟨A, M0, ss, fr, m2, L1, .brk l, hk, rfl, h2, ho2, hst.ex, by omega, hne2 hlp, fun M' L' a b => hN' M' L' a b _⟩
      | agn l =>
        unfold inLp at hlp
        unfold Sm.d; walk_at "vc"; rw [mk_s hk hM1]; walk_at "vc"
        refine ⟨is_m hM1.r_, ap_m hM1.r_ ⟨by rw [List.length_map]; omega, ?_⟩⟩
        exact ⟨A, M0, ss, fr, m2, L1, .agn l, hk, rfl, h2, ho2, hst.ex, by omega, hne2 hlp, fun M' L' a b => hN' M' L' a b _⟩
      | ret l e =>
        unfold Sm.d; walk_at "vc"; rw [mk_s hk hM1]; walk_at "vc"
        refine ⟨is_m hM1.r_, ap_m hM1.r_ ⟨by rw [List.length_map]; omega, ?_⟩⟩
        exact ⟨A, M0, ss, fr, m2, L1, .ret l e, hk, rfl, h2, ho2, hst.ex, by omega, True.intro, fun M' L' a b => hN' M' L' a b _⟩
      | call l x f es =>
        unfold Sm.d; walk_at "vc"; rw [mk_s hk hM1]; walk_at "vc"
        refine ⟨is_m hM1.r_, ap_m hM1.r_ ⟨by rw [List.length_map]; omega, ?_⟩⟩
        exact ⟨A, M0, ss, fr, m2, L1, .call l x f es, hk, rfl, h2, ho2, hst.len, hst.ex, hst.gv, by omega, Or.inr ⟨_, _, _, _, rfl⟩, fun M' a => hN' M' L1 a rfl _⟩
      | _ =>
        unfold Sm.d; walk_at "vc"; rw [mk_s hk hM1]; walk_at "vc"
        refine ⟨is_m hM1.r_, ap_m hM1.r_ ⟨by rw [List.length_map]; omega, ?_⟩⟩
        exact ⟨A, M0, ss, fr, m2, L1, _, hk, rfl, h2, ho2, hst.len, hst.ex, hst.gv, by omega, Or.inl True.intro, fun M' a => hN' M' L1 a rfl _⟩
    · rintro τ M1 ⟨⟨L1, hM1, hL1⟩, v2, rfl⟩
      exact h M1 L1 hM1 hL1
end
end K37
namespace K37
open PySem PySem.Spec PyProof.Rows L2 Tl
section
variable {P : Program} {w : World} {K : PySem.W.Frag} {mg : Str → Option Value} {base : Heap}
def spMkI (K : PySem.W.Frag) : SpT := fun ds M Q _ => ∃ a dx M0, ds = [.ref a] ∧ M0 a = none ∧ M = mup M0 a (.obj (He.ga K "Maker") dx fl_Maker []) ∧ ∀ A M', A.s = a → isMk K A → MkS A M0 M' [] 1 ⟨[], [], [], []⟩ [] → Q .non M'
theorem ok_Maker___init (T : Tp K mg) : Fi P w K mg base CX0 1 "Maker" (spMkI K) := by
  refine fi_top T e_Maker___init 7 sc_Maker___init (T.mkr 49) (T.glo 50) (by rintro _ M Q Et ⟨_, _, _, rfl, _⟩; rfl) (fun cdv A outer s H E hr => ⟨_, (qss_cons (qs_fld 0 fl_Maker (c_Maker_rows T) (qv 0) (q_lstM qa_nil))
 (qss_cons (qs_fld 1 fl_Maker (c_Maker_slots T) (qv 0) q_dnewK)
 (qss_cons (qs_fld 2 fl_Maker (c_Maker_free T) (qv 0) q_int)
 (qss_cons (qs_fld 3 fl_Maker (c_Maker_calls T) (qv 0) (q_lstM qa_nil))
 (qss_cons (qs_fld 4 fl_Maker (c_Maker_leaves T) (qv 0) (q_lstM qa_nil))
 (qss_one (qs_fld 5 fl_Maker (c_Maker_loops T) (qv 0) (q_lstM qa_nil)))))))), ?_⟩) (fun _ _ _ _ _ _ us hl => match us, hl with | [_], _ => rfl)
  rintro _ M Q Et ⟨a, dx, M0, rfl, h0, rfl, h⟩
  have c0 := (Cel.nil (M := M0)).fresh (o := .obj (He.ga K "Maker") dx fl_Maker []) h0
  walk_at "vc"
  generalize mup M0 a (.obj (He.ga K "Maker") dx fl_Maker []) = M1 at c0 ⊢
  intro r hr
  have c1 := c0.fresh (o := .lst []) hr
  generalize mup M1 r (.lst []) = M2 at c1 ⊢
  rw [show M2 a = _ from Cel.here (pre := [(r, .lst [])]) c1]
  walk_at "vc"
  have c2 := Cel.put (pre := [(r, .lst [])]) (o' := .obj (He.ga K "Maker") dx fl_Maker [.ref r]) c1
  generalize mup M2 a (.obj (He.ga K "Maker") dx fl_Maker [.ref r]) = M3 at c2 ⊢
  intro p hp
  have c3 := c2.fresh (o := .dK []) hp
  generalize mup M3 p (.dK []) = M4 at c3 ⊢
  rw [show M4 a = _ from Cel.here (pre := [(p, .dK []), (r, .lst [])]) c3]
  walk_at "vc"
  have c4 := Cel.put (pre := [(p, .dK []), (r, .lst [])]) (o' := .obj (He.ga K "Maker") dx fl_Maker [.ref r, .ref p, .int 1]) c3
  generalize mup M4 a (.obj (He.ga K "Maker") dx fl_Maker [.ref r, .ref p, .int 1]) = M5 at c4 ⊢
  intro c hc
  have c5 := c4.fresh (o := .lst []) hc
  generalize mup M5 c (.lst []) = M6 at c5 ⊢
  rw [show M6 a = _ from Cel.here (pre := [(c, .lst []), (p, .dK []), (r, .lst [])]) c5]
  walk_at "vc"
  have c6 := Cel.put (pre := [(c, .lst []), (p, .dK []), (r, .lst [])]) (o' := .obj (He.ga K "Maker") dx fl_Maker [.ref r, .ref p, .int 1, .ref c]) c5
  generalize mup M6 a (.obj (He.ga K "Maker") dx fl_Maker [.ref r, .ref p, .int 1, .ref c]) = M7 at c6 ⊢
  intro v hv
  have c7 := c6.fresh (o := .lst []) hv
  generalize mup M7 v (.lst []) = M8 at c7 ⊢
  rw [show M8 a = _ from Cel.here (pre := [(v, .lst []), (c, .lst []), (p, .dK []), (r, .lst [])]) c7]
  walk_at "vc"
  have c8 := Cel.put (pre := [(v, .lst []), (c, .lst []), (p, .dK []), (r, .lst [])]) (o' := .obj (He.ga K "Maker") dx fl_Maker [.ref r, .ref p, .int 1, .ref c, .ref v]) c7
  generalize mup M8 a (.obj (He.ga K "Maker") dx fl_Maker [.ref r, .ref p, .int 1, .ref c, .ref v]) = M9 at c8 ⊢
  intro o ho
  have c9 := c8.fresh (o := .lst []) ho
  generalize mup M9 o (.lst []) = M10 at c9 ⊢
  rw [show M10 a = _ from Cel.here (pre := [(o, .lst []), (v, .lst []), (c, .lst []), (p, .dK []), (r, .lst [])]) c9]
  walk_at "vc"
  have c10 := Cel.put (pre := [(o, .lst []), (v, .lst []), (c, .lst []), (p, .dK []), (r, .lst [])]) (o' := .obj (He.ga K "Maker") dx fl_Maker [.ref r, .ref p, .int 1, .ref c, .ref v, .ref o]) c9
  refine h ⟨a, r, p, c, v, o, He.ga K "Maker", dx, fl_Maker⟩ _ rfl ⟨rfl, rfl⟩ ⟨c10.perm ?_, rfl⟩
  refine (List.reverse_perm _).symm.trans ?_
  exact (List.perm_middle (l₁ := [((r : Addr), (MO.lst [] : MO)), (p, MO.dK [])])).symm
def spMkD (K : PySem.W.Frag) : SpT := fun ds M Q _ => ∃ (A : MkA) (M0 : MH) (ss : List Str) (fr : Int) (m : Mk) (o : Df), isMk K A ∧ ds = [.ref A.s, o.d] ∧ MkS A M0 M ss fr m [] ∧ m.ok ∧ okRow o ∧ inLps False o.body ∧ (mkDef m o).rows.length < 16777215 ∧
  ∀ M' p v, MkS { A with p := p, v := v } M0 M' (slotsF o) ((slotsF o).length + 1) (mkDef m o) [] → Q .non M'
theorem leadsAt_len (rs : List Rw) (ks : List Nat) : (leadsAt rs ks).length = rs.length := by
  unfold leadsAt
  induction ks generalizing rs with
  | nil => rfl
  | cons k t ih => rw [List.foldl_cons, ih, leadAt_len]
theorem ok_make_def (T : Tp K mg) : Fn P w K mg base CX0 51 "make_def" (spMkD K) := by
  refine fn_top T 19 e_make_def (m_make_def T) sc_make_def (by rintro _ M Q Et ⟨_, _, _, _, _, _, _, rfl, _⟩; rfl) (fun cdv A outer s H E hr => ⟨_, (qss_cons (qs_fld 1 fl_Maker (c_Maker_slots T) (qv 0) (q_call (ok_slots_of T) (hr.mono (by decide)) (qa_cons (qv 1) qa_nil)))
 (qss_cons (qs_fld 2 fl_Maker (c_Maker_free T) (qv 0) (q_op oq_addI (q_callB cq_lenD (m_len T) (by decide +kernel) (qa_cons (q_fld 1 fl_Maker (c_Maker_slots T) (qv 0)) qa_nil)) q_int))
 (qss_cons (qs_fld 4 fl_Maker (c_Maker_leaves T) (qv 0) (q_lstM qa_nil))
 (qss_cons (qs_expr (q_call (ok_make_block T 10) (hr.mono (by decide)) (qa_cons (qv 0) (qa_cons (q_ix (qv 1) q_int) qa_nil))))
 (qss_cons (qs_expr (q_meth fl_Maker (ok_Maker_lead_here T) (hr.mono (by decide)) (qv 0) (qa_cons (q_fld 4 fl_Maker (c_Maker_leaves T) (qv 0)) qa_nil)))
 (qss_one (qs_expr (q_append (q_fld 0 fl_Maker (c_Maker_rows T) (qv 0)) (qa_cons (q_tup (qa_cons q_str (qa_cons (q_ix (qv 1) q_int) qa_nil))) qa_nil))))))))), ?_⟩) (fun _ _ _ _ _ _ us hl => match us, hl with | [_, _], _ => rfl)
  rintro _ M Q Et ⟨A, M0, ss, fr, m, o, hk, rfl, hm, ho, hokr, hlp, hl, h⟩
  obtain ⟨s, r, p, c, v, lo, C, dx, fl⟩ := A
  obtain ⟨hk1, hk2⟩ := hk
  simp only at hk1 hk2
  subst hk1 hk2
  have hlps : m.loops = [] := hm.lps
  have hB : okRb (slotsF o) False o.body := ⟨fun t ht => ⟨(hokr.exs t ht).1, fun e he => ⟨(hokr.exs t ht).2 e he, (slots_in t ht).1 e he⟩, (slots_in t ht).2⟩, hlp⟩
  have hk1 := mkB_keeps (slotsF o) ((slotsF o).length + 1) o.body ⟨m.rows, m.calls, [], m.loops⟩
  have ho1 : Mk.ok ⟨m.rows, m.calls, [], m.loops⟩ := ⟨Nat.zero_le _, ho.cs, ho.lp, ho.ls, fun k hk => (by cases hk), ho.csd, ho.lsd⟩
  have hdef : mkDef m o = ((mkB (slotsF o) ((slotsF o).length + 1) ⟨m.rows, m.calls, [], m.loops⟩ o.body).leads (mkB (slotsF o) ((slotsF o).length + 1) ⟨m.rows, m.calls, [], m.loops⟩ o.body).leaves).add [.back o.last] := rfl
  rw [hdef] at h hl
  have hl2 : (mkB (slotsF o) ((slotsF o).length + 1) ⟨m.rows, m.calls, [], m.loops⟩ o.body).rows.length + 1 < 16777215 := by
    rw [← leads_len (ks := (mkB (slotsF o) ((slotsF o).length + 1) ⟨m.rows, m.calls, [], m.loops⟩ o.body).leaves)]
    rw [show (((mkB (slotsF o) ((slotsF o).length + 1) ⟨m.rows, m.calls, [], m.loops⟩ o.body).leads (mkB (slotsF o) ((slotsF o).length + 1) ⟨m.rows, m.calls, [], m.loops⟩ o.body).leaves).add [.back o.last]).rows.length = _ from List.length_append] at hl
    exact hl
  unfold Df.d
  walk_at "vc"
  refine ⟨o, rfl, hokr, fun p2 hp2 => ?_⟩
  have c1 := hm.cel.fresh (o := .dK (slotD (slotsF o))) hp2
  unfold MkA.cells MkA.obj at c1
  dsimp only at c1
  generalize mup M p2 (.dK (slotD (slotsF o))) = M1 at c1 ⊢
  walk_at "vc"
  rw [show M1 s = _ from Cel.here (pre := [(p2, .dK (slotD (slotsF o))), (r, .lst (m.rows.map Rw.d)), (p, .dK (slotD ss))]) c1]
  walk_at "vc"
  have c2 := Cel.put (pre := [(p2, .dK (slotD (slotsF o))), (r, .lst (m.rows.map Rw.d)), (p, .dK (slotD ss))]) (o' := .obj (He.ga K "Maker") dx fl_Maker [.ref r, .ref p2, .int fr, .ref c, .ref v, .ref lo]) c1
  generalize mup M1 s (.obj (He.ga K "Maker") dx fl_Maker [.ref r, .ref p2, .int fr, .ref c, .ref v, .ref lo]) = M2 at c2 ⊢
  rw [show M2 p2 = _ from Cel.here (pre := []) c2]
  walk_at "vc"
  rw [slotD_len]
  have c3 := Cel.put (pre := [(p2, .dK (slotD (slotsF o))), (r, .lst (m.rows.map Rw.d)), (p, .dK (slotD ss))]) (o' := .obj (He.ga K "Maker") dx fl_Maker [.ref r, .ref p2, .int ((slotsF o).length + 1), .ref c, .ref v, .ref lo]) c1
  generalize mup M1 s (.obj (He.ga K "Maker") dx fl_Maker [.ref r, .ref p2, .int ((slotsF o).length + 1), .ref c, .ref v, .ref lo]) = M3 at c3 ⊢
  intro v2 hv2
  have c4 := c3.fresh (o := .lst []) hv2
  generalize mup M3 v2 (.lst []) = M4 at c4 ⊢
  rw [show M4 s = _ from Cel.here (pre := [(v2, .lst []), (p2, .dK (slotD (slotsF o))), (r, .lst (m.rows.map Rw.d)), (p, .dK (slotD ss))]) c4]
  walk_at "vc"
  have c5 := Cel.put (pre := [(v2, .lst []), (p2, .dK (slotD (slotsF o))), (r, .lst (m.rows.map Rw.d)), (p, .dK (slotD ss))]) (o' := .obj (He.ga K "Maker") dx fl_Maker [.ref r, .ref p2, .int ((slotsF o).length + 1), .ref c, .ref v2, .ref lo]) c4
  generalize mup M4 s (.obj (He.ga K "Maker") dx fl_Maker [.ref r, .ref p2, .int ((slotsF o).length + 1), .ref c, .ref v2, .ref lo]) = M5 at c5 ⊢
  have c6 := Cel.forget (pre := [(v2, .lst []), (p2, .dK (slotD (slotsF o))), (r, .lst (m.rows.map Rw.d))]) c5
  have c7 := Cel.forget (pre := [(v2, .lst []), (p2, .dK (slotD (slotsF o))), (r, .lst (m.rows.map Rw.d)), (s, .obj (He.ga K "Maker") dx fl_Maker [.ref r, .ref p2, .int ((slotsF o).length + 1), .ref c, .ref v2, .ref lo]), (c, .lst (m.calls.map calD))]) c6
  have c8 := c7.perm (((List.perm_middle (l₁ := [((p2 : Addr), (MO.dK (slotD (slotsF o)) : MO)), (r, .lst (m.rows.map Rw.d)), (s, .obj (He.ga K "Maker") dx fl_Maker [.ref r, .ref p2, .int ((slotsF o).length + 1), .ref c, .ref v2, .ref lo]), (c, .lst (m.calls.map calD))])).symm).trans (List.Perm.swap _ _ _))
  have h5 : MkS ⟨s, r, p2, c, v2, lo, He.ga K "Maker", dx, fl_Maker⟩ M0 M5 (slotsF o) ((slotsF o).length + 1) ⟨m.rows, m.calls, [], m.loops⟩ [] := ⟨c8, hlps⟩
  refine ⟨⟨s, r, p2, c, v2, lo, He.ga K "Maker", dx, fl_Maker⟩, M0, slotsF o, _, _, [], o.body, False, ⟨rfl, rfl⟩, rfl, h5, ho1, hokr.deep, hB, fun q => q.elim, by omega, fun M' L' hM' hL' => ?_⟩
  obtain rfl : L' = [] := by simpa using hL'
  have ho2 := hk1.ok ho1
  rw [show M' s = _ from mk_s ⟨rfl, rfl⟩ hM']
  walk_at "vc"
  refine ⟨⟨s, r, p2, c, v2, lo, He.ga K "Maker", dx, fl_Maker⟩, M0, _, _, _, [], _, _, ⟨rfl, rfl⟩, rfl, Or.inr ⟨v2, rfl, hM'.vne, hM'.v_⟩, hM', ho2.lvd, ?_⟩
  have h6 := hM'.rows (rs := leadsAt (mkB (slotsF o) ((slotsF o).length + 1) ⟨m.rows, m.calls, [], m.loops⟩ o.body).rows (mkB (slotsF o) ((slotsF o).length + 1) ⟨m.rows, m.calls, [], m.loops⟩ o.body).leaves)
  walk_at "vc"
  rw [show (mup M' r _) s = _ from mk_s ⟨rfl, rfl⟩ h6]
  walk_at "vc"
  refine ⟨?_, ?_⟩
  · rw [leadsAt_len]
    omega
  have h7 := hM'.rowsA (leadsAt (mkB (slotsF o) ((slotsF o).length + 1) ⟨m.rows, m.calls, [], m.loops⟩ o.body).rows (mkB (slotsF o) ((slotsF o).length + 1) ⟨m.rows, m.calls, [], m.loops⟩ o.body).leaves) (.back o.last)
  refine h _ p2 v2 ?_
  rw [leads_eq]
  exact h7
def spMade : SpT := fun ds M Q _ => ∃ pg : Pg, ds = [.lst (pgD pg)] ∧ okRows pg ∧ Q (.lst ((rowsF pg).map Rw.d)) M
theorem ok_made (T : Tp K mg) : Fn P w K mg base CX0 52 "made" spMade := by
  refine fn_top T 20 e_made (m_made T) sc_made (by rintro _ M Q Et ⟨_, rfl, _⟩; rfl) (fun cdv A outer s H E hr => ⟨_, (qss_cons (qs_set (i := 1) sc_made.nd (q_make0 fl_Maker (ok_Maker___init T) (hr.mono (by decide))))
 (qss_cons (qs_set (i := 2) sc_made.nd q_dnewK)
 (qss_cons (qs_setLc (i := 4) (own := [(("one" : Str), 3)]) (lv_lcF go_name) rfl sc_made.nd (qi_list (qv 0)) (blkOk_by (N := nm_made) (sc := defScope s_made) (own := [(("one" : Str), 3)]) (by decide +kernel)) (fun _ _ _ _ _ => (pg_name (i := 3) sc_made.nd rfl (Or.inl rfl))) (fun _ _ _ _ _ => (qts_one (qt_cmp oq_ne (q_ix (qv 3) q_int) q_str))) (fun _ _ _ _ _ => (qv 3)) (sw_true rfl rfl rfl (by decide +kernel)))
 (qss_cons (qs_for PassesOwn.never rfl (qi_list (q_op oq_catL (q_lc rfl sc_made.nd (qi_list (qv 0)) (blkOk_by (N := nm_made) (sc := defScope s_made) (own := [(("one" : Str), 3)]) (by decide +kernel)) go_name (fun _ _ _ _ _ => (pg_name (i := 3) sc_made.nd rfl (Or.inl rfl))) (fun _ _ _ _ _ => (qts_one (qt_cmp oq_eq (q_ix (qv 3) q_int) q_str))) (fun _ _ _ _ _ => (qv 3))) (qv 4))) (qg_name (i := 3) sc_made.nd)
  (qss_cons (qs_asg (q_callB cq_len (m_len T) (by decide +kernel) (qa_cons (q_fld 0 fl_Maker (c_Maker_rows T) (qv 1)) qa_nil)) (qg_sub (qv 2) (q_ix (qv 3) q_int) (sq_dict (hu_of hr))))
 (qss_one (qs_expr (q_call (ok_make_def T) (hr.mono (by decide)) (qa_cons (qv 1) (qa_cons (qv 3) qa_nil)))))))
 (qss_cons (qs_for PassesOwn.never rfl (qi_list (q_fld 3 fl_Maker (c_Maker_calls T) (qv 1))) (qg_tup (n := 2) rfl (qgs_cons (qg_name (i := 5) sc_made.nd) (qgs_cons (qg_name (i := 6) sc_made.nd) qgs_nil)))
  (qss_one (qs_expr (q_meth fl_Maker (ok_Maker_lead T) (hr.mono (by decide)) (qv 1) (qa_cons (qv 5) (qa_cons (q_dget (hu_of hr) (qv 2) (qv 6)) qa_nil))))))
 (qss_one (qs_ret (q_re (q_fld 0 fl_Maker (c_Maker_rows T) (qv 1)))))))))), ?_⟩) (fun _ _ _ _ _ _ us hl => match us, hl with | [_], _ => rfl)
  rintro _ M Q Et ⟨pg, rfl, ok, h⟩
  walk_at "vc"
  intro x dx hx
  refine ⟨x, dx, M, rfl, hx, rfl, fun A Mi hAx hk hmi => ⟨rfl, fun bg hbg => ?_⟩⟩
  subst hAx
  have h0 : M bg = none := by
    cases e : M bg with
    | none => rfl
    | some u => have := hmi.cel.old bg u e; rw [hbg] at this; cases this
  have hm0 := hmi.lift (o := .dK []) hbg
  have hb0 : (mup Mi bg (.dK [])) bg = some (.dK []) := mup_same
  generalize mup Mi bg (.dK []) = M1 at hm0 hb0 ⊢
  have few := ok.few
  refine lc_filter pg Df.d (fun o => !isMain o.name) Df.d rfl (by rw [sizeLine_eq]; omega) trivial (fun o R1 R0 ho h1 h2 => ?_) ?_
  · unfold Df.d at h1 ⊢
    walk_at "vc"
    unfold isMain at h1 h2
    by_cases e : o.name = Str.ofString "main"
    · rw [if_neg (by simpa using e)]
      exact h2 (by rw [e]; simp)
    · rw [if_pos (by simpa using e)]
      exact h1 (by simpa using e)
  refine lc_filter pg Df.d (fun o => isMain o.name) Df.d rfl (by rw [sizeLine_eq]; omega) trivial (fun o R1 R0 ho h1 h2 => ?_) ?_
  · unfold Df.d at h1 ⊢
    walk_at "vc"
    unfold isMain at h1 h2
    by_cases e : o.name = Str.ofString "main"
    · rw [if_pos (by simpa using e)]
      exact h1 (by rw [e]; simp)
    · rw [if_neg (by simpa using e)]
      exact h2 (by simpa using e)
  have hlm : (mainFirst pg).length ≤ 2 * pg.length := by
    unfold mainFirst
    rw [List.length_append]
    have a1 := List.length_filter_le (fun o : Df => isMain o.name) pg
    have a2 := List.length_filter_le (fun o : Df => !isMain o.name) pg
    omega
  have hmem : ∀ o ∈ mainFirst pg, o ∈ pg := fun o ho => by
    unfold mainFirst at ho
    rcases List.mem_append.mp ho with ho | ho
    · exact (List.mem_filter.mp ho).1
    · exact (List.mem_filter.mp ho).1
  walk_at "vc"
  rw [← List.map_append]
  have olen := ok.len
  have ofnd := ok.fnd
  have hrf : rowsF pg = (mkAll (mainFirst pg)).1.calls.foldl (fun rows c => leadAt rows c.1 (beginOf (mkAll (mainFirst pg)).2 c.2)) (mkAll (mainFirst pg)).1.rows := rfl
  rw [hrf] at h
  refine ⟨?_, ?_⟩
  · have a1 := List.length_filter_le (fun o : Df => isMain o.name) pg
    have a2 := List.length_filter_le (fun o : Df => !isMain o.name) pg
    omega
  rw [show List.filter (fun o => isMain o.name) pg ++ List.filter (fun o => !isMain o.name) pg = mainFirst pg from rfl]
  generalize mainFirst pg = os at *
  generalize some (D.lst (List.map Df.d (List.filter (fun o => !isMain o.name) pg))) = v4
  obtain ⟨sA, r, p, c, v, lo, C, dxA, fl⟩ := A
  obtain ⟨hk1, hk2⟩ := hk
  simp only at hk1 hk2
  subst hk1 hk2
  refine for_map os Df.d rfl (fun ys τ M1 => (∃ p v ss fr, MkS ⟨sA, r, p, c, v, lo, He.ga K "Maker", dxA, fl_Maker⟩ (mup M bg (.dK (begD (mkAll ys).2))) M1 ss fr (mkAll ys).1 []) ∧ ∃ v3 v5 v6, τ = [some (.lst (pgD pg)), some (.ref sA), some (.ref bg), v3, v4, v5, v6]) ⟨⟨p, v, [], 1, hm0⟩, none, none, none, rfl⟩ (fun _ _ _ _ => trivial) ?_ ?_
  · rintro ys o zs τ M1 Nx hxs ⟨⟨p, v, ss, fr, hm⟩, v3, v5, v6, rfl⟩ hN
    have hbgM : M1 bg = some (.dK (begD (mkAll ys).2)) := hm.cel.old bg _ mup_same
    have ho : o ∈ os := by rw [hxs]; simp
    have hdf := ok.df o (hmem o ho)
    have hle : (mkDef (mkAll ys).1 o).rows.length ≤ (mkAll os).1.rows.length := by
      have := (mkAll_ext (a := ys ++ [o]) (b := zs)).len
      rw [mkAll_one] at this
      rw [hxs, show ys ++ o :: zs = (ys ++ [o]) ++ zs by simp]
      exact this
    have hbl : (begD (mkAll ys).2).length ≤ 2000 := by
      have a1 := begD_len (bs := (mkAll ys).2)
      have a2 := congrArg List.length (mkAll_names (a := ys))
      have a3 := congrArg List.length hxs
      rw [List.length_map, List.length_map] at a2
      rw [List.length_append] at a3
      omega
    have hNx : ∀ M' p v, MkS ⟨sA, r, p, c, v, lo, He.ga K "Maker", dxA, fl_Maker⟩ (mup M bg (.dK (begD (mkAll (ys ++ [o])).2))) M' (slotsF o) ((slotsF o).length + 1) (mkDef (mkAll ys).1 o) [] → Nx [some (.lst (pgD pg)), some (.ref sA), some (.ref bg), some o.d, v4, v5, v6] M' := fun M' p v a => hN _ _ ⟨⟨p, v, _, _, by rw [mkAll_one] at a ⊢; exact a⟩, _, _, _, rfl⟩
    have hno : (begD (mkAll (ys ++ [o])).2) = putM (begD (mkAll ys).2) (.inr o.name) (natD (mkAll ys).1.rows.length) := by rw [mkAll_one]; exact begD_one
    rw [hno] at hNx
    have hmb := hm.base (o' := .dK (putM (begD (mkAll ys).2) (.inr o.name) (natD (mkAll ys).1.rows.length)))
    have hmr : M1 r = _ := hm.r_
    have hoD : bIx o.d (.int 0) M1 = fun Q => Q (.str o.name) M1 := by unfold Df.d; funext Q; walk_at "vc"
    walk_at "vc"
    rw [show M1 sA = _ from mk_s ⟨rfl, rfl⟩ hm]
    walk_at "vc"
    rw [lenOf_of hmr]
    walk_at "vc"
    rw [hoD]
    walk_at "vc"
    rw [hbgM]
    walk_at "vc"
    refine ⟨by omega, ?_⟩
    exact ⟨⟨sA, r, p, c, v, lo, He.ga K "Maker", dxA, fl_Maker⟩, _, ss, fr, _, o, ⟨rfl, rfl⟩, rfl, hmb, mkAll_ok, hdf.1, hdf.2, by omega, fun M' p v a => hNx M' p v a⟩
  · rintro τ M1 ⟨⟨p, v, ss, fr, hm⟩, v3, v5, v6, rfl⟩
    have hmc : M1 c = _ := hm.c_
    have hbgM : M1 bg = some (.dK (begD (mkAll os).2)) := hm.cel.old bg _ mup_same
    have hok := mkAll_ok (a := os)
    walk_at "vc"
    rw [show M1 sA = _ from mk_s ⟨rfl, rfl⟩ hm]
    walk_at "vc"
    rw [lstOf_of hmc]
    walk_at "vc"
    refine for_map (mkAll os).1.calls calD rfl (fun ys τ M2 => M2 = mup M1 r (.lst ((ys.foldl (fun rows c => leadAt rows c.1 (beginOf (mkAll os).2 c.2)) (mkAll os).1.rows).map Rw.d)) ∧ ∃ v5 v6, τ = [some (.lst (pgD pg)), some (.ref sA), some (.ref bg), v3, v4, v5, v6]) ⟨(mup_idem hm.r_).symm, v5, v6, rfl⟩ ?_ ?_ ?_
    · rintro ys τ M2 ⟨rfl, v5, v6, rfl⟩
      exact lstOf_of (hm.rows (rs := _)).c_
    · rintro ys cl zs τ M2 Nx hxs ⟨rfl, v5, v6, rfl⟩ hN
      have hcl : cl ∈ (mkAll os).1.calls := by rw [hxs]; simp
      have h2 := hm.rows (rs := ys.foldl (fun rows c => leadAt rows c.1 (beginOf (mkAll os).2 c.2)) (mkAll os).1.rows)
      have hled : ledAt (ys.foldl (fun rows c => leadAt rows c.1 (beginOf (mkAll os).2 c.2)) (mkAll os).1.rows) cl.1 := by
        have h0 := hok.csd cl hcl
        clear hxs hN h2
        generalize (mkAll os).1.rows = rows at h0 ⊢
        induction ys generalizing rows with
        | nil => exact h0
        | cons y t ih => exact ih _ (ledAt_lead h0)
      have hbg2 : (mup M1 r (.lst ((ys.foldl (fun rows c => leadAt rows c.1 (beginOf (mkAll os).2 c.2)) (mkAll os).1.rows).map Rw.d))) bg = some (.dK (begD (mkAll os).2)) := h2.cel.old bg _ mup_same
      have hval := begD_val (bs := (mkAll os).2) (f := cl.2) (by rw [mkAll_names]; exact ofnd cl hcl)
      unfold calD
      walk_at "vc"
      rw [show (mup M1 r _) sA = _ from mk_s ⟨rfl, rfl⟩ h2]
      walk_at "vc"
      rw [hbg2]
      walk_at "vc"
      rw [hval]
      walk_at "vc"
      refine ⟨⟨sA, r, p, c, v, lo, He.ga K "Maker", dxA, fl_Maker⟩, _, ss, fr, _, [], cl.1, _, ⟨rfl, rfl⟩, rfl, h2, hled, ?_⟩
      rw [mup_mup]
      exact hN _ _ ⟨by rw [List.foldl_append]; rfl, _, _, rfl⟩
    · rintro τ M2 ⟨rfl, v5, v6, rfl⟩
      have h2 := hm.rows (rs := (mkAll os).1.calls.foldl (fun rows c => leadAt rows c.1 (beginOf (mkAll os).2 c.2)) (mkAll os).1.rows)
      walk_at "vc"
      rw [show (mup M1 r _) sA = _ from mk_s ⟨rfl, rfl⟩ h2]
      walk_at "vc"
      refine ⟨_, M, ReR.trans (ReR.freeze h2.r_) (ReR.drop fun a u e => ?_), h⟩
      have hne : a ≠ bg := by rintro rfl; rw [h0] at e; cases e
      have e1 : (mup M bg (.dK (begD (mkAll os).2))) a = some u := by rw [mup_ne hne]; exact e
      have hnr : a ≠ r := by
        rintro rfl
        have := h2.cel.new (a, .lst (((mkAll os).1.calls.foldl (fun rows c => leadAt rows c.1 (beginOf (mkAll os).2 c.2)) (mkAll os).1.rows).map Rw.d)) (by unfold MkA.cells; simp)
        rw [e1] at this
        cases this
      unfold mdel
      rw [if_neg hnr]
      exact h2.cel.old a u e1
end
end K37
local macro_rules | `(tactic| walk_at "vc") => `(tactic| simp only [Tl.uDisp1, Tl.uIsB, Tl.uSortDI, Tl.op_lane, Tl.op_lanes, Tl.op_mine, Tl.op_num, Tl.op_name, Tl.op_box, Tl.cut_tail, Tl.val_name, Tl.val_row, Tl.val_def, Tl.val_back, Tl.ofS_inj, String.reduceEq, Tl.uDic, Tl.oDA_ki, Tl.oDA_ks, Tl.oDA_t, Tl.oPA_ki, Tl.oPA_ks, Tl.oPA_t, Tl.consK_s, Tl.kT_nil, Tl.kT_i, Tl.kT_s, Tl.uzDict, Tl.uIn, Tl.uRepS, Tl.uRep, Tl.uRepM, Tl.uCatT, Tl.uSlT, Tl.oLD_k, Tl.oLD_t, Tl.uLenD, Tl.z_tDnK, Tl.z_tDnT, Tl.z_tDg, Tl.z_tDi, Tl.z_tDg2, Tl.z_tRe, Tl.z_sRe, Tl.wip, Tl.uObj, Tl.oAt_i, Tl.cxK, Tl.cxKn, true_or, or_true, or_false, false_or, Nat.zero_le, Nat.le_refl, Tl.mup_same, Tl.mup_mup, Tl.uAlt, Tl.z_tFd, Tl.z_sFd, Tl.z_sFa, Tl.z_tMe, Tl.z_tMk, Tl.nthD, Tl.putD, Tl.uFo, Tl.uLcF, Tl.uLcV', Tl.uAsRef, Tl.z_sNx, Tl.z_sSq, Tl.z_sBk, Tl.z_sCt, Tl.z_sDr, Tl.z_sRt, Tl.z_sRtN, Tl.z_sIf, Tl.z_sAs, Tl.z_gN, Tl.z_gSb, Tl.z_tK, Tl.z_tO, Tl.z_tU, Tl.z_tCa, Tl.z_tN, Tl.z_tCs, Tl.z_tAn, Tl.tOr', Tl.z_tNo, Tl.z_tIfE, Tl.z_tCl, Tl.z_tTu, Tl.z_tLi, Tl.z_tLm, Tl.z_tSc, Tl.z_oNo, Tl.z_tMt, Tl.z_tMt0, Tl.z_tYe, Tl.z_tLt, Tl.kit_ii, Tl.kit_ib, Tl.kit_bi, Tl.kit_bb, Tl.kit_si, Tl.kit_ss, Tl.kit_is, Tl.kit_tt, Tl.kit_ll, Tl.kit_lt, Tl.kit_tl, Tl.kit_ts, Tl.kit_ls, Tl.kit_sl, Tl.kit_st, Tl.kit_it, Tl.kit_il, Tl.kit_dd, Tl.kit_ni, Tl.kit_nb, Tl.begin_, Tl.nth, List.map, List.length, List.replicate, List.append, List.set, List.nil_append, List.cons_append, List.append_nil, Nat.reduceAdd, Nat.reduceSub, Nat.zero_add, reduceIte, Bool.false_eq_true, Bool.true_eq_false, Bool.not_eq_true', Bool.not_eq_false', Bool.not_true, Bool.not_false, not_true_eq_false, not_false_eq_true, decide_eq_true_eq, decide_eq_false_iff_not, decide_not, Option.isSome_some, true_and, and_true, Int.reduceLT, Int.reduceLE, Int.reduceNeg, List.cons.injEq, Option.some.injEq, PySem.sizeLine_eq, Nat.reduceLeDiff, List.length_map, List.length_append, List.length_cons, List.length_nil, Tl.oBl_i, Tl.oInt_i, Tl.oStr_i, Tl.oTup_i, Tl.oSome_i, Tl.oBl_if, Tl.uV, Tl.uBo, Tl.uAnV, Tl.uOrV, Tl.uNoV, Tl.uCh, Tl.uNl0, Tl.uCs1, Tl.uTp, Tl.uAg, Tl.uInt, Tl.uInt0, Tl.uNegI, Tl.uEq, Tl.uNe, Tl.dScal_ii, Tl.dScal_ss, Tl.dScal_bb, Tl.dScal_nn, Tl.dScal_ni, Tl.dScal_in, Tl.dScal_is, Tl.dScal_si, Tl.uIsN, Tl.uNotN, Tl.nonD_n, Tl.nonD_i, Tl.nonD_s, Tl.nonD_t, Tl.nonD_l, Tl.nonD_b, Tl.nonD_r, Tl.uCatS, Tl.uCatL, Tl.uCatM, Tl.lstOf_l, Tl.lstOf_c, Tl.lstOf_m, Tl.trkOf_l, Tl.trkOf_m, Tl.tupOf_t, Tl.tupOf_b, Tl.seqOf_t, Tl.seqOf_b, Tl.seqOf_l, Tl.seqOf_c, Tl.seqOf_r, Tl.uIx_t, Tl.uIx_b, Tl.uIx_l, Tl.uIx_c, Tl.uIx_s, Tl.uIx_r, Tl.uYes, Tl.uSlL, Tl.uSlM, Tl.uSlS, Tl.uIsi, Tl.dTy_n, Tl.dTy_b, Tl.dTy_i, Tl.dTy_s, Tl.dTy_t, Tl.dTy_l, Tl.uLen, Tl.lenOf_t, Tl.lenOf_b, Tl.lenOf_l, Tl.lenOf_c, Tl.lenOf_m, Tl.uIntI, Tl.uIntB, Tl.uLs, Tl.uTu, Tl.oL1_i, Tl.oL2_i, Tl.oL3_i, Tl.uR1, Tl.uR2, Tl.uR3, Tl.uEn, Tl.uZi, Tl.uSt, Tl.uRv, Tl.uDivmod, Tl.uList, Tl.uListM, Tl.uSum, Tl.uMax, Tl.uMin, Tl.intLst_l, Tl.intLst_c, Tl.blLst_l, Tl.uMax2, Tl.uMin2, Tl.uAbs, Tl.uAny, Tl.uAll, Tl.mLst_m, Tl.uAppend, Tl.uExtend, Tl.uPop, Tl.uSet, Tl.lMt_l, Tl.isS_m, Tl.atI_0, Tl.atI_1, Tl.atI_2, Tl.atI_3, Tl.atI_4, Tl.atI_5])
local macro_rules | `(tactic| walk_at "vh") => `(tactic| simp only [Tl.uDisp1, Tl.uIsB, Tl.uSortDI, Tl.op_lane, Tl.op_lanes, Tl.op_mine, Tl.op_num, Tl.op_name, Tl.op_box, Tl.cut_tail, Tl.val_name, Tl.val_row, Tl.val_def, Tl.val_back, Tl.ofS_inj, String.reduceEq, Tl.uDic, Tl.oDA_ki, Tl.oDA_ks, Tl.oDA_t, Tl.oPA_ki, Tl.oPA_ks, Tl.oPA_t, Tl.consK_s, Tl.kT_nil, Tl.kT_i, Tl.kT_s, Tl.uzDict, Tl.uIn, Tl.uRepS, Tl.uRep, Tl.uRepM, Tl.uCatT, Tl.uSlT, Tl.oLD_k, Tl.oLD_t, Tl.uLenD, Tl.z_tDnK, Tl.z_tDnT, Tl.z_tDg, Tl.z_tDi, Tl.z_tDg2, Tl.z_tRe, Tl.z_sRe, Tl.wip, Tl.uObj, Tl.oAt_i, Tl.cxK, Tl.cxKn, true_or, or_true, or_false, false_or, Nat.zero_le, Nat.le_refl, Tl.mup_same, Tl.mup_mup, Tl.uAlt, Tl.z_tFd, Tl.z_sFd, Tl.z_sFa, Tl.z_tMe, Tl.z_tMk, Tl.nthD, Tl.putD, Tl.uFo, Tl.uLcF, Tl.uLcV', Tl.uAsRef, Tl.z_sNx, Tl.z_sSq, Tl.z_sBk, Tl.z_sCt, Tl.z_sDr, Tl.z_sRt, Tl.z_sRtN, Tl.z_sIf, Tl.z_sAs, Tl.z_gN, Tl.z_gSb, Tl.z_tK, Tl.z_tO, Tl.z_tU, Tl.z_tCa, Tl.z_tN, Tl.z_tCs, Tl.z_tAn, Tl.tOr', Tl.z_tNo, Tl.z_tIfE, Tl.z_tCl, Tl.z_tTu, Tl.z_tLi, Tl.z_tLm, Tl.z_tSc, Tl.z_oNo, Tl.z_tMt, Tl.z_tMt0, Tl.z_tYe, Tl.z_tLt, Tl.kit_ii, Tl.kit_ib, Tl.kit_bi, Tl.kit_bb, Tl.kit_si, Tl.kit_ss, Tl.kit_is, Tl.kit_tt, Tl.kit_ll, Tl.kit_lt, Tl.kit_tl, Tl.kit_ts, Tl.kit_ls, Tl.kit_sl, Tl.kit_st, Tl.kit_it, Tl.kit_il, Tl.kit_dd, Tl.kit_ni, Tl.kit_nb, Tl.begin_, Tl.nth, List.map, List.length, List.replicate, List.append, List.set, List.nil_append, List.cons_append, List.append_nil, Nat.reduceAdd, Nat.reduceSub, Nat.zero_add, reduceIte, Bool.false_eq_true, Bool.true_eq_false, Bool.not_eq_true', Bool.not_eq_false', Bool.not_true, Bool.not_false, not_true_eq_false, not_false_eq_true, decide_eq_true_eq, decide_eq_false_iff_not, decide_not, Option.isSome_some, true_and, and_true, Int.reduceLT, Int.reduceLE, Int.reduceNeg, List.cons.injEq, Option.some.injEq, PySem.sizeLine_eq, Nat.reduceLeDiff, List.length_map, List.length_append, List.length_cons, List.length_nil, Tl.oBl_i, Tl.oInt_i, Tl.oStr_i, Tl.oTup_i, Tl.oSome_i, Tl.oBl_if, Tl.uV, Tl.uBo, Tl.uAnV, Tl.uOrV, Tl.uNoV, Tl.uCh, Tl.uNl0, Tl.uCs1, Tl.uTp, Tl.uAg, Tl.uInt, Tl.uInt0, Tl.uNegI, Tl.uEq, Tl.uNe, Tl.dScal_ii, Tl.dScal_ss, Tl.dScal_bb, Tl.dScal_nn, Tl.dScal_ni, Tl.dScal_in, Tl.dScal_is, Tl.dScal_si, Tl.uIsN, Tl.uNotN, Tl.nonD_n, Tl.nonD_i, Tl.nonD_s, Tl.nonD_t, Tl.nonD_l, Tl.nonD_b, Tl.nonD_r, Tl.uCatS, Tl.uCatL, Tl.uCatM, Tl.lstOf_l, Tl.lstOf_c, Tl.lstOf_m, Tl.trkOf_l, Tl.trkOf_m, Tl.tupOf_t, Tl.tupOf_b, Tl.seqOf_t, Tl.seqOf_b, Tl.seqOf_l, Tl.seqOf_c, Tl.seqOf_r, Tl.uIx_t, Tl.uIx_b, Tl.uIx_l, Tl.uIx_c, Tl.uIx_s, Tl.uIx_r, Tl.uYes, Tl.uSlL, Tl.uSlM, Tl.uSlS, Tl.uIsi, Tl.dTy_n, Tl.dTy_b, Tl.dTy_i, Tl.dTy_s, Tl.dTy_t, Tl.dTy_l, Tl.uLen, Tl.lenOf_t, Tl.lenOf_b, Tl.lenOf_l, Tl.lenOf_c, Tl.lenOf_m, Tl.uIntI, Tl.uIntB, Tl.uLs, Tl.uTu, Tl.oL1_i, Tl.oL2_i, Tl.oL3_i, Tl.uR1, Tl.uR2, Tl.uR3, Tl.uEn, Tl.uZi, Tl.uSt, Tl.uRv, Tl.uDivmod, Tl.uList, Tl.uListM, Tl.uSum, Tl.uMax, Tl.uMin, Tl.intLst_l, Tl.intLst_c, Tl.blLst_l, Tl.uMax2, Tl.uMin2, Tl.uAbs, Tl.uAny, Tl.uAll, Tl.mLst_m, Tl.uAppend, Tl.uExtend, Tl.uPop, Tl.uSet, Tl.lMt_l, Tl.isS_m, Tl.atI_0, Tl.atI_1, Tl.atI_2, Tl.atI_3, Tl.atI_4, Tl.atI_5, *])
namespace K37
open PySem PySem.Spec PyProof.Rows L2 Tl
section
variable {P : Program} {w : World} {K : PySem.W.Frag} {mg : Str → Option Value} {base : Heap}
def spNext : SpT := fun ds M Q _ => ∃ (rows : List Rw) (k : Nat) (r : Rw), ds = [.lst (rows.map Rw.d), .int k] ∧ rows[k]? = some r ∧ Q (.lst ((nextF r k).map .int)) M
theorem ok_next_rows (T : Tp K mg) : Fn P w K mg base CX0 1 "next_rows" spNext := by
  refine fn_top T 21 e_next_rows (m_next_rows T) sc_next_rows (by rintro _ M Q Et ⟨_, _, _, rfl, _⟩; rfl) (fun cdv A outer s H E hr => ⟨_, (qss_cons (qs_set (i := 2) sc_next_rows.nd (q_ix (qv 0) (qv 1)))
 (qss_cons (qs_if (qt_cmp oq_eq (q_ix (qv 2) q_int) q_str)
  (qss_one (qs_ret (q_lst qa_nil)))
  qss_nil)
 (qss_cons (qs_if (qt_cmp oq_eq (q_ix (qv 2) q_int) q_str)
  (qss_one (qs_ret (q_lst (qa_cons (q_ix (qv 2) q_int) qa_nil))))
  qss_nil)
 (qss_cons (qs_if (qt_w (qw_and (qt_cmp oq_eq (q_ix (qv 2) q_int) q_str) (qw_and1 (qt_cmp oq_ne (q_ix (qv 2) q_int) (q_op oq_addI (qv 1) q_int)))))
  (qss_one (qs_ret (q_callB cq_sorted (m_sorted T) (by decide +kernel) (qa_cons (q_lst (qa_cons (q_op oq_addI (qv 1) q_int) (qa_cons (q_ix (qv 2) q_int) qa_nil))) qa_nil))))
  qss_nil)
 (qss_one (qs_ret (q_lst (qa_cons (q_op oq_addI (qv 1) q_int) qa_nil)))))))), ?_⟩) (fun _ _ _ _ _ _ us hl => match us, hl with | [_, _], _ => rfl)
  rintro _ M Q Et ⟨rows, k, r, rfl, hr, h⟩
  have hk : atI (rows.map Rw.d) (k : Int) = some r.d := atI_nat (by rw [List.getElem?_map, hr]; rfl)
  walk_at "vc"
  simp only [hk, oSome_i]
  cases r <;> unfold Rw.d
  all_goals walk_at "vc"
  all_goals first | exact h | skip
  rename_i l f t
  rw [next_split] at h
  split
  · rename_i e
    rw [if_neg e] at h
    rw [uSortI, show D.lst [D.int ((k : Int) + 1), D.int t] = .lst ([(k : Int) + 1, t].map D.int) from rfl, intLst_l]
    intro ys hp ho
    split at h
    · rename_i e2
      rw [sorted_eq (hp.trans (List.Perm.swap _ _ _)) ho (by simp; omega)]
      exact h
    · rename_i e2
      rw [sorted_eq hp ho (by simp; omega)]
      exact h
  · rename_i e
    rw [if_pos (by omega)] at h
    exact h
def spForm : SpT := fun ds M Q _ => ∃ e : Ex, ds = [e.d] ∧ Q (formF e).d M
theorem ok_form_of (T : Tp K mg) : Fn P w K mg base CX0 1 "form_of" spForm := by
  refine fn_top T 22 e_form_of (m_form_of T) sc_form_of (by rintro _ M Q Et ⟨n, rfl, _⟩; rfl) (fun cdv A outer s H E hr => ⟨_, (qss_cons (qs_if (qt_cmp oq_eq (q_ix (qv 0) q_int) q_str)
  (qss_one (qs_ret (q_tup (qa_cons q_str (qa_cons (q_ix (qv 0) q_int) qa_nil)))))
  qss_nil)
 (qss_cons (qs_if (qt_cmp oq_eq (q_ix (qv 0) q_int) q_str)
  (qss_one (qs_ret (q_tup (qa_cons q_str (qa_cons q_int qa_nil)))))
  qss_nil)
 (qss_cons (qs_if (qt_cmp oq_eq (q_ix (qv 0) q_int) q_str)
  (qss_one (qs_for PassesOwn.never rfl (qi_tup (q_tup (qa_cons (q_tup (qa_cons (q_ix (qv 0) q_int) (qa_cons (q_ix (qv 0) q_int) qa_nil))) (qa_cons (q_tup (qa_cons (q_ix (qv 0) q_int) (qa_cons (q_ix (qv 0) q_int) qa_nil))) qa_nil)))) (qg_tup (n := 2) rfl (qgs_cons (qg_name (i := 1) sc_form_of.nd) (qgs_cons (qg_name (i := 2) sc_form_of.nd) qgs_nil)))
  (qss_one (qs_if (qt_w (qw_and (qt_cmp oq_eq (q_ix (qv 1) q_int) q_str) (qw_and1 (qt_cmp oq_eq (q_ix (qv 2) q_int) q_str))))
  (qss_one (qs_ret (q_tup (qa_cons q_str (qa_cons (q_ix (qv 2) q_int) qa_nil)))))
  qss_nil))))
  qss_nil)
 (qss_one (qs_ret (q_tup (qa_cons q_str (qa_cons q_int qa_nil)))))))), ?_⟩) (fun _ _ _ _ _ _ us hl => match us, hl with | [_], _ => rfl)
  rintro _ M Q Et ⟨e, rfl, h⟩
  cases e with
  | op o a b =>
    simp only [Ex.d]
    walk_at "vc"
    have any : o ≠ .add → formF (.op o a b) = .any := fun ho => by
      cases o <;> first | exact absurd rfl ho | (cases a <;> rfl)
    have hs : (o.s = Str.ofString "+") ↔ o = .add := by cases o <;> simp [Op7.s, ofS_inj]
    split
    · rename_i hp
      have hp := hs.mp hp
      subst hp
      refine for_any (fun i τ M1 => M1 = M ∧ (∃ v1 v2, τ = [some (.tup [.str Op7.add.s, a.d, b.d]), v1, v2]) ∧ (1 ≤ i → notLN a b) ∧ (2 ≤ i → notLN b a)) ⟨rfl, ⟨none, none, rfl⟩, by omega, by omega⟩ (fun _ _ _ _ => trivial) ?_ ?_
      · rintro i x τ M1 hx ⟨rfl, ⟨v1, v2, rfl⟩, k1, k2⟩
        have hi : i < 2 := (List.getElem?_eq_some_iff.mp hx).1
        rcases (show i = 0 ∨ i = 1 by omega) with rfl | rfl
        · have hx : some (D.tup [a.d, b.d]) = some x := hx
          cases hx
          cases a with
          | lane =>
            cases b with
            | num n => simp only [Ex.d]; walk_at "vc"; exact h
            | _ => simp only [Ex.d]; walk_at "vc"; exact ⟨⟨_, _, rfl, rfl⟩, fun _ n q1 q2 => (by cases q2), fun z => z.elim⟩
          | _ => simp only [Ex.d]; walk_at "vc"; exact ⟨⟨_, _, rfl, rfl⟩, fun _ n q1 q2 => (by cases q1), fun z => z.elim⟩
        · have hx : some (D.tup [b.d, a.d]) = some x := hx
          cases hx
          have k1 := k1 (Nat.le_refl _)
          cases b with
          | lane =>
            cases a with
            | num n => simp only [Ex.d]; walk_at "vc"; exact h
            | _ => simp only [Ex.d]; walk_at "vc"; exact ⟨⟨_, _, rfl, rfl⟩, fun _ => k1, fun _ n q1 q2 => (by cases q2)⟩
          | _ => simp only [Ex.d]; walk_at "vc"; exact ⟨⟨_, _, rfl, rfl⟩, fun _ => k1, fun _ n q1 q2 => (by cases q1)⟩
      · rintro τ M1 ⟨rfl, ⟨v1, v2, rfl⟩, k1, k2⟩
        walk_at "vc"
        have k1 := k1 (show 1 ≤ 2 by decide)
        have k2 := k2 (show 2 ≤ 2 by decide)
        have e : formF (.op .add a b) = .any := by
          cases a with
          | lane => cases b with
            | num n => exact (k1 n rfl rfl).elim
            | _ => rfl
          | num n => cases b with
            | lane => exact (k2 n rfl rfl).elim
            | _ => rfl
          | _ => rfl
        rw [e] at h
        exact h
    · rename_i hp
      rw [any (fun z => hp (hs.mpr z))] at h
      exact h
  | _ => simp only [Ex.d]; walk_at "vc"; exact h
def spMay : SpT := fun ds M Q _ => ∃ f g : Fo, ds = [f.d, g.d] ∧ Q (.bl (mayF f g)) M
theorem ok_may_meet (T : Tp K mg) : Fn P w K mg base CX0 1 "may_meet" spMay := by
  refine fn_top T 23 e_may_meet (m_may_meet T) sc_may_meet (by rintro _ M Q Et ⟨n, _, rfl, _⟩; rfl) (fun cdv A outer s H E hr => ⟨_, (qss_cons (qs_if (qt_w (qw_and (qt_cmp oq_eq (q_ix (qv 0) q_int) q_str) (qw_and1 (qt_cmp oq_eq (q_ix (qv 1) q_int) q_str))))
  (qss_one (qs_ret (q_cmp oq_eq (q_ix (qv 0) q_int) (q_ix (qv 1) q_int))))
  qss_nil)
 (qss_cons (qs_if (qt_w (qw_and (qt_cmp oq_eq (q_ix (qv 0) q_int) q_str) (qw_and1 (qt_cmp oq_eq (q_ix (qv 1) q_int) q_str))))
  (qss_one (qs_ret (q_cmp oq_ne (q_ix (qv 0) q_int) (q_ix (qv 1) q_int))))
  qss_nil)
 (qss_one (qs_ret q_bl)))), ?_⟩) (fun _ _ _ _ _ _ us hl => match us, hl with | [_, _], _ => rfl)
  rintro _ M Q Et ⟨f, g, rfl, h⟩
  cases f <;> cases g <;> (simp only [Fo.d]; walk_at "vc"; exact h)
def spFormsIn (n : Nat) : SpT := fun ds M Q _ => ∃ e : Ex, ds = [e.d] ∧ e.deep < n ∧ (formsIn e).length ≤ 10000 ∧ Q (.lst ((formsIn e).map Fo.d)) M
theorem ok_forms_in (T : Tp K mg) : ∀ n, Fn P w K mg base CX0 (n + 2) "forms_in" (spFormsIn n)
  | 0 => by
    refine fn_top T 24 e_forms_in (m_forms_in T) sc_forms_in (by rintro _ M Q Et ⟨n, rfl, _⟩; rfl) (fun cdv A outer s H E hr => ⟨_, qss_never, ?_⟩) (fun _ _ _ _ _ _ us hl => match us, hl with | [_], _ => rfl)
    rintro _ M Q Et ⟨e, rfl, hd, _⟩
    omega
  | n + 1 => by
    have ih := ok_forms_in T n
    refine fn_top T 24 e_forms_in (m_forms_in T) sc_forms_in (by rintro _ M Q Et ⟨n, rfl, _⟩; rfl) (fun cdv A outer s H E hr => ⟨_, (qss_cons (qs_set (i := 1) sc_forms_in.nd (q_lstM qa_nil))
 (qss_cons (qs_if (qt_w (qw_and (qt_cmp oq_ne (q_ix (qv 0) q_int) q_str) (qw_and1 (qt_cmp oq_ne (q_ix (qv 0) q_int) q_str))))
  (qss_one (qs_for PassesOwn.never rfl (qi_tup (q_sliceT (qv 0) (qo_some q_int) qo_none)) (qg_name (i := 2) sc_forms_in.nd)
  (qss_one (qs_expr (q_extend (qv 1) (qa_cons (q_call ih (hr.mono (by omega)) (qa_cons (qv 2) qa_nil)) qa_nil))))))
  qss_nil)
 (qss_cons (qs_if (qt_cmp oq_eq (q_ix (qv 0) q_int) q_str)
  (qss_one (qs_expr (q_append (qv 1) (qa_cons (q_call (ok_form_of T) (hr.mono (by omega)) (qa_cons (q_ix (qv 0) q_int) qa_nil)) qa_nil))))
  qss_nil)
 (qss_one (qs_ret (q_re (qv 1))))))), ?_⟩) (fun _ _ _ _ _ _ us hl => match us, hl with | [_], _ => rfl)
    rintro _ M Q Et ⟨e, rfl, hd, hl, h⟩
    cases e with
    | box e =>
      unfold Ex.deep at hd
      unfold formsIn at h hl
      rw [List.length_append, List.length_singleton] at hl
      simp only [Ex.d]
      walk_at "vc"
      intro p hp
      refine for_map [e] Ex.d rfl (fun ys τ M1 => M1 = mup M p (.lst ((ys.flatMap formsIn).map Fo.d)) ∧ ∃ v2, τ = [some (.tup [.str "box", e.d]), some (.ref p), v2]) ⟨rfl, none, rfl⟩ (fun _ _ _ _ => trivial) ?_ ?_
      · rintro ys x zs τ M1 Nx hx ⟨rfl, v2, rfl⟩ hN
        cases ys with
        | cons y t => simp at hx
        | nil =>
          obtain ⟨rfl, rfl⟩ := List.cons.inj hx
          walk_at "vc"
          refine ⟨e, rfl, by omega, by omega, ?_⟩
          walk_at "vc"
          refine ⟨by simp; omega, hN _ _ ⟨by simp, _, rfl⟩⟩
      · rintro τ M1 ⟨rfl, v2, rfl⟩
        rw [show [e].flatMap formsIn = formsIn e from by simp]
        walk_at "vc"
        refine ⟨e, rfl, ?_⟩
        walk_at "vc"
        refine ⟨by omega, _, _, ReR.made hp, ?_⟩
        rw [List.map_append] at h
        exact h
    | op o a b =>
      unfold Ex.deep at hd
      unfold formsIn at h hl
      rw [List.length_append] at hl
      have hob : o.s ≠ Str.ofString "box" ∧ o.s ≠ Str.ofString "num" ∧ o.s ≠ Str.ofString "name" := by cases o <;> simp [Op7.s, ofS_inj]
      simp only [Ex.d]
      walk_at "vc"
      intro p hp
      refine for_map [a, b] Ex.d rfl (fun ys τ M1 => M1 = mup M p (.lst ((ys.flatMap formsIn).map Fo.d)) ∧ ∃ v2, τ = [some (.tup [.str o.s, a.d, b.d]), some (.ref p), v2]) ⟨rfl, none, rfl⟩ (fun _ _ _ _ => trivial) ?_ ?_
      · rintro ys x zs τ M1 Nx hx ⟨rfl, v2, rfl⟩ hN
        have hxs : x = a ∨ x = b := by
          have : x ∈ [a, b] := by rw [hx]; simp
          simpa using this
        have hlx : (formsIn x).length + (ys.flatMap formsIn).length ≤ 10000 := by
          have : ([a, b].flatMap formsIn).length = (formsIn a).length + (formsIn b).length := by simp
          rw [hx, List.flatMap_append, List.flatMap_cons, List.length_append, List.length_append] at this
          omega
        walk_at "vc"
        refine ⟨x, rfl, by rcases hxs with rfl | rfl <;> omega, by omega, ?_⟩
        walk_at "vc"
        refine ⟨by omega, hN _ _ ⟨by rw [List.flatMap_append, List.map_append]; simp, _, rfl⟩⟩
      · rintro τ M1 ⟨rfl, v2, rfl⟩
        walk_at "vc"
        refine ⟨_, _, ReR.made hp, ?_⟩
        rw [show [a, b].flatMap formsIn = formsIn a ++ formsIn b from by simp]
        exact h
    | num n => simp only [Ex.d]; walk_at "vc"; exact fun p hp => ⟨_, _, ReR.made hp, h⟩
    | nam n => simp only [Ex.d]; walk_at "vc"; exact fun p hp => ⟨_, _, ReR.made hp, h⟩
    | _ =>
      simp only [Ex.d]
      walk_at "vc"
      intro p hp
      refine for_any (fun i τ M1 => M1 = mup M p (.lst []) ∧ ∃ d, τ = [d, some (.ref p), none] ∧ ∃ s, d = some (.tup [.str s]) ∧ s ≠ "box") ⟨rfl, _, rfl, _, rfl, by simp [ofS_inj]⟩ (fun _ _ _ _ => trivial) ?_ ?_
      · rintro i x τ M1 hx
        simp at hx
      · rintro τ M1 ⟨rfl, d, rfl, s, rfl, hs⟩
        walk_at "vc"
        rw [if_neg hs]
        exact ⟨_, _, ReR.made hp, h⟩
def spFormsOf : SpT := fun ds M Q _ => ∃ pg : Pg, ds = [.lst (pgD pg)] ∧ okRows pg ∧ (formsP pg).length ≤ 10000 ∧ Q (.lst ((formsP pg).map Fo.d)) M
theorem ok_forms_of (T : Tp K mg) : Fn P w K mg base CX0 15 "forms_of" spFormsOf := by
  refine fn_top T 25 e_forms_of (m_forms_of T) sc_forms_of (by rintro _ M Q Et ⟨n, rfl, _⟩; rfl) (fun cdv A outer s H E hr => ⟨_, (qss_cons (qs_set (i := 1) sc_forms_of.nd (q_lstM qa_nil))
 (qss_cons (qs_setLc (i := 3) (own := [(("one" : Str), 2)]) (lv_lcF go_name) rfl sc_forms_of.nd (qi_list (qv 0)) (blkOk_by (N := nm_forms_of) (sc := defScope s_forms_of) (own := [(("one" : Str), 2)]) (by decide +kernel)) (fun _ _ _ _ _ => (pg_name (i := 2) sc_forms_of.nd rfl (Or.inl rfl))) (fun _ _ _ _ _ => (qts_one (qt_cmp oq_ne (q_ix (qv 2) q_int) q_str))) (fun _ _ _ _ _ => (qv 2)) (sw_true rfl rfl rfl (by decide +kernel)))
 (qss_cons (qs_for PassesOwn.never rfl (qi_list (q_op oq_catL (q_lc rfl sc_forms_of.nd (qi_list (qv 0)) (blkOk_by (N := nm_forms_of) (sc := defScope s_forms_of) (own := [(("one" : Str), 2)]) (by decide +kernel)) go_name (fun _ _ _ _ _ => (pg_name (i := 2) sc_forms_of.nd rfl (Or.inl rfl))) (fun _ _ _ _ _ => (qts_one (qt_cmp oq_eq (q_ix (qv 2) q_int) q_str))) (fun _ _ _ _ _ => (qv 2))) (qv 3))) (qg_name (i := 2) sc_forms_of.nd)
  (qss_one (qs_for PassesOwn.never rfl (qi_list (q_call (ok_all_of T 10) (hr.mono (by decide)) (qa_cons (q_ix (qv 2) q_int) qa_nil))) (qg_name (i := 4) sc_forms_of.nd)
  (qss_cons (qs_for PassesOwn.never rfl (qi_list (q_call (ok_expressions_of T) (hr.mono (by decide)) (qa_cons (qv 4) qa_nil))) (qg_name (i := 5) sc_forms_of.nd)
  (qss_one (qs_expr (q_extend (qv 1) (qa_cons (q_call (ok_forms_in T 12) (hr.mono (by decide)) (qa_cons (qv 5) qa_nil)) qa_nil)))))
 (qss_one (qs_if (qt_cmp oq_eq (q_ix (qv 4) q_int) q_str)
  (qss_one (qs_expr (q_append (qv 1) (qa_cons (q_call (ok_form_of T) (hr.mono (by decide)) (qa_cons (q_ix (qv 4) q_int) qa_nil)) qa_nil))))
  qss_nil))))))
 (qss_one (qs_ret (q_re (qv 1))))))), ?_⟩) (fun _ _ _ _ _ _ us hl => match us, hl with | [_], _ => rfl)
  rintro _ M Q Et ⟨pg, rfl, ok, hl, h⟩
  walk_at "vc"
  intro p hp
  have few := ok.few
  refine lc_filter pg Df.d (fun o => !isMain o.name) Df.d rfl (by rw [sizeLine_eq]; omega) trivial (fun o R1 R0 ho h1 h2 => ?_) ?_
  · unfold Df.d at h1 ⊢
    walk_at "vc"
    unfold isMain at h1 h2
    by_cases e : o.name = Str.ofString "main"
    · rw [if_neg (by simpa using e)]
      exact h2 (by rw [e]; simp)
    · rw [if_pos (by simpa using e)]
      exact h1 (by simpa using e)
  refine lc_filter pg Df.d (fun o => isMain o.name) Df.d rfl (by rw [sizeLine_eq]; omega) trivial (fun o R1 R0 ho h1 h2 => ?_) ?_
  · unfold Df.d at h1 ⊢
    walk_at "vc"
    unfold isMain at h1 h2
    by_cases e : o.name = Str.ofString "main"
    · rw [if_pos (by simpa using e)]
      exact h1 (by rw [e]; simp)
    · rw [if_neg (by simpa using e)]
      exact h2 (by simpa using e)
  walk_at "vc"
  rw [← List.map_append]
  refine ⟨?_, ?_⟩
  · have a1 := List.length_filter_le (fun o : Df => isMain o.name) pg
    have a2 := List.length_filter_le (fun o : Df => !isMain o.name) pg
    omega
  rw [show List.filter (fun o => isMain o.name) pg ++ List.filter (fun o => !isMain o.name) pg = mainFirst pg from rfl]
  have hmem : ∀ o ∈ mainFirst pg, okRow o := fun o ho => (ok.df o (first_mem.mp ho)).1
  unfold formsP at h hl
  generalize mainFirst pg = os at *
  generalize some (D.lst (List.map Df.d (List.filter (fun o => !isMain o.name) pg))) = v4
  generalize hFD : (fun o : Df => (allBd o.body).flatMap formsS) = FD at h hl
  refine for_map os Df.d rfl (fun ys τ M1 => M1 = mup M p (.lst ((ys.flatMap FD).map Fo.d)) ∧ ∃ v2 v5 v6, τ = [some (.lst (pgD pg)), some (.ref p), v2, v4, v5, v6]) ⟨rfl, none, none, none, rfl⟩ (fun _ _ _ _ => trivial) ?_ ?_
  · rintro ys o zs τ M1 Nx hx ⟨rfl, v2, v5, v6, rfl⟩ hN
    have hro := hmem o (by rw [hx]; simp)
    have hlo : (ys.flatMap FD).length + (FD o).length ≤ 10000 := by
      rw [hx, List.flatMap_append, List.flatMap_cons, List.length_append, List.length_append] at hl
      omega
    have hfd : FD o = (allBd o.body).flatMap formsS := by rw [← hFD]
    rw [hfd] at hlo
    generalize hdo : o.d = od
    unfold Df.d at hdo
    subst hdo
    walk_at "vc"
    refine ⟨o.body, rfl, hro.deep, hro.many, ?_⟩
    walk_at "vc"
    refine for_map (allBd o.body) Sm.d rfl (fun us τ M1 => M1 = mup M p (.lst ((ys.flatMap FD ++ us.flatMap formsS).map Fo.d)) ∧ ∃ v5 v6, τ = [some (.lst (pgD pg)), some (.ref p), some (.tup [.str o.name, .lst (o.ps.map .str), .lst (stD o.body), .int o.first, .int o.last]), v4, v5, v6]) ⟨by simp, _, _, rfl⟩ (fun _ _ _ _ => trivial) ?_ ?_
    · rintro us s vs τ M1 Nx2 hs ⟨rfl, v5, v6, rfl⟩ hN2
      obtain ⟨he1, he2⟩ := hro.exs s (by rw [hs]; simp)
      have hls : (ys.flatMap FD).length + ((us.flatMap formsS).length + ((s.exprs.flatMap formsIn).length + (putForm s).length)) ≤ 10000 := by
        have : ((allBd o.body).flatMap formsS).length = (us.flatMap formsS).length + ((formsS s).length + (vs.flatMap formsS).length) := by rw [hs, List.flatMap_append, List.flatMap_cons, List.length_append, List.length_append]
        unfold formsS at this
        rw [List.length_append (as := s.exprs.flatMap formsIn)] at this
        unfold formsS at hlo ⊢
        omega
      walk_at "vc"
      refine ⟨s, rfl, he1, ?_⟩
      walk_at "vc"
      refine for_map s.exprs Ex.d rfl (fun ws τ M1 => M1 = mup M p (.lst ((ys.flatMap FD ++ us.flatMap formsS ++ ws.flatMap formsIn).map Fo.d)) ∧ ∃ v6, τ = [some (.lst (pgD pg)), some (.ref p), some (.tup [.str o.name, .lst (o.ps.map .str), .lst (stD o.body), .int o.first, .int o.last]), v4, some s.d, v6]) ⟨by simp, _, rfl⟩ (fun _ _ _ _ => trivial) ?_ ?_
      · rintro ws e xs τ M1 Nx3 he ⟨rfl, v6, rfl⟩ hN3
        have hle : (s.exprs.flatMap formsIn).length = (ws.flatMap formsIn).length + ((formsIn e).length + (xs.flatMap formsIn).length) := by rw [he, List.flatMap_append, List.flatMap_cons, List.length_append, List.length_append]
        walk_at "vc"
        refine ⟨e, rfl, he2 e (by rw [he]; simp), by omega, ?_⟩
        walk_at "vc"
        refine ⟨by omega, hN3 _ _ ⟨by rw [List.flatMap_append, ← List.append_assoc, List.map_append (l₁ := _ ++ _ ++ _)]; simp, _, rfl⟩⟩
      · rintro τ M1 ⟨rfl, v6, rfl⟩
        have fin : ∀ (xs : List Fo) τ' M', putForm s = xs → M' = mup M p (.lst ((ys.flatMap FD ++ us.flatMap formsS ++ s.exprs.flatMap formsIn ++ xs).map Fo.d)) → (∃ v5 v6, τ' = [some (.lst (pgD pg)), some (.ref p), some (.tup [.str o.name, .lst (o.ps.map .str), .lst (stD o.body), .int o.first, .int o.last]), v4, v5, v6]) → Nx2 τ' M' := fun xs τ' M' e hM hτ => hN2 _ _ ⟨by rw [hM, List.flatMap_append, List.flatMap_singleton, formsS, e]; simp only [List.append_assoc], hτ⟩
        have fin0 := fin []
        simp only [List.append_nil] at fin0
        generalize hys : ys.flatMap FD ++ us.flatMap formsS ++ s.exprs.flatMap formsIn = pre at fin fin0 ⊢
        have hpre : pre.length + (putForm s).length ≤ 10000 := by rw [← hys, List.length_append, List.length_append]; omega
        clear hys hls he1 he2 hs
        cases s with
        | put l a b =>
          unfold Sm.d
          walk_at "vc"
          refine ⟨a, rfl, ?_⟩
          walk_at "vc"
          have : (putForm (.put l a b)).length = 1 := rfl
          refine ⟨by omega, fin _ _ _ rfl ?_ ⟨_, _, rfl⟩⟩
          rw [List.map_append]; rfl
        | _ => unfold Sm.d; walk_at "vc"; exact fin0 _ _ rfl rfl ⟨_, _, rfl⟩
    · rintro τ M1 ⟨rfl, v5, v6, rfl⟩
      refine hN _ _ ⟨?_, _, _, _, rfl⟩
      rw [List.flatMap_append, List.flatMap_singleton, hfd]
  · rintro τ M1 ⟨rfl, v2, v5, v6, rfl⟩
    walk_at "vc"
    exact ⟨_, _, ReR.made hp, h⟩
def spBehind : SpT := fun ds M Q _ => ∃ rows : List Rw, ds = [.lst (rows.map Rw.d)] ∧ CallsIn rows ∧ rows.length < 16777215 ∧ ∀ M' p kvs, (∀ a o, M a = some o → M' a = some o) → (∀ b : Nat, valD kvs (.inl (b : Int)) = bhD rows rows.length b) → M' p = some (.dK kvs) → Q (.ref p) M'
theorem ok_behind_calls (T : Tp K mg) : Fn P w K mg base CX0 1 "behind_calls" spBehind := by
  refine fn_top T 26 e_behind_calls (m_behind_calls T) sc_behind_calls (by rintro _ M Q Et ⟨n, rfl, _⟩; rfl) (fun cdv A outer s H E hr => ⟨_, (qss_cons (qs_set (i := 1) sc_behind_calls.nd q_dnewK)
 (qss_cons (qs_for PassesOwn.never rfl (qi_enum (m_enumerate T) (qa_cons (qv 0) qa_nil)) (qg_tup (n := 2) rfl (qgs_cons (qg_name (i := 2) sc_behind_calls.nd) (qgs_cons (qg_name (i := 3) sc_behind_calls.nd) qgs_nil)))
  (qss_one (qs_if (qt_cmp oq_eq (q_ix (qv 3) q_int) q_str)
  (qss_one (qs_asg (q_op oq_catL (q_dget2 (hu_of hr) (qv 1) (q_ix (qv 3) q_int) (q_lst qa_nil)) (q_lst (qa_cons (q_op oq_addI (qv 2) q_int) qa_nil))) (qg_sub (qv 1) (q_ix (qv 3) q_int) (sq_dict (hu_of hr)))))
  qss_nil)))
 (qss_one (qs_ret (qv 1))))), ?_⟩) (fun _ _ _ _ _ _ us hl => match us, hl with | [_], _ => rfl)
  rintro _ M Q Et ⟨rows, rfl, hC, hl, h⟩
  walk_at "vc"
  intro p hp
  have hqn : ∀ (M1 : MH) (o : MO), (∀ a o, M a = some o → M1 a = some o) → ∀ a u, M a = some u → mup M1 p o a = some u := fun M1 o hx a u e => by
    rw [mup_ne (by rintro rfl; rw [hp] at e; cases e)]; exact hx a u e
  refine for_any (fun i τ M1 => ∃ (kvs : List (Key × D)) (v2 v3 : Option D), kvs.length ≤ i ∧ (∀ b : Nat, valD kvs (.inl (b : Int)) = bhD rows i b) ∧ M1 p = some (.dK kvs) ∧ (∀ a o, M a = some o → M1 a = some o) ∧ τ = [some (.lst (rows.map Rw.d)), some (.ref p), v2, v3]) ⟨[], none, none, Nat.le_refl _, fun b => rfl, mup_same, hqn M _ (fun _ _ e => e), rfl⟩ (fun _ _ _ _ => trivial) ?_ ?_
  · rintro i x τ M1 hx ⟨kvs, v2, v3, hkl, hkv, hMp, hext, rfl⟩
    obtain ⟨r, hr, rfl⟩ := enumD_map hx
    have hi : i < rows.length := (List.getElem?_eq_some_iff.mp hr).1
    by_cases hw : r.word = "call"
    · obtain ⟨l, a, f, m, t, rfl⟩ := word_call r hw
      obtain ⟨n, rfl, hn⟩ := hC i l a f m t hr
      have hbl := bhUp_len (rows := rows) (i := i) (b := n)
      unfold Rw.d
      walk_at "vc"
      refine ⟨⟨p, _, rfl, hMp, trivial⟩, ?_⟩
      rw [hMp]
      walk_at "vc"
      rw [hkv n, bhD_get]
      walk_at "vc"
      rw [natsD_len]
      refine ⟨by omega, by omega, _, _, _, Nat.le_trans (putM_len ..) (by omega), fun b => ?_, rfl, hqn _ _ hext, rfl, rfl⟩
      rw [valD_put, hkv b]
      unfold bhD
      rw [bhUp_succ]
      have hc : callTo rows b i = decide ((n : Int) = (b : Int)) := by unfold callTo; rw [hr]
      rw [hc]
      by_cases e : n = b
      · subst e
        rw [if_pos rfl, decide_eq_true rfl, if_pos rfl, if_neg (by simp), natsD_app]
        rfl
      · rw [if_neg (fun z => e (by have : (n : Int) = b := Sum.inl.inj z; omega)), decide_eq_false (by omega)]
        simp only [Bool.false_eq_true, if_false, List.append_nil]
    · obtain ⟨tl, htl⟩ := rw_d r
      rw [htl]
      walk_at "vc"
      rw [if_neg hw]
      refine ⟨kvs, _, _, by omega, fun b => ?_, hMp, hext, rfl, rfl⟩
      rw [hkv b]
      unfold bhD
      rw [bhUp_succ, callTo_no hr hw]
      simp only [Bool.false_eq_true, if_false, List.append_nil]
  · rintro τ M1 ⟨kvs, v2, v3, hkl, hkv, hMp, hext, rfl⟩
    walk_at "vc"
    rw [enumD_len, List.length_map] at hkv
    exact h M1 p kvs hext hkv hMp
def spGoes : SpT := fun ds M Q _ => ∃ rows : List Rw, ds = [.lst (rows.map Rw.d)] ∧ GraphC rows ∧ rows.length < 16777215 ∧ ∀ M', (∀ a o, M a = some o → M' a = some o) → Q (.lst ((List.range rows.length).map fun k => .lst (natsD (onR rows k)))) M'
theorem ok_goes_on (T : Tp K mg) : Fn P w K mg base CX0 2 "goes_on" spGoes := by
  refine fn_top T 27 e_goes_on (m_goes_on T) sc_goes_on (by rintro _ M Q Et ⟨n, rfl, _⟩; rfl) (fun cdv A outer s H E hr => ⟨_, (qss_cons (qs_set (i := 1) sc_goes_on.nd (q_call (ok_behind_calls T) (hr.mono (by decide)) (qa_cons (qv 0) qa_nil)))
 (qss_cons (qs_set (i := 2) sc_goes_on.nd (q_lstM qa_nil))
 (qss_cons (qs_set (i := 3) sc_goes_on.nd q_int)
 (qss_cons (qs_for PassesOwn.never rfl (qi_enum (m_enumerate T) (qa_cons (qv 0) qa_nil)) (qg_tup (n := 2) rfl (qgs_cons (qg_name (i := 4) sc_goes_on.nd) (qgs_cons (qg_name (i := 5) sc_goes_on.nd) qgs_nil)))
  (qss_one (qs_if (qt_w (qw_or (qt_cmp oq_eq (q_ix (qv 5) q_int) q_str) (qw_or1 (qt_cmp oq_eq (q_ix (qv 5) q_int) q_str))))
  (qss_one (qs_expr (q_append (qv 2) (qa_cons (q_lst qa_nil) qa_nil))))
  (qss_one (qs_if (qt_cmp oq_eq (q_ix (qv 5) q_int) q_str)
  (qss_one (qs_expr (q_append (qv 2) (qa_cons (q_lst (qa_cons (q_ix (qv 5) q_int) qa_nil)) qa_nil))))
  (qss_one (qs_if (qt_cmp oq_eq (q_ix (qv 5) q_int) q_str)
  (qss_cons (qs_expr (q_append (qv 2) (qa_cons (q_dget2 (hu_of hr) (qv 1) (qv 3) (q_lst qa_nil)) qa_nil)))
 (qss_one (qs_set (i := 3) sc_goes_on.nd (q_op oq_addI (qv 4) q_int))))
  (qss_one (qs_expr (q_append (qv 2) (qa_cons (q_call (ok_next_rows T) (hr.mono (by decide)) (qa_cons (qv 0) (qa_cons (qv 4) qa_nil))) qa_nil)))))))))))
 (qss_one (qs_ret (q_re (qv 2)))))))), ?_⟩) (fun _ _ _ _ _ _ us hl => match us, hl with | [_], _ => rfl)
  rintro _ M Q Et ⟨rows, rfl, hG, hl, h⟩
  walk_at "vc"
  refine ⟨rows, rfl, hG.c, hl, fun M0 p kvs hext0 hkv hM0 => ?_⟩
  walk_at "vc"
  intro q hq
  have hpq : p ≠ q := by rintro rfl; rw [hM0] at hq; cases hq
  have hMq0 : M q = none := by
    cases e : M q with
    | none => rfl
    | some u => rw [hext0 _ _ e] at hq; cases hq
  have hqn : ∀ (M1 : MH) (o : MO), (∀ a o, M a = some o → M1 a = some o) → ∀ a u, M a = some u → mup M1 q o a = some u := fun M1 o hx a u e => by
    rw [mup_ne (by rintro rfl; rw [hMq0] at e; cases e)]; exact hx a u e
  refine for_any (fun i τ M1 => M1 p = some (.dK kvs) ∧ M1 q = some (.lst ((List.range i).map fun k => .lst (natsD (onR rows k)))) ∧ (∀ a o, M a = some o → M1 a = some o) ∧ ∃ (v4 v5 : Option D), τ = [some (.lst (rows.map Rw.d)), some (.ref p), some (.ref q), some (.int (fstR rows i : Nat)), v4, v5]) ⟨by rw [mup_ne hpq]; exact hM0, mup_same, hqn _ _ hext0, none, none, rfl⟩ (fun _ _ _ _ => trivial) ?_ ?_
  · rintro i x τ M1 hx ⟨hMp, hMq, hext, v4, v5, rfl⟩
    obtain ⟨r, hr, rfl⟩ := enumD_map hx
    have hi : i < rows.length := (List.getElem?_eq_some_iff.mp hr).1
    have hb := word_back hr
    have fin : ∀ ns : List Nat, onR rows i = ns → (List.map (fun k => D.lst (natsD (onR rows k))) (List.range i) ++ [D.lst (natsD ns)]) = List.map (fun k => D.lst (natsD (onR rows k))) (List.range (i + 1)) := fun ns e => by
      rw [List.range_succ, List.map_append, ← e]; rfl
    have hnx := hG.g.next i r hr
    have hll : (lstOf M1 (.ref q)).isSome = true := by rw [lstOf_of hMq]; rfl
    have hfs : bkR rows i = false → fstR rows (i + 1) = fstR rows i := fun e => by
      show (if bkR rows i = true then i + 1 else fstR rows i) = _
      rw [e]; rfl
    have onx : ∀ y, y = onR rows i → onR rows i = y := fun _ e => e.symm
    have hlen : (List.map (fun k => D.lst (natsD (onR rows k))) (List.range i)).length = i := by rw [List.length_map, List.length_range]
    generalize hRD : List.map Rw.d rows = RD
    have hon : ∀ r', rows[i]? = some r' → onR rows i = (match (some r' : Option Rw) with
      | some (.join _ _ _ _) => []
      | some (.meet _) => []
      | some (.call _ _ _ _ t) => [t.toNat]
      | some (.back _) => bhN rows (fstR rows i)
      | some _ => nxR rows i
      | none => []) := fun r' e => by unfold onR; rw [e]; try (cases r' <;> rfl)
    have hon := hon r hr
    have hbk : ∀ b, bkR rows i = b → fstR rows (i + 1) = if b = true then i + 1 else fstR rows i := fun b e => by rw [← e]; rfl
    have hbr : bkR rows i = (match (some r : Option Rw) with | some (.back _) => true | _ => false) := by unfold bkR; rw [hr]; try (cases r <;> rfl)
    cases r with
    | join l a w f =>
      have hb1 := hbk _ hbr
      unfold Rw.d
      walk_at "vc"
      refine ⟨hll, ?_⟩
      rw [mLst_of hMq]
      walk_at "vc"
      exact ⟨by rw [List.length_range]; omega, by rw [mup_ne hpq]; exact hMp, congrArg MO.lst (fin [] hon), hqn _ _ hext, _, _, by rw [hb1]; rfl, rfl, rfl⟩
    | meet l =>
      have hb1 := hbk _ hbr
      unfold Rw.d
      walk_at "vc"
      refine ⟨hll, ?_⟩
      rw [mLst_of hMq]
      walk_at "vc"
      exact ⟨by rw [List.length_range]; omega, by rw [mup_ne hpq]; exact hMp, congrArg MO.lst (fin [] hon), hqn _ _ hext, _, _, by rw [hb1]; rfl, rfl, rfl⟩
    | call l a f m t =>
      have hb1 := hbk _ hbr
      obtain ⟨n, rfl, hn⟩ := hG.c i l a f m t hr
      unfold Rw.d
      walk_at "vc"
      refine ⟨hll, ?_⟩
      rw [mLst_of hMq]
      walk_at "vc"
      exact ⟨by rw [List.length_range]; omega, by rw [mup_ne hpq]; exact hMp, congrArg MO.lst (fin [n] (by rw [hon]; simp)), hqn _ _ hext, _, _, by rw [hb1]; rfl, rfl, rfl⟩
    | back l =>
      have hb1 := hbk _ hbr
      unfold Rw.d
      walk_at "vc"
      refine ⟨hll, ⟨p, _, rfl, hMp, trivial⟩, ?_⟩
      rw [hMp]
      walk_at "vc"
      rw [mLst_of hMq, hkv, bhD_get]
      walk_at "vc"
      exact ⟨by rw [List.length_range]; omega, by rw [mup_ne hpq]; exact hMp, congrArg MO.lst (fin _ hon), hqn _ _ hext, _, _, by rw [hb1]; simp, rfl, rfl⟩
    | _ =>
      have hb1 := hbk _ hbr
      unfold Rw.d
      walk_at "vc"
      refine ⟨hll, rows, i, _, by rw [hRD], hr, ?_⟩
      walk_at "vc"
      rw [mLst_of hMq, hnx]
      walk_at "vc"
      rw [List.map_map]
      exact ⟨by rw [List.length_range]; omega, by rw [mup_ne hpq]; exact hMp, congrArg MO.lst (fin _ hon), hqn _ _ hext, _, _, by rw [hb1]; rfl, rfl, rfl⟩
  · rintro τ M1 ⟨hMp, hMq, hext, v4, v5, rfl⟩
    walk_at "vc"
    rw [enumD_len, List.length_map] at hMq
    exact ⟨_, _, ReR.freeze hMq, h _ fun a u e => by
      unfold mdel
      rw [if_neg (by rintro rfl; rw [hMq0] at e; cases e)]
      exact hext a u e⟩
def spComeC : SpT := fun ds M Q _ => ∃ (n : Nat) (nx : Nat → List Nat) (st : Nat), ds = [.lst ((List.range n).map fun k => .lst (natsD (nx k))), .int st] ∧ n < 16777215 ∧ (∀ k, k < n → ∀ a ∈ nx k, a < n) ∧ st < n ∧
  ∀ M' mask seen, (∀ a o, M a = some o → M' a = some o) → BitsOf mask seen → (∀ y, y ∈ seen ↔ Way nx (fun _ => True) st y) → Q (.int (mask : Nat)) M'
theorem ok_come_to (T : Tp K mg) : Fn P w K mg base CX0 1 "come_to" spComeC := by
  refine fn_top T 28 e_come_to (m_come_to T) sc_come_to (by rintro _ M Q Et ⟨_, _, _, rfl, _⟩; rfl) (fun cdv A outer s H E hr => ⟨_, (qss_cons (qs_set (i := 2) sc_come_to.nd (q_op oq_shlW q_int (qv 1)))
 (qss_cons (qs_set (i := 3) sc_come_to.nd (q_lstM (qa_cons (qv 1) qa_nil)))
 (qss_cons (qs_while PassesOwn.never (qt_cmp oq_gt (q_callB cq_len (m_len T) (by decide +kernel) (qa_cons (qv 3) qa_nil)) q_int)
  (qss_one (qs_for PassesOwn.never rfl (qi_list (q_ix (qv 0) (q_pop (qv 3)))) (qg_name (i := 4) sc_come_to.nd)
  (qss_one (qs_if (qt_cmp oq_eq (q_op oq_band (q_op oq_shr (qv 2) (qv 4)) q_int) q_int)
  (qss_cons (qs_set (i := 2) sc_come_to.nd (q_op oq_bor (qv 2) (q_op oq_shlW q_int (qv 4))))
 (qss_one (qs_expr (q_append (qv 3) (qa_cons (qv 4) qa_nil)))))
  qss_nil)))))
 (qss_one (qs_ret (qv 2)))))), ?_⟩) (fun _ _ _ _ _ _ us hl => match us, hl with | [_, _], _ => rfl)
  rintro _ M Q Et ⟨n, nx, st, rfl, hn, hlow, hst, h⟩
  generalize hWS : (List.range n).map (fun k => D.lst (natsD (nx k))) = WS
  have hat : ∀ x, x < n → atI WS (x : Int) = some (.lst (natsD (nx x))) := fun x hx => atI_nat (by rw [← hWS, List.getElem?_map, List.getElem?_range hx]; rfl)
  walk_at "vc"
  refine ⟨shl_one (by omega), ?_⟩
  rw [shl_nat]
  intro q hq
  have hqn : ∀ (M1 : MH) (o : MO), (∀ a o, M a = some o → M1 a = some o) → ∀ a u, M a = some u → mup M1 q o a = some u := fun M1 o hx a u e => by
    rw [mup_ne (by rintro rfl; rw [hq] at e; cases e)]; exact hx a u e
  refine wh_any (fun m τ M1 => ∃ (seen wt : List Nat) (mask : Nat) (v4 : Option D), InvD nx st n seen wt none ∧ BitsOf mask seen ∧ m = 2 * (n - seen.length) + wt.length ∧ M1 q = some (.lst (natsD wt)) ∧ (∀ a o, M a = some o → M1 a = some o) ∧ τ = [some (.lst WS), some (.int (st : Nat)), some (.int (mask : Nat)), some (.ref q), v4]) _ ⟨[st], [st], 2 ^ st, none, InvD.init hst, bits_one, rfl, mup_same, hqn M _ (fun _ _ e => e), rfl⟩ ?_
  rintro m τ M1 ⟨seen, wt, mask, v4, hI, hbt, hm, hMq, hext, rfl⟩
  walk_at "vc"
  rw [lenOf_of hMq]
  walk_at "vc"
  rw [natsD_len]
  obtain ⟨hl1, hl2⟩ := hI.len
  rcases List.eq_nil_or_concat wt with rfl | ⟨ws, x, rfl⟩
  · rw [if_neg (by simp)]
    exact h M1 mask seen hext hbt fun y => hI.fin
  · rw [List.concat_eq_append] at *
    rw [if_pos (by rw [List.length_append]; simp only [List.length_singleton]; omega)]
    obtain ⟨hI2, hxs⟩ := hI.pop
    have hx : x < n := hI.sn x hxs
    rw [lstOf_of hMq, mLst_of hMq, natsD_app]
    walk_at "vc"
    rw [show natsD [x] = [D.int (x : Nat)] from rfl, List.getLast?_concat, List.dropLast_concat]
    walk_at "vc"
    rw [hat x hx]
    walk_at "vc"
    rw [List.length_append, List.length_singleton] at hm
    refine for_map (nx x) (fun n : Nat => .int (n : Nat)) rfl (fun ys τ M1 => ∃ (seen wt : List Nat) (mask : Nat) (v4 : Option D), InvD nx st n seen wt (some x) ∧ x ∈ seen ∧ (∀ y ∈ ys, y ∈ seen) ∧ BitsOf mask seen ∧ 2 * (n - seen.length) + wt.length < m ∧ M1 q = some (.lst (natsD wt)) ∧ (∀ a o, M a = some o → M1 a = some o) ∧ τ = [some (.lst WS), some (.int (st : Nat)), some (.int (mask : Nat)), some (.ref q), v4]) ⟨seen, ws, mask, v4, hI2, hxs, (fun _ h => (by cases h)), hbt, by omega, mup_same, hqn _ _ hext, rfl⟩ (fun _ _ _ _ => trivial) ?_ ?_
    · rintro ys y zs τ M1 Nx hy ⟨seen, wt, mask, v4, hI, hxs, hys, hbt, hm2, hMq, hext, rfl⟩ hN
      obtain ⟨hl1, hl2⟩ := hI.len
      have hyn : y ∈ nx x := by rw [hy]; simp
      walk_at "vc"
      refine ⟨by omega, ?_⟩
      rw [shr_nat, band1, bit_at, hbt y]
      by_cases hs : y ∈ seen
      · rw [decide_eq_true hs]
        walk_at "vc"
        refine hN _ _ ⟨seen, wt, mask, _, hI, hxs, fun z hz => ?_, hbt, hm2, hMq, hext, rfl⟩
        rcases List.mem_append.mp hz with hz | hz
        · exact hys z hz
        · rw [List.mem_singleton.mp hz]; exact hs
      · rw [decide_eq_false hs]
        have hylt := hlow x hx y hyn
        have hI2 := hI.add hxs hyn hylt hs
        have hl3 := hI2.len.1
        rw [List.length_append, List.length_singleton] at hl3
        walk_at "vc"
        refine ⟨shl_one (by omega), ?_⟩
        rw [shl_nat, bor_nat]
        refine ⟨by rw [lstOf_of hMq]; rfl, ?_⟩
        rw [mLst_of hMq]
        walk_at "vc"
        rw [natsD_len]
        refine ⟨by omega, hN _ _ ⟨seen ++ [y], wt ++ [y], _, _, hI2, List.mem_append_left _ hxs, fun z hz => ?_, bits_add hbt, ?_, by rw [natsD_app]; exact mup_same, hqn _ _ hext, rfl⟩⟩
        · rcases List.mem_append.mp hz with hz | hz
          · exact List.mem_append_left _ (hys z hz)
          · exact List.mem_append_right _ hz
        · rw [List.length_append, List.length_append]; simp only [List.length_singleton]; omega
    · rintro τ M1 ⟨seen, wt, mask, v4, hI, hxs, hys, hbt, hm2, hMq, hext, rfl⟩
      exact ⟨_, hm2, seen, wt, mask, _, hI.done hys, hbt, rfl, hMq, hext, rfl⟩
def spPairs : SpT := fun ds M Q _ => ∃ ts : List Tc, ds = [.lst (ts.map Tc.d)] ∧ ts.length ≤ 4000 ∧ Q (.lst ((pairsF ts).map pairD)) M
theorem ok_pairs_of (T : Tp K mg) : Fn P w K mg base CX0 2 "pairs_of" spPairs := by
  refine fn_top T 29 e_pairs_of (m_pairs_of T) sc_pairs_of (by rintro _ M Q Et ⟨_, rfl, _⟩; rfl) (fun cdv A outer s H E hr => ⟨_, (qss_cons (qs_set (i := 1) sc_pairs_of.nd (q_lstM qa_nil))
 (qss_cons (qs_for PassesOwn.never rfl (qi_enum (m_enumerate T) (qa_cons (qv 0) qa_nil)) (qg_tup (n := 2) rfl (qgs_cons (qg_name (i := 2) sc_pairs_of.nd) (qgs_cons (qg_name (i := 3) sc_pairs_of.nd) qgs_nil)))
  (qss_one (qs_for PassesOwn.never rfl (qi_list (q_sliceL (qv 0) (qo_some (qv 2)) qo_none)) (qg_name (i := 4) sc_pairs_of.nd)
  (qss_one (qs_if (qt_w (qw_and (qt_w (qw_or (qt_cmp oq_eq (q_ix (qv 3) q_int) q_str) (qw_or1 (qt_cmp oq_eq (q_ix (qv 4) q_int) q_str)))) (qw_and1 (qt_val (q_call (ok_may_meet T) (hr.mono (by decide)) (qa_cons (q_ix (qv 3) q_int) (qa_cons (q_ix (qv 4) q_int) qa_nil)))))))
  (qss_one (qs_expr (q_append (qv 1) (qa_cons (q_tup (qa_cons (q_callB (cq_min2 rfl) (m_min T) (by decide +kernel) (qa_cons (q_ix (qv 3) q_int) (qa_cons (q_ix (qv 4) q_int) qa_nil))) (qa_cons (q_callB (cq_max2 rfl) (m_max T) (by decide +kernel) (qa_cons (q_ix (qv 3) q_int) (qa_cons (q_ix (qv 4) q_int) qa_nil))) qa_nil))) qa_nil))))
  qss_nil)))))
 (qss_one (qs_ret (q_re (qv 1)))))), ?_⟩) (fun _ _ _ _ _ _ us hl => match us, hl with | [_], _ => rfl)
  rintro _ M Q Et ⟨ts, rfl, hl, h⟩
  walk_at "vc"
  intro p hp
  have hpl := pairsF_len (ts := ts)
  have hsq : ts.length * ts.length ≤ 16000000 := Nat.mul_le_mul hl hl
  refine for_any (fun i τ M1 => ∃ (ps : List (Int × Int)) (v2 v3 v4 : Option D), ps ++ pairsF (ts.drop i) = pairsF ts ∧ M1 = mup M p (.lst (ps.map pairD)) ∧ τ = [some (.lst (ts.map Tc.d)), some (.ref p), v2, v3, v4]) ⟨[], none, none, none, rfl, rfl, rfl⟩ (fun _ _ _ _ => trivial) ?_ ?_
  · rintro i x τ M1 hx ⟨ps, v2, v3, v4, hps, rfl, rfl⟩
    obtain ⟨a, ha, rfl⟩ := enumD_map hx
    have hi : i < ts.length := (List.getElem?_eq_some_iff.mp ha).1
    have hdr : ts.drop i = a :: ts.drop (i + 1) := by
      rw [List.drop_eq_getElem_cons hi]
      congr 1
      exact (List.getElem?_eq_some_iff.mp ha).2
    walk_at "vc"
    rw [cut_drop, ← List.map_drop, hdr]
    rw [hdr, pairsF] at hps
    refine for_map (a :: ts.drop (i + 1)) Tc.d rfl (fun ys τ M1 => M1 = mup M p (.lst ((ps ++ (ys.filter (clT a)).map (prT a)).map pairD)) ∧ ∃ v4, τ = [some (.lst (ts.map Tc.d)), some (.ref p), some (.int (i : Nat)), some a.d, v4]) ⟨by simp, _, rfl⟩ (fun _ _ _ _ => trivial) ?_ ?_
    · rintro ys b zs τ M1 Nx hb ⟨rfl, v4, rfl⟩ hN
      have no : clT a b = false → (ps ++ ((ys ++ [b]).filter (clT a)).map (prT a)) = ps ++ (ys.filter (clT a)).map (prT a) := fun e => by rw [List.filter_append, List.filter_cons, e]; simp
      have yes : clT a b = true → (ps ++ ((ys ++ [b]).filter (clT a)).map (prT a)) = (ps ++ (ys.filter (clT a)).map (prT a)) ++ [prT a b] := fun e => by rw [List.filter_append, List.filter_cons, e]; simp
      have hlen : (ps ++ (ys.filter (clT a)).map (prT a)).length ≤ 16000000 := by
        have h1 := congrArg List.length hps
        rw [hb, List.filter_append] at h1
        simp only [List.length_append, List.map_append, List.length_map] at h1 ⊢
        omega
      generalize ps ++ (ys.filter (clT a)).map (prT a) = qs at no yes hlen ⊢
      have wa := tcw_put a
      have wb := tcw_put b
      have go : (a.put || b.put) = true → spMay [a.fo.d, b.fo.d] (mup M p (.lst (qs.map pairD))) (fun x M1 => oBl x fun c => if c = true then (lstOf M1 (.ref p)).isSome = true ∧ oSome (mLst M1 p) fun ds => ds.length < 16777216 ∧ Nx [some (.lst (ts.map Tc.d)), some (.ref p), some (.int (i : Nat)), some a.d, some b.d] (mup M1 p (.lst (ds ++ [.tup [.int (min a.ln b.ln), .int (max a.ln b.ln)]]))) else Nx [some (.lst (ts.map Tc.d)), some (.ref p), some (.int (i : Nat)), some a.d, some b.d] M1) Et0 := by
        intro e
        refine ⟨a.fo, b.fo, rfl, ?_⟩
        cases hm : mayF a.fo b.fo with
        | true =>
          have hc : clT a b = true := by unfold clT; rw [e, hm]; rfl
          walk_at "vc"
          refine ⟨by omega, hN _ _ ⟨?_, _, rfl⟩⟩
          rw [yes hc, List.map_append]; rfl
        | false =>
          have hc : clT a b = false := by unfold clT; rw [hm, Bool.and_false]
          walk_at "vc"
          exact hN _ _ ⟨by rw [no hc], _, rfl⟩
      have never : (a.put || b.put) = false → Nx [some (.lst (ts.map Tc.d)), some (.ref p), some (.int (i : Nat)), some a.d, some b.d] (mup M p (.lst (qs.map pairD))) := fun e => by
        have hc : clT a b = false := by unfold clT; rw [e]; rfl
        exact hN _ _ ⟨by rw [no hc], _, rfl⟩
      unfold Tc.d at go never ⊢
      generalize some (D.lst (List.map (fun t : Tc => D.tup [D.str t.w, D.int t.ln, t.fo.d]) ts)) = v0 at go never ⊢
      walk_at "vc"
      simp only [min_if, max_if]
      cases ea : a.put with
      | true =>
        rw [if_pos (wa.mpr ea)]
        exact go (by rw [ea]; rfl)
      | false =>
        rw [if_neg (fun z => by have := wa.mp z; rw [ea] at this; cases this)]
        cases eb : b.put with
        | true =>
          rw [if_pos (wb.mpr eb)]
          exact go (by rw [eb, Bool.or_true])
        | false =>
          rw [if_neg (fun z => by have := wb.mp z; rw [eb] at this; cases this)]
          exact never (by rw [ea, eb]; rfl)
    · rintro τ M1 ⟨rfl, v4, rfl⟩
      refine ⟨_, _, _, _, ?_, rfl, rfl⟩
      rw [List.append_assoc]; exact hps
  · rintro τ M1 ⟨ps, v2, v3, v4, hps, rfl, rfl⟩
    walk_at "vc"
    rw [enumD_len, List.length_map, List.drop_length] at hps
    rw [show ps = pairsF ts by rw [← hps]; simp [pairsF]]
    exact ⟨_, _, ReR.made hp, h⟩
def spCould : SpT := fun ds M Q _ => ∃ pg : Pg, ds = [.lst (pgD pg)] ∧ okRows pg ∧ (formsP pg).length ≤ 4000 ∧ pg ≠ [] ∧ ∀ (M' : MH) (ps : List (Int × Int)), (∀ a o, M a = some o → M' a = some o) → ps.Pairwise lexLe → ps.Nodup → (∀ p, p ∈ ps ↔ CouldR (rowsF pg) (formsP pg) p) → Q (.lst (ps.map pairD)) M'
theorem ok_could (T : Tp K mg) : Fn P w K mg base CX0 53 "could" spCould := by
  refine fn_top T 30 e_could (m_could T) sc_could (by rintro _ M Q Et ⟨_, rfl, _⟩; rfl) (fun cdv A outer s H E hr => ⟨_, (qss_cons (qs_set (i := 1) sc_could.nd (q_call (ok_made T) (hr.mono (by decide)) (qa_cons (qv 0) qa_nil)))
 (qss_cons (qs_setLc (i := 2) (own := [(("k" : Str), 11), (("row" : Str), 12)]) (lv_lcF (go_tup (gos_cons go_name (gos_cons go_name gos_nil)))) rfl sc_could.nd (qi_enum (m_enumerate T) (qa_cons (qv 1) qa_nil)) (blkOk_by (N := nm_could) (sc := defScope s_could) (own := [(("k" : Str), 11), (("row" : Str), 12)]) (by decide +kernel)) (fun _ _ _ _ _ => (pg_tup (n := 2) rfl (pgs_cons (pg_name (i := 11) sc_could.nd rfl (Or.inl rfl)) (pgs_cons (pg_name (i := 12) sc_could.nd rfl (Or.inl rfl)) pgs_nil)))) (fun _ _ _ _ _ => (qts_one (qt_w (qw_or (qt_cmp oq_eq (q_ix (qv 12) q_int) q_str) (qw_or1 (qt_cmp oq_eq (q_ix (qv 12) q_int) q_str)))))) (fun _ _ _ _ _ => (qv 11)) (sw_true rfl rfl rfl (by decide +kernel)))
 (qss_cons (qs_set (i := 3) sc_could.nd (q_call (ok_forms_of T) (hr.mono (by decide)) (qa_cons (qv 0) qa_nil)))
 (qss_cons (qs_set (i := 4) sc_could.nd (q_call (ok_goes_on T) (hr.mono (by decide)) (qa_cons (qv 1) qa_nil)))
 (qss_cons (qs_set (i := 5) sc_could.nd (q_op oq_catL (q_lst (qa_cons q_int qa_nil)) (q_lc rfl sc_could.nd (qi_enum (m_enumerate T) (qa_cons (qv 1) qa_nil)) (blkOk_by (N := nm_could) (sc := defScope s_could) (own := [(("k" : Str), 11), (("row" : Str), 12)]) (by decide +kernel)) (go_tup (gos_cons go_name (gos_cons go_name gos_nil))) (fun _ _ _ _ _ => (pg_tup (n := 2) rfl (pgs_cons (pg_name (i := 11) sc_could.nd rfl (Or.inl rfl)) (pgs_cons (pg_name (i := 12) sc_could.nd rfl (Or.inl rfl)) pgs_nil)))) (fun _ _ _ _ _ => (qts_one (qt_w (qw_or (qt_cmp oq_eq (q_ix (qv 12) q_int) q_str) (qw_or1 (qt_cmp oq_eq (q_ix (qv 12) q_int) q_str)))))) (fun _ _ _ _ _ => (q_op oq_addI (qv 11) q_int)))))
 (qss_cons (qs_set (i := 6) sc_could.nd q_dnewT)
 (qss_cons (qs_for PassesOwn.never rfl (qi_list (qv 5)) (qg_name (i := 7) sc_could.nd)
  (qss_cons (qs_set (i := 8) sc_could.nd (q_call (ok_come_to T) (hr.mono (by decide)) (qa_cons (qv 4) (qa_cons (qv 7) qa_nil))))
 (qss_cons (qs_setLc (i := 9) (own := [(("k" : Str), 11), (("form" : Str), 13)]) (lv_lcF (go_tup (gos_cons go_name (gos_cons go_name gos_nil)))) rfl sc_could.nd (qi_zip (m_zip T) (qa_cons (qv 2) (qa_cons (qv 3) qa_nil))) (blkOk_by (N := nm_could) (sc := defScope s_could) (own := [(("k" : Str), 11), (("form" : Str), 13)]) (by decide +kernel)) (fun _ _ _ _ _ => (pg_tup (n := 2) rfl (pgs_cons (pg_name (i := 11) sc_could.nd rfl (Or.inl rfl)) (pgs_cons (pg_name (i := 13) sc_could.nd rfl (Or.inl rfl)) pgs_nil)))) (fun _ _ _ _ _ => (qts_one (qt_cmp oq_eq (q_op oq_band (q_op oq_shr (qv 8) (qv 11)) q_int) q_int))) (fun _ _ _ _ _ => (q_tup (qa_cons (q_ix (q_ix (qv 1) (qv 11)) q_int) (qa_cons (q_ix (q_ix (qv 1) (qv 11)) q_int) (qa_cons (qv 13) qa_nil))))) (sw_true rfl rfl rfl (by decide +kernel)))
 (qss_one (qs_for PassesOwn.never rfl (qi_list (q_call (ok_pairs_of T) (hr.mono (by decide)) (qa_cons (qv 9) qa_nil))) (qg_name (i := 10) sc_could.nd)
  (qss_one (qs_asg q_bl (qg_sub (qv 6) (qv 10) (sq_dict (hu_of hr))))))))))
 (qss_one (qs_ret (q_callB (cq_sortDP rfl) (m_sorted T) (by decide +kernel) (qa_cons (qv 6) qa_nil))))))))))), ?_⟩) (fun _ _ _ _ _ _ us hl => match us, hl with | [_], _ => rfl)
  rintro _ M Q Et ⟨pg, rfl, ok, hfl, hne, h⟩
  have hlen := rows_len ok
  have hG : GraphC (rowsF pg) := ⟨rows_graph, rows_calls hne⟩
  have h0 : 0 < (rowsF pg).length := by
    rw [rows_skel_len fun o ho => (ok.df o ho).2]
    unfold sP
    cases e : mainFirst pg with
    | nil =>
      refine (hne ?_).elim
      have := congrArg List.length e
      rw [first_len] at this
      exact List.eq_nil_of_length_eq_zero this
    | cons o os => rw [List.flatMap_cons, List.length_append, sD, List.length_append]; simp; omega
  walk_at "vc"
  refine ⟨pg, rfl, ok, ?_⟩
  generalize hrw : rowsF pg = rows at *
  walk_at "vc"
  have hrow : ∀ k, k < rows.length → ∃ r, rows[k]? = some r ∧ rows.getD k (.meet 0) = r := fun k hk => ⟨_, List.getElem?_eq_getElem hk, by rw [List.getD_eq_getElem?_getD, List.getElem?_eq_getElem hk]; rfl⟩
  refine lc_filter (List.range rows.length) (fun k : Nat => D.tup [.int k, (rows.getD k (.meet 0)).d]) (rowIs Rw.isTch rows) (fun k : Nat => .int k) (enumD_range _) (by rw [sizeLine_eq, List.length_range]; omega) trivial (fun k R1 R0 hk h1 h2 => ?_) ?_
  · obtain ⟨r, hr, hd⟩ := hrow k (List.mem_range.mp hk)
    obtain ⟨tl, htl⟩ := rw_d r
    rw [hd, htl]
    have hw := word_tch r
    have hri : rowIs Rw.isTch rows k = r.isTch := by unfold rowIs; rw [hr]; rfl
    rw [hri] at h1 h2
    walk_at "vc"
    cases e : r.isTch with
    | true =>
      rcases hw.mp e with e1 | e1
      · rw [if_pos e1]; exact h1 e
      · rw [if_pos e1]
        split
        · exact h1 e
        · exact h1 e
    | false =>
      rw [if_neg (fun z => by have := hw.mpr (.inl z); rw [e] at this; cases this), if_neg (fun z => by have := hw.mpr (.inr z); rw [e] at this; cases this)]
      exact h2 e
  rw [show List.filter (rowIs Rw.isTch rows) (List.range rows.length) = spotsR rows from rfl, show List.map (fun k : Nat => D.int (k : Int)) (spotsR rows) = natsD (spotsR rows) from rfl]
  refine ⟨pg, rfl, ok, by omega, ?_⟩
  walk_at "vc"
  refine ⟨rows, rfl, hG, hlen, fun M0 hext0 => ?_⟩
  walk_at "vc"
  refine lc_filter (List.range rows.length) (fun k : Nat => D.tup [.int k, (rows.getD k (.meet 0)).d]) (rowIs Rw.isMt rows) (fun k : Nat => .int ((k + 1 : Nat) : Int)) (enumD_range _) (by rw [sizeLine_eq, List.length_range]; omega) trivial (fun k R1 R0 hk h1 h2 => ?_) ?_
  · obtain ⟨r, hr, hd⟩ := hrow k (List.mem_range.mp hk)
    obtain ⟨tl, htl⟩ := rw_d r
    rw [hd, htl]
    have hw := word_mt r
    have hri : rowIs Rw.isMt rows k = r.isMt := by unfold rowIs; rw [hr]; rfl
    rw [hri] at h1 h2
    walk_at "vc"
    cases e : r.isMt with
    | true =>
      rcases hw.mp e with e1 | e1
      · rw [if_pos e1]; exact h1 e
      · rw [if_pos e1]
        split
        · exact h1 e
        · exact h1 e
    | false =>
      rw [if_neg (fun z => by have := hw.mpr (.inl z); rw [e] at this; cases this), if_neg (fun z => by have := hw.mpr (.inr z); rw [e] at this; cases this)]
      exact h2 e
  walk_at "vc"
  have hst := starts_lt hG.g h0
  have hsl : (List.filter (rowIs Rw.isMt rows) (List.range rows.length)).length ≤ rows.length := by
    have := List.length_filter_le (rowIs Rw.isMt rows) (List.range rows.length)
    rwa [List.length_range] at this
  refine ⟨by omega, fun p hp => ?_⟩
  rw [show D.int 0 :: List.map (fun k : Nat => D.int ((k + 1 : Nat) : Int)) (List.filter (rowIs Rw.isMt rows) (List.range rows.length)) = natsD (startsR rows) from by unfold natsD startsR; rw [List.map_cons, List.map_map]; rfl]
  generalize hfs : formsP pg = fs at h hfl ⊢
  have htl : (tchR rows fs).length ≤ 4000 := by
    unfold tchR
    rw [List.length_map, List.length_zip]
    omega
  generalize hRD : rows.map Rw.d = RD
  have hMp0 : M p = none := by
    cases e : M p with
    | none => rfl
    | some u => rw [hext0 _ _ e] at hp; cases hp
  have hqn : ∀ (M1 : MH) (o : MO), (∀ a o, M a = some o → M1 a = some o) → ∀ a u, M a = some u → mup M1 p o a = some u := fun M1 o hx a u e => by
    rw [mup_ne (by rintro rfl; rw [hMp0] at e; cases e)]; exact hx a u e
  have hat : ∀ (k : Nat) (r : Rw), rows[k]? = some r → atI RD (k : Int) = some r.d := fun k r hr => by rw [← hRD]; exact atI_rows hr
  generalize hWS : (List.range rows.length).map (fun k => D.lst (natsD (onR rows k))) = WS
  generalize hLS : (tchR rows fs).map (fun a => a.2.ln) = ls
  have hll : ls.length * ls.length ≤ 16000000 := by
    have : ls.length ≤ 4000 := by rw [← hLS, List.length_map]; exact htl
    exact Nat.mul_le_mul this this
  refine for_map (startsR rows) (fun n : Nat => .int (n : Nat)) rfl (fun ss τ M1 => ∃ (qs : List (Int × Int)) (v7 v8 v9 v10 : Option D), (∀ a o, M a = some o → M1 a = some o) ∧ M1 p = some (.dT (keysD qs)) ∧ qs.Nodup ∧ (∀ q ∈ qs, q.1 ∈ ls ∧ q.2 ∈ ls) ∧ (∀ q, q ∈ qs ↔ ∃ s ∈ ss, ∃ a ∈ tchR rows fs, ∃ b ∈ tchR rows fs, OnW rows s a.1 ∧ OnW rows s b.1 ∧ clT a.2 b.2 = true ∧ q = prT a.2 b.2)
    ∧ τ = [some (.lst (pgD pg)), some (.lst RD), some (.lst (natsD (spotsR rows))), some (.lst (fs.map Fo.d)), some (.lst WS), some (.lst (natsD (startsR rows))), some (.ref p), v7, v8, v9, v10, none, none, none]) ⟨[], none, none, none, none, hqn _ _ hext0, mup_same, List.nodup_nil, (fun _ h => (by cases h)), fun q => by simp, rfl⟩ (fun _ _ _ _ => trivial) ?_ ?_
  · rintro ss s zs τ M1 Nx hx ⟨qs, v7, v8, v9, v10, hx0, hMp, hnd, hin, hmem, rfl⟩ hN
    have hs : s < rows.length := hst s (by rw [hx]; simp)
    walk_at "vc"
    refine ⟨rows.length, onR rows, s, by rw [hWS], hlen, fun k hk => hG.low hk, hs, fun M2 mask seen hext hbt hsn => ?_⟩
    have hM2 := hext p _ hMp
    have hbit : ∀ k, mask.testBit k = true ↔ OnW rows s k := fun k => by rw [hbt k, decide_eq_true_eq]; exact hsn k
    walk_at "vc"
    unfold natsD
    rw [zip_two]
    refine lc_filter ((spotsR rows).zip fs) (fun p => D.tup [.int (p.1 : Nat), p.2.d]) (fun p => mask.testBit p.1) (fun p => (tcR rows p).d) rfl (by rw [sizeLine_eq, List.length_zip]; omega) trivial (fun c R1 R0 hc h1 h2 => ?_) ?_
    · obtain ⟨k, fo⟩ := c
      obtain ⟨r, hr, ht⟩ := spots_lt (List.of_mem_zip hc).1
      obtain ⟨tl, htl2⟩ := rw_d2 r
      rw [tch_w hr ht] at h1
      walk_at "vc"
      refine ⟨by omega, ?_⟩
      rw [shr_nat, band1, bit_at]
      cases hb : mask.testBit k with
      | true =>
        walk_at "vc"
        rw [hat k r hr, htl2]
        walk_at "vc"
        exact h1 hb
      | false =>
        walk_at "vc"
        exact h2 hb
    generalize hts : ((spotsR rows).zip fs).filter (fun p => mask.testBit p.1) = zs2
    have htl2 : (zs2.map (tcR rows)).length ≤ 4000 := by
      rw [List.length_map, ← hts]
      have := List.length_filter_le (fun p : Nat × Fo => mask.testBit p.1) ((spotsR rows).zip fs)
      rw [List.length_zip] at this
      omega
    have hmt : ∀ t, t ∈ zs2.map (tcR rows) ↔ ∃ a ∈ tchR rows fs, OnW rows s a.1 ∧ a.2 = t := fun t => by
      rw [← hts]
      unfold tchR
      constructor
      · intro h
        obtain ⟨c, hc, rfl⟩ := List.mem_map.mp h
        obtain ⟨h1, h2⟩ := List.mem_filter.mp hc
        exact ⟨_, List.mem_map.mpr ⟨c, h1, rfl⟩, (hbit _).mp h2, rfl⟩
      · rintro ⟨a, ha, h1, rfl⟩
        obtain ⟨c, hc, rfl⟩ := List.mem_map.mp ha
        exact List.mem_map.mpr ⟨c, List.mem_filter.mpr ⟨hc, (hbit _).mpr h1⟩, rfl⟩
    rw [show List.map (fun p => (tcR rows p).d) zs2 = (zs2.map (tcR rows)).map Tc.d from by rw [List.map_map]; rfl]
    generalize zs2.map (tcR rows) = ts at htl2 hmt ⊢
    have hpm : ∀ q, q ∈ pairsF ts ↔ ∃ a ∈ tchR rows fs, ∃ b ∈ tchR rows fs, OnW rows s a.1 ∧ OnW rows s b.1 ∧ clT a.2 b.2 = true ∧ q = prT a.2 b.2 := fun q => by
      rw [pairsF_mem]
      constructor
      · rintro ⟨a, ha, b, hb, h1, h2⟩
        obtain ⟨a', ha', wa, rfl⟩ := (hmt a).mp ha
        obtain ⟨b', hb', wb, rfl⟩ := (hmt b).mp hb
        exact ⟨a', ha', b', hb', wa, wb, h1, h2⟩
      · rintro ⟨a, ha, b, hb, wa, wb, h1, h2⟩
        exact ⟨a.2, (hmt _).mpr ⟨a, ha, wa, rfl⟩, b.2, (hmt _).mpr ⟨b, hb, wb, rfl⟩, h1, h2⟩
    have hpin : ∀ q ∈ pairsF ts, q.1 ∈ ls ∧ q.2 ∈ ls := fun q hq => by
      obtain ⟨a, ha, b, hb, _, rfl⟩ := pairsF_mem.mp hq
      have h3 := prT_in ha hb
      have sub : ∀ l ∈ ts.map Tc.ln, l ∈ ls := fun l hl => by
        obtain ⟨t, ht, rfl⟩ := List.mem_map.mp hl
        obtain ⟨a', ha', _, rfl⟩ := (hmt t).mp ht
        rw [← hLS]
        exact List.mem_map.mpr ⟨a', ha', rfl⟩
      exact ⟨sub _ h3.1, sub _ h3.2⟩
    refine ⟨ts, rfl, htl2, ?_⟩
    walk_at "vc"
    refine for_map (pairsF ts) pairD rfl (fun ys τ M1 => ∃ (qs2 : List (Int × Int)) (v10 : Option D), (∀ a o, M a = some o → M1 a = some o) ∧ M1 p = some (.dT (keysD qs2)) ∧ qs2.Nodup ∧ (∀ q ∈ qs2, q.1 ∈ ls ∧ q.2 ∈ ls) ∧ (∀ q, q ∈ qs2 ↔ q ∈ qs ∨ q ∈ ys)
      ∧ τ = [some (.lst (pgD pg)), some (.lst RD), some (.lst ((spotsR rows).map fun n : Nat => .int (n : Nat))), some (.lst (fs.map Fo.d)), some (.lst WS), some (.lst ((startsR rows).map fun n : Nat => .int (n : Nat))), some (.ref p), some (.int (s : Nat)), some (.int (mask : Nat)), some (.lst (ts.map Tc.d)), v10, none, none, none]) ⟨qs, _, fun a u e => hext _ _ (hx0 _ _ e), hM2, hnd, hin, fun q => by simp, rfl⟩ (fun _ _ _ _ => trivial) ?_ ?_
    · rintro ys q zs3 τ M3 Nx3 hq ⟨qs2, v10, hx3, hM3, hnd2, hin2, hmem2, rfl⟩ hN3
      have hqp : q ∈ pairsF ts := by rw [hq]; simp
      have few := pairs_few hnd2 hin2
      obtain ⟨qs3, e3, n3, m3⟩ := keys_put (ps := qs2) (p := q)
      unfold Tl.pairD
      walk_at "vc"
      rw [hM3]
      walk_at "vc"
      rw [keys_len]
      refine ⟨by omega, hN3 _ _ ⟨qs3, _, hqn _ _ hx3, by rw [mup_same, ← e3]; rfl, n3 hnd2, fun r hr => ?_, fun r => ?_, rfl⟩⟩
      · rcases (m3 r).mp hr with hr | rfl
        · exact hin2 r hr
        · exact hpin r hqp
      · rw [m3, hmem2, List.mem_append, List.mem_singleton, or_assoc]
    · rintro τ M3 ⟨qs2, v10, hx3, hM3, hnd2, hin2, hmem2, rfl⟩
      refine hN _ _ ⟨qs2, _, _, _, _, hx3, hM3, hnd2, hin2, fun q => ?_, rfl⟩
      rw [hmem2, hmem, hpm]
      constructor
      · rintro (⟨s', hs', h⟩ | h)
        · exact ⟨s', List.mem_append_left _ hs', h⟩
        · exact ⟨s, List.mem_append_right _ (List.mem_cons_self ..), h⟩
      · rintro ⟨s', hs', h⟩
        rcases List.mem_append.mp hs' with hs' | hs'
        · exact .inl ⟨s', hs', h⟩
        · rw [List.mem_singleton.mp hs'] at h; exact .inr h
  · rintro τ M1 ⟨qs, v7, v8, v9, v10, hx0, hMp, hnd, hin, hmem, rfl⟩
    walk_at "vc"
    exact sortDP_T qs hMp keys_keys fun ys hp ho => h _ ys hx0 ho (hp.nodup_iff.mpr hnd) fun q => (hp.mem_iff).trans (hmem q)
end
end K37
namespace K37
open PySem PySem.Spec PyProof.Rows L2 Tl
section
variable {P : Program} {w : World} {K : PySem.W.Frag} {mg : Str → Option Value} {base : Heap}
def spCellAt : SpT := fun ds M Q _ => ∃ (ns : List Int) (k : Nat), ds = [.scr (ns.map .int), .int k] ∧ Q (.int (cellF ns k)) M
theorem ok_l_cell_at (T : Tp K mg) : Fn P w K mg base CX0 1 "_law_cell_at" spCellAt := by
  refine fn_top T 31 e_l_cell_at (m_l_cell_at T) sc_l_cell_at (by rintro _ M Q Et ⟨n, _, rfl, _⟩; rfl) (fun cdv A outer s H E hr => ⟨_, (qss_cons (qs_if (qt_cmp oq_lt (qv 1) (q_callB cq_len (m_len T) (by decide +kernel) (qa_cons (qv 0) qa_nil)))
  (qss_one (qs_ret (q_ix (qv 0) (qv 1))))
  qss_nil)
 (qss_one (qs_ret q_int))), ?_⟩) (fun _ _ _ _ _ _ us hl => match us, hl with | [_, _], _ => rfl)
  rintro _ M Q Et ⟨ns, k, rfl, h⟩
  walk_at "vc"
  unfold cellF at h
  split
  · rename_i hk
    have hk2 : k < ns.length := by omega
    rw [atI_nat (v := .int ns[k]) (by rw [List.getElem?_map, List.getElem?_eq_getElem hk2]; rfl)]
    rw [List.getD_eq_getElem?_getD, List.getElem?_eq_getElem hk2] at h
    exact h
  · rename_i hk
    rw [List.getD_eq_getElem?_getD, List.getElem?_eq_none (by omega)] at h
    exact h
def spSpread : SpT := fun ds M Q _ => ∃ (c : Int) (k : Nat), ds = [.int c, .int k] ∧ k ≤ 1000 ∧ Q (.int (spreadF c k)) M
theorem ok_l_spread (T : Tp K mg) : Fn P w K mg base CX0 1 "_law_spread" spSpread := by
  refine fn_top T 32 e_l_spread (m_l_spread T) sc_l_spread (by rintro _ M Q Et ⟨n, _, rfl, _⟩; rfl) (fun cdv A outer s H E hr => ⟨_, (qss_cons (qs_set (i := 2) sc_l_spread.nd (q_op oq_addI (q_op oq_pow q_int q_int) q_int))
 (qss_cons (qs_set (i := 3) sc_l_spread.nd (q_op oq_mul (q_op oq_mod (qv 0) (qv 2)) q_int))
 (qss_cons (qs_set (i := 3) sc_l_spread.nd (q_op oq_addI (qv 3) (q_op oq_mul (q_op oq_mul (qv 1) (qv 1)) q_int)))
 (qss_one (qs_ret (q_op oq_mod (q_op oq_addI (qv 3) q_int) (qv 2))))))), ?_⟩) (fun _ _ _ _ _ _ us hl => match us, hl with | [_, _], _ => rfl)
  rintro _ M Q Et ⟨c, k, rfl, hk, h⟩
  walk_at "vc"
  have hB : (10 : Int) ^ Int.toNat 30 + 57 = 1000000000000000000000000000057 := by decide +kernel
  rw [hB]
  have b1 := modB (a := c) (b := 1000000000000000000000000000057) (by decide)
  have b2 : k * k ≤ 1000 * 1000 := Nat.mul_le_mul hk hk
  have b3 : (k : Int) * k = ((k * k : Nat) : Int) := by simp
  refine ⟨pow_bit 30 (by decide), by decide, wide_mul (a := 110) (b := 110) (by omega) (by decide) (by decide) (by decide) (by decide), wm60 (by omega) (by omega), ?_, by decide, h⟩
  rw [b3]
  exact wide_mul (a := 60) (b := 110) (by omega) (by decide) (by decide) (by decide) (by decide)
def spNames : SpT := fun ds M Q _ => ∃ (n : Int), ds = [.int n] ∧ Q (nmD (namesF n)) M
theorem ok_l_names (T : Tp K mg) : Fn P w K mg base CX0 1 "_law_names" spNames := by
  refine fn_top T 33 e_l_names (m_l_names T) sc_l_names (by rintro _ M Q Et ⟨n, rfl, _⟩; rfl) (fun cdv A outer s H E hr => ⟨_, (qss_cons (qs_set (i := 1) sc_l_names.nd q_str)
 (qss_cons (qs_set (i := 2) sc_l_names.nd (q_lst (qa_lits (ds := [.str "def", .str "set", .str "put", .str "tell", .str "if", .str "else", .str "while", .str "end", .str "break", .str "again", .str "call", .str "return"]) rfl)))
 (qss_cons (qs_set (i := 2) sc_l_names.nd (q_op oq_catL (qv 2) (q_lst (qa_lits (ds := [.str "stop", .str "join", .str "meet", .str "lane", .str "lanes", .str "mine", .str "box", .str "div", .str "rem", .str "sum", .str "most"]) rfl))))
 (qss_cons (qs_set (i := 2) sc_l_names.nd (q_op oq_catL (qv 2) (q_lst (qa_cons q_str (qa_cons q_str qa_nil)))))
 (qss_cons (qs_set (i := 3) sc_l_names.nd (q_op oq_addI q_int (q_op oq_mod (qv 0) q_int)))
 (qss_cons (qs_set (i := 4) sc_l_names.nd (q_op oq_mod (q_op oq_fdiv (qv 0) q_int) (qv 3)))
 (qss_cons (qs_set (i := 5) sc_l_names.nd (q_op oq_fdiv (qv 0) q_int))
 (qss_cons (qs_set (i := 6) sc_l_names.nd q_str)
 (qss_cons (qs_for PassesOwn.never rfl (qi_range1 (m_range T) (qa_cons q_int qa_nil)) (qg_name (i := 7) sc_l_names.nd)
  (qss_cons (qs_set (i := 6) sc_l_names.nd (q_op oq_addS (qv 6) (q_ix (qv 1) (q_op oq_mod (qv 5) q_int))))
 (qss_one (qs_set (i := 5) sc_l_names.nd (q_op oq_fdiv (qv 5) q_int)))))
 (qss_cons (qs_set (i := 8) sc_l_names.nd (q_lstM qa_nil))
 (qss_cons (qs_for PassesOwn.never rfl (qi_range1 (m_range T) (qa_cons q_int qa_nil)) (qg_name (i := 7) sc_l_names.nd)
  (qss_cons (qs_set (i := 9) sc_l_names.nd (q_ix (qv 1) (q_op oq_mod (q_op oq_addI (qv 5) (q_op oq_mul q_int (qv 7))) q_int)))
 (qss_cons (qs_set (i := 10) sc_l_names.nd (q_op oq_addS (q_op oq_addS (q_sliceS (qv 6) qo_none (qo_some (qv 4))) (qv 9)) (q_sliceS (qv 6) (qo_some (q_op oq_addI (qv 4) q_int)) (qo_some (qv 3)))))
 (qss_cons (qs_if (qt_cmp oq_eq (q_op oq_mod (q_op oq_fdiv (qv 5) q_int) q_int) q_int)
  (qss_one (qs_set (i := 10) sc_l_names.nd (q_sliceS (qv 6) qo_none (qo_some (q_op oq_sub q_int (qv 7))))))
  qss_nil)
 (qss_cons (qs_if (qt_w (qw_or (qt_cmp oq_inQ (qv 10) (qv 2)) (qw_or1 (qt_cmp oq_eq (qv 10) q_str))))
  (qss_one (qs_set (i := 10) sc_l_names.nd (q_op oq_repS q_str (q_callB cq_len (m_len T) (by decide +kernel) (qa_cons (qv 10) qa_nil)))))
  qss_nil)
 (qss_one (qs_expr (q_append (qv 8) (qa_cons (qv 10) qa_nil)))))))))
 (qss_one (qs_ret (q_re (qv 8))))))))))))))), ?_⟩) (fun _ _ _ _ _ _ us hl => match us, hl with | [_], _ => rfl)
  rintro _ M Q Et ⟨n, rfl, h⟩
  walk_at "vc"
  have hLl : letters.length = 26 := by decide +kernel
  have hkl : (keptL.map D.str).all flatD = true := by decide +kernel
  have hin : ∀ x : Str, (keptL.map D.str).any (fun d => eqD d (.str x)) = decide (x ∈ keptL) := fun x => by
    rw [List.any_map, Bool.eq_iff_iff, List.any_eq_true, decide_eq_true_eq]
    exact ⟨fun ⟨y, hy, e⟩ => by rw [← eq_of_beq (show (y == x) = true from e)]; exact hy, fun h => ⟨x, h, beq_self_eq_true x⟩⟩
  have hlet : Str.ofString "abcdefghijklmnopqrstuvwxyz" = letters := rfl
  refine ⟨wd60 (by decide) (by decide), by omega, wd60 (by decide) (by decide), ?_⟩
  generalize hkept : (D.lst [D.str (Str.ofString "def"), D.str (Str.ofString "set"), D.str (Str.ofString "put"), D.str (Str.ofString "tell"), D.str (Str.ofString "if"), D.str (Str.ofString "else"), D.str (Str.ofString "while"), D.str (Str.ofString "end"), D.str (Str.ofString "break"), D.str (Str.ofString "again"), D.str (Str.ofString "call"), D.str (Str.ofString "return"), D.str (Str.ofString "stop"), D.str (Str.ofString "join"), D.str (Str.ofString "meet"), D.str (Str.ofString "lane"), D.str (Str.ofString "lanes"), D.str (Str.ofString "mine"), D.str (Str.ofString "box"), D.str (Str.ofString "div"), D.str (Str.ofString "rem"), D.str (Str.ofString "sum"), D.str (Str.ofString "most"), D.str (Str.ofString "least"), D.str (Str.ofString "ahead")]) = kept
  obtain ⟨ks, rfl, hks, hin⟩ : ∃ ks : List D, kept = .lst ks ∧ ks.all flatD = true ∧ ∀ x : Str, ks.any (fun d => eqD d (.str x)) = decide (x ∈ keptL) := ⟨_, hkept.symm, hkl, hin⟩
  clear hkept hkl
  refine for_any (fun i τ M1 => M1 = M ∧ ∃ (v7 : Option D), τ = [some (.int n), some (.str letters), some (.lst ks), some (.int (1 + n % 8)), some (.int (n / 8 % (1 + n % 8))), some (.int (baseF (n / 64) i).2), some (.str (baseF (n / 64) i).1), v7, none, none, none]) ⟨rfl, none, rfl⟩ (fun _ _ _ _ => trivial) ?_ ?_
  · rintro i x τ M1 hx ⟨rfl, v7, rfl⟩
    obtain ⟨hi, rfl⟩ := rng_get hx
    have hi : i < 8 := hi
    have hc := sign_get (baseF (n / 64) i).2
    obtain ⟨hz, hzs⟩ := base_ok (n / 64) i
    walk_at "vc"
    simp only [hc]
    walk_at "vc"
    have e : baseF (n / 64) (i + 1) = baseStep (baseF (n / 64) i) i := range_fold ..
    rw [e]
    refine ⟨by omega, ?_, wd60 (by decide) (by decide), _, rfl, rfl, rfl⟩
    rw [hz]
    show i + 1 ≤ _
    omega
  · rintro τ M1 ⟨rfl, v7, rfl⟩
    have hz : (baseF (n / 64) 8).1.length = 8 := (base_ok _ 8).1
    have hzs := (base_ok (n / 64) 8).2
    have hnm : namesF n = (List.range 6).map (nameF n (baseF (n / 64) 8).1 (baseF (n / 64) 8).2) := rfl
    rw [show (List.map (fun i : Nat => D.int ↑i) (List.range (Int.toNat 8))).length = 8 from rfl]
    generalize baseF (n / 64) 8 = b at hz hzs hnm ⊢
    obtain ⟨z, r⟩ := b
    dsimp only at hz hzs hnm ⊢
    walk_at "vc"
    intro p hp
    refine for_any (fun i τ M2 => M2 = mup M1 p (.lst (((List.range i).map (nameF n z r)).map D.str)) ∧ ∃ v7 v9 v10, τ = [some (.int n), some (.str letters), some (.lst ks), some (.int (1 + n % 8)), some (.int (n / 8 % (1 + n % 8))), some (.int r), some (.str z), v7, some (.ref p), v9, v10])
      ⟨rfl, v7, none, none, rfl⟩ (fun _ _ _ _ => trivial) ?_ ?_
    · rintro i x τ M2 hx ⟨rfl, v7, v9, v10, rfl⟩
      obtain ⟨hi, rfl⟩ := rng_get hx
      have hi : i < 6 := hi
      have hc := sign_get (r + 5 * (i : Int))
      have hnl := (name_ok n r i hz hzs).1
      have c1 := cutS_length z none (some (n / 8 % (1 + n % 8)))
      have c2 := cutS_length z (some (n / 8 % (1 + n % 8) + 1)) (some (1 + n % 8))
      have c3 := cutS_length z none (some (8 - (i : Int)))
      have e1 : (List.range (i + 1)).map (nameF n z r) = (List.range i).map (nameF n z r) ++ [nameF n z r i] := by rw [List.range_succ, List.map_append]; rfl
      rw [e1]
      have hnf : nameF n z r i = nameF n z r i := rfl
      conv at hnf => rhs; unfold nameF
      dsimp only at hnf
      walk_at "vc"
      simp only [hc]
      walk_at "vc"
      have l1 : (⟨#[signF (r + 5 * (i : Int))]⟩ : Str).length = 1 := rfl
      have lq : (Str.ofString "q").length = 1 := by decide +kernel
      have hlo : ∀ (M : MH) (u : Str), u.length ≤ 1000 → lenOf M (.str u) = some u.length := fun M u hu => by
        show (if u.length ≤ sizeLine then some u.length else none) = _
        rw [if_pos (by rw [sizeLine_eq]; omega)]
      have wl := len_app (cutS z none (some (n / 8 % (1 + n % 8))) ++ ⟨#[signF (r + 5 * (i : Int))]⟩) (cutS z (some (n / 8 % (1 + n % 8) + 1)) (some (1 + n % 8)))
      have wl2 := len_app (cutS z none (some (n / 8 % (1 + n % 8)))) ⟨#[signF (r + 5 * (i : Int))]⟩
      have leaf : ∀ u : Str, nameF n z r i = u → mup M1 p (.lst (List.map D.str ((List.range i).map (nameF n z r)) ++ [.str u])) = mup M1 p (.lst (((List.range i).map (nameF n z r) ++ [nameF n z r i]).map D.str)) ∧ ∃ v7 v9 v10, some (D.int i) = v7 ∧ some (D.str ⟨#[signF (r + 5 * (i : Int))]⟩) = v9 ∧ some (D.str u) = v10 := fun u hu => by
        rw [hu, List.map_append]
        exact ⟨rfl, _, _, _, rfl, rfl, rfl⟩
      refine ⟨wm60 (by omega) (by omega), by omega, by omega, by omega, by omega, by omega, wd60 (by decide) (by decide), ?_⟩
      split
      · rename_i h1
        rw [if_pos h1] at hnf
        refine ⟨by omega, rfl, hks, ?_⟩
        rw [hin]
        split
        · rename_i hm
          have hm := of_decide_eq_true hm
          rw [hlo _ _ (by omega)]
          exact ⟨⟨by omega, by omega, by omega⟩, by simp; omega, leaf _ (by rw [hnf, if_pos (.inl hm)])⟩
        · rename_i hm
          have hm : ¬ _ := fun z => hm (decide_eq_true z)
          split
          · rename_i hm2
            rw [hlo _ _ (by omega)]
            exact ⟨⟨by omega, by omega, by omega⟩, by simp; omega, leaf _ (by rw [hnf, if_pos (.inr hm2)])⟩
          · rename_i hm2
            exact ⟨by simp; omega, leaf _ (by rw [hnf, if_neg (fun z => z.elim hm hm2)])⟩
      · rename_i h1
        rw [if_neg h1] at hnf
        refine ⟨rfl, hks, ?_⟩
        rw [hin]
        split
        · rename_i hm
          have hm := of_decide_eq_true hm
          rw [hlo _ _ (by omega)]
          exact ⟨⟨by omega, by omega, by omega⟩, by simp; omega, leaf _ (by rw [hnf, if_pos (.inl hm)])⟩
        · rename_i hm
          have hm : ¬ _ := fun z => hm (decide_eq_true z)
          split
          · rename_i hm2
            rw [hlo _ _ (by omega)]
            exact ⟨⟨by omega, by omega, by omega⟩, by simp; omega, leaf _ (by rw [hnf, if_pos (.inr hm2)])⟩
          · rename_i hm2
            exact ⟨by simp; omega, leaf _ (by rw [hnf, if_neg (fun z => z.elim hm hm2)])⟩
    · rintro τ M2 ⟨rfl, v7, v9, v10, rfl⟩
      walk_at "vc"
      refine ⟨_, _, ReR.made hp, ?_⟩
      rw [hnm] at h
      exact h
def spExG (f : List Str → Int → Ex) : SpT := fun ds M Q _ => ∃ (i : Int) (xs : List Str), ds = [.int i, nmD xs] ∧ okNm xs ∧ Q (f xs i).d M
theorem ok_l_place (T : Tp K mg) : Fn P w K mg base CX0 1 "_law_place" (spExG placeB) := by
  refine fn_top T 34 e_l_place (m_l_place T) sc_l_place (by rintro _ M Q Et ⟨n, _, rfl, _⟩; rfl) (fun cdv A outer s H E hr => ⟨_, (qss_cons (qs_set (i := 2) sc_l_place.nd (q_op oq_mod (qv 0) q_int))
 (qss_cons (qs_set (i := 3) sc_l_place.nd (q_op oq_fdiv (qv 0) q_int))
 (qss_cons (qs_set (i := 4) sc_l_place.nd (q_tup (qa_cons q_str (qa_cons (q_ix (q_lst (qa_cons (q_op oq_mod (q_op oq_fdiv (qv 3) q_int) q_int) (qa_cons (q_op oq_sub (q_op oq_mod (q_op oq_fdiv (qv 3) q_int) q_int) q_int) (qa_cons (q_op oq_sub (q_op oq_mod (q_op oq_fdiv (qv 3) q_int) q_int) q_int) qa_nil)))) (q_op oq_mod (qv 3) q_int)) qa_nil))))
 (qss_cons (qs_set (i := 5) sc_l_place.nd (q_tup (qa_cons q_str qa_nil)))
 (qss_cons (qs_set (i := 6) sc_l_place.nd (q_tup (qa_cons q_str (qa_cons (q_ix (qv 1) (q_op oq_mod (qv 3) q_int)) qa_nil))))
 (qss_cut (qs_if (qt_cmp oq_lt (qv 2) q_int)
  (qss_one (qs_ret (qv 4)))
  qss_nil)
 (qss_cons (qs_if (qt_cmp oq_lt (qv 2) q_int)
  (qss_one (qs_ret (qv 5)))
  qss_nil)
 (qss_cons (qs_if (qt_cmp oq_lt (qv 2) q_int)
  (qss_one (qs_ret (q_ix (q_lst (qa_cons (q_tup (qa_cons q_str (qa_cons (qv 5) (qa_cons (qv 4) qa_nil)))) (qa_cons (q_tup (qa_cons q_str (qa_cons (qv 4) (qa_cons (qv 5) qa_nil)))) qa_nil))) (q_op oq_sub (qv 2) q_int))))
  qss_nil)
 (qss_cons (qs_if (qt_cmp oq_eq (qv 2) q_int)
  (qss_one (qs_ret (q_tup (qa_cons (q_ix (q_lst (qa_lits (ds := [.str "-", .str "*", .str "div", .str "rem", .str "<", .str "="]) rfl)) (q_op oq_mod (q_op oq_fdiv (qv 3) q_int) q_int)) (qa_cons (qv 5) (qa_cons (qv 4) qa_nil))))))
  qss_nil)
 (qss_cons (qs_set (i := 7) sc_l_place.nd (q_ix (q_lst (qa_cons (qv 6) (qa_cons (q_tup (qa_cons q_str qa_nil)) (qa_cons (q_tup (qa_cons q_str qa_nil)) (qa_cons (q_tup (qa_cons q_str (qa_cons (q_op oq_sub (q_op oq_mod (q_op oq_fdiv (qv 3) q_int) q_int) q_int) qa_nil))) (qa_cons (q_tup (qa_cons q_str (qa_cons (qv 5) qa_nil))) (qa_cons (q_tup (qa_cons q_str (qa_cons (qv 5) (qa_cons (qv 4) qa_nil)))) qa_nil))))))) (q_op oq_mod (q_op oq_fdiv (qv 3) q_int) q_int)))
 (qss_cut (qs_if (qt_cmp oq_eq (qv 2) q_int)
  (qss_one (qs_ret (q_ix (q_lst (qa_cons (q_tup (qa_cons q_str (qa_cons (qv 7) (qa_cons (qv 4) qa_nil)))) (qa_cons (q_tup (qa_cons q_str (qa_cons (qv 4) (qa_cons (qv 7) qa_nil)))) qa_nil))) (q_op oq_mod (q_op oq_fdiv (qv 3) q_int) q_int))))
  qss_nil)
 (qss_cons (qs_if (qt_cmp oq_eq (qv 2) q_int)
  (qss_one (qs_ret (q_tup (qa_cons q_str (qa_cons (q_ix (q_lst (qa_cons (qv 4) (qa_cons (qv 5) (qa_cons (q_tup (qa_cons q_str (qa_cons (qv 5) (qa_cons (qv 4) qa_nil)))) (qa_cons (q_tup (qa_cons q_str (qa_cons (qv 6) (qa_cons (qv 4) qa_nil)))) (qa_cons (q_tup (qa_cons q_str (qa_cons (qv 5) (qa_cons (qv 4) qa_nil)))) qa_nil)))))) (q_op oq_mod (q_op oq_fdiv (qv 3) q_int) q_int)) qa_nil)))))
  qss_nil)
 (qss_cons (qs_set (i := 8) sc_l_place.nd (q_ix (q_lst (qa_cons (qv 4) (qa_cons (qv 5) (qa_cons (qv 6) (qa_cons (q_tup (qa_cons q_str qa_nil)) qa_nil))))) (q_op oq_mod (q_op oq_fdiv (qv 3) q_int) q_int)))
 (qss_one (qs_ret (q_ix (q_lst (qa_cons (qv 6) (qa_cons (q_tup (qa_cons q_str (qa_cons (qv 5) (qa_cons (qv 8) qa_nil)))) (qa_cons (q_tup (qa_cons q_str (qa_cons (qv 5) qa_nil))) (qa_cons (q_tup (qa_cons q_str (qa_cons (qv 8) (qa_cons (qv 5) qa_nil)))) qa_nil))))) (q_op oq_sub (qv 2) q_int))))))))))))))))), ?_⟩) (fun _ _ _ _ _ _ us hl => match us, hl with | [_, _], _ => rfl)
  rintro _ M Q Et ⟨i, xs, rfl, hx, h⟩
  unfold nmD
  walk_at "vc"
  have bi := modB (a := i) (b := 13) (by decide)
  have b3 := modB (a := i / 13) (b := 3) (by decide)
  have b6 := modB (a := i / 13) (b := 6) (by decide)
  have b6x : i / 13 % 6 < (xs.length : Int) := by rw [hx.1]; exact b6.2
  refine ⟨wd60 (by decide) (by decide), wd60 (by decide) (by decide), wd60 (by decide) (by decide), wd60 (by decide) (by decide), pickX (f := D.int) [i / 13 / 3 % 5, i / 13 / 3 % 5 - 2, i / 13 / 3 % 1999999999 - 999999999] 0 rfl b3.1 b3.2 ?_⟩
  unfold placeB at h
  dsimp only at h
  generalize hn : [i / 13 / 3 % 5, i / 13 / 3 % 5 - 2, i / 13 / 3 % 1999999999 - 999999999].getD (i / 13 % 3).toNat 0 = n
  have e1 : nearF (i / 13) = .num n := congrArg Ex.num hn
  rw [e1] at h
  refine pickX (f := D.str) xs "" rfl b6.1 b6x ?_
  generalize hm : xs.getD (i / 13 % 6).toNat "" = x
  have e2 : nmF xs (i / 13) = .nam x := congrArg Ex.nam hm
  rw [e2] at h
  generalize hk : i % 13 = k at bi h ⊢
  generalize i / 13 = r at b3 b6 h ⊢
  clear hn hm e1 e2 b6x b3 b6
  refine cut_by (fun τ M1 => M1 = M ∧ τ = [some (.int i), some (.lst (xs.map .str)), some (.int k), some (.int r), some (Ex.num n).d, some Ex.lane.d, some (Ex.nam x).d, none, none] ∧ 2 ≤ k) ?_ ?_
  · walk_at "vc"
    by_cases c1 : k < 2
    · rw [if_pos c1] at h ⊢
      exact h
    · rw [if_neg c1]
      exact ⟨⟨rfl, rfl, rfl⟩, by omega⟩
  rintro τ M1 ⟨rfl, rfl, h2⟩
  rw [if_neg (by omega)] at h
  walk_at "vc"
  by_cases c2 : k < 4
  · rw [if_pos c2] at h ⊢
    exact h
  rw [if_neg c2] at h ⊢
  by_cases c3 : k < 6
  · rw [if_pos c3] at h ⊢
    exact pickX (f := Ex.d) [.op .add .lane (.num n), .op .add (.num n) .lane] (.num n) rfl (by omega) (by show _ < (2 : Int); omega) h
  rw [if_neg c3] at h ⊢
  by_cases c4 : k = 6
  · rw [if_pos c4] at h ⊢
    have b60 := modB (a := r / 60) (b := 6) (by decide)
    exact ⟨wd60 (by decide) (by decide), pickX (f := fun o : Op7 => D.str o.s) [.sub, .mul, .div, .rem, .lt, .eq] .add rfl b60.1 b60.2 h⟩
  rw [if_neg c4] at h ⊢
  have b90 := modB (a := r / 90) (b := 6) (by decide)
  refine ⟨wd60 (by decide) (by decide), wd60 (by decide) (by decide), pickX (f := Ex.d) [.nam x, .mine, .lanes, .num (r / 7 % 9 - 4), .box .lane, .op .add .lane (.num n)] (.num n) rfl b90.1 b90.2 ?_⟩
  generalize [Ex.nam x, .mine, .lanes, .num (r / 7 % 9 - 4), .box .lane, .op .add .lane (.num n)].getD (r / 90 % 6).toNat (.num n) = bs at h ⊢
  refine cut_by (fun τ M2 => M2 = M1 ∧ τ = [some (.int i), some (.lst (xs.map .str)), some (.int k), some (.int r), some (Ex.num n).d, some Ex.lane.d, some (Ex.nam x).d, some bs.d, none] ∧ k ≠ 7) ?_ ?_
  · walk_at "vc"
    by_cases c5 : k = 7
    · rw [if_pos c5] at h ⊢
      have b2 := modB (a := r / 540) (b := 2) (by decide)
      exact ⟨wd60 (by decide) (by decide), pickX (f := Ex.d) [.op .add bs (.num n), .op .add (.num n) bs] (.num n) rfl b2.1 b2.2 h⟩
    · rw [if_neg c5]
      exact c5
  rintro τ M2 ⟨rfl, rfl, h7⟩
  rw [if_neg h7] at h
  generalize hdn : (Ex.num n).d = dn
  generalize hdl : Ex.lane.d = dl
  generalize hxd : (Ex.nam x).d = dx
  generalize hdb : bs.d = db
  walk_at "vc"
  subst hdn hdl hxd hdb
  by_cases c6 : k = 8
  · rw [if_pos c6] at h ⊢
    have b5 := modB (a := r / 90) (b := 5) (by decide)
    exact ⟨wd60 (by decide) (by decide), pickX (f := Ex.d) [.num n, .lane, .op .add .lane (.num n), .op .add (.nam x) (.num n), .op .mul .lane (.num n)] (.num n) rfl b5.1 b5.2 h⟩
  rw [if_neg c6] at h ⊢
  have b4 := modB (a := r / 15) (b := 4) (by decide)
  refine ⟨wd60 (by decide) (by decide), pickX (f := Ex.d) [.num n, .lane, .nam x, .mine] (.num n) rfl b4.1 b4.2 ?_⟩
  generalize [Ex.num n, .lane, .nam x, .mine].getD (r / 15 % 4).toNat (.num n) = other at h ⊢
  exact pickX (f := Ex.d) [.nam x, .op .add .lane other, .box .lane, .op .add other .lane] (.num n) rfl (by omega) (by show _ < (4 : Int); omega) h
theorem ok_l_simple (T : Tp K mg) : Fn P w K mg base CX0 2 "_law_simple" (spExG simpleB) := by
  refine fn_top T 35 e_l_simple (m_l_simple T) sc_l_simple (by rintro _ M Q Et ⟨n, _, rfl, _⟩; rfl) (fun cdv A outer s H E hr => ⟨_, (qss_cons (qs_set (i := 2) sc_l_simple.nd (q_op oq_mod (qv 0) q_int))
 (qss_cons (qs_set (i := 3) sc_l_simple.nd (q_op oq_fdiv (qv 0) q_int))
 (qss_cons (qs_if (qt_cmp oq_lt (qv 2) q_int)
  (qss_one (qs_ret (q_tup (qa_cons q_str (qa_cons (q_op oq_sub (q_op oq_mod (qv 3) q_int) q_int) qa_nil)))))
  qss_nil)
 (qss_cons (qs_if (qt_cmp oq_lt (qv 2) q_int)
  (qss_one (qs_ret (q_ix (q_lst (qa_cons (q_tup (qa_cons q_str qa_nil)) (qa_cons (q_tup (qa_cons q_str qa_nil)) (qa_cons (q_tup (qa_cons q_str qa_nil)) (qa_cons (q_tup (qa_cons q_str (qa_cons (q_ix (qv 1) (q_op oq_mod (q_op oq_fdiv (qv 3) q_int) q_int)) qa_nil))) qa_nil))))) (q_op oq_mod (qv 3) q_int))))
  qss_nil)
 (qss_cons (qs_if (qt_cmp oq_lt (qv 2) q_int)
  (qss_one (qs_ret (q_tup (qa_cons q_str (qa_cons (q_call (ok_l_place T) (hr.mono (by decide)) (qa_cons (qv 3) (qa_cons (qv 1) qa_nil))) qa_nil)))))
  qss_nil)
 (qss_cons (qs_set (i := 4) sc_l_simple.nd (q_ix (q_lst (qa_lits (ds := [.str "+", .str "-", .str "*", .str "div", .str "rem", .str "<", .str "="]) rfl)) (q_op oq_mod (qv 3) q_int)))
 (qss_cons (qs_set (i := 5) sc_l_simple.nd (q_ix (q_lst (qa_cons (q_tup (qa_cons q_str (qa_cons (q_op oq_sub (q_op oq_mod (q_op oq_fdiv (qv 3) q_int) q_int) q_int) qa_nil))) (qa_cons (q_tup (qa_cons q_str (qa_cons (q_ix (qv 1) (q_op oq_mod (q_op oq_fdiv (qv 3) q_int) q_int)) qa_nil))) qa_nil))) (q_op oq_mod (q_op oq_fdiv (qv 3) q_int) q_int)))
 (qss_cons (qs_set (i := 6) sc_l_simple.nd (q_tup (qa_cons q_str (qa_cons (q_call (ok_l_place T) (hr.mono (by decide)) (qa_cons (q_op oq_fdiv (qv 3) q_int) (qa_cons (qv 1) qa_nil))) qa_nil))))
 (qss_cons (qs_if (qt_cmp oq_eq (qv 2) q_int)
  (qss_one (qs_ret (q_tup (qa_cons (qv 4) (qa_cons (qv 5) (qa_cons (qv 6) qa_nil))))))
  qss_nil)
 (qss_cons (qs_if (qt_cmp oq_eq (qv 2) q_int)
  (qss_one (qs_ret (q_tup (qa_cons (qv 4) (qa_cons (qv 6) (qa_cons (qv 5) qa_nil))))))
  qss_nil)
 (qss_cons (qs_if (qt_cmp oq_eq (qv 2) q_int)
  (qss_one (qs_ret (q_tup (qa_cons (qv 4) (qa_cons (q_tup (qa_cons (qv 4) (qa_cons (qv 5) (qa_cons (qv 6) qa_nil)))) (qa_cons (q_tup (qa_cons q_str (qa_cons (qv 5) qa_nil))) qa_nil))))))
  qss_nil)
 (qss_cons (qs_if (qt_cmp oq_eq (q_op oq_mod (q_op oq_fdiv (qv 3) q_int) q_int) q_int)
  (qss_one (qs_ret (q_tup (qa_cons (qv 4) (qa_cons (qv 5) (qa_cons (q_tup (qa_cons (q_ix (q_lst (qa_cons q_str (qa_cons q_str (qa_cons q_str qa_nil)))) (q_op oq_mod (q_op oq_fdiv (qv 3) q_int) q_int)) (qa_cons (qv 6) (qa_cons (q_tup (qa_cons q_str qa_nil)) qa_nil)))) qa_nil))))))
  qss_nil)
 (qss_cons (qs_set (i := 7) sc_l_simple.nd (q_tup (qa_cons q_str (qa_cons (q_ix (q_lst (qa_cons (q_tup (qa_cons q_str qa_nil)) (qa_cons (q_tup (qa_cons q_str (qa_cons (q_ix (qv 1) (q_op oq_mod (q_op oq_fdiv (qv 3) q_int) q_int)) qa_nil))) (qa_cons (q_tup (qa_cons q_str (qa_cons (q_op oq_mod (q_op oq_fdiv (qv 3) q_int) q_int) qa_nil))) qa_nil)))) (q_op oq_mod (q_op oq_fdiv (qv 3) q_int) q_int)) qa_nil))))
 (qss_cons (qs_for PassesOwn.never rfl (qi_range1 (m_range T) (qa_cons (q_op oq_addI q_int (q_op oq_mod (q_op oq_fdiv (qv 3) q_int) q_int)) qa_nil)) (qg_name (i := 8) sc_l_simple.nd)
  (qss_one (qs_set (i := 7) sc_l_simple.nd (q_ix (q_lst (qa_cons (q_tup (qa_cons (qv 4) (qa_cons (qv 5) (qa_cons (qv 7) qa_nil)))) (qa_cons (q_tup (qa_cons (qv 4) (qa_cons (qv 7) (qa_cons (qv 5) qa_nil)))) qa_nil))) (q_op oq_band (q_op oq_shr (q_op oq_fdiv (qv 3) q_int) (qv 8)) q_int)))))
 (qss_one (qs_ret (qv 7))))))))))))))))), ?_⟩) (fun _ _ _ _ _ _ us hl => match us, hl with | [_, _], _ => rfl)
  rintro _ M Q Et ⟨i, xs, rfl, hx, h⟩
  unfold nmD
  walk_at "vc"
  have bi := modB (a := i) (b := 10) (by decide)
  have b2 := modB (a := i / 10 / 7) (b := 2) (by decide)
  have b4 := modB (a := i / 10) (b := 4) (by decide)
  have b7 := modB (a := i / 10) (b := 7) (by decide)
  have b6 := modB (a := i / 10 / 4) (b := 6) (by decide)
  have b6' := modB (a := i / 10 / 14) (b := 6) (by decide)
  have b6x : i / 10 / 4 % 6 < (xs.length : Int) := by rw [hx.1]; exact b6.2
  have b6y : i / 10 / 14 % 6 < (xs.length : Int) := by rw [hx.1]; exact b6'.2
  refine ⟨wd60 (by decide) (by decide), ?_⟩
  unfold simpleB at h
  dsimp only at h
  by_cases c1 : i % 10 < 2
  · rw [if_pos c1] at h ⊢
    exact h
  rw [if_neg c1] at h ⊢
  by_cases c2 : i % 10 < 4
  · rw [if_pos c2] at h ⊢
    exact ⟨wd60 (by decide) (by decide), pickX (f := D.str) xs "" rfl b6.1 b6x (pickX (f := Ex.d) [.lane, .mine, .lanes, nmF xs (i / 10 / 4)] .lane rfl b4.1 b4.2 h)⟩
  rw [if_neg c2] at h ⊢
  by_cases c3 : i % 10 < 6
  · rw [if_pos c3] at h ⊢
    exact ⟨_, xs, rfl, hx, h⟩
  rw [if_neg c3] at h ⊢
  refine pickX (f := fun o : Op7 => D.str o.s) [.add, .sub, .mul, .div, .rem, .lt, .eq] .add rfl b7.1 b7.2 ?_
  refine ⟨wd60 (by decide) (by decide), wd60 (by decide) (by decide), pickX (f := D.str) xs "" rfl b6'.1 b6y ?_⟩
  refine ⟨wd60 (by decide) (by decide), pickX (f := Ex.d) [Ex.num (i / 10 / 14 % 9 - 4), nmF xs (i / 10 / 14)] .lane rfl b2.1 b2.2 ?_⟩
  rw [show op7 (i / 10 % 7) = [Op7.add, .sub, .mul, .div, .rem, .lt, .eq].getD (i / 10 % 7).toNat .add from rfl] at h
  generalize [Op7.add, .sub, .mul, .div, .rem, .lt, .eq].getD (i / 10 % 7).toNat .add = w at h ⊢
  generalize [Ex.num (i / 10 / 14 % 9 - 4), nmF xs (i / 10 / 14)].getD (i / 10 / 7 % 2).toNat Ex.lane = leaf at h ⊢
  refine ⟨wd60 (by decide) (by decide), _, xs, rfl, hx, ?_⟩
  by_cases c4 : i % 10 = 6
  · rw [if_pos c4] at h ⊢
    exact h
  rw [if_neg c4] at h ⊢
  by_cases c5 : i % 10 = 7
  · rw [if_pos c5] at h ⊢
    exact h
  rw [if_neg c5] at h ⊢
  by_cases c6 : i % 10 = 8
  · rw [if_pos c6] at h ⊢
    exact h
  rw [if_neg c6] at h ⊢
  refine ⟨wd60 (by decide) (by decide), ?_⟩
  by_cases c7 : i / 10 / 9 % 2 = 0
  · rw [if_pos c7] at h ⊢
    have b3 := modB (a := i / 10 / 3) (b := 3) (by decide)
    exact ⟨wd60 (by decide) (by decide), pickX (f := fun o : Op7 => D.str o.s) [.add, .sub, .mul] .add rfl b3.1 b3.2 h⟩
  rw [if_neg c7] at h ⊢
  have b90 := modB (a := i / 10 / 90) (b := 6) (by decide)
  have b90x : i / 10 / 90 % 6 < (xs.length : Int) := by rw [hx.1]; exact b90.2
  have b18 := modB (a := i / 10 / 18) (b := 3) (by decide)
  have b5 := modB (a := i / 10 / 126) (b := 5) (by decide)
  refine ⟨wd60 (by decide) (by decide), pickX (f := D.str) xs "" rfl b90.1 b90x ⟨wd60 (by decide) (by decide), wd60 (by decide) (by decide), pickX (f := Ex.d) [Ex.lane, nmF xs (i / 10 / 90), .num (i / 10 / 90 % 33)] .lane rfl b18.1 b18.2 ⟨wd60 (by decide) (by decide), by omega, ?_⟩⟩⟩
  generalize [Ex.lane, nmF xs (i / 10 / 90), Ex.num (i / 10 / 90 % 33)].getD (i / 10 / 18 % 3).toNat Ex.lane = e0 at h ⊢
  generalize (placeB xs (i / 10 / 126)).d = dp
  refine for_any (fun j τ M1 => M1 = M ∧ ∃ v8 : Option D, τ = [some (.int i), some (.lst (xs.map .str)), some (.int (i % 10)), some (.int (i / 10)), some (.str w.s), some leaf.d, some (.tup [.str "box", dp]), some ((List.range j).foldl (towerStep w leaf (i / 10 / 630)) (.box e0)).d, v8]) ⟨rfl, none, rfl⟩ (fun _ _ _ _ => trivial) ?_ ?_
  · rintro j z τ M1 hz ⟨rfl, v8, rfl⟩
    obtain ⟨hj, rfl⟩ := rng_get hz
    rw [range_fold]
    generalize (List.range j).foldl (towerStep w leaf (i / 10 / 630)) (.box e0) = e
    walk_at "vc"
    have b2 := modB (a := i / 10 / 630 / 2 ^ j) (b := 2) (by decide)
    refine ⟨wd60 (by decide) (by decide), by omega, ?_⟩
    unfold towerStep
    rw [Int.toNat_natCast, bit_m1]
    exact pickX (f := Ex.d) [Ex.op w leaf e, .op w e leaf] e rfl b2.1 b2.2 ⟨_, rfl, rfl⟩
  · rintro τ M1 ⟨rfl, v8, rfl⟩
    rw [List.length_map, List.length_range]
    walk_at "vc"
    exact h
def spCall : SpT := fun ds M Q _ => ∃ (i : Int) (x : Str) (xs : List Str) (rs : Rm), ds = [.int i, .str x, nmD xs, .lst (rmD rs)] ∧ okNm xs ∧ okRm rs ∧ Q (callG (simpleB) xs rs x i).d M
theorem ok_l_call (T : Tp K mg) : Fn P w K mg base CX0 3 "_law_call" spCall := by
  refine fn_top T 36 e_l_call (m_l_call T) sc_l_call (by rintro _ M Q Et ⟨n, _, _, _, rfl, _⟩; rfl) (fun cdv A outer s H E hr => ⟨_, (qss_cons (qs_setLc (i := 4) (own := [(("_law_room" : Str), 9)]) (lv_lcF go_name) rfl sc_l_call.nd (qi_list (qv 3)) (blkOk_by (N := nm_l_call) (sc := defScope s_l_call) (own := [(("_law_room" : Str), 9)]) (by decide +kernel)) (fun _ _ _ _ _ => (pg_name (i := 9) sc_l_call.nd rfl (Or.inl rfl))) (fun _ _ _ _ _ => (qts_one (qt_cmp oq_ne (q_ix (qv 9) q_int) q_str))) (fun _ _ _ _ _ => (qv 9)) (sw_true rfl rfl rfl (by decide +kernel)))
 (qss_cons (qs_if (qt_cmp (oq_eqD (un64 hr)) (qv 4) (q_lst qa_nil))
  (qss_one (qs_ret (q_tup (qa_cons q_str (qa_cons (q_call (ok_l_simple T) (hr.mono (by decide)) (qa_cons (qv 0) (qa_cons (qv 2) qa_nil))) qa_nil)))))
  qss_nil)
 (qss_cons (qs_asg (q_ix (qv 4) (q_op oq_mod (qv 0) (q_callB cq_len (m_len T) (by decide +kernel) (qa_cons (qv 4) qa_nil)))) (qg_tup (n := 2) rfl (qgs_cons (qg_name (i := 5) sc_l_call.nd) (qgs_cons (qg_name (i := 6) sc_l_call.nd) qgs_nil))))
 (qss_cons (qs_set (i := 0) sc_l_call.nd (q_op oq_fdiv (qv 0) q_int))
 (qss_cons (qs_set (i := 7) sc_l_call.nd (q_lstM qa_nil))
 (qss_cons (qs_for PassesOwn.never rfl (qi_range1 (m_range T) (qa_cons (q_callB cq_len (m_len T) (by decide +kernel) (qa_cons (qv 6) qa_nil)) qa_nil)) (qg_name (i := 8) sc_l_call.nd)
  (qss_cons (qs_expr (q_append (qv 7) (qa_cons (q_call (ok_l_simple T) (hr.mono (by decide)) (qa_cons (q_op oq_mod (qv 0) (q_op oq_pow q_int q_int)) (qa_cons (qv 2) qa_nil))) qa_nil)))
 (qss_one (qs_set (i := 0) sc_l_call.nd (q_op oq_fdiv (qv 0) (q_op oq_pow q_int q_int))))))
 (qss_re (qss_one (qs_ret (q_tup (qa_cons q_str (qa_cons (qv 1) (qa_cons (qv 5) (qa_cons (qv 7) qa_nil)))))))))))))), ?_⟩) (fun _ _ _ _ _ _ us hl => match us, hl with | [_, _, _, _], _ => rfl)
  rintro _ M Q Et ⟨i, x, xs, rs, rfl, hx, ⟨hr1, hr2⟩, h⟩
  walk_at "vc"
  unfold rmD
  refine lc_filter rs (fun r => .tup [.str r.1, .lst (r.2.map .str)]) notMain (fun r => .tup [.str r.1, .lst (r.2.map .str)]) rfl ?_ ?_ (fun r R1 R0 hr h1 h0 => ?_) ?_
  · rw [PySem.sizeLine_eq]; omega
  · trivial
  · walk_at "vc"
    unfold notMain at h1 h0
    split
    · rename_i e; exact h1 (decide_eq_true e)
    · rename_i e; exact h0 (decide_eq_false e)
  have hos2 : ∀ r ∈ rs.filter notMain, r ∈ rs ∧ r.1 ≠ "main" := fun r hr => others_mem hr
  unfold callG at h
  generalize rs.filter notMain = os at hos2 h ⊢
  have okos : okDs 2 (os.map fun r => .tup [.str r.1, .lst (r.2.map .str)]) := okDs_of fun d hd => by
    obtain ⟨r, hr, rfl⟩ := List.mem_map.mp hd
    obtain ⟨q1, q2, q3⟩ := hr2 r (hos2 r hr).1
    unfold okD okDs okDs okDs
    refine ⟨by unfold okD; exact q1.2, ?_, trivial⟩
    unfold okD
    refine okDs_of fun y hy => ?_
    obtain ⟨s, hs, rfl⟩ := List.mem_map.mp hy
    unfold okD
    exact (q3 s hs).2
  walk_at "vc"
  refine eqD_nil 2 okos ?_
  walk_at "vc"
  dsimp only at h
  split
  · rename_i he
    rw [if_pos (List.map_eq_nil_iff.mp he)] at h
    exact ⟨i, xs, rfl, hx, h⟩
  · rename_i hne
    have hne2 : os ≠ [] := fun z => hne (by rw [z]; rfl)
    rw [if_neg hne2] at h
    have hlen : 0 < os.length := List.length_pos_iff.mpr hne2
    have bm := modB (a := i) (b := (os.length : Int)) (by omega)
    have hm := pick_others (i := i) hne2
    rw [atI_mapD (f := fun r : Str × List Str => D.tup [.str r.1, .lst (r.2.map .str)]) (xs := os) ("", []) bm.1 bm.2]
    generalize os.getD (i % (os.length : Int)).toNat ("", []) = o at hm h ⊢
    obtain ⟨f, ps⟩ := o
    obtain ⟨q1, q2, q3⟩ := hr2 _ (hos2 _ hm).1
    dsimp only at q1 q2 q3 h
    refine ⟨by omega, ?_⟩
    walk_at "vc"
    refine ⟨wd60 (by decide) (by decide), fun p hp => ⟨by omega, ?_⟩⟩
    refine for_any (fun j τ M1 => M1 = mup M p (.lst ((argsG (simpleB) xs (i / 3) j).1.map Ex.d)) ∧ ∃ (v9 : Option D), τ = [some (.int (argsG (simpleB) xs (i / 3) j).2), some (.str x), some (nmD xs), some (.lst (rs.map fun r => .tup [.str r.1, .lst (r.2.map .str)])), some (.lst (os.map fun r => .tup [.str r.1, .lst (r.2.map .str)])), some (.str f), some (.lst (ps.map .str)), some (.ref p), v9, none]) ⟨rfl, none, rfl⟩ (fun _ _ _ _ => trivial) ?_ ?_
    · rintro j z τ M1 hz ⟨rfl, v9, rfl⟩
      obtain ⟨hj, rfl⟩ := rng_get hz
      have hj : j < ((ps.length : Nat) : Int).toNat := hj
      have hP : (10 : Int) ^ Int.toNat 4 = 10000 := by decide +kernel
      have hstep : argsG (simpleB) xs (i / 3) (j + 1) = argStepG (simpleB) xs (argsG (simpleB) xs (i / 3) j) j := range_fold ..
      have hl := (argsG_ok (fun xs i (h : okNm xs) => simpleB_ok h i) hx (i / 3) j).1
      rw [hstep]
      generalize argsG (simpleB) xs (i / 3) j = s at hl ⊢
      obtain ⟨es, r⟩ := s
      unfold argStepG
      dsimp only at hl ⊢
      have b1 := modB (a := r) (b := 1000) (by decide)
      walk_at "vc"
      rw [hP]
      refine ⟨pow_bit 4 (by decide), by decide, _, xs, rfl, hx, ?_⟩
      walk_at "vc"
      try rw [hP]
      refine ⟨by omega, pow_bit 4 (by decide), wd60 (by decide) (by decide), by rw [List.map_append]; rfl, _, rfl⟩
    · rintro τ M1 ⟨rfl, v9, rfl⟩
      rw [show (List.map (fun i : Nat => D.int ↑i) (List.range (Int.toNat ((ps.length : Nat) : Int)))).length = ps.length from by simp]
      refine ⟨_, _, (ReS.freeze (i := 7) (a := p) (ds := (argsG (simpleB) xs (i / 3) ps.length).1.map Ex.d) rfl mup_same).trans (ReS.drop (M' := M) (by rw [mdel_mup hp]; exact fun _ _ e => e)), ?_⟩
      walk_at "vc"
      exact h
def spOp : SpT := fun ds M Q _ => ∃ (i : Int) (xs : List Str) (rs : Rm), ds = [.int i, nmD xs, .lst (rmD rs)] ∧ okNm xs ∧ okRm rs ∧ Q ((opG placeB simpleB) xs rs i).d M
theorem ok_l_op (T : Tp K mg) : Fn P w K mg base CX0 4 "_law_op" spOp := by
  refine fn_top T 37 e_l_op (m_l_op T) sc_l_op (by rintro _ M Q Et ⟨n, _, _, rfl, _⟩; rfl) (fun cdv A outer s H E hr => ⟨_, (qss_cons (qs_set (i := 3) sc_l_op.nd (q_op oq_mod (qv 0) q_int))
 (qss_cons (qs_set (i := 4) sc_l_op.nd (q_ix (qv 1) (q_op oq_mod (q_op oq_fdiv (qv 0) q_int) q_int)))
 (qss_cons (qs_set (i := 5) sc_l_op.nd (q_op oq_fdiv (qv 0) q_int))
 (qss_cons (qs_if (qt_cmp oq_lt (qv 3) q_int)
  (qss_one (qs_ret (q_tup (qa_cons q_str (qa_cons (qv 4) (qa_cons (q_call (ok_l_simple T) (hr.mono (by decide)) (qa_cons (qv 5) (qa_cons (qv 1) qa_nil))) qa_nil))))))
  qss_nil)
 (qss_cons (qs_if (qt_cmp oq_lt (qv 3) q_int)
  (qss_one (qs_ret (q_tup (qa_cons q_str (qa_cons (q_call (ok_l_place T) (hr.mono (by decide)) (qa_cons (q_op oq_mod (qv 5) (q_op oq_pow q_int q_int)) (qa_cons (qv 1) qa_nil))) (qa_cons (q_call (ok_l_simple T) (hr.mono (by decide)) (qa_cons (q_op oq_fdiv (qv 5) (q_op oq_pow q_int q_int)) (qa_cons (qv 1) qa_nil))) qa_nil))))))
  qss_nil)
 (qss_cons (qs_if (qt_cmp oq_lt (qv 3) q_int)
  (qss_one (qs_ret (q_tup (qa_cons (q_ix (q_lst (qa_cons q_str (qa_cons q_str (qa_cons q_str qa_nil)))) (q_op oq_sub (qv 3) q_int)) (qa_cons (q_call (ok_l_simple T) (hr.mono (by decide)) (qa_cons (qv 5) (qa_cons (qv 1) qa_nil))) qa_nil)))))
  qss_nil)
 (qss_cons (qs_if (qt_cmp oq_lt (qv 3) q_int)
  (qss_one (qs_ret (q_tup (qa_cons (q_ix (q_lst (qa_lits (ds := [.str "end", .str "end", .str "end", .str "else"]) rfl)) (q_op oq_sub (qv 3) q_int)) qa_nil))))
  qss_nil)
 (qss_cons (qs_if (qt_cmp oq_lt (qv 3) q_int)
  (qss_one (qs_ret (q_tup (qa_cons (q_ix (q_lst (qa_lits (ds := [.str "break", .str "again", .str "meet", .str "meet", .str "stop"]) rfl)) (q_op oq_sub (qv 3) q_int)) qa_nil))))
  qss_nil)
 (qss_cons (qs_if (qt_cmp oq_lt (qv 3) q_int)
  (qss_one (qs_ret (q_tup (qa_cons (q_ix (q_lst (qa_cons q_str (qa_cons q_str qa_nil))) (q_op oq_sub (qv 3) q_int)) (qa_cons (q_call (ok_l_simple T) (hr.mono (by decide)) (qa_cons (qv 5) (qa_cons (qv 1) qa_nil))) qa_nil)))))
  qss_nil)
 (qss_cons (qs_if (qt_cmp oq_eq (qv 3) q_int)
  (qss_one (qs_ret (q_tup (qa_cons q_str (qa_cons (qv 4) (qa_cons (q_ix (q_lst (qa_lits (ds := [.str "sum", .str "most", .str "least", .str "ahead"]) rfl)) (q_op oq_mod (qv 5) q_int)) (qa_cons (q_call (ok_l_simple T) (hr.mono (by decide)) (qa_cons (q_op oq_fdiv (qv 5) q_int) (qa_cons (qv 1) qa_nil))) qa_nil)))))))
  qss_nil)
 (qss_one (qs_ret (q_call (ok_l_call T) (hr.mono (by decide)) (qa_cons (qv 5) (qa_cons (qv 4) (qa_cons (qv 1) (qa_cons (qv 2) qa_nil))))))))))))))))), ?_⟩) (fun _ _ _ _ _ _ us hl => match us, hl with | [_, _, _], _ => rfl)
  rintro _ M Q Et ⟨i, xs, rs, rfl, hx, hr, h⟩
  have b6 := modB (a := i / 24) (b := 6) (by decide)
  have e6 := atI_mapD (f := D.str) (xs := xs) "" b6.1 (by rw [hx.1]; exact b6.2)
  unfold opG at h
  dsimp only at h
  unfold nmD
  walk_at "vc"
  simp only [e6]
  walk_at "vc"
  generalize xs.getD (i / 24 % 6).toNat "" = x at h ⊢
  have bi := modB (a := i) (b := 24) (by decide)
  have hP : (10 : Int) ^ Int.toNat 12 = 1000000000000 := by decide +kernel
  refine ⟨wd60 (by decide) (by decide), wd60 (by decide) (by decide), ?_⟩
  by_cases c1 : i % 24 < 3
  · rw [if_pos c1] at h ⊢
    exact ⟨_, xs, rfl, hx, h⟩
  rw [if_neg c1] at h ⊢
  by_cases c2 : i % 24 < 7
  · rw [if_pos c2] at h ⊢
    rw [hP]
    exact ⟨pow_bit 12 (by decide), by decide, _, xs, rfl, hx, pow_bit 12 (by decide), wd60 (by decide) (by decide), _, xs, rfl, hx, h⟩
  rw [if_neg c2] at h ⊢
  by_cases c3 : i % 24 < 10
  · rw [if_pos c3] at h ⊢
    rcases (show i % 24 = 7 ∨ i % 24 = 8 ∨ i % 24 = 9 from by omega) with e | e | e <;> rw [e] at h ⊢ <;> exact ⟨_, xs, rfl, hx, h⟩
  rw [if_neg c3] at h ⊢
  by_cases c4 : i % 24 < 14
  · rw [if_pos c4] at h ⊢
    rcases (show i % 24 = 10 ∨ i % 24 = 11 ∨ i % 24 = 12 ∨ i % 24 = 13 from by omega) with e | e | e | e <;> rw [e] at h ⊢ <;> exact h
  rw [if_neg c4] at h ⊢
  by_cases c5 : i % 24 < 19
  · rw [if_pos c5] at h ⊢
    rcases (show i % 24 = 14 ∨ i % 24 = 15 ∨ i % 24 = 16 ∨ i % 24 = 17 ∨ i % 24 = 18 from by omega) with e | e | e | e | e <;> rw [e] at h ⊢ <;> exact h
  rw [if_neg c5] at h ⊢
  by_cases c6 : i % 24 < 21
  · rw [if_pos c6] at h ⊢
    rcases (show i % 24 = 19 ∨ i % 24 = 20 from by omega) with e | e <;> rw [e] at h ⊢ <;> exact ⟨_, xs, rfl, hx, h⟩
  rw [if_neg c6] at h ⊢
  by_cases c7 : i % 24 = 21
  · rw [if_pos c7] at h ⊢
    have b4 := modB (a := i / 144) (b := 4) (by decide)
    exact pickX (f := D.str) sumsL "" rfl b4.1 b4.2 ⟨wd60 (by decide) (by decide), _, xs, rfl, hx, h⟩
  · rw [if_neg c7] at h ⊢
    exact ⟨_, _, xs, rs, rfl, hx, hr, h⟩
def spClosed : SpT := fun ds M Q _ => ∃ (f : Fr) (outer : Addr) (M0 : MH) (pre post : List (Addr × MO)), ds = [.ref f.at_] ∧ Cel M0 M (pre ++ (f.cells outer ++ post)) ∧ ∀ M', Cel M0 M' (pre ++ post) → Q f.close.d M'
theorem ok_l_closed_up (T : Tp K mg) : Fn P w K mg base CX0 1 "_law_closed_up" spClosed := by
  refine fn_top T 38 e_l_closed_up (m_l_closed_up T) sc_l_closed_up (by rintro _ M Q Et ⟨n, _, _, _, _, rfl, _⟩; rfl) (fun cdv A outer s H E hr => ⟨_, (qss_cons (qs_if (qt_cmp oq_eq (q_ix (qv 0) q_int) q_str)
  (qss_one (qs_ret (q_re (q_tup (qa_cons q_str (qa_cons (q_ix (qv 0) q_int) (qa_cons (q_ix (qv 0) q_int) (qa_cons (q_ix (qv 0) q_int) (qa_cons (q_ix (qv 0) q_int) qa_nil)))))))))
  qss_nil)
 (qss_one (qs_ret (q_re (q_tup (qa_cons q_str (qa_cons (q_ix (qv 0) q_int) (qa_cons (q_ix (qv 0) q_int) (qa_cons (q_ix (qv 0) q_int) qa_nil))))))))), ?_⟩) (fun _ _ _ _ _ _ us hl => match us, hl with | [_], _ => rfl)
  rintro _ M Q Et ⟨f, outer', M0, pre, post, rfl, hc, h⟩
  have hM := hc.at_ (f.at_, .lst [.str f.word, .int f.l, f.e.d, .ref outer', .ref f.body, elsD f.els]) (by simp [Fr.cells, Fr.row])
  have hb := hc.at_ (f.body, .lst (stD f.bs)) (by simp [Fr.cells, Fr.row])
  dsimp only at hM hb
  have hl : lstOf M (.ref f.at_) = some [.str f.word, .int f.l, f.e.d, .ref outer', .ref f.body, elsD f.els] := lstOf_of hM
  obtain ⟨fa, wh, l, e, body, bs, els⟩ := f
  dsimp only at hM hb hl
  unfold Fr.cells Fr.row at hc
  unfold Fr.close at h
  unfold Fr.word at hl
  dsimp only at hc h hl
  walk_at "vc"
  simp only [hl]
  walk_at "vc"
  cases wh with
  | true =>
    have h : ∀ M', Cel M0 M' (pre ++ post) → Q (.tup [.str "while", .int l, e.d, .lst (stD bs)]) M' := h
    walk_at "vc"
    refine ⟨_, _, ReR.tup_freeze [.str (Str.ofString "while"), .int l, e.d] [] hb, h _ ?_⟩
    have c2 := hc.forget
    cases els with
    | none => exact (show Cel M0 M (pre ++ (body, .lst (stD bs)) :: post) from c2).del
    | some x => exact (show Cel M0 M (pre ++ (body, .lst (stD bs)) :: ((x.1, .lst (stD x.2)) :: post)) from c2).del.forget
  | false =>
    walk_at "vc"
    cases els with
    | none =>
      have h : ∀ M', Cel M0 M' (pre ++ post) → Q (.tup [.str "if", .int l, e.d, .lst (stD bs), .non]) M' := h
      refine ⟨_, _, ReR.tup_freeze [.str (Str.ofString "if"), .int l, e.d] [.non] hb, h _ ?_⟩
      have c2 := hc.forget
      exact (show Cel M0 M (pre ++ (body, .lst (stD bs)) :: post) from c2).del
    | some x =>
      have h : ∀ M', Cel M0 M' (pre ++ post) → Q (.tup [.str "if", .int l, e.d, .lst (stD bs), .lst (stD x.2)]) M' := h
      have c2 := hc.forget
      have c3 := (show Cel M0 M (pre ++ (body, .lst (stD bs)) :: ((x.1, .lst (stD x.2)) :: post)) from c2).del
      have hx := c3.here
      refine ⟨_, _, (ReR.tup_freeze [.str (Str.ofString "if"), .int l, e.d] [.ref x.1] hb).trans (ReR.tup_freeze [.str (Str.ofString "if"), .int l, e.d, .lst (stD bs)] [] hx), h _ c3.del⟩
def isFr (M : MH) (f : Fr) : Prop := ∃ outer, M f.at_ = some (.lst [.str f.word, .int f.l, f.e.d, .ref outer, .ref f.body, elsD f.els])
def spMayStand : SpT := fun ds M Q _ => ∃ (o : Od) (pile : Addr) (stk : List Fr) (main : Bool), ds = [o.d, .ref pile, .bl main] ∧ M pile = some (.lst (stk.reverse.map fun f => .ref f.at_)) ∧ stk.length ≤ 5 ∧ (∀ f ∈ stk, isFr M f) ∧ Q (.bl (standF o (stk.map Fr.p) main)) M
theorem ok_l_may_stand (T : Tp K mg) : Fn P w K mg base CX0 1 "_law_may_stand" spMayStand := by
  refine fn_top T 39 e_l_may_stand (m_l_may_stand T) sc_l_may_stand (by rintro _ M Q Et ⟨n, _, _, _, rfl, _⟩; rfl) (fun cdv A outer s H E hr => ⟨_, (qss_cons (qs_if (qt_w (qw_or (qt_cmp oq_eq (q_ix (qv 0) q_int) q_str) (qw_or1 (qt_cmp oq_eq (q_ix (qv 0) q_int) q_str))))
  (qss_one (qs_ret (q_callB (cq_any rfl) (m_any T) (by decide +kernel) (qa_cons (q_lc rfl sc_l_may_stand.nd (qi_list (qv 1)) (blkOk_by (N := nm_l_may_stand) (sc := defScope s_l_may_stand) (own := [(("_law_frame" : Str), 3)]) (by decide +kernel)) go_name (fun _ _ _ _ _ => (pg_name (i := 3) sc_l_may_stand.nd rfl (Or.inl rfl))) (fun _ _ _ _ _ => qts_nil) (fun _ _ _ _ _ => (q_cmp oq_eq (q_ix (qv 3) q_int) q_str))) qa_nil))))
  qss_nil)
 (qss_cons (qs_if (qt_cmp oq_eq (q_ix (qv 0) q_int) q_str)
  (qss_one (qs_ret (q_and (q_cmp (oq_neE (un64 hr)) (qv 1) (q_lst qa_nil)) (q_and (q_cmp oq_eq (q_ix (q_ix (qv 1) (q_un uq_neg q_int)) q_int) q_str) (q_one (q_cmp oq_isN (q_ix (q_ix (qv 1) (q_un uq_neg q_int)) q_int) q_non))))))
  qss_nil)
 (qss_cons (qs_if (qt_cmp oq_eq (q_ix (qv 0) q_int) q_str)
  (qss_one (qs_ret (q_cmp (oq_neE (un64 hr)) (qv 1) (q_lst qa_nil))))
  qss_nil)
 (qss_cons (qs_if (qt_w (qw_or (qt_cmp oq_eq (q_ix (qv 0) q_int) q_str) (qw_or1 (qt_cmp oq_eq (q_ix (qv 0) q_int) q_str))))
  (qss_one (qs_ret (q_cmp oq_lt (q_callB cq_len (m_len T) (by decide +kernel) (qa_cons (qv 1) qa_nil)) q_int)))
  qss_nil)
 (qss_one (qs_ret (q_or (q_cmp oq_ne (q_ix (qv 0) q_int) q_str) (q_one (q_not (qv 2)))))))))), ?_⟩) (fun _ _ _ _ _ _ us hl => match us, hl with | [_, _, _], _ => rfl)
  rintro _ M Q Et ⟨o, pile, stk, main, rfl, hp, h5, hf, h⟩
  have hl := lstOf_of hp
  unfold Od.d
  walk_at "vc"
  have wordw : ∀ f : Fr, decide (f.word = Str.ofString "while") = f.wh := fun f => by
    unfold Fr.word
    cases f.wh <;> simp [ofS_inj]
  have wordi : ∀ f : Fr, decide (f.word = Str.ofString "if") = !f.wh := fun f => by
    unfold Fr.word
    cases f.wh <;> simp [ofS_inj]
  have hlen := lenOf_of hp
  have hll : (stk.reverse.map fun f => D.ref f.at_).length = stk.length := by simp
  rw [hll] at hlen
  cases o with
  | brk =>
    simp only [Od.word]
    walk_at "vc"
    simp only [hl, oSome_i]
    refine lc_map stk.reverse (fun f => .ref f.at_) (fun f => .bl f.wh) rfl (by rw [sizeLine_eq, List.length_reverse]; omega) hl (fun f R1 R0 hfm h1 => ?_) ?_
    · obtain ⟨outer, hfr⟩ := hf f (List.mem_reverse.mp hfm)
      walk_at "vc"
      simp only [lstOf_of hfr]
      walk_at "vc"
      rw [wordw]
      exact h1
    · have e : (stk.reverse.map fun f => D.bl f.wh) = (stk.reverse.map Fr.wh).map D.bl := by rw [List.map_map]; rfl
      rw [e]
      simp only [blLst_l, oSome_i]
      have e2 : ∀ b : Bool, ((stk.map Fr.p).any fun f => f.wh) = b → Q (.bl b) M := fun b hb => by rw [← hb]; exact h
      refine e2 _ ?_
      rw [List.any_map, List.any_map, Bool.eq_iff_iff, List.any_eq_true, List.any_eq_true]
      exact ⟨fun ⟨f, hf, q⟩ => ⟨f, List.mem_reverse.mpr hf, q⟩, fun ⟨f, hf, q⟩ => ⟨f, List.mem_reverse.mp hf, q⟩⟩
  | agn =>
    simp only [Od.word]
    walk_at "vc"
    simp only [hl, oSome_i]
    refine lc_map stk.reverse (fun f => .ref f.at_) (fun f => .bl f.wh) rfl (by rw [sizeLine_eq, List.length_reverse]; omega) hl (fun f R1 R0 hfm h1 => ?_) ?_
    · obtain ⟨outer, hfr⟩ := hf f (List.mem_reverse.mp hfm)
      walk_at "vc"
      simp only [lstOf_of hfr]
      walk_at "vc"
      rw [wordw]
      exact h1
    · have e : (stk.reverse.map fun f => D.bl f.wh) = (stk.reverse.map Fr.wh).map D.bl := by rw [List.map_map]; rfl
      rw [e]
      simp only [blLst_l, oSome_i]
      have e2 : ∀ b : Bool, ((stk.map Fr.p).any fun f => f.wh) = b → Q (.bl b) M := fun b hb => by rw [← hb]; exact h
      refine e2 _ ?_
      rw [List.any_map, List.any_map, Bool.eq_iff_iff, List.any_eq_true, List.any_eq_true]
      exact ⟨fun ⟨f, hf, q⟩ => ⟨f, List.mem_reverse.mpr hf, q⟩, fun ⟨f, hf, q⟩ => ⟨f, List.mem_reverse.mp hf, q⟩⟩
  | els =>
    simp only [Od.word]
    walk_at "vc"
    refine eqE hl ?_
    cases stk with
    | nil =>
      walk_at "vc"
      exact h
    | cons f r =>
      obtain ⟨outer, hfr⟩ := hf f (List.mem_cons_self ..)
      rw [if_neg (by simp)]
      walk_at "vc"
      rw [List.reverse_cons, List.map_append] at hl
      have hat : atI (r.reverse.map (fun f => D.ref f.at_) ++ [f].map (fun f => D.ref f.at_)) (-1) = some (D.ref f.at_) := atI_last _ _
      simp only [List.reverse_cons, List.map_append, hl, oSome_i, hat]
      walk_at "vc"
      simp only [lstOf_of hfr]
      walk_at "vc"
      split
      · rename_i e
        have ew : f.wh = false := by
          have := wordi f
          rw [decide_eq_true e] at this
          cases hq : f.wh with
          | false => rfl
          | true => rw [hq] at this; cases this
        simp only [List.reverse_cons, List.map_append, hl, oSome_i, hat]
        walk_at "vc"
        simp only [lstOf_of hfr]
        walk_at "vc"
        have h : Q (.bl (!f.wh && f.p.els.isNone)) M := h
        rw [ew] at h
        have e3 : isNonD (elsD f.els) = (!false && f.p.els.isNone) := by
          obtain ⟨fa, wh, l, e, body, bs, els⟩ := f
          cases els <;> rfl
        rw [e3]
        exact h
      · rename_i e
        have h : Q (.bl (!f.wh && f.p.els.isNone)) M := h
        have ew : f.wh = true := by
          have := wordi f
          rw [decide_eq_false e] at this
          cases hq : f.wh with
          | true => rfl
          | false => rw [hq] at this; cases this
        rw [ew] at h
        exact h
  | fin =>
    simp only [Od.word]
    walk_at "vc"
    refine eqE hl ?_
    cases stk with
    | nil => exact h
    | cons f r =>
      rw [if_neg (by simp)]
      exact h
  | ifo e =>
    simp only [Od.word]
    walk_at "vc"
    simp only [hlen, oSome_i]
    have e3 : decide ((stk.length : Int) < 5) = decide ((stk.map Fr.p).length < 5) := by
      rw [List.length_map]
      exact decide_eq_decide.mpr (by omega)
    rw [e3]
    exact h
  | whl e =>
    simp only [Od.word]
    walk_at "vc"
    simp only [hlen, oSome_i]
    have e3 : decide ((stk.length : Int) < 5) = decide ((stk.map Fr.p).length < 5) := by
      rw [List.length_map]
      exact decide_eq_decide.mpr (by omega)
    rw [e3]
    exact h
  | ret e =>
    simp only [Od.word]
    walk_at "vc"
    exact h
  | _ =>
    simp only [Od.word]
    walk_at "vc"
    exact h
end
end K37
namespace K37
open PySem PySem.Spec PyProof.Rows L2 Tl
section
variable {P : Program} {w : World} {K : PySem.W.Frag} {mg : Str → Option Value} {base : Heap}
def spLaid : SpT := fun ds M Q _ => ∃ (os : List Od) (l : Int) (main : Bool), ds = [.lst (os.map Od.d), .int l, .bl main] ∧ os.length ≤ 100 ∧ Q (.tup [.lst (stD (laidF main os l).1), .int (laidF main os l).2]) M
theorem ok_l_laid (T : Tp K mg) : Fn P w K mg base CX0 2 "_law_laid" spLaid := by
  refine fn_top T 40 e_l_laid (m_l_laid T) sc_l_laid (by rintro _ M Q Et ⟨n, _, _, rfl, _⟩; rfl) (fun cdv A outer s H E hr => ⟨_, (qss_cons (qs_set (i := 3) sc_l_laid.nd (q_lstM qa_nil))
 (qss_cons (qs_set (i := 4) sc_l_laid.nd (qv 3))
 (qss_cons (qs_set (i := 5) sc_l_laid.nd (q_lstM qa_nil))
 (qss_cons (qs_for PassesOwn.never rfl (qi_list (q_op oq_catL (qv 0) (q_op oq_rep (q_lst (qa_cons (q_tup (qa_cons q_str qa_nil)) qa_nil)) q_int))) (qg_name (i := 6) sc_l_laid.nd)
  (qss_cons (qs_if (qt_not (qt_val (q_call (ok_l_may_stand T) (hr.mono (by decide)) (qa_cons (qv 6) (qa_cons (qv 5) (qa_cons (qv 2) qa_nil))))))
  (qss_one qs_continue)
  qss_nil)
 (qss_cons (qs_set (i := 1) sc_l_laid.nd (q_op oq_addI (qv 1) q_int))
 (qss_one (qs_if (qt_cmp oq_eq (q_ix (qv 6) q_int) q_str)
  (qss_cons (qs_set (i := 7) sc_l_laid.nd (q_pop (qv 5)))
 (qss_cons (qs_set (i := 4) sc_l_laid.nd (q_ix (qv 7) q_int))
 (qss_one (qs_expr (q_append (qv 4) (qa_cons (q_call (ok_l_closed_up T) (hr.mono (by decide)) (qa_cons (qv 7) qa_nil)) qa_nil))))))
  (qss_one (qs_if (qt_cmp oq_eq (q_ix (qv 6) q_int) q_str)
  (qss_cons (qs_set (i := 7) sc_l_laid.nd (q_ix (qv 5) (q_un uq_neg q_int)))
 (qss_cons (qs_asg (q_lstM qa_nil) (qg_sub (qv 7) q_int sq_list))
 (qss_one (qs_set (i := 4) sc_l_laid.nd (q_ix (qv 7) q_int)))))
  (qss_one (qs_if (qt_w (qw_or (qt_cmp oq_eq (q_ix (qv 6) q_int) q_str) (qw_or1 (qt_cmp oq_eq (q_ix (qv 6) q_int) q_str))))
  (qss_cons (qs_set (i := 7) sc_l_laid.nd (q_lstM (qa_cons (q_ix (qv 6) q_int) (qa_cons (qv 1) (qa_cons (q_ix (qv 6) q_int) (qa_cons (qv 4) (qa_cons (q_lstM qa_nil) (qa_cons q_non qa_nil))))))))
 (qss_cons (qs_expr (q_append (qv 5) (qa_cons (qv 7) qa_nil)))
 (qss_one (qs_set (i := 4) sc_l_laid.nd (q_ix (qv 7) q_int)))))
  (qss_one (qs_expr (q_append (qv 4) (qa_cons (q_op oq_catT (q_tup (qa_cons (q_ix (qv 6) q_int) (qa_cons (qv 1) qa_nil))) (q_sliceT (qv 6) (qo_some q_int) qo_none)) qa_nil)))))))))))))
 (qss_re (qss_one (qs_ret (q_tup (qa_cons (qv 3) (qa_cons (q_op oq_addI (qv 1) q_int) qa_nil)))))))))), ?_⟩) (fun _ _ _ _ _ _ us hl => match us, hl with | [_, _, _], _ => rfl)
  rintro _ M Q Et ⟨os, l, main, rfl, hl, h⟩
  walk_at "vc"
  intro p hp q hq
  have c0 : Cel M (mup (mup M p (.lst [])) q (.lst [])) [(q, .lst []), (p, .lst [])] := (Cel.nil.fresh hp).fresh hq
  generalize mup (mup M p (.lst [])) q (.lst []) = M1 at c0 ⊢
  have hfive : (List.replicate (Int.toNat 5) [D.tup [D.str (Str.ofString "end")]]).flatten = (List.replicate 5 Od.fin).map Od.d := rfl
  rw [hfive]
  refine ⟨by simp; omega, ?_⟩
  refine for_map (os ++ List.replicate 5 Od.fin) Od.d (by rw [List.map_append]) (fun ys τ M2 => ∃ (stk : List Fr) (b0 : List Sm) (l2 : Int) (v6 v7 : Option D), Cel M M2 ((q, .lst (stk.reverse.map fun f => .ref f.at_)) :: cellsOf p b0 stk) ∧ laidS main ys l = ⟨b0, stk.map Fr.p, l2⟩ ∧ stkLen ys.length b0 stk ∧ stk.length ≤ 5 ∧
    τ = [some (.lst (os.map Od.d)), some (.int l2), some (.bl main), some (.ref p), some (.ref (hereOf p stk)), some (.ref q), v6, v7])
    ⟨[], [], l, none, none, by rw [cellsOf, show stD [] = [] from by unfold stD; rfl]; exact c0, rfl, ⟨Nat.le_refl _, fun f hf => (by cases hf)⟩, Nat.zero_le _, rfl⟩ (fun _ _ _ _ => trivial) ?_ ?_
  · rintro ys x zs τ M2 Nx hx ⟨stk, b0, l2, v6, v7, hc, hok, hsl, h5, rfl⟩ hN
    have hnx : laidS main (ys ++ [x]) l = laidStep main ⟨b0, stk.map Fr.p, l2⟩ x := by
      rw [← hok]; unfold laidS; rw [List.foldl_append]; rfl
    unfold laidStep at hnx
    dsimp only at hnx
    have hfr : ∀ f ∈ stk, isFr M2 f := fun f hf => by
      obtain ⟨o, hm⟩ := cells_fr (base := p) (b0 := b0) hf
      exact ⟨o, hc.at_ _ (List.mem_cons_of_mem _ hm)⟩
    walk_at "vc"
    refine ⟨x, q, stk, main, rfl, hc.at_ _ (List.mem_cons_self ..), h5, hfr, ?_⟩
    walk_at "vc"
    cases hst : standF x (stk.map Fr.p) main with
    | false =>
      walk_at "vc"
      rw [hst, if_neg Bool.false_ne_true] at hnx
      exact hN _ _ ⟨stk, b0, l2, _, _, hc, hnx, stkLen_mono hsl (by simp), h5, rfl⟩
    | true =>
      rw [hst, if_pos rfl] at hnx
      have hyl : ys.length ≤ 105 := by
        have := congrArg List.length hx
        simp only [List.length_append, List.length_replicate, List.length_cons] at this
        omega
      obtain ⟨pre, post, cur, hcl, e1, e2⟩ := cells_here (base := p) (b0 := b0) (stk := stk)
      have hcur := hcl _ hsl
      have hc' : Cel M M2 (((q, .lst (stk.reverse.map fun f => .ref f.at_)) :: pre) ++ (hereOf p stk, .lst (stD cur)) :: post) := by rw [e1] at hc; exact hc
      have hap := hc'.here
      have plain : ∀ s : Sm, laidGo ⟨b0, stk.map Fr.p, l2⟩ x = ⟨(addP s b0 (stk.map Fr.p)).1, (addP s b0 (stk.map Fr.p)).2, l2 + 1⟩ → ∀ v6 v7, (lstOf M2 (.ref (hereOf p stk))).isSome = true ∧ oSome (mLst M2 (hereOf p stk)) fun ds => ds.length < 16777216 ∧
          Nx [some (.lst (os.map Od.d)), some (.int (l2 + 1)), some (.bl main), some (.ref p), some (.ref (hereOf p stk)), some (.ref q), v6, v7] (mup M2 (hereOf p stk) (.lst (ds ++ [s.d]))) := fun s hs v6 v7 => by
        rw [lstOf_of hap, mLst_of hap]
        refine ⟨rfl, ?_⟩
        simp only [oSome_i]
        refine ⟨by rw [stD_len]; omega, hN _ _ ⟨(addTo s b0 stk).2, (addTo s b0 stk).1, l2 + 1, v6, v7, ?_, by rw [hnx, hs, addTo_p1, addTo_p2], ?_, by rw [addTo_len]; exact h5, by rw [addTo_here]⟩⟩
        · have e3 : stD cur ++ [s.d] = stD (cur ++ [s]) := by rw [stD_app]; congr 1
          have e4 : ((addTo s b0 stk).2.reverse.map fun f => D.ref f.at_) = stk.reverse.map fun f => D.ref f.at_ := by
            rw [List.map_reverse, List.map_reverse, show (fun f : Fr => D.ref f.at_) = D.ref ∘ (fun f : Fr => f.at_) from rfl, ← List.map_map, ← List.map_map, addTo_at]
          rw [e2 s, e3, e4]
          exact hc'.put
        · rw [List.length_append]
          exact addTo_stkLen hsl
      cases x with
      | brk =>
        simp only [Od.d, Od.word, Od.rest]
        walk_at "vc"
        exact plain (.brk (l2 + 1)) rfl _ _
      | agn =>
        simp only [Od.d, Od.word, Od.rest]
        walk_at "vc"
        exact plain (.agn (l2 + 1)) rfl _ _
      | meet =>
        simp only [Od.d, Od.word, Od.rest]
        walk_at "vc"
        exact plain (.meet (l2 + 1)) rfl _ _
      | stop =>
        simp only [Od.d, Od.word, Od.rest]
        walk_at "vc"
        exact plain (.stop (l2 + 1)) rfl _ _
      | set x e =>
        simp only [Od.d, Od.word, Od.rest]
        walk_at "vc"
        exact plain (.set (l2 + 1) x e) rfl _ _
      | tell e =>
        simp only [Od.d, Od.word, Od.rest]
        walk_at "vc"
        exact plain (.tell (l2 + 1) e) rfl _ _
      | ret e =>
        simp only [Od.d, Od.word, Od.rest]
        walk_at "vc"
        exact plain (.ret (l2 + 1) e) rfl _ _
      | put e1 e2x =>
        simp only [Od.d, Od.word, Od.rest]
        walk_at "vc"
        exact plain (.put (l2 + 1) e1 e2x) rfl _ _
      | join x z e =>
        simp only [Od.d, Od.word, Od.rest]
        walk_at "vc"
        exact plain (.join (l2 + 1) x z e) rfl _ _
      | call x f es =>
        simp only [Od.d, Od.word, Od.rest]
        walk_at "vc"
        exact plain (.call (l2 + 1) x f es) rfl _ _
      | fin =>
        simp only [Od.d, Od.word, Od.rest]
        walk_at "vc"
        cases stk with
        | nil => cases hst
        | cons f r =>
          have hq2 := hc.at_ _ (List.mem_cons_self ..)
          dsimp only at hq2
          rw [List.reverse_cons, List.map_append] at hq2
          have cq : Cel M (mup M2 q (.lst (r.reverse.map fun f => .ref f.at_))) ([(q, .lst (r.reverse.map fun f => .ref f.at_))] ++ (f.cells (hereOf p r) ++ cellsOf p b0 r)) := Cel.put (pre := []) (post := cellsOf p b0 (f :: r)) hc
          have hfr2 := cq.at_ (f.at_, f.row (hereOf p r)) (by simp [Fr.cells])
          unfold Fr.row at hfr2
          dsimp only at hfr2
          rw [lstOf_of hq2, mLst_of hq2]
          refine ⟨rfl, ?_⟩
          simp only [oSome_i, List.map_cons, List.map_nil, List.getLast?_concat, List.dropLast_concat]
          simp only [uIx_r, lstOf_of hfr2, oSome_i, atI_3]
          obtain ⟨pre2, post2, cur2, hcl2, e3, e4⟩ := cells_here (base := p) (b0 := b0) (stk := r)
          have hcx := cq.at_ (hereOf p r, .lst (stD cur2)) (by rw [e3]; simp)
          refine ⟨by rw [lstOf_of hcx]; rfl, f, hereOf p r, M, _, _, rfl, cq, fun M' hc3 => ?_⟩
          have hc4 : Cel M M' (((q, .lst (r.reverse.map fun f => .ref f.at_)) :: pre2) ++ (hereOf p r, .lst (stD cur2)) :: post2) := by rw [e3] at hc3; exact hc3
          have hr2 : stkLen ys.length b0 r := ⟨hsl.1, fun g hg => hsl.2 g (List.mem_cons_of_mem _ hg)⟩
          have hcl3 := hcl2 _ hr2
          dsimp only
          rw [uAppend, mLst_of hc4.here]
          refine ⟨by rw [stD_len]; omega, hN _ _ ⟨(addTo f.close b0 r).2, (addTo f.close b0 r).1, l2 + 1, _, _, ?_, by rw [hnx, ← addTo_p1, ← addTo_p2, ← close_p]; rfl, ?_, by rw [addTo_len]; simp only [List.length_cons] at h5; omega, by rw [addTo_here]⟩⟩
          · have e5 : stD cur2 ++ [f.close.d] = stD (cur2 ++ [f.close]) := by rw [stD_app]; congr 1
            have e6 : ((addTo f.close b0 r).2.reverse.map fun f => D.ref f.at_) = r.reverse.map fun f => D.ref f.at_ := by
              rw [List.map_reverse, List.map_reverse, show (fun f : Fr => D.ref f.at_) = D.ref ∘ (fun f : Fr => f.at_) from rfl, ← List.map_map, ← List.map_map, addTo_at]
            rw [e4 f.close, e5, e6]
            exact hc4.put
          · rw [List.length_append]
            exact addTo_stkLen hr2
      | els =>
        simp only [Od.d, Od.word, Od.rest]
        walk_at "vc"
        obtain ⟨f, r, rfl, hw, he⟩ : ∃ f r, stk = f :: r ∧ f.wh = false ∧ f.els = none := by
          cases stk with
          | nil => cases hst
          | cons f r =>
            have h2 : (!f.wh && f.p.els.isNone) = true := hst
            rw [Bool.and_eq_true] at h2
            obtain ⟨fa, wh, fl, e, body, bs, els⟩ := f
            refine ⟨_, r, rfl, by simpa using h2.1, ?_⟩
            cases els with
            | none => rfl
            | some x => cases h2.2
        obtain ⟨fa, wh, fl, e, body, bs, els⟩ := f
        dsimp only at hw he
        subst hw he
        have hq2 := hc.at_ _ (List.mem_cons_self ..)
        dsimp only at hq2
        rw [List.reverse_cons, List.map_append] at hq2
        rw [lstOf_of hq2]
        simp only [oSome_i, List.map_cons, List.map_nil, atI_last]
        intro b hb2
        have c1 := hc.fresh (o := .lst []) hb2
        have hf1 := c1.at_ (fa, Fr.row ⟨fa, false, fl, e, body, bs, none⟩ (hereOf p r)) (by simp [cellsOf, Fr.cells])
        unfold Fr.row at hf1
        dsimp only at hf1
        rw [uSet, mLst_of hf1]
        simp only [oSome_i]
        simp only [List.length_cons, List.length_nil, Nat.reduceAdd]
        rw [show ixN 6 5 = some 5 from rfl]
        simp only [oSome_i, List.set]
        have c2 := Cel.put (pre := [(b, .lst []), (q, .lst ((Fr.mk fa false fl e body bs none :: r).reverse.map fun f => .ref f.at_))]) (post := (body, .lst (stD bs)) :: cellsOf p b0 r) (o' := Fr.row ⟨fa, false, fl, e, body, bs, some (b, [])⟩ (hereOf p r)) c1
        have hrow : (mup (mup M2 b (MO.lst [])) fa (MO.lst [D.str (Fr.mk fa false fl e body bs none).word, D.int fl, e.d, D.ref (hereOf p r), D.ref body, D.ref b])) = mup (mup M2 b (MO.lst [])) (Fr.mk fa false fl e body bs none).at_ (Fr.row ⟨fa, false, fl, e, body, bs, some (b, [])⟩ (hereOf p r)) := rfl
        rw [hrow]
        have hf2 : lstOf (mup (mup M2 b (MO.lst [])) (Fr.mk fa false fl e body bs none).at_ (Fr.row ⟨fa, false, fl, e, body, bs, some (b, [])⟩ (hereOf p r))) (.ref fa) = some [D.str (Fr.mk fa false fl e body bs none).word, D.int fl, e.d, D.ref (hereOf p r), D.ref body, D.ref b] := lstOf_of c2.here
        rw [uIx_r, hf2]
        simp only [oSome_i, atI_5]
        refine hN _ _ ⟨⟨fa, false, fl, e, body, bs, some (b, [])⟩ :: r, b0, l2 + 1, _, _, ?_, hnx, ⟨?_, fun g hg => ?_⟩, h5, rfl⟩
        · refine Cel.perm c2 ?_
          have e8 : stD [] = [] := by unfold stD; rfl
          have e7 : (((⟨fa, false, fl, e, body, bs, some (b, [])⟩ : Fr) :: r).reverse.map fun f => D.ref f.at_) = ((Fr.mk fa false fl e body bs none :: r).reverse.map fun f => D.ref f.at_) := by rw [List.reverse_cons, List.reverse_cons, List.map_append, List.map_append]; rfl
          rw [e7, cellsOf]
          unfold Fr.cells
          dsimp only
          rw [e8]
          refine (List.Perm.swap _ _ _).trans (List.Perm.cons _ ?_)
          exact (List.perm_middle (l₁ := [(fa, _), (body, _)])).symm
        · have := hsl.1
          rw [List.length_append]; omega
        · rcases List.mem_cons.mp hg with rfl | hg
          · refine ⟨Nat.le_trans (hsl.2 _ (List.mem_cons_self ..)).1 (by simp), fun x hx => ?_⟩
            cases hx
            exact Nat.zero_le _
          · exact (stkLen_mono hsl (by simp)).2 g (List.mem_cons_of_mem _ hg)
      | ifo e =>
        simp only [Od.d, Od.word, Od.rest]
        walk_at "vc"
        intro b hb2 fr hfr2
        have c1 := hc.fresh (o := .lst []) hb2
        have c2 := c1.fresh (o := .lst [.str (Str.ofString "if"), .int (l2 + 1), e.d, .ref (hereOf p stk), .ref b, .non]) hfr2
        have hq2 := c2.at_ (q, .lst (stk.reverse.map fun f => .ref f.at_)) (by simp)
        dsimp only at hq2
        rw [lstOf_of hq2, mLst_of hq2]
        refine ⟨rfl, ?_⟩
        simp only [oSome_i]
        have c3 := Cel.put (pre := [(fr, .lst [.str (Str.ofString "if"), .int (l2 + 1), e.d, .ref (hereOf p stk), .ref b, .non]), (b, .lst [])]) (post := cellsOf p b0 stk) (o' := .lst ((stk.reverse.map fun f => D.ref f.at_) ++ [.ref fr])) c2
        have hf3 := c3.at_ (fr, .lst [.str (Str.ofString "if"), .int (l2 + 1), e.d, .ref (hereOf p stk), .ref b, .non]) (by simp)
        dsimp only at hf3
        rw [lstOf_of hf3]
        simp only [oSome_i, atI_4]
        have hst5 : stk.length < 5 := by have := of_decide_eq_true hst; rw [List.length_map] at this; exact this
        refine ⟨by simp; omega, hN _ _ ⟨⟨fr, false, l2 + 1, e, b, [], none⟩ :: stk, b0, l2 + 1, _, _, ?_, hnx, ⟨?_, fun g hg => ?_⟩, by rw [List.length_cons]; omega, rfl⟩⟩
        · refine Cel.perm c3 ?_
          have e7 : (((⟨fr, false, l2 + 1, e, b, [], none⟩ : Fr) :: stk).reverse.map fun f => D.ref f.at_) = (stk.reverse.map fun f => D.ref f.at_) ++ [.ref fr] := by rw [List.reverse_cons, List.map_append]; rfl
          have e8 : stD [] = [] := by unfold stD; rfl
          rw [e7, cellsOf]
          unfold Fr.cells Fr.row
          dsimp only
          rw [e8]
          exact (List.perm_middle (l₁ := [(fr, _), (b, _)])).trans (List.Perm.refl _)
        · have := hsl.1
          rw [List.length_append]; omega
        · rcases List.mem_cons.mp hg with rfl | hg
          · exact ⟨Nat.zero_le _, fun x hx => (by cases hx)⟩
          · exact (stkLen_mono hsl (by simp)).2 g hg
      | whl e =>
        simp only [Od.d, Od.word, Od.rest]
        walk_at "vc"
        intro b hb2 fr hfr2
        have c1 := hc.fresh (o := .lst []) hb2
        have c2 := c1.fresh (o := .lst [.str (Str.ofString "while"), .int (l2 + 1), e.d, .ref (hereOf p stk), .ref b, .non]) hfr2
        have hq2 := c2.at_ (q, .lst (stk.reverse.map fun f => .ref f.at_)) (by simp)
        dsimp only at hq2
        rw [lstOf_of hq2, mLst_of hq2]
        refine ⟨rfl, ?_⟩
        simp only [oSome_i]
        have c3 := Cel.put (pre := [(fr, .lst [.str (Str.ofString "while"), .int (l2 + 1), e.d, .ref (hereOf p stk), .ref b, .non]), (b, .lst [])]) (post := cellsOf p b0 stk) (o' := .lst ((stk.reverse.map fun f => D.ref f.at_) ++ [.ref fr])) c2
        have hf3 := c3.at_ (fr, .lst [.str (Str.ofString "while"), .int (l2 + 1), e.d, .ref (hereOf p stk), .ref b, .non]) (by simp)
        dsimp only at hf3
        rw [lstOf_of hf3]
        simp only [oSome_i, atI_4]
        have hst5 : stk.length < 5 := by have := of_decide_eq_true hst; rw [List.length_map] at this; exact this
        refine ⟨by simp; omega, hN _ _ ⟨⟨fr, true, l2 + 1, e, b, [], none⟩ :: stk, b0, l2 + 1, _, _, ?_, hnx, ⟨?_, fun g hg => ?_⟩, by rw [List.length_cons]; omega, rfl⟩⟩
        · refine Cel.perm c3 ?_
          have e7 : (((⟨fr, true, l2 + 1, e, b, [], none⟩ : Fr) :: stk).reverse.map fun f => D.ref f.at_) = (stk.reverse.map fun f => D.ref f.at_) ++ [.ref fr] := by rw [List.reverse_cons, List.map_append]; rfl
          have e8 : stD [] = [] := by unfold stD; rfl
          rw [e7, cellsOf]
          unfold Fr.cells Fr.row
          dsimp only
          rw [e8]
          exact (List.perm_middle (l₁ := [(fr, _), (b, _)])).trans (List.Perm.refl _)
        · have := hsl.1
          rw [List.length_append]; omega
        · rcases List.mem_cons.mp hg with rfl | hg
          · exact ⟨Nat.zero_le _, fun x hx => (by cases hx)⟩
          · exact (stkLen_mono hsl (by simp)).2 g hg
  · rintro τ M2 ⟨stk, b0, l2, v6, v7, hc, hok, hsl, h5, rfl⟩
    obtain ⟨pre, e⟩ := cells_base (base := p) (b0 := b0) stk
    rw [e] at hc
    have hc2 : Cel M M2 (((q, .lst (stk.reverse.map fun f => .ref f.at_)) :: pre) ++ (p, .lst (stD b0)) :: []) := hc
    refine ⟨_, _, (ReS.freeze (i := 3) (a := p) (ds := stD b0) rfl hc2.here).trans (ReS.drop (M' := M) hc2.del.old), ?_⟩
    walk_at "vc"
    unfold laidF at h
    rw [hok] at h
    exact h
def spRooms : SpT := fun ds M Q _ => ∃ (h : Int) (xs vs : List Str), ds = [.int h, nmD xs, nmD vs] ∧ okNm xs ∧ okNm vs ∧ Q (.lst (rmD (roomsF h xs vs))) M
theorem ok_l_rooms (T : Tp K mg) : Fn P w K mg base CX0 1 "_law_rooms" spRooms := by
  refine fn_top T 41 e_l_rooms (m_l_rooms T) sc_l_rooms (by rintro _ M Q Et ⟨n, _, _, rfl, _⟩; rfl) (fun cdv A outer s H E hr => ⟨_, (qss_cons (qs_set (i := 3) sc_l_rooms.nd (q_op oq_addI q_int (q_op oq_mod (qv 0) q_int)))
 (qss_cons (qs_set (i := 4) sc_l_rooms.nd (q_lstM qa_nil))
 (qss_cons (qs_for PassesOwn.never rfl (qi_range1 (m_range T) (qa_cons (qv 3) qa_nil)) (qg_name (i := 5) sc_l_rooms.nd)
  (qss_cons (qs_set (i := 6) sc_l_rooms.nd (q_op oq_fdiv (q_op oq_fdiv (qv 0) q_int) (q_ix (q_lst (qa_lits (ds := [.int 1, .int 42, .int 1764, .int 74088]) rfl)) (qv 5))))
 (qss_cons (qs_set (i := 7) sc_l_rooms.nd (q_ix (q_lst (qa_lits (ds := [.int 0, .int 0, .int 1, .int 1, .int 2, .int 3, .int 6]) rfl)) (q_op oq_mod (qv 6) q_int)))
 (qss_one (qs_expr (q_append (qv 4) (qa_cons (q_tup (qa_cons (q_ix (qv 1) (qv 5)) (qa_cons (q_lc rfl sc_l_rooms.nd (qi_range1 (m_range T) (qa_cons (qv 7) qa_nil)) (blkOk_by (N := nm_l_rooms) (sc := defScope s_l_rooms) (own := [(("_law_j" : Str), 8)]) (by decide +kernel)) go_name (fun _ _ _ _ _ => (pg_name (i := 8) sc_l_rooms.nd rfl (Or.inl rfl))) (fun _ _ _ _ _ => qts_nil) (fun _ _ _ _ _ => (q_ix (qv 2) (q_op oq_mod (q_op oq_addI (q_op oq_fdiv (qv 6) q_int) (qv 8)) q_int)))) qa_nil))) qa_nil)))))))
 (qss_cons (qs_asg (q_tup (qa_cons q_str (qa_cons (q_lst qa_nil) qa_nil))) (qg_sub (qv 4) (q_op oq_mod (q_op oq_fdiv (qv 0) q_int) (qv 3)) sq_list))
 (qss_one (qs_ret (q_re (qv 4)))))))), ?_⟩) (fun _ _ _ _ _ _ us hl => match us, hl with | [_, _, _], _ => rfl)
  rintro _ M Q Et ⟨hd, xs, vs, rfl, hx, hv, h⟩
  unfold nmD
  walk_at "vc"
  intro p hp
  have bm := modB (a := hd) (b := 4) (by decide)
  have hm := many_ok hd
  refine ⟨by omega, ?_⟩
  have hlen : ((List.range (1 + hd % 4).toNat).map fun i : Nat => D.int i).length = (1 + hd % 4).toNat := by simp
  refine for_any (fun i τ M1 => M1 = mup M p (.lst (rmD ((List.range i).map (roomF hd xs vs)))) ∧ ∃ (v5 v6 v7 : Option D), τ = [some (.int hd), some (.lst (xs.map .str)), some (.lst (vs.map .str)), some (.int (1 + hd % 4)), some (.ref p), v5, v6, v7, none]) ⟨rfl, none, none, none, rfl⟩ (fun _ _ _ _ => trivial) ?_ ?_
  · rintro i x τ M1 hx2 ⟨rfl, v5, v6, v7, rfl⟩
    obtain ⟨hi, rfl⟩ := rng_get hx2
    have e1 : (List.range (i + 1)).map (roomF hd xs vs) = (List.range i).map (roomF hd xs vs) ++ [roomF hd xs vs i] := by rw [List.range_succ, List.map_append]; rfl
    rw [e1]
    have g1 : atI [D.int 1, D.int 42, D.int 1764, D.int 74088] (i : Int) = some (.int ([1, 42, 1764, 74088].getD i 1)) := atI_mapD (f := D.int) (xs := [1, 42, 1764, 74088]) 1 (by omega) (by show (i : Int) < 4; omega)
    have gp : (0 : Int) < [1, 42, 1764, 74088].getD i 1 ∧ [1, 42, 1764, 74088].getD i 1 ≤ (74088 : Int) := by
      rcases (show i = 0 ∨ i = 1 ∨ i = 2 ∨ i = 3 from by omega) with rfl | rfl | rfl | rfl <;> decide
    generalize hdv : [1, 42, 1764, 74088].getD i (1 : Int) = dv at g1 gp
    walk_at "vc"
    simp only [g1]
    walk_at "vc"
    have b7 := modB (a := hd / 64 / dv) (b := 7) (by decide)
    have g2 : atI [D.int 0, D.int 0, D.int 1, D.int 1, D.int 2, D.int 3, D.int 6] (hd / 64 / dv % 7) = some (.int (([0, 0, 1, 1, 2, 3, 6].getD (hd / 64 / dv % 7).toNat 0 : Nat) : Int)) := atI_mapD (f := fun n : Nat => D.int n) (xs := [0, 0, 1, 1, 2, 3, 6]) 0 b7.1 b7.2
    have hc := count_le (hd / 64 / dv % 7)
    simp only [g2]
    walk_at "vc"
    have hri : roomF hd xs vs i = (xs.getD i "", (List.range ([0, 0, 1, 1, 2, 3, 6].getD (hd / 64 / dv % 7).toNat 0)).map fun j => vs.getD ((hd / 64 / dv / 7 + (j : Nat)) % 6).toNat "") := by unfold roomF; rw [hdv]
    generalize [0, 0, 1, 1, 2, 3, 6].getD (hd / 64 / dv % 7).toNat 0 = c at hc hri ⊢
    have g3 : atI (xs.map D.str) (i : Int) = some (.str (xs.getD i "")) := atI_mapD (f := D.str) (xs := xs) "" (by omega) (by rw [hx.1]; omega)
    rw [g3]
    refine ⟨wd60 (by decide) (by decide), wd60 (by omega) (by omega), ?_⟩
    simp only [oSome_i]
    refine ⟨by omega, lc_map (List.range c) (fun j => .int j) (fun j => .str (vs.getD ((hd / 64 / dv / 7 + (j : Nat)) % 6).toNat "")) rfl (by rw [List.length_range, sizeLine_eq]; omega) trivial (fun j R1 R0 hj h1 => ?_) ?_⟩
    · walk_at "vc"
      have b6 := modB (a := hd / 64 / dv / 7 + (j : Int)) (b := 6) (by decide)
      rw [atI_mapD (f := D.str) (xs := vs) "" b6.1 (by rw [hv.1]; exact b6.2)]
      exact ⟨wd60 (by decide) (by decide), h1⟩
    · walk_at "vc"
      refine ⟨by unfold rmD; simp; omega, ?_, _, _, _, rfl, rfl, rfl⟩
      rw [hri]
      unfold rmD
      rw [List.map_append]
      rw [List.map_cons, List.map_nil]
      dsimp only
      rw [List.map_map, List.map_map]
      rfl
  · rintro τ M1 ⟨rfl, v5, v6, v7, rfl⟩
    rw [hlen]
    unfold roomsF at h
    have hrsl : ((List.range (1 + hd % 4).toNat).map (roomF hd xs vs)).length = (1 + hd % 4).toNat := by simp
    generalize (List.range (1 + hd % 4).toNat).map (roomF hd xs vs) = rs at h hrsl ⊢
    have hrl : rs.length = (1 + hd % 4).toNat := hrsl
    walk_at "vc"
    have bs := modB (a := hd / 4) (b := 1 + hd % 4) (by omega)
    have hix : ixN (rmD rs).length (hd / 4 % (1 + hd % 4)) = some (hd / 4 % (1 + hd % 4)).toNat := by
      have := ix_nat (n := (rmD rs).length) (k := (hd / 4 % (1 + hd % 4)).toNat) (by unfold rmD; rw [List.length_map, hrl]; omega)
      rwa [Int.toNat_of_nonneg bs.1] at this
    rw [hix]
    refine ⟨wd60 (by decide) (by decide), by omega, ?_⟩
    simp only [oSome_i]
    refine ⟨_, _, ReR.made hp, ?_⟩
    unfold rmD at h
    rw [List.map_set] at h
    exact h
def spVars : SpT := fun ds M Q _ => ∃ (h : Int) (xs : List Str), ds = [.int h, nmD xs] ∧ okNm xs ∧ Q (nmD (varsF h xs)) M
theorem ok_l_variables (T : Tp K mg) : Fn P w K mg base CX0 1 "_law_variables" spVars := by
  refine fn_top T 42 e_l_variables (m_l_variables T) sc_l_variables (by rintro _ M Q Et ⟨n, _, rfl, _⟩; rfl) (fun cdv A outer s H E hr => ⟨_, (qss_cons (qs_if (qt_cmp oq_eq (q_op oq_mod (q_op oq_fdiv (qv 0) (q_op oq_pow q_int q_int)) q_int) q_int)
  (qss_one (qs_ret (q_op oq_catL (q_sliceL (qv 1) qo_none (qo_some q_int)) (q_lst (qa_cons q_str qa_nil)))))
  qss_nil)
 (qss_one (qs_ret (q_callTy cq_list (m_list T) (by decide +kernel) (qa_cons (qv 1) qa_nil))))), ?_⟩) (fun _ _ _ _ _ _ us hl => match us, hl with | [_, _], _ => rfl)
  rintro _ M Q Et ⟨hd, xs, rfl, hx, h⟩
  unfold nmD
  walk_at "vc"
  have hP : (10 : Int) ^ Int.toNat 9 = 1000000000 := by decide +kernel
  rw [hP, show (5 : Int) = ((5 : Nat) : Int) from rfl, cut_take, ← List.map_take]
  refine ⟨pow_bit 9 (by decide), wd60 (by decide) (by decide), ?_⟩
  unfold varsF nmD at h
  split
  · rename_i h1
    rw [if_pos h1, List.map_append] at h
    exact ⟨by rw [List.length_map, List.length_take]; omega, h⟩
  · rename_i h1
    rw [if_neg h1] at h
    exact h
def spProgram : SpT := fun ds M Q _ => ∃ (ns : List Int) (xs : List Str) (most : Nat), ds = [.scr (ns.map .int), nmD xs, .int most] ∧ okNm xs ∧ most ≤ 100 ∧ Q (.lst (pgD (progF (opG placeB simpleB) xs ns most))) M
theorem ok_l_program (T : Tp K mg) : Fn P w K mg base CX0 5 "_law_program" spProgram := by
  refine fn_top T 43 e_l_program (m_l_program T) sc_l_program (by rintro _ M Q Et ⟨n, _, _, rfl, _⟩; rfl) (fun cdv A outer s H E hr => ⟨_, (qss_cons (qs_set (i := 3) sc_l_program.nd (q_call (ok_l_spread T) (hr.mono (by decide)) (qa_cons (q_call (ok_l_cell_at T) (hr.mono (by decide)) (qa_cons (qv 0) (qa_cons q_int qa_nil))) (qa_cons q_int qa_nil))))
 (qss_cons (qs_set (i := 4) sc_l_program.nd (q_call (ok_l_variables T) (hr.mono (by decide)) (qa_cons (qv 3) (qa_cons (qv 1) qa_nil))))
 (qss_cons (qs_set (i := 5) sc_l_program.nd (q_call (ok_l_rooms T) (hr.mono (by decide)) (qa_cons (qv 3) (qa_cons (qv 1) (qa_cons (qv 4) qa_nil)))))
 (qss_cons (qs_setLc (i := 7) (own := [(("_law_room" : Str), 6)]) (lv_lcF go_name) rfl sc_l_program.nd (qi_list (qv 5)) (blkOk_by (N := nm_l_program) (sc := defScope s_l_program) (own := [(("_law_room" : Str), 6)]) (by decide +kernel)) (fun _ _ _ _ _ => (pg_name (i := 6) sc_l_program.nd rfl (Or.inl rfl))) (fun _ _ _ _ _ => qts_nil) (fun _ _ _ _ _ => (q_lstM qa_nil)) (sw_true rfl rfl rfl (by decide +kernel)))
 (qss_cons (qs_for PassesOwn.never rfl (qi_enum (m_enumerate T) (qa_cons (q_sliceL (qv 0) (qo_some q_int) (qo_some (qv 2))) qa_nil)) (qg_tup (n := 2) rfl (qgs_cons (qg_name (i := 8) sc_l_program.nd) (qgs_cons (qg_name (i := 9) sc_l_program.nd) qgs_nil)))
  (qss_cons (qs_set (i := 10) sc_l_program.nd (q_call (ok_l_spread T) (hr.mono (by decide)) (qa_cons (qv 9) (qa_cons (q_op oq_addI (qv 8) q_int) qa_nil))))
 (qss_one (qs_expr (q_append (q_ix (qv 7) (q_op oq_mod (qv 10) (q_callB cq_len (m_len T) (by decide +kernel) (qa_cons (qv 5) qa_nil)))) (qa_cons (q_call (ok_l_op T) (hr.mono (by decide)) (qa_cons (q_op oq_fdiv (qv 10) (q_callB cq_len (m_len T) (by decide +kernel) (qa_cons (qv 5) qa_nil))) (qa_cons (qv 4) (qa_cons (qv 5) qa_nil)))) qa_nil))))))
 (qss_cons (qs_set (i := 11) sc_l_program.nd (q_lstM qa_nil))
 (qss_re (qss_cons (qs_set (i := 12) sc_l_program.nd q_int)
 (qss_cons (qs_for PassesOwn.never rfl (qi_enum (m_enumerate T) (qa_cons (qv 5) qa_nil)) (qg_tup (n := 2) rfl (qgs_cons (qg_name (i := 8) sc_l_program.nd) (qgs_cons (qg_name (i := 6) sc_l_program.nd) qgs_nil)))
  (qss_cons (qs_asg (q_call (ok_l_laid T) (hr.mono (by decide)) (qa_cons (q_ix (qv 7) (qv 8)) (qa_cons (q_op oq_addI (qv 12) q_int) (qa_cons (q_cmp oq_eq (q_ix (qv 6) q_int) q_str) qa_nil)))) (qg_tup (n := 2) rfl (qgs_cons (qg_name (i := 13) sc_l_program.nd) (qgs_cons (qg_name (i := 14) sc_l_program.nd) qgs_nil))))
 (qss_cons (qs_expr (q_append (qv 11) (qa_cons (q_tup (qa_cons (q_ix (qv 6) q_int) (qa_cons (q_callTy cq_list (m_list T) (by decide +kernel) (qa_cons (q_ix (qv 6) q_int) qa_nil)) (qa_cons (qv 13) (qa_cons (q_op oq_addI (qv 12) q_int) (qa_cons (qv 14) qa_nil)))))) qa_nil)))
 (qss_one (qs_set (i := 12) sc_l_program.nd (qv 14))))))
 (qss_one (qs_ret (q_re (qv 11))))))))))))), ?_⟩) (fun _ _ _ _ _ _ us hl => match us, hl with | [_, _, _], _ => rfl)
  rintro _ M Q Et ⟨ns, xs, most, rfl, hx, hm, h⟩
  walk_at "vc"
  refine ⟨ns, 0, rfl, ?_⟩
  walk_at "vc"
  refine ⟨_, 0, rfl, by omega, _, xs, rfl, hx, ?_⟩
  have hvs := vars_ok (spreadF (cellF ns 0) 0) hx
  unfold progF at h
  dsimp only at h
  generalize spreadF (cellF ns 0) 0 = hd at h hvs ⊢
  generalize varsF hd xs = vs at h hvs ⊢
  refine ⟨_, xs, vs, rfl, hx, hvs, ?_⟩
  have hrs := rooms_ok hd hx hvs
  have hrm : 0 < (roomsF hd xs vs).length := by rw [rooms_len]; exact (many_ok hd).1
  generalize roomsF hd xs vs = rs at h hrs hrm ⊢
  walk_at "vc"
  have hrl : rs.length ≤ 4 := hrs.1
  have hrd : (rmD rs).length = rs.length := by unfold rmD; rw [List.length_map]
  refine lc_any (fun i acc M1 => ∃ cs : List (Addr × List Od), acc = refsL cs ∧ Cel M M1 (celsL Od.d cs) ∧ cs.map (·.2) = List.replicate i []) ?_ ?_ ?_ ?_ ?_
  · show (rmD rs).length < _
    rw [hrd, sizeLine_eq]; omega
  · exact ⟨[], rfl, Cel.nil, rfl⟩
  · rintro i acc M1 ⟨cs, rfl, hc, hcs⟩
    have := congrArg List.length hcs
    simp only [List.length_map, List.length_replicate] at this
    exact ⟨trivial, by unfold refsL; rw [List.length_map]; omega⟩
  · rintro i x acc M1 hx2 ⟨cs, rfl, hc, hcs⟩
    walk_at "vc"
    intro p hp
    refine ⟨cs ++ [(p, [])], by unfold refsL; rw [List.map_append]; rfl, ?_, by rw [List.map_append, hcs]; exact (List.replicate_succ').symm⟩
    have := (hc.fresh (o := .lst []) hp)
    refine this.perm ?_
    unfold celsL
    rw [List.map_append]
    exact (List.perm_append_comm (l₁ := [(p, MO.lst [])]))
  rintro acc M1 ⟨cs, rfl, hc, hcs⟩
  have hcs : cs.map (·.2) = opsF ((opG placeB simpleB) vs rs) rs.length ((ns.take most).drop 2) 0 := by
    rw [hcs]; unfold opsF; rw [← hrd]; rfl
  rw [show Tl.cutD (ns.map D.int) (some 2) (some (most : Int)) = _ from cut_both 2 most, ← List.map_take, ← List.map_drop]
  generalize hcells : (ns.take most).drop 2 = cells at h hcs ⊢
  have hcl : cells.length ≤ 100 := by rw [← hcells, List.length_drop, List.length_take]; omega
  clear hcells
  refine for_any (fun i τ M2 => ∃ (cs : List (Addr × List Od)) (v10 v11 v12 : Option D), cs.map (·.2) = opsF ((opG placeB simpleB) vs rs) rs.length cells i ∧ Cel M M2 (celsL Od.d cs) ∧ τ = [some (.scr (ns.map .int)), some (nmD xs), some (.int most), some (.int hd), some (nmD vs), some (.lst (rmD rs)), none, some (.lst (refsL cs)), v10, v11, v12, none, none, none, none]) ⟨cs, none, none, none, hcs, hc, rfl⟩ (fun _ _ _ _ => trivial) ?_ ?_
  · rintro i x τ M2 hx2 ⟨cs, v10, v11, v12, hcs, hc, rfl⟩
    obtain ⟨cell, hcell, rfl⟩ := enumD_map hx2
    have hi : i < cells.length := (List.getElem?_eq_some_iff.mp hcell).1
    have hstep : opsF ((opG placeB simpleB) vs rs) rs.length cells (i + 1) = opsStep ((opG placeB simpleB) vs rs) rs.length cells (opsF ((opG placeB simpleB) vs rs) rs.length cells i) i := range_fold ..
    have hget : cells.getD i 0 = cell := by rw [List.getD_eq_getElem?_getD, hcell]; rfl
    walk_at "vc"
    refine ⟨cell, i + 2, by rw [show ((i : Int) + 2) = ((i + 2 : Nat) : Int) from by omega], by omega, ?_⟩
    unfold opsStep at hstep
    rw [hget] at hstep
    generalize spreadF cell (i + 2) = number at hstep ⊢
    have hlen := congrArg List.length hcs
    rw [List.length_map, opsF_len] at hlen
    have bm := modB (a := number) (b := (rs.length : Int)) (by omega)
    obtain ⟨pre, c, post, rfl, hpl⟩ := split_at (cs := cs) (j := (number % (rs.length : Int)).toNat) (by omega)
    have hcm : Cel M M2 (celsL Od.d pre ++ (c.1, .lst (c.2.map Od.d)) :: celsL Od.d post) := by
      have := hc; unfold celsL at this ⊢; rw [List.map_append] at this; exact this
    have hat : atI (refsL (pre ++ c :: post)) (number % (rs.length : Int)) = some (.ref c.1) := by
      rw [atI_getD (.ref c.1) bm.1 (by unfold refsL; rw [List.length_map, hlen]; exact bm.2)]
      unfold refsL
      rw [List.map_append]
      exact congrArg some (getD_midD (by rw [List.length_map, hpl]))
    have hol : c.2.length ≤ i := by
      have := (opsF_ok (P := fun _ => True) (opf := (opG placeB simpleB) vs rs) (fun _ => trivial) rs.length cells i c.2 (by rw [← hcs, List.map_append]; simp)).2
      exact this
    walk_at "vc"
    rw [hrd]
    refine ⟨by omega, ?_⟩
    simp only [hat, oSome_i]
    rw [lstOf_of hcm.here]
    refine ⟨rfl, wd60 (by omega) (by omega), ?_⟩
    refine ⟨_, vs, rs, rfl, hvs, hrs, ?_⟩
    walk_at "vc"
    rw [mLst_of hcm.here]
    simp only [oSome_i]
    refine ⟨by rw [List.length_map]; omega, pre ++ (c.1, c.2 ++ [(opG placeB simpleB) vs rs (number / (rs.length : Int))]) :: post, _, _, _, ?_, ?_, by unfold refsL; rw [List.map_append, List.map_append]; rfl, rfl, rfl, rfl⟩
    · rw [hstep, ← hcs, List.map_append, List.map_append]
      rw [List.map_cons, List.map_cons]
      exact (modify_mid (c := c.2) (post := post.map (fun x => x.2)) (f := fun x => x ++ [(opG placeB simpleB) vs rs (number / (rs.length : Int))]) (pre := pre.map (fun x => x.2)) (j := (number % (rs.length : Int)).toNat) (by rw [List.length_map]; exact hpl)).symm
    · have h2 := hcm.put (o' := .lst ((c.2 ++ [(opG placeB simpleB) vs rs (number / (rs.length : Int))]).map Od.d))
      rw [List.map_append] at h2
      unfold celsL at h2 ⊢
      rw [List.map_append]
      exact (show (List.map Od.d c.2 ++ [((opG placeB simpleB) vs rs (number / (rs.length : Int))).d]) = (c.2 ++ [(opG placeB simpleB) vs rs (number / (rs.length : Int))]).map Od.d from by rw [List.map_append]; rfl) ▸ h2
  · rintro τ M2 ⟨cs, v10, v11, v12, hcs, hc, rfl⟩
    have hlen2 : (enumD (List.map D.int cells)).length = cells.length := by rw [enumD_len, List.length_map]
    have hcs : cs.map (·.2) = opsF ((opG placeB simpleB) vs rs) rs.length cells cells.length := by rw [← hlen2]; exact hcs
    have hol := opsF_ok (P := fun _ => True) (opf := (opG placeB simpleB) vs rs) (fun _ => trivial) rs.length cells cells.length
    have hosl := opsF_len ((opG placeB simpleB) vs rs) rs.length cells cells.length
    generalize opsF ((opG placeB simpleB) vs rs) rs.length cells cells.length = oss at h hcs hol hosl
    dsimp only
    walk_at "vc"
    intro q hq
    have hq0 := hc.free hq
    refine ⟨_, _, ReS.at_ (i := 7) rfl (ReR.all cs [] (hc.lift hq)), ?_⟩
    rw [hcs, List.nil_append]
    walk_at "vc"
    refine for_any (fun i τ M3 => M3 = mup M q (.lst (pgD (progS oss rs i).1)) ∧ ∃ (v8 v10 v15 v16 : Option D), τ = [some (.scr (ns.map .int)), some (nmD xs), some (.int most), some (.int hd), some (nmD vs), some (.lst (rmD rs)), v8, some (.lst (lstsL Od.d oss)), v10, v11, v12, some (.ref q), some (.int (progS oss rs i).2), v15, v16]) ⟨rfl, none, v10, none, none, rfl⟩ (fun _ _ _ _ => trivial) ?_ ?_
    · rintro i x τ M3 hx2 ⟨rfl, v8, v10, v15, v16, rfl⟩
      obtain ⟨r, hr2, rfl⟩ := enumD_map hx2
      have hi : i < rs.length := (List.getElem?_eq_some_iff.mp hr2).1
      have hstep : progS oss rs (i + 1) = progStep oss rs (progS oss rs i) i := range_fold ..
      have hget : rs.getD i ("", []) = r := by rw [List.getD_eq_getElem?_getD, hr2]; rfl
      unfold progStep at hstep
      rw [hget] at hstep
      rw [hstep]
      have hpl : ∀ j, (progS oss rs j).1.length = j := fun j => by
        induction j with
        | zero => rfl
        | succ j ih =>
          rw [show progS oss rs (j + 1) = progStep oss rs (progS oss rs j) j from range_fold ..]
          show (_ ++ [_] : Pg).length = _
          rw [List.length_append, ih]; rfl
      have hpl := hpl i
      generalize progS oss rs i = st at hpl ⊢
      obtain ⟨pg, line⟩ := st
      dsimp only at hpl ⊢
      have hat : atI (lstsL Od.d oss) (i : Int) = some (.lst ((oss.getD i []).map Od.d)) := atI_mapD (f := fun xs : List Od => D.lst (xs.map Od.d)) (xs := oss) (k := (i : Int)) [] (by omega) (by omega)
      have hob := (hol _ (getD_mem (xs := oss) (n := i) [] (by omega))).2
      generalize oss.getD i [] = os at hat hob ⊢
      walk_at "vc"
      simp only [hat, oSome_i]
      refine ⟨os, line + 1, isMain r.1, rfl, by omega, ?_⟩
      generalize laidF (isMain r.1) os (line + 1) = b
      walk_at "vc"
      refine ⟨by unfold pgD; rw [List.length_map]; omega, ?_, _, _, _, _, rfl, rfl, rfl, rfl⟩
      unfold pgD
      rw [List.map_append]
      rfl
    · rintro τ M3 ⟨rfl, v8, v10, v15, v16, rfl⟩
      rw [show (enumD (rmD rs)).length = rs.length from by rw [enumD_len, hrd]]
      walk_at "vc"
      exact ⟨_, _, ReR.made hq0, h⟩
end
end K37
namespace K37
open PySem PySem.Spec PyProof.Rows L2 Tl
section
variable {P : Program} {w : World} {K : PySem.W.Frag} {mg : Str → Option Value} {base : Heap}
def tnF (bits : Int) (x : Str) : Tn := fun l => if Builtin.bitAnd (bits / 2 ^ (l % 99).toNat) 1 = 0 then none else if bits % 3 = 0 then some none else some (some x)
def spTurned : SpT := fun ds M Q _ => ∃ (s : Sm) (bits : Int) (x : Str), ds = [s.d, .int bits, .str x] ∧ s.blocks = [] ∧ Q (thinS (tnF bits x) s).d M
theorem ok_l_turned (T : Tp K mg) : Fn P w K mg base CX0 1 "_law_turned" spTurned := by
  refine fn_top T 44 e_l_turned (m_l_turned T) sc_l_turned (by rintro _ M Q Et ⟨n, _, _, rfl, _⟩; rfl) (fun cdv A outer s H E hr => ⟨_, (qss_cons (qs_if (qt_w (qw_or (qt_cmp oq_ne (q_ix (qv 0) q_int) q_str) (qw_or1 (qt_cmp oq_eq (q_op oq_band (q_op oq_shr (qv 1) (q_op oq_mod (q_ix (qv 0) q_int) q_int)) q_int) q_int))))
  (qss_one (qs_ret (qv 0)))
  qss_nil)
 (qss_cons (qs_if (qt_cmp oq_eq (q_op oq_mod (qv 1) q_int) q_int)
  (qss_one (qs_ret (q_tup (qa_cons q_str (qa_cons (q_ix (qv 0) q_int) (qa_cons (q_ix (qv 0) q_int) qa_nil))))))
  qss_nil)
 (qss_one (qs_ret (q_tup (qa_cons q_str (qa_cons (q_ix (qv 0) q_int) (qa_cons (qv 2) (qa_cons (q_ix (qv 0) q_int) qa_nil))))))))), ?_⟩) (fun _ _ _ _ _ _ us hl => match us, hl with | [_, _, _], _ => rfl)
  rintro _ M Q Et ⟨s, bits, x, rfl, hb, h⟩
  cases s with
  | put l a b =>
    have b99 := modB (a := l) (b := 99) (by decide)
    unfold thinS tnF at h
    unfold Sm.d
    walk_at "vc"
    refine ⟨b99.1, ?_⟩
    split
    · rename_i q; rw [if_pos q] at h; exact h
    · rename_i q
      rw [if_neg q] at h
      split
      · rename_i q2; rw [if_pos q2] at h; exact h
      · rename_i q2; rw [if_neg q2] at h; exact h
  | if1 l e b => cases hb
  | if2 l e b c => cases hb
  | whl l e b => cases hb
  | _ => unfold thinS at h; unfold Sm.d at h ⊢; walk_at "vc"; exact h
def spThinned (n : Nat) : SpT := fun ds M Q _ => ∃ (b : List Sm) (bits : Int) (x : Str), ds = [.lst (stD b), .int bits, .str x] ∧ deeps b < n ∧ (allBd b).length ≤ 10000 ∧ Q (.lst (stD (thinB (tnF bits x) b))) M
theorem ok_l_thinned (T : Tp K mg) : ∀ n, Fn P w K mg base CX0 (n + 2) "_law_thinned" (spThinned n)
  | 0 => by
    refine fn_top T 45 e_l_thinned (m_l_thinned T) sc_l_thinned (by rintro _ M Q Et ⟨n, _, _, rfl, _⟩; rfl) (fun cdv A outer s H E hr => ⟨_, qss_never, ?_⟩) (fun _ _ _ _ _ _ us hl => match us, hl with | [_, _, _], _ => rfl)
    rintro _ M Q Et ⟨b, bits, x, rfl, hd, _⟩
    omega
  | n + 1 => by
    have ih := ok_l_thinned T n
    refine fn_top T 45 e_l_thinned (m_l_thinned T) sc_l_thinned (by rintro _ M Q Et ⟨n, _, _, rfl, _⟩; rfl) (fun cdv A outer s H E hr => ⟨_, (qss_cons (qs_set (i := 3) sc_l_thinned.nd (q_lstM qa_nil))
 (qss_cons (qs_for PassesOwn.never rfl (qi_list (qv 0)) (qg_name (i := 4) sc_l_thinned.nd)
  (qss_one (qs_if (qt_w (qw_and (qt_cmp oq_eq (q_ix (qv 4) q_int) q_str) (qw_and1 (qt_cmp oq_notN (q_ix (qv 4) q_int) q_non))))
  (qss_cons (qs_set (i := 5) sc_l_thinned.nd (q_tup (qa_cons (q_call ih (hr.mono (by omega)) (qa_cons (q_ix (qv 4) q_int) (qa_cons (qv 1) (qa_cons (qv 2) qa_nil)))) (qa_cons (q_call ih (hr.mono (by omega)) (qa_cons (q_ix (qv 4) q_int) (qa_cons (qv 1) (qa_cons (qv 2) qa_nil)))) qa_nil))))
 (qss_one (qs_expr (q_append (qv 3) (qa_cons (q_op oq_catT (q_sliceT (qv 4) qo_none (qo_some q_int)) (qv 5)) qa_nil)))))
  (qss_one (qs_if (qt_cmp oq_eq (q_ix (qv 4) q_int) q_str)
  (qss_one (qs_expr (q_append (qv 3) (qa_cons (q_op oq_catT (q_sliceT (qv 4) qo_none (qo_some q_int)) (q_tup (qa_cons (q_call ih (hr.mono (by omega)) (qa_cons (q_ix (qv 4) q_int) (qa_cons (qv 1) (qa_cons (qv 2) qa_nil)))) (qa_cons q_non qa_nil)))) qa_nil))))
  (qss_one (qs_if (qt_cmp oq_eq (q_ix (qv 4) q_int) q_str)
  (qss_one (qs_expr (q_append (qv 3) (qa_cons (q_op oq_catT (q_sliceT (qv 4) qo_none (qo_some q_int)) (q_tup (qa_cons (q_call ih (hr.mono (by omega)) (qa_cons (q_ix (qv 4) q_int) (qa_cons (qv 1) (qa_cons (qv 2) qa_nil)))) qa_nil))) qa_nil))))
  (qss_one (qs_expr (q_append (qv 3) (qa_cons (q_call (ok_l_turned T) (hr.mono (by omega)) (qa_cons (qv 4) (qa_cons (qv 1) (qa_cons (qv 2) qa_nil)))) qa_nil)))))))))))
 (qss_one (qs_ret (q_re (qv 3)))))), ?_⟩) (fun _ _ _ _ _ _ us hl => match us, hl with | [_, _, _], _ => rfl)
    rintro _ M Q Et ⟨b, bits, x, rfl, hd, hl, h⟩
    have tmap : ∀ c : List Sm, thinB (tnF bits x) c = c.map (thinS (tnF bits x)) := fun c => by
      induction c with
      | nil => unfold thinB; rfl
      | cons s t ih => unfold thinB; rw [ih]; rfl
    walk_at "vc"
    intro p hp
    rw [stD_map]
    refine for_map b Sm.d rfl (fun ys τ M1 => M1 = mup M p (.lst (stD (thinB (tnF bits x) ys))) ∧ ∃ v4 v5, τ = [some (.lst (b.map Sm.d)), some (.int bits), some (.str x), some (.ref p), v4, v5]) ⟨by unfold thinB; rfl, none, none, rfl⟩ (fun _ _ _ _ => trivial) ?_ ?_
    · rintro ys s zs τ M1 Nx hx ⟨rfl, v4, v5, rfl⟩ hN
      have hs : s.deep ≤ n := by
        have := deeps_mem (b := b) (s := s) (by rw [hx]; simp)
        omega
      have hlen : (allSt s).length ≤ 10000 ∧ ys.length < 10000 := by
        have h3 : ys.length ≤ (allBd ys).length := by
          have : ∀ c : List Sm, c.length ≤ (allBd c).length := fun c => by
            induction c with
            | nil => exact Nat.zero_le _
            | cons s t ih => rw [allBd, allSt_eq, List.length_append, List.length_cons, List.length_cons]; omega
          exact this ys
        rw [hx, allBd_app, allBd, List.length_append, List.length_append] at hl
        rw [allSt_eq, List.length_cons] at hl
        rw [allSt_eq, List.length_cons]
        omega
      have step : ∀ d, d = (thinS (tnF bits x) s).d → ∀ v5, Nx [some (.lst (b.map Sm.d)), some (.int bits), some (.str x), some (.ref p), some s.d, v5] (mup M p (.lst (stD (thinB (tnF bits x) ys) ++ [d]))) := fun d e v5 => by
        refine hN _ _ ⟨?_, _, _, rfl⟩
        rw [tmap, tmap, stD_map, stD_map, List.map_append, List.map_append, e]
        rfl
      have hlt : (stD (thinB (tnF bits x) ys)).length < 16777216 := by rw [tmap, stD_map, List.length_map, List.length_map]; omega
      have blk : ∀ c ∈ s.blocks, deeps c < n ∧ (allBd c).length ≤ 10000 := fun c hc => by
        refine ⟨block_deep hs hc, ?_⟩
        have h1 := hlen.1
        rw [allSt_eq, List.length_cons] at h1
        have : (allBd c).length ≤ ((s.blocks.map allBd).flatten).length := by
          obtain ⟨u, v, e⟩ := List.append_of_mem hc
          rw [e, List.map_append, List.map_cons, List.flatten_append, List.flatten_cons, List.length_append, List.length_append]
          omega
        omega
      cases s with
      | if2 l e c c2 =>
        have b1 := blk c (by unfold Sm.blocks; simp)
        have b2 := blk c2 (by unfold Sm.blocks; simp)
        unfold Sm.d at step ⊢
        unfold thinS at step
        walk_at "vc"
        refine ⟨c, bits, x, rfl, b1.1, b1.2, ?_⟩
        refine ⟨c2, bits, x, rfl, b2.1, b2.2, ?_⟩
        refine ⟨is_m mup_same, Nat.le_of_ble_eq_true rfl, ?_⟩
        rw [mLst_of mup_same]
        simp only [oSome_i]
        rw [mup_mup]
        exact ⟨hlt, step _ rfl _⟩
      | if1 l e c =>
        have b1 := blk c (by unfold Sm.blocks; simp)
        unfold Sm.d at step ⊢
        unfold thinS at step
        walk_at "vc"
        refine ⟨c, bits, x, rfl, b1.1, b1.2, ?_⟩
        refine ⟨Nat.le_of_ble_eq_true rfl, ?_⟩
        rw [mLst_of mup_same]
        simp only [oSome_i]
        rw [mup_mup]
        exact ⟨hlt, step _ rfl _⟩
      | whl l e c =>
        have b1 := blk c (by unfold Sm.blocks; simp)
        unfold Sm.d at step ⊢
        unfold thinS at step
        walk_at "vc"
        refine ⟨c, bits, x, rfl, b1.1, b1.2, ?_⟩
        refine ⟨Nat.le_of_ble_eq_true rfl, ?_⟩
        rw [mLst_of mup_same]
        simp only [oSome_i]
        rw [mup_mup]
        exact ⟨hlt, step _ rfl _⟩
      | put l a c =>
        have hd : (Sm.put l a c).d = .tup [.str "put", .int l, a.d, c.d] := by unfold Sm.d; rfl
        have tu : ∀ R : VD, (∀ M1, M1 = mup M p (.lst (stD (thinB (tnF bits x) ys))) → R (thinS (tnF bits x) (Sm.put l a c)).d M1) → spTurned [(Sm.put l a c).d, .int bits, .str x] (mup M p (.lst (stD (thinB (tnF bits x) ys)))) R Et0 := fun R hR => ⟨_, bits, x, rfl, rfl, hR _ rfl⟩
        rw [hd] at step tu ⊢
        walk_at "vc"
        refine tu _ fun M1 e => ?_
        subst e
        rw [mLst_of mup_same]
        simp only [oSome_i]
        rw [mup_mup]
        exact ⟨hlt, step _ rfl _⟩
      | set l y e =>
        have hd : (Sm.set l y e).d = .tup [.str "set", .int l, .str y, e.d] := by unfold Sm.d; rfl
        have tu : ∀ R : VD, (∀ M1, M1 = mup M p (.lst (stD (thinB (tnF bits x) ys))) → R (thinS (tnF bits x) (Sm.set l y e)).d M1) → spTurned [(Sm.set l y e).d, .int bits, .str x] (mup M p (.lst (stD (thinB (tnF bits x) ys)))) R Et0 := fun R hR => ⟨_, bits, x, rfl, rfl, hR _ rfl⟩
        rw [hd] at step tu ⊢
        walk_at "vc"
        refine tu _ fun M1 e => ?_
        subst e
        rw [mLst_of mup_same]
        simp only [oSome_i]
        rw [mup_mup]
        exact ⟨hlt, step _ rfl _⟩
      | tell l e =>
        have hd : (Sm.tell l e).d = .tup [.str "tell", .int l, e.d] := by unfold Sm.d; rfl
        have tu : ∀ R : VD, (∀ M1, M1 = mup M p (.lst (stD (thinB (tnF bits x) ys))) → R (thinS (tnF bits x) (Sm.tell l e)).d M1) → spTurned [(Sm.tell l e).d, .int bits, .str x] (mup M p (.lst (stD (thinB (tnF bits x) ys)))) R Et0 := fun R hR => ⟨_, bits, x, rfl, rfl, hR _ rfl⟩
        rw [hd] at step tu ⊢
        walk_at "vc"
        refine tu _ fun M1 e => ?_
        subst e
        rw [mLst_of mup_same]
        simp only [oSome_i]
        rw [mup_mup]
        exact ⟨hlt, step _ rfl _⟩
      | ret l e =>
        have hd : (Sm.ret l e).d = .tup [.str "return", .int l, e.d] := by unfold Sm.d; rfl
        have tu : ∀ R : VD, (∀ M1, M1 = mup M p (.lst (stD (thinB (tnF bits x) ys))) → R (thinS (tnF bits x) (Sm.ret l e)).d M1) → spTurned [(Sm.ret l e).d, .int bits, .str x] (mup M p (.lst (stD (thinB (tnF bits x) ys)))) R Et0 := fun R hR => ⟨_, bits, x, rfl, rfl, hR _ rfl⟩
        rw [hd] at step tu ⊢
        walk_at "vc"
        refine tu _ fun M1 e => ?_
        subst e
        rw [mLst_of mup_same]
        simp only [oSome_i]
        rw [mup_mup]
        exact ⟨hlt, step _ rfl _⟩
      | stop l =>
        have hd : (Sm.stop l).d = .tup [.str "stop", .int l] := by unfold Sm.d; rfl
        have tu : ∀ R : VD, (∀ M1, M1 = mup M p (.lst (stD (thinB (tnF bits x) ys))) → R (thinS (tnF bits x) (Sm.stop l)).d M1) → spTurned [(Sm.stop l).d, .int bits, .str x] (mup M p (.lst (stD (thinB (tnF bits x) ys)))) R Et0 := fun R hR => ⟨_, bits, x, rfl, rfl, hR _ rfl⟩
        rw [hd] at step tu ⊢
        walk_at "vc"
        refine tu _ fun M1 e => ?_
        subst e
        rw [mLst_of mup_same]
        simp only [oSome_i]
        rw [mup_mup]
        exact ⟨hlt, step _ rfl _⟩
      | brk l =>
        have hd : (Sm.brk l).d = .tup [.str "break", .int l] := by unfold Sm.d; rfl
        have tu : ∀ R : VD, (∀ M1, M1 = mup M p (.lst (stD (thinB (tnF bits x) ys))) → R (thinS (tnF bits x) (Sm.brk l)).d M1) → spTurned [(Sm.brk l).d, .int bits, .str x] (mup M p (.lst (stD (thinB (tnF bits x) ys)))) R Et0 := fun R hR => ⟨_, bits, x, rfl, rfl, hR _ rfl⟩
        rw [hd] at step tu ⊢
        walk_at "vc"
        refine tu _ fun M1 e => ?_
        subst e
        rw [mLst_of mup_same]
        simp only [oSome_i]
        rw [mup_mup]
        exact ⟨hlt, step _ rfl _⟩
      | agn l =>
        have hd : (Sm.agn l).d = .tup [.str "again", .int l] := by unfold Sm.d; rfl
        have tu : ∀ R : VD, (∀ M1, M1 = mup M p (.lst (stD (thinB (tnF bits x) ys))) → R (thinS (tnF bits x) (Sm.agn l)).d M1) → spTurned [(Sm.agn l).d, .int bits, .str x] (mup M p (.lst (stD (thinB (tnF bits x) ys)))) R Et0 := fun R hR => ⟨_, bits, x, rfl, rfl, hR _ rfl⟩
        rw [hd] at step tu ⊢
        walk_at "vc"
        refine tu _ fun M1 e => ?_
        subst e
        rw [mLst_of mup_same]
        simp only [oSome_i]
        rw [mup_mup]
        exact ⟨hlt, step _ rfl _⟩
      | meet l =>
        have hd : (Sm.meet l).d = .tup [.str "meet", .int l] := by unfold Sm.d; rfl
        have tu : ∀ R : VD, (∀ M1, M1 = mup M p (.lst (stD (thinB (tnF bits x) ys))) → R (thinS (tnF bits x) (Sm.meet l)).d M1) → spTurned [(Sm.meet l).d, .int bits, .str x] (mup M p (.lst (stD (thinB (tnF bits x) ys)))) R Et0 := fun R hR => ⟨_, bits, x, rfl, rfl, hR _ rfl⟩
        rw [hd] at step tu ⊢
        walk_at "vc"
        refine tu _ fun M1 e => ?_
        subst e
        rw [mLst_of mup_same]
        simp only [oSome_i]
        rw [mup_mup]
        exact ⟨hlt, step _ rfl _⟩
      | join l y w e =>
        have hd : (Sm.join l y w e).d = .tup [.str "join", .int l, .str y, .str w, e.d] := by unfold Sm.d; rfl
        have tu : ∀ R : VD, (∀ M1, M1 = mup M p (.lst (stD (thinB (tnF bits x) ys))) → R (thinS (tnF bits x) (Sm.join l y w e)).d M1) → spTurned [(Sm.join l y w e).d, .int bits, .str x] (mup M p (.lst (stD (thinB (tnF bits x) ys)))) R Et0 := fun R hR => ⟨_, bits, x, rfl, rfl, hR _ rfl⟩
        rw [hd] at step tu ⊢
        walk_at "vc"
        refine tu _ fun M1 e => ?_
        subst e
        rw [mLst_of mup_same]
        simp only [oSome_i]
        rw [mup_mup]
        exact ⟨hlt, step _ rfl _⟩
      | call l y f es =>
        have hd : (Sm.call l y f es).d = .tup [.str "call", .int l, .str y, .str f, .lst (es.map Ex.d)] := by unfold Sm.d; rfl
        have tu : ∀ R : VD, (∀ M1, M1 = mup M p (.lst (stD (thinB (tnF bits x) ys))) → R (thinS (tnF bits x) (Sm.call l y f es)).d M1) → spTurned [(Sm.call l y f es).d, .int bits, .str x] (mup M p (.lst (stD (thinB (tnF bits x) ys)))) R Et0 := fun R hR => ⟨_, bits, x, rfl, rfl, hR _ rfl⟩
        rw [hd] at step tu ⊢
        walk_at "vc"
        refine tu _ fun M1 e => ?_
        subst e
        rw [mLst_of mup_same]
        simp only [oSome_i]
        rw [mup_mup]
        exact ⟨hlt, step _ rfl _⟩
    · rintro τ M1 ⟨rfl, v4, v5, rfl⟩
      walk_at "vc"
      exact ⟨_, _, ReR.made hp, h⟩
def spLines (n : Nat) : SpT := fun ds M Q _ => ∃ (b : List Sm) (bits : Int) (x : Str), ds = [.lst (stD b), .int bits] ∧ deeps b < n ∧ (allBd b).length ≤ 10000 ∧ Q (.lst ((offB (tnF bits x) b).map .int)) M
theorem ok_l_lines (T : Tp K mg) : ∀ n, Fn P w K mg base CX0 (n + 2) "_law_lines" (spLines n)
  | 0 => by
    refine fn_top T 46 e_l_lines (m_l_lines T) sc_l_lines (by rintro _ M Q Et ⟨n, _, _, rfl, _⟩; rfl) (fun cdv A outer s H E hr => ⟨_, qss_never, ?_⟩) (fun _ _ _ _ _ _ us hl => match us, hl with | [_, _], _ => rfl)
    rintro _ M Q Et ⟨b, bits, x, rfl, hd, _⟩
    omega
  | n + 1 => by
    have ih := ok_l_lines T n
    refine fn_top T 46 e_l_lines (m_l_lines T) sc_l_lines (by rintro _ M Q Et ⟨n, _, _, rfl, _⟩; rfl) (fun cdv A outer s H E hr => ⟨_, (qss_cons (qs_set (i := 2) sc_l_lines.nd (q_lstM qa_nil))
 (qss_cons (qs_for PassesOwn.never rfl (qi_list (qv 0)) (qg_name (i := 3) sc_l_lines.nd)
  (qss_cons (qs_if (qt_w (qw_and (qt_cmp oq_eq (q_ix (qv 3) q_int) q_str) (qw_and1 (qt_cmp oq_eq (q_op oq_band (q_op oq_shr (qv 1) (q_op oq_mod (q_ix (qv 3) q_int) q_int)) q_int) q_int))))
  (qss_one (qs_expr (q_append (qv 2) (qa_cons (q_ix (qv 3) q_int) qa_nil))))
  qss_nil)
 (qss_cons (qs_if (qt_w (qw_or (qt_cmp oq_eq (q_ix (qv 3) q_int) q_str) (qw_or1 (qt_cmp oq_eq (q_ix (qv 3) q_int) q_str))))
  (qss_one (qs_set (i := 2) sc_l_lines.nd (q_op oq_catM (qv 2) (q_call ih (hr.mono (by omega)) (qa_cons (q_ix (qv 3) q_int) (qa_cons (qv 1) qa_nil))))))
  qss_nil)
 (qss_one (qs_if (qt_w (qw_and (qt_cmp oq_eq (q_ix (qv 3) q_int) q_str) (qw_and1 (qt_cmp oq_notN (q_ix (qv 3) q_int) q_non))))
  (qss_one (qs_set (i := 2) sc_l_lines.nd (q_op oq_catM (qv 2) (q_call ih (hr.mono (by omega)) (qa_cons (q_ix (qv 3) q_int) (qa_cons (qv 1) qa_nil))))))
  qss_nil)))))
 (qss_one (qs_ret (q_re (qv 2)))))), ?_⟩) (fun _ _ _ _ _ _ us hl => match us, hl with | [_, _], _ => rfl)
    rintro _ M Q Et ⟨b, bits, x, rfl, hd, hl, h⟩
    have off_app : ∀ a c : List Sm, offB (tnF bits x) (a ++ c) = offB (tnF bits x) a ++ offB (tnF bits x) c := fun a c => by
      induction a with
      | nil => unfold offB; rfl
      | cons s t ih => rw [List.cons_append, offB, offB, ih, List.append_assoc]
    have off_one : ∀ s : Sm, offB (tnF bits x) [s] = offS' (tnF bits x) s := fun s => by rw [offB, offB, List.append_nil]
    walk_at "vc"
    intro p hp
    have hext : ∀ (q : Addr) (M' : MH) o, M q = none → (∀ a o, M a = some o → M' a = some o) → (∀ a o', M a = some o' → mup M' q o a = some o') := fun q M' o hq e a u ha => by
      rw [mup_ne (fun z => by rw [z, hq] at ha; cases ha)]
      exact e a u ha
    rw [stD_map]
    refine for_map b Sm.d rfl (fun ys τ M1 => ∃ q v3, M q = none ∧ (∀ a o, M a = some o → M1 a = some o) ∧ M1 q = some (.lst ((offB (tnF bits x) ys).map .int)) ∧ τ = [some (.lst (b.map Sm.d)), some (.int bits), some (.ref q), v3]) ⟨p, none, hp, hext _ _ _ hp (fun a o e => e), by rw [mup_same]; unfold offB; rfl, rfl⟩ (fun _ _ _ _ => trivial) ?_ ?_
    · rintro ys s zs τ M1 Nx hx ⟨q, v3, hq, hE, h1, rfl⟩ hN
      have hs : s.deep ≤ n := by
        have := deeps_mem (b := b) (s := s) (by rw [hx]; simp)
        omega
      have offl : ∀ c : List Sm, (offB (tnF bits x) c).length ≤ (allBd c).length := fun c => off_lenB c
      have hlen : (allSt s).length + (allBd ys).length ≤ 10000 := by
        rw [hx, allBd_app, allBd, List.length_append, List.length_append] at hl
        omega
      have fits := offl ys
      have step : ∀ q M1 v3, M q = none → (∀ a o, M a = some o → M1 a = some o) → M1 q = some (.lst ((offB (tnF bits x) ys ++ offS' (tnF bits x) s).map .int)) → Nx [some (.lst (b.map Sm.d)), some (.int bits), some (.ref q), v3] M1 := fun q M1 v3 a1 a2 a3 => hN _ _ ⟨q, v3, a1, a2, by rw [off_app, off_one]; exact a3, rfl⟩
      have same : offS' (tnF bits x) s = [] → Nx [some (.lst (b.map Sm.d)), some (.int bits), some (.ref q), some s.d] M1 := fun e => step q M1 _ hq hE (by rw [e, List.append_nil]; exact h1)
      have blk : ∀ c ∈ s.blocks, deeps c < n ∧ (allBd c).length ≤ 10000 := fun c hc => by
        refine ⟨block_deep hs hc, ?_⟩
        rw [allSt_eq, List.length_cons] at hlen
        have : (allBd c).length ≤ ((s.blocks.map allBd).flatten).length := by
          obtain ⟨u, v, e⟩ := List.append_of_mem hc
          rw [e, List.map_append, List.map_cons, List.flatten_append, List.flatten_cons, List.length_append, List.length_append]
          omega
        omega
      cases s with
      | put l a c =>
        have b99 := modB (a := l) (b := 99) (by decide)
        have hb1 : Builtin.bitAnd (bits / 2 ^ (l % 99).toNat) 1 = 0 ∨ Builtin.bitAnd (bits / 2 ^ (l % 99).toNat) 1 = 1 := by rw [bit_m1]; omega
        have ho : offS' (tnF bits x) (.put l a c) = if Builtin.bitAnd (bits / 2 ^ (l % 99).toNat) 1 = 0 then [] else [l] := by
          unfold offS' tnF
          split
          · rename_i z; rfl
          · rename_i z; split <;> rfl
        rw [ho] at step same
        unfold Sm.d at same ⊢
        walk_at "vc"
        refine ⟨b99.1, ?_⟩
        rcases hb1 with e | e
        · rw [if_neg (by rw [e]; decide)]
          rw [if_pos e] at same
          exact same rfl
        · rw [if_pos e]
          rw [if_neg (by rw [e]; decide)] at step
          refine ⟨is_m h1, ?_⟩
          rw [mLst_of h1]
          simp only [oSome_i]
          refine ⟨by rw [List.length_map]; omega, ?_⟩
          refine step q _ _ hq (hext _ _ _ hq hE) ?_
          rw [mup_same, List.map_append]
          rfl
      | if1 l e c =>
        have b1 := blk c (by unfold Sm.blocks; simp)
        have ho : offS' (tnF bits x) (.if1 l e c) = offB (tnF bits x) c := by unfold offS'; rfl
        rw [ho] at step
        have := offl c
        unfold Sm.d
        walk_at "vc"
        refine ⟨c, bits, x, rfl, b1.1, b1.2, ?_⟩
        show oSome (lstOf M1 (.ref q)) _
        rw [lstOf_of h1]
        walk_at "vc"
        have o1 := offl c
        refine ⟨by omega, fun p2 hp2 => ?_⟩
        have hp2M : M p2 = none := by
          cases e0 : M p2 with
          | none => rfl
          | some o => rw [hE _ _ e0] at hp2; cases hp2
        refine step p2 _ _ hp2M (hext _ _ _ hp2M hE) ?_
        rw [mup_same, List.map_append]
      | if2 l e c c2 =>
        have b1 := blk c (by unfold Sm.blocks; simp)
        have b2 := blk c2 (by unfold Sm.blocks; simp)
        have ho : offS' (tnF bits x) (.if2 l e c c2) = offB (tnF bits x) c ++ offB (tnF bits x) c2 := by unfold offS'; rfl
        rw [ho] at step
        unfold Sm.d
        walk_at "vc"
        refine ⟨c, bits, x, rfl, b1.1, b1.2, ?_⟩
        show oSome (lstOf M1 (.ref q)) _
        rw [lstOf_of h1]
        walk_at "vc"
        have o1 := offl c
        have o2 := offl c2
        refine ⟨by omega, fun p2 hp2 => ?_⟩
        have hp2M : M p2 = none := by
          cases e0 : M p2 with
          | none => rfl
          | some o => rw [hE _ _ e0] at hp2; cases hp2
        have hE2 := hext p2 M1 (.lst ((offB (tnF bits x) ys).map .int ++ (offB (tnF bits x) c).map .int)) hp2M hE
        refine ⟨c2, bits, x, rfl, b2.1, b2.2, ?_⟩
        show oSome (lstOf _ (.ref p2)) _
        rw [lstOf_of mup_same]
        walk_at "vc"
        refine ⟨by omega, fun p3 hp3 => ?_⟩
        have hp3M : M p3 = none := by
          cases e0 : M p3 with
          | none => rfl
          | some o => rw [hE2 _ _ e0] at hp3; cases hp3
        refine step p3 _ _ hp3M (hext _ _ _ hp3M hE2) ?_
        rw [mup_same, List.map_append, List.map_append, List.append_assoc]
      | whl l e c =>
        have b1 := blk c (by unfold Sm.blocks; simp)
        have ho : offS' (tnF bits x) (.whl l e c) = offB (tnF bits x) c := by unfold offS'; rfl
        rw [ho] at step
        unfold Sm.d
        walk_at "vc"
        refine ⟨c, bits, x, rfl, b1.1, b1.2, ?_⟩
        show oSome (lstOf M1 (.ref q)) _
        rw [lstOf_of h1]
        walk_at "vc"
        have o1 := offl c
        refine ⟨by omega, fun p2 hp2 => ?_⟩
        have hp2M : M p2 = none := by
          cases e0 : M p2 with
          | none => rfl
          | some o => rw [hE _ _ e0] at hp2; cases hp2
        refine step p2 _ _ hp2M (hext _ _ _ hp2M hE) ?_
        rw [mup_same, List.map_append]
      | _ =>
        have same := same (by unfold offS'; rfl)
        unfold Sm.d at same ⊢
        walk_at "vc"
        exact same
    · rintro τ M1 ⟨q, v3, hq, hE, h1, rfl⟩
      walk_at "vc"
      exact ⟨_, M, (ReR.freeze h1).trans (ReR.drop fun a o e => by unfold mdel; rw [if_neg (fun z => by rw [z, hq] at e; cases e)]; exact hE a o e), h⟩
end
end K37
namespace K37
open PySem PySem.Spec PyProof.Rows L2 Tl
section
variable {P : Program} {w : World} {K : PySem.W.Frag} {mg : Str → Option Value} {base : Heap}
theorem ok_law (T : Tp K mg) {f : Addr} {fd : FuncData} (F : FunD K e_law.name e_law.qual e_law.params e_law.body e_law.scope [] [] f fd) : FnOk P w K mg base CX0 54 f fd ["_law_script"] (lSp K spLaw) := by
  refine fn_ok e_law fd F sc_law (by rintro _ M Q Et ⟨n, rfl, _⟩; rfl) (fun cdv A outer s H E hr => ⟨_, (qss_cons (qs_set (i := 1) sc_law.nd (q_call (ok_l_names T) (hr.mono (by decide)) (qa_cons (q_call (ok_l_spread T) (hr.mono (by decide)) (qa_cons (q_call (ok_l_cell_at T) (hr.mono (by decide)) (qa_cons (qv 0) (qa_cons q_int qa_nil))) (qa_cons q_int qa_nil))) qa_nil)))
 (qss_cons (qs_set (i := 2) sc_law.nd (q_call (ok_l_spread T) (hr.mono (by decide)) (qa_cons (q_call (ok_l_cell_at T) (hr.mono (by decide)) (qa_cons (qv 0) (qa_cons q_int qa_nil))) (qa_cons q_int qa_nil))))
 (qss_cons (qs_set (i := 3) sc_law.nd (q_call (ok_l_program T) (hr.mono (by decide)) (qa_cons (qv 0) (qa_cons (qv 1) (qa_cons q_int qa_nil)))))
 (qss_cons (qs_set (i := 4) sc_law.nd (q_lstM qa_nil))
 (qss_cons (qs_set (i := 5) sc_law.nd (q_lst qa_nil))
 (qss_cut (qs_for PassesOwn.never rfl (qi_list (qv 3)) (qg_name (i := 6) sc_law.nd)
  (qss_cons (qs_expr (q_append (qv 4) (qa_cons (q_tup (qa_cons (q_ix (qv 6) q_int) (qa_cons (q_ix (qv 6) q_int) (qa_cons (q_call (ok_l_thinned T 10) (hr.mono (by decide)) (qa_cons (q_ix (qv 6) q_int) (qa_cons (qv 2) (qa_cons (q_ix (qv 1) q_int) qa_nil)))) (qa_cons (q_ix (qv 6) q_int) (qa_cons (q_ix (qv 6) q_int) qa_nil)))))) qa_nil)))
 (qss_one (qs_set (i := 5) sc_law.nd (q_op oq_catL (qv 5) (q_call (ok_l_lines T 10) (hr.mono (by decide)) (qa_cons (q_ix (qv 6) q_int) (qa_cons (qv 2) qa_nil))))))))
 (qss_re (qss_cons (qs_set (i := 7) sc_law.nd (q_call (ok_could T) (hr.mono (by decide)) (qa_cons (qv 3) qa_nil)))
 (qss_cut (qs_set (i := 8) sc_law.nd (q_call (ok_could T) (hr.mono (by decide)) (qa_cons (qv 4) qa_nil)))
 (qss_cons (qs_if (qt_w (qw_or (qt_not (qt_val (q_callB cq_isi (m_isinstance T) (by decide +kernel) (qa_cons (qv 7) (qa_cons (q_ty "list" (m_list T) (by decide +kernel)) qa_nil))))) (qw_or (qt_not (qt_val (q_callB cq_isi (m_isinstance T) (by decide +kernel) (qa_cons (qv 8) (qa_cons (q_ty "list" (m_list T) (by decide +kernel)) qa_nil))))) (qw_or1 (qt_cmp (oq_neD (un64 hr)) (qv 3) (q_call (ok_l_program T) (hr.mono (by decide)) (qa_cons (qv 0) (qa_cons (qv 1) (qa_cons q_int qa_nil)))))))))
  (qss_one (qs_ret q_bl))
  qss_nil)
 (qss_cons (qs_if (qt_not (qt_val (q_callB (cq_all rfl) (m_all T) (by decide +kernel) (qa_cons (q_lc rfl sc_law.nd (qi_list (qv 8)) (blkOk_by (N := nm_law) (sc := defScope s_law) (own := [(("_law_pair" : Str), 10)]) (by decide +kernel)) go_name (fun _ _ _ _ _ => (pg_name (i := 10) sc_law.nd rfl (Or.inl rfl))) (fun _ _ _ _ _ => qts_nil) (fun _ _ _ _ _ => (q_cmp (oq_inDD (un65 hr)) (qv 10) (qv 7)))) qa_nil))))
  (qss_one (qs_ret q_bl))
  qss_nil)
 (qss_cons (qs_setLc (i := 9) (own := [(("_law_pair" : Str), 10)]) (lv_lcF go_name) rfl sc_law.nd (qi_list (qv 7)) (blkOk_by (N := nm_law) (sc := defScope s_law) (own := [(("_law_pair" : Str), 10)]) (by decide +kernel)) (fun _ _ _ _ _ => (pg_name (i := 10) sc_law.nd rfl (Or.inl rfl))) (fun _ _ _ _ _ => (qts_one (qt_w (qw_and (qt_cmp oq_inQN (q_ix (qv 10) q_int) (qv 5)) (qw_and1 (qt_cmp oq_inQN (q_ix (qv 10) q_int) (qv 5))))))) (fun _ _ _ _ _ => (qv 10)) (sw_true rfl rfl rfl (by decide +kernel)))
 (qss_one (qs_ret (q_cmp (oq_eqD (un64 hr)) (qv 9) (q_lc rfl sc_law.nd (qi_list (qv 8)) (blkOk_by (N := nm_law) (sc := defScope s_law) (own := [(("_law_pair" : Str), 10)]) (by decide +kernel)) go_name (fun _ _ _ _ _ => (pg_name (i := 10) sc_law.nd rfl (Or.inl rfl))) (fun _ _ _ _ _ => (qts_one (qt_w (qw_and (qt_cmp oq_inQN (q_ix (qv 10) q_int) (qv 5)) (qw_and1 (qt_cmp oq_inQN (q_ix (qv 10) q_int) (qv 5))))))) (fun _ _ _ _ _ => (qv 10)))))))))))))))))), ?_⟩)
  rintro _ M Q Et ⟨ns, rfl, hl, h⟩
  walk_at "vc"
  have hxs := names_ok (spreadF (cellF ns 1) 1)
  refine ⟨ns, 1, rfl, _, 1, rfl, by decide, _, rfl, ns, 2, rfl, _, 99, rfl, by decide, ns, _, 34, rfl, names_ok _, by decide, ?_⟩
  obtain ⟨rs, hb⟩ := progG_built (plc := placeB) (smp := simpleB) (fun xs i h => placeB_ok h i) (fun xs i h => simpleB_ok h i) (names_ok (spreadF (cellF ns 1) 1)) ns (most := 34) (by decide)
  have hfl := built_forms (names_ok (spreadF (cellF ns 1) 1)) ns (most := 34) (by decide)
  have hne := prog_ne (opf := opG placeB simpleB) (namesF (spreadF (cellF ns 1) 1)) ns 34
  generalize hpg : progF (opG placeB simpleB) (namesF (spreadF (cellF ns 1) 1)) ns 34 = pg at hb hfl hne ⊢
  generalize hXS : namesF (spreadF (cellF ns 1) 1) = xs at *
  generalize spreadF (cellF ns 2) 99 = bits at *
  obtain ⟨nm, hnm⟩ : ∃ nm, xs.getD 0 "" = nm := ⟨_, rfl⟩
  have ok := built_rows hb
  have hsm := built_small hb
  have hlp : ∀ o ∈ pg, inLps False o.body := fun o ho => (ok.df o ho).2
  let tn := tnF bits nm
  have hpl : pg.length ≤ 4 := (built_short hb).2
  have hsm2 : Small 62 6 10 (thinP tn pg) := thin_Small hsm
  have ok2 : okRows (thinP tn pg) := by
    refine small_rows hsm2 (by decide) (by decide) (by decide) (by decide) ?_
    unfold thinP
    rw [List.length_map]
    have : pg.length * (62 * (6 * 2 ^ 10 + 4) + 1) ≤ 4 * (62 * (6 * 2 ^ 10 + 4) + 1) := Nat.mul_le_mul_right _ hpl
    omega
  have hfl2 := forms_thin tn hlp hne
  have hne2 : thinP tn pg ≠ [] := fun z => hne (List.map_eq_nil_iff.mp z)
  intro p hp
  refine cut_by (fun τ M' => M' = mup M p (.lst (pgD (thinP tn pg))) ∧ ∃ x6, τ = [some (.scr (ns.map .int)), some (nmD xs), some (.int bits), some (.lst (pgD pg)), some (.ref p), some (.lst ((offP tn pg).map .int)), x6, none, none, none, none]) ?_ ?_
  · walk_at "vc"
    refine for_map pg Df.d rfl (fun ys τ M1 => M1 = mup M p (.lst (pgD (thinP tn ys))) ∧ ∃ x6, τ = [some (.scr (ns.map .int)), some (nmD xs), some (.int bits), some (.lst (pgD pg)), some (.ref p), some (.lst ((offP tn ys).map .int)), x6, none, none, none, none]) ⟨rfl, _, rfl⟩ (fun _ _ _ _ => trivial) ?_ ?_
    · rintro ys o zs τ M1 Nx hx ⟨rfl, x6, rfl⟩ hN
      have ho : o ∈ pg := by rw [hx]; simp
      obtain ⟨h1, h2, _⟩ := hsm.bd o ho
      have hyl : ys.length < 4 := by have := congrArg List.length hx; rw [List.length_append, List.length_cons] at this; omega
      have hoff : (offP tn ys).length ≤ 62 * ys.length := by
        have : ∀ zs : Pg, (∀ o ∈ zs, o ∈ pg) → (offP tn zs).length ≤ 62 * zs.length := fun zs => by
          induction zs with
          | nil => intro _; exact Nat.le_refl _
          | cons z t ih =>
            intro q
            have q1 := ih fun o ho => q o (List.mem_cons_of_mem _ ho)
            have q2 := off_lenB (tn := tn) z.body
            have q3 := (hsm.bd z (q z (List.mem_cons_self ..))).2.1
            unfold offP at q1 ⊢
            rw [List.flatMap_cons, List.length_append, List.length_cons]
            omega
        exact this ys fun o ho => by rw [hx]; exact List.mem_append_left _ ho
      have hoff1 := off_lenB (tn := tn) o.body
      have hx0 : atI (xs.map D.str) 0 = some (.str nm) := by
        have h6 := hxs.1
        cases xs with
        | nil => cases h6
        | cons a t =>
          rw [← hnm]
          exact atI_nat (j := 0) rfl
      unfold Df.d
      walk_at "vc"
      rw [show bIx (nmD xs) (D.int 0) = bIx (.lst (xs.map D.str)) (D.int 0) from rfl]
      rw [uIx_l, hx0]
      simp only [oSome_i]
      refine ⟨o.body, bits, nm, rfl, by omega, by omega, ?_⟩
      show oSome (mLst _ p) _
      rw [mLst_of mup_same]
      simp only [oSome_i]
      refine ⟨by unfold pgD thinP; rw [List.length_map, List.length_map]; omega, ?_⟩
      refine ⟨o.body, bits, nm, rfl, by omega, by omega, ?_⟩
      walk_at "vc"
      have hoff2 : (offB (tnF bits nm) o.body).length ≤ 62 := by
        have := off_lenB (tn := tnF bits nm) o.body
        omega
      have e : (offP tn (ys ++ [o])).map D.int = (offP tn ys).map D.int ++ (offB tn o.body).map D.int := by
        unfold offP
        rw [List.flatMap_append, List.map_append, List.flatMap_cons, List.flatMap_nil, List.append_nil]
      refine ⟨by omega, hN _ _ ⟨?_, _, by rw [e]⟩⟩
      unfold pgD thinP
      rw [List.map_append, List.map_append]
      rfl
    · rintro τ M1 ⟨rfl, x6, rfl⟩
      exact ⟨rfl, _, rfl⟩
  rintro τ M1 ⟨rfl, x6, rfl⟩
  refine ⟨_, _, (ReS.freeze (i := 4) (a := p) (ds := pgD (thinP tn pg)) rfl mup_same).trans (ReS.drop (M' := M) (by rw [mdel_mup hp]; exact fun _ _ e => e)), ?_⟩
  walk_at "vc"
  refine ⟨pg, rfl, ok, by omega, hne, fun M1 ps hM1 ho hnd hmem => ?_⟩
  refine cut_by (fun τ M' => ∃ ps2 : List (Int × Int), ps2.Pairwise lexLe ∧ ps2.Nodup ∧ (∀ q, q ∈ ps2 ↔ CouldR (rowsF (thinP tn pg)) (formsP (thinP tn pg)) q) ∧ τ = [some (.scr (ns.map .int)), some (nmD xs), some (.int bits), some (.lst (pgD pg)), some (.lst (pgD (thinP tn pg))), some (.lst ((offP tn pg).map .int)), x6, some (.lst (ps.map pairD)), some (.lst (ps2.map pairD)), none, none]) ?_ ?_
  · walk_at "vc"
    refine ⟨thinP tn pg, rfl, ok2, by omega, hne2, fun M2 ps2 hM2 ho2 hnd2 hmem2 => ?_⟩
    exact ⟨ps2, ho2, hnd2, hmem2, rfl⟩
  rintro τ M2 ⟨ps2, ho2, hnd2, hmem2, rfl⟩
  walk_at "vc"
  refine ⟨ns, xs, 34, rfl, hxs, by decide, ?_⟩
  rw [hpg]
  refine neD_same 30 rfl rfl (pg_okD (by decide +kernel) hb) ?_
  walk_at "vc"
  have few : ∀ {q : Pg} {qs : List (Int × Int)}, (formsP q).length ≤ 1200 → qs.Nodup → (∀ p, p ∈ qs ↔ CouldR (rowsF q) (formsP q) p) → qs.length ≤ 1440000 := fun {q qs} hf hn hm => by
    have htl : (tchR (rowsF q) (formsP q)).length ≤ 1200 := by
      unfold tchR
      rw [List.length_map, List.length_zip]
      omega
    have h1 := pairs_few (ls := (tchR (rowsF q) (formsP q)).map (fun a => a.2.ln)) hn fun p hp => by
      obtain ⟨s, hs, x, hx, y, hy, _, _, _, e⟩ := (hm p).mp hp
      have h3 := prT_in (ts := (tchR (rowsF q) (formsP q)).map (·.2)) (List.mem_map.mpr ⟨x, hx, rfl⟩) (List.mem_map.mpr ⟨y, hy, rfl⟩)
      rw [e]
      rw [List.map_map] at h3
      exact h3
    rw [List.length_map] at h1
    exact Nat.le_trans h1 (Nat.mul_le_mul htl htl)
  have f1 := few hfl hnd hmem
  have f2 := few (Nat.le_trans hfl2 hfl) hnd2 hmem2
  have hT : ∀ {p : Int × Int}, (p ∈ ps2 → p ∈ ps) ∧ (p.1 ∉ offP tn pg → p.2 ∉ offP tn pg → p ∈ ps → p ∈ ps2) := fun {p} => by
    rw [hmem, hmem2]
    exact thin_could tn hlp hne
  have pok : ∀ q : Int × Int, okD 2 (Tl.pairD q) := fun q => okD_tup (okDs_cons okD_int (okDs_cons okD_int okDs_nil))
  have ppl : ∀ q : Int × Int, plD (Tl.pairD q) := fun q => by unfold Tl.pairD; unfold plD plDs plD plDs plD plDs; exact ⟨trivial, trivial, trivial⟩
  refine lc_map ps2 Tl.pairD (fun _ => .bl true) rfl (by rw [sizeLine_eq]; omega) trivial (fun q R1 R0 hq hR => ?_) ?_
  · walk_at "vc"
    refine inD_pl 2 (z := Tl.pairD q) (ws := ps.map Tl.pairD) rfl rfl (pok q) (fun w hw => ?_) (ppl q) (fun w hw => ?_) fun b hb => ?_
    · obtain ⟨x, _, rfl⟩ := List.mem_map.mp hw; exact pok x
    · obtain ⟨x, _, rfl⟩ := List.mem_map.mp hw; exact ppl x
    · rw [hb.mpr (List.mem_map.mpr ⟨q, hT.1 hq, rfl⟩)]
      exact hR
  rw [show (ps2.map fun _ => D.bl true) = (ps2.map fun _ => true).map D.bl from by rw [List.map_map]; rfl, blLst_l]
  walk_at "vc"
  rw [show (ps2.map fun _ => true).all id = true from by rw [List.all_map]; exact List.all_eq_true.mpr fun _ _ => rfl, if_neg (by decide)]
  generalize offP tn pg = off at *
  have anyI : ∀ i : Int, ((off.map D.int).any fun z => eqD z (D.int i)) = decide (i ∈ off) := fun i => by
    rw [List.any_map, Bool.eq_iff_iff, List.any_eq_true, decide_eq_true_eq]
    exact ⟨fun ⟨y, hy, e⟩ => by rw [← eq_of_beq (show (y == i) = true from e)]; exact hy, fun h => ⟨i, h, beq_self_eq_true i⟩⟩
  have allI : (off.map D.int).all flatD = true := by
    rw [List.all_map]
    exact List.all_eq_true.mpr fun _ _ => rfl
  let st : Int × Int → Bool := fun q => decide (q.1 ∉ off) && decide (q.2 ∉ off)
  refine lc_filter ps Tl.pairD st Tl.pairD rfl (by rw [sizeLine_eq]; omega) trivial (fun q R1 R0 hq hR1 hR0 => ?_) ?_
  · unfold Tl.pairD at hR1 ⊢
    walk_at "vc"
    refine ⟨rfl, allI, ?_⟩
    rw [anyI]
    by_cases c1 : q.1 ∈ off
    · rw [decide_eq_true c1, if_neg (by decide)]
      exact hR0 (by unfold st; rw [decide_eq_false (fun z => z c1)]; rfl)
    · rw [decide_eq_false c1, if_pos rfl]
      refine ⟨rfl, allI, ?_⟩
      rw [anyI]
      by_cases c2 : q.2 ∈ off
      · rw [decide_eq_true c2, if_neg (by decide)]
        exact hR0 (by unfold st; rw [decide_eq_false (fun z : q.2 ∉ off => z c2), Bool.and_false])
      · rw [decide_eq_false c2, if_pos rfl]
        exact hR1 (by unfold st; rw [decide_eq_true c1, decide_eq_true c2]; rfl)
  refine lc_filter ps2 Tl.pairD st Tl.pairD rfl (by rw [sizeLine_eq]; omega) trivial (fun q R1 R0 hq hR1 hR0 => ?_) ?_
  · unfold Tl.pairD at hR1 ⊢
    walk_at "vc"
    refine ⟨rfl, allI, ?_⟩
    rw [anyI]
    by_cases c1 : q.1 ∈ off
    · rw [decide_eq_true c1, if_neg (by decide)]
      exact hR0 (by unfold st; rw [decide_eq_false (fun z => z c1)]; rfl)
    · rw [decide_eq_false c1, if_pos rfl]
      refine ⟨rfl, allI, ?_⟩
      rw [anyI]
      by_cases c2 : q.2 ∈ off
      · rw [decide_eq_true c2, if_neg (by decide)]
        exact hR0 (by unfold st; rw [decide_eq_false (fun z : q.2 ∉ off => z c2), Bool.and_false])
      · rw [decide_eq_false c2, if_pos rfl]
        exact hR1 (by unfold st; rw [decide_eq_true c1, decide_eq_true c2]; rfl)
  have e : ps.filter st = ps2.filter st := sorted_pairs (ho.sublist List.filter_sublist) (ho2.sublist List.filter_sublist) (hnd.sublist List.filter_sublist) (hnd2.sublist List.filter_sublist) fun q => by
    rw [List.mem_filter, List.mem_filter]
    constructor
    · rintro ⟨h1, h2⟩
      have h3 := h2
      unfold st at h3
      rw [Bool.and_eq_true, decide_eq_true_eq, decide_eq_true_eq] at h3
      exact ⟨hT.2 h3.1 h3.2 h1, h2⟩
    · rintro ⟨h1, h2⟩
      exact ⟨hT.1 h1, h2⟩
  rw [e]
  refine eqD_same 3 rfl rfl (okD_lst (okDs_of fun d hd => ?_)) (h _)
  obtain ⟨x, _, rfl⟩ := List.mem_map.mp hd
  exact pok x
end
theorem facts {P : Program} {w : World} {K : PySem.W.Frag} {h : Heap} {mg : Str → Option Value} {f : Addr} (X : K.In h) (G : h.Ns mainGlobals mg) (hfa : mg ("law" : Str) = some (.ref f)) (c : He.SaysD fa fn K) :
    ∃ fd : FuncData, (∀ (s : Shared) (v : Value), BindsTo s fd ⟨[v], []⟩ [("_law_script", v)]) ∧ ∀ base : Heap, K.In base → base.Ns mainGlobals mg → FnOk P w K mg base CX0 54 f fd ["_law_script"] (lSp K spLaw) := by
  have T : Tp K mg := ⟨c, h, X, G⟩
  obtain ⟨fd, F⟩ := c.def_ 47 (d := e_law) rfl
  have e := hfa.symm.trans (m_law T)
  cases e
  have b := FunD.bindsA (ps := ["_law_script"]) F fun _ _ _ _ _ _ us hl => match us, hl with | [_], _ => rfl
  exact ⟨fd, fun s v => b s [v] rfl, fun base _ _ => ok_law T F⟩
abbrev R : PySem.W.OpenRow := PySem.W.OpenLaw.row PySem.Challenge.rw_widelanes_k37_fewer_touches
abbrev hk : PySem.W.Hook := He.hookD 4 fa fn
def ob (s : PySem.W.SharedT) : He.AlD := He.obsDG 4 fa fn (HandSHeadRun.getT s)
theorem ob_eq (s : PySem.W.SharedT) : ob s = hk.obs s.abs := He.obsDG_eq (HandSHeadRun.getT_eq s)
theorem run (w : World) : HandSHeadRun.RunEq R (PySem.W.view R.prog [47]) hk ob 4000 ("__name__" :: "expressions_of" :: "given_by" :: "blocks_of" :: "all_of" :: "note_names" :: "slots_of" :: "add_expression" :: "Maker" :: "last_row" :: "make_way" :: "make_plain" :: "make_if" :: "make_while" :: "make_block" :: "make_def" :: "made" :: "next_rows" :: "form_of" :: "may_meet" :: "forms_in" :: "forms_of" :: "behind_calls" :: "goes_on" :: "come_to" :: "pairs_of" :: "could" :: "_law_cell_at" :: "_law_spread" :: "_law_names" :: "_law_place" :: "_law_simple" :: "_law_call" :: "_law_op" :: "_law_closed_up" :: "_law_may_stand" :: "_law_laid" :: "_law_rooms" :: "_law_variables" :: "_law_program" :: "_law_turned" :: "_law_thinned" :: "_law_lines" :: []) w := by
  intro os
  kernel_rfl
end K37
open PySem PySem.W PySem.Calls PyProof.Rows
theorem PySem.Challenge.cw_widelanes_k37_fewer_touches_holds : PySem.Challenge.rw_widelanes_k37_fewer_touches.Holds := by
  w_on; o_law
  refine HandSHeadRun.head_any (r := OpenLaw.row PySem.Challenge.rw_widelanes_k37_fewer_touches) (q := view (OpenLaw.row PySem.Challenge.rw_widelanes_k37_fewer_touches).prog [47]) (H := K37.hk) (ob := K37.ob) (M := 4000) (loose := ("__name__" :: "expressions_of" :: "given_by" :: "blocks_of" :: "all_of" :: "note_names" :: "slots_of" :: "add_expression" :: "Maker" :: "last_row" :: "make_way" :: "make_plain" :: "make_if" :: "make_while" :: "make_block" :: "make_def" :: "made" :: "next_rows" :: "form_of" :: "may_meet" :: "forms_in" :: "forms_of" :: "behind_calls" :: "goes_on" :: "come_to" :: "pairs_of" :: "could" :: "_law_cell_at" :: "_law_spread" :: "_law_names" :: "_law_place" :: "_law_simple" :: "_law_call" :: "_law_op" :: "_law_closed_up" :: "_law_may_stand" :: "_law_laid" :: "_law_rooms" :: "_law_variables" :: "_law_program" :: "_law_turned" :: "_law_thinned" :: "_law_lines" :: [])) (d := HandSHeadRun.topDef (OpenLaw.row PySem.Challenge.rw_widelanes_k37_fewer_touches).prog 47) (kwd := []) K37.ob_eq
    (by kernel_rfl) (fun s => by kernel_rfl) K37.run (by kernel_rfl) (by kernel_rfl) (by kernel_rfl) (by rfl) (by first | assumption | decide +kernel) (by decide +kernel) ⟨rfl, rfl, rfl, rfl, rfl, by decide +kernel⟩ ?hw ?hc
  case hw => w_witness2
  case hc =>
    refine L2.walk_ofE (l := PySem.Challenge.rw_widelanes_k37_fewer_touches) (n := 63) (k := 54) (x := "_law_script") (CX := L2.CX0) rfl (by decide) (by kernel_rfl) ⟨rfl, by decide, by decide⟩ ?F (fun _ _ _ _ z => z)
    intro w mg fa h Y G hmg0
    obtain ⟨K, KX, c⟩ := Y
    have hmg : mg ("law" : PySem.Str) = some (.ref fa) := by
      have e : (HandSHeadRun.topDef (OpenLaw.row PySem.Challenge.rw_widelanes_k37_fewer_touches).prog 47).name = ("law" : PySem.Str) := by kernel_rfl
      rw [← e]
      exact hmg0
    obtain ⟨fd, hb, hF⟩ := K37.facts (P := (PySem.Challenge.rw_widelanes_k37_fewer_touches).prog) (w := w) KX G hmg c
    exact ⟨K, fd, Tl.lSp K Tl.spLaw, KX, hb, fun H a ns hl _ hS => Tl.end_sp hS ⟨ns, rfl, hl, fun _ => rfl⟩, hF⟩
#print axioms PySem.Challenge.cw_widelanes_k37_fewer_touches_holds
