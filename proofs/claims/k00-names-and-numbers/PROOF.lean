import PyProof.Rows.All
import Wide.All
import OpenK.AllK
import Wide.FinOn
import HandS.ForMost
import HandS.ForExc
import HandS.Walk
import HandS.Wide
import HandS.Defaults
import HandS.IsInst
import HandS.Flow
import PySem.Challenge.RW_playhall_k00_names_and_numbers
set_option Elab.async false
set_option linter.all false
set_option maxRecDepth 100000
set_option maxHeartbeats 4000000
namespace PD
open PySem PySem.Spec PyProof.Rows L2

/-! ### data and owned things -/
inductive D where
  | non | bl (b : Bool) | int (i : Int) | str (x : Str) | lst (xs : List D) | tup (xs : List D)
  | dic (ks : List Key) (vs : List D) | obj (C : Addr) (fs : List Str) (vs : List D)

inductive O where
  | unk | dat (d : D) | lst (xs : List O) | dic (ks : List Key) (vs : List O) | obj (C : Addr) (fs : List Str) (vs : List O)

mutual
def O.toD : O → Option D
  | .unk => none
  | .dat d => some d
  | .lst xs => (O.toDs xs).map .lst
  | .dic ks vs => (O.toDs vs).map (.dic ks)
  | .obj C fs vs => (O.toDs vs).map (.obj C fs)
def O.toDs : List O → Option (List D)
  | [] => some []
  | o :: os => match O.toD o, O.toDs os with
    | some d, some ds => some (d :: ds)
    | _, _ => none
end

mutual
inductive Dv (K : PySem.W.Frag) (M : Hp) : V → D → Prop
  | non : Dv K M .non .non
  | bl (b : Bool) : Dv K M (.bl b) (.bl b)
  | int (i : Int) : Dv K M (.int i) (.int i)
  | str (x : Str) : Dv K M (.str x) (.str x)
  | lst {a : Addr} {xs : List V} {ds : List D} : SqL K M a xs → Dvs K M xs ds → Dv K M (.ref a) (.lst ds)
  | tup {a : Addr} {xs : List V} {ds : List D} : SqT K M a xs → Dvs K M xs ds → Dv K M (.ref a) (.tup ds)
  | dic {a : Addr} {kvs : List (Key × V)} {ks : List Key} {ds : List D} : M a = some (.dK kvs) → kvs.map (·.1) = ks → Dvs K M (kvs.map (·.2)) ds → Dv K M (.ref a) (.dic ks ds)
  | obj {a C dx : Addr} {fs : List (Str × V)} {ks : List Str} {ds : List D} : M a = some (.ins C dx fs) → M dx = some (.own a) → fs.map (·.1) = ks → Dvs K M (fs.map (·.2)) ds → Dv K M (.ref a) (.obj C ks ds)
inductive Dvs (K : PySem.W.Frag) (M : Hp) : List V → List D → Prop
  | nil : Dvs K M [] []
  | cons {v : V} {vs : List V} {d : D} {ds : List D} : Dv K M v d → Dvs K M vs ds → Dvs K M (v :: vs) (d :: ds)
end

theorem sqT_same {K : PySem.W.Frag} {H H' : Hp} {a : Addr} {xs : List V} (e : Same H H') (h : SqT K H a xs) : SqT K H' a xs := by
  rcases h with (h | ⟨o, h⟩) | h
  · exact .inl (.inl (e _ _ h))
  · exact .inl (.inr ⟨o, e _ _ h⟩)
  · exact .inr h

section
variable {K : PySem.W.Frag} {M M' : Hp}
mutual
theorem Dv.mono (s : Same M M') : ∀ {v : V} {d : D}, Dv K M v d → Dv K M' v d
  | _, _, .non => .non
  | _, _, .bl b => .bl b
  | _, _, .int i => .int i
  | _, _, .str x => .str x
  | _, _, .lst h hs => .lst (s.seq h) (Dvs.mono s hs)
  | _, _, .tup h hs => .tup (sqT_same s h) (Dvs.mono s hs)
  | _, _, .dic h e hs => .dic (s _ _ h) e (Dvs.mono s hs)
  | _, _, .obj h h2 e hs => .obj (s _ _ h) (s _ _ h2) e (Dvs.mono s hs)
theorem Dvs.mono (s : Same M M') : ∀ {vs : List V} {ds : List D}, Dvs K M vs ds → Dvs K M' vs ds
  | _, _, .nil => .nil
  | _, _, .cons h hs => .cons (Dv.mono s h) (Dvs.mono s hs)
end
theorem Dvs.length {vs : List V} {ds : List D} (h : Dvs K M vs ds) : vs.length = ds.length := by
  induction ds generalizing vs with
  | nil => cases h; rfl
  | cons d ds ih => cases h with | cons _ t => simp [ih t]
theorem Dvs.get : ∀ {vs : List V} {ds : List D} {i : Nat} {d : D}, Dvs K M vs ds → ds[i]? = some d → ∃ v, vs[i]? = some v ∧ Dv K M v d
  | _, _, 0, _, .cons h _, e => by simp at e; subst e; exact ⟨_, rfl, h⟩
  | _, _, i + 1, d, .cons _ t, e => by
    obtain ⟨v, e1, e2⟩ := Dvs.get (i := i) (d := d) t (by simpa using e)
    exact ⟨v, by simpa using e1, e2⟩
  | _, _, _, _, .nil, e => by simp at e
theorem Dvs.getV : ∀ {vs : List V} {ds : List D} {i : Nat} {v : V}, Dvs K M vs ds → vs[i]? = some v → ∃ d, ds[i]? = some d ∧ Dv K M v d
  | _, _, 0, _, .cons h _, e => by simp at e; subst e; exact ⟨_, rfl, h⟩
  | _, _, i + 1, d, .cons _ t, e => by
    obtain ⟨v, e1, e2⟩ := Dvs.getV (i := i) (v := d) t (by simpa using e)
    exact ⟨v, by simpa using e1, e2⟩
  | _, _, _, _, .nil, e => by simp at e
theorem Dvs.append : ∀ {vs ws : List V} {ds es : List D}, Dvs K M vs ds → Dvs K M ws es → Dvs K M (vs ++ ws) (ds ++ es)
  | _, _, _, _, .nil, s => s
  | _, _, _, _, .cons r t, s => .cons r (Dvs.append t s)
theorem Dvs.take : ∀ {vs : List V} {ds : List D} (n : Nat), Dvs K M vs ds → Dvs K M (vs.take n) (ds.take n)
  | _, _, 0, _ => .nil
  | _, _, _ + 1, .nil => .nil
  | _, _, n + 1, .cons r t => .cons r (Dvs.take n t)
theorem Dvs.drop : ∀ {vs : List V} {ds : List D} (n : Nat), Dvs K M vs ds → Dvs K M (vs.drop n) (ds.drop n)
  | _, _, 0, r => r
  | _, _, _ + 1, .nil => .nil
  | _, _, n + 1, .cons _ t => Dvs.drop n t
end

mutual
inductive Ow (K : PySem.W.Frag) (M H : Hp) : O → Option V → List Addr → Prop
  | unk {v : Option V} : Ow K M H .unk v []
  | dat {v : V} {d : D} : Dv K M v d → Ow K M H (.dat d) (some v) []
  | lst {a : Addr} {xs : List V} {os : List O} {fp : List Addr} : H a = some (.lst xs) → Ows K M H os (xs.map some) fp → Ow K M H (.lst os) (some (.ref a)) (a :: fp)
  | dic {a : Addr} {kvs : List (Key × V)} {ks : List Key} {os : List O} {fp : List Addr} : H a = some (.dK kvs) → kvs.map (·.1) = ks → Ows K M H os (kvs.map fun p => some p.2) fp → Ow K M H (.dic ks os) (some (.ref a)) (a :: fp)
  | obj {a C dx : Addr} {fs : List (Str × V)} {ks : List Str} {os : List O} {fp : List Addr} : H a = some (.ins C dx fs) → H dx = some (.own a) → fs.map (·.1) = ks → Ows K M H os (fs.map fun p => some p.2) fp →
      Ow K M H (.obj C ks os) (some (.ref a)) (a :: dx :: fp)
inductive Ows (K : PySem.W.Frag) (M H : Hp) : List O → List (Option V) → List Addr → Prop
  | nil : Ows K M H [] [] []
  | cons {o : O} {v : Option V} {f1 : List Addr} {os : List O} {vs : List (Option V)} {f2 : List Addr} : Ow K M H o v f1 → Ows K M H os vs f2 → Ows K M H (o :: os) (v :: vs) (f1 ++ f2)
end

section
variable {K : PySem.W.Frag} {M M' H H' : Hp}
mutual
theorem Ow.frame (s : Same M M') : ∀ {o : O} {v : Option V} {fp : List Addr}, Ow K M H o v fp → (∀ a ∈ fp, H' a = H a) → Ow K M' H' o v fp
  | _, _, _, .unk, _ => .unk
  | _, _, _, .dat h, _ => .dat (h.mono s)
  | _, _, _, .lst h hs, k => .lst ((k _ List.mem_cons_self).trans h) (Ows.frame s hs fun a ha => k a (List.mem_cons_of_mem _ ha))
  | _, _, _, .dic h e hs, k => .dic ((k _ List.mem_cons_self).trans h) e (Ows.frame s hs fun a ha => k a (List.mem_cons_of_mem _ ha))
  | _, _, _, .obj h h2 e hs, k => .obj ((k _ List.mem_cons_self).trans h) ((k _ (List.mem_cons_of_mem _ List.mem_cons_self)).trans h2) e (Ows.frame s hs fun a ha => k a (List.mem_cons_of_mem _ (List.mem_cons_of_mem _ ha)))
theorem Ows.frame (s : Same M M') : ∀ {os : List O} {vs : List (Option V)} {fp : List Addr}, Ows K M H os vs fp → (∀ a ∈ fp, H' a = H a) → Ows K M' H' os vs fp
  | _, _, _, .nil, _ => .nil
  | _, _, _, .cons h hs, k => .cons (Ow.frame s h fun a ha => k a (List.mem_append_left _ ha)) (Ows.frame s hs fun a ha => k a (List.mem_append_right _ ha))
end
mutual
theorem Ow.dom : ∀ {o : O} {v : Option V} {fp : List Addr}, Ow K M H o v fp → ∀ a ∈ fp, H a ≠ none
  | _, _, _, .unk, _, h => nomatch h
  | _, _, _, .dat _, _, h => nomatch h
  | _, _, _, .lst h hs, a, ha => by
    rcases List.mem_cons.mp ha with rfl | ha
    · rw [h]; exact fun z => nomatch z
    · exact Ows.dom hs a ha
  | _, _, _, .dic h _ hs, a, ha => by
    rcases List.mem_cons.mp ha with rfl | ha
    · rw [h]; exact fun z => nomatch z
    · exact Ows.dom hs a ha
  | _, _, _, .obj h h2 _ hs, a, ha => by
    rcases List.mem_cons.mp ha with rfl | ha
    · rw [h]; exact fun z => nomatch z
    · rcases List.mem_cons.mp ha with rfl | ha
      · rw [h2]; exact fun z => nomatch z
      · exact Ows.dom hs a ha
theorem Ows.dom : ∀ {os : List O} {vs : List (Option V)} {fp : List Addr}, Ows K M H os vs fp → ∀ a ∈ fp, H a ≠ none
  | _, _, _, .nil, _, h => nomatch h
  | _, _, _, .cons h hs, a, ha => (List.mem_append.mp ha).elim (Ow.dom h a) (Ows.dom hs a)
end
theorem Ows.length : ∀ {os : List O} {vs : List (Option V)} {fp : List Addr}, Ows K M H os vs fp → vs.length = os.length
  | _, _, _, .nil => rfl
  | _, _, _, .cons _ hs => by simp [hs.length]
theorem Ows.append : ∀ {a b : List O} {va vb : List (Option V)} {fa fb : List Addr}, Ows K M H a va fa → Ows K M H b vb fb → Ows K M H (a ++ b) (va ++ vb) (fa ++ fb)
  | _, _, _, _, _, _, .nil, s => s
  | _, _, _, _, _, _, .cons r t, s => by
    rw [List.append_assoc]
    exact .cons r (Ows.append t s)
theorem Ows.split : ∀ {a b : List O} {va vb : List (Option V)} {fp : List Addr}, Ows K M H (a ++ b) (va ++ vb) fp → va.length = a.length → ∃ fa fb, fp = fa ++ fb ∧ Ows K M H a va fa ∧ Ows K M H b vb fb
  | [], _, [], _, fp, h, _ => ⟨[], fp, rfl, .nil, h⟩
  | o :: a, b, v :: va, vb, _, h, e => by
    cases h with
    | cons h hs =>
      obtain ⟨fa, fb, e1, h1, h2⟩ := Ows.split hs (by simpa using e)
      exact ⟨_ ++ fa, fb, by rw [e1, List.append_assoc], .cons h h1, h2⟩
  | [], _, _ :: _, _, _, _, e => by simp at e
  | _ :: _, _, [], _, _, _, e => by simp at e
end

/-- the state: M the frozen part, os the things known of the roots vs -/
def Rep (K : PySem.W.Frag) (M H : Hp) (os : List O) (vs : List (Option V)) : Prop :=
  Same M H ∧ ∃ fp, Ows K M H os vs fp ∧ fp.Nodup ∧ ∀ a ∈ fp, M a = none

section
variable {K : PySem.W.Frag} {M M' H H' : Hp} {os l r : List O} {vs lv rv : List (Option V)} {o : O} {v : Option V}
theorem Rep.same (h : Rep K M H os vs) : Same M H := h.1
theorem Rep.length (h : Rep K M H os vs) : vs.length = os.length := by obtain ⟨_, _, w, _⟩ := h; exact w.length
/-- a new object, not frozen -/
theorem Rep.grow (h : Rep K M H os vs) {p : Addr} {u : HO} (hp : H p = none) : Rep K M (upd H p u) os vs := by
  obtain ⟨s, fp, w, nd, nm⟩ := h
  refine ⟨fun b x e => ?_, fp, w.frame (Same.refl _) (fun a ha => upd_ne fun z => w.dom a ha (z ▸ hp)), nd, nm⟩
  rw [upd_ne (ne_of_none (s b x e) hp)]; exact s b x e
theorem same_updM {M : Hp} {p : Addr} (hp : M p = none) {u : HO} : Same M (upd M p u) := fun b x e => by
  rw [upd_ne (ne_of_none e hp)]; exact e
/-- a new frozen object -/
theorem Rep.growM (h : Rep K M H os vs) {p : Addr} {u : HO} (hp : H p = none) : Rep K (upd M p u) (upd H p u) os vs := by
  obtain ⟨s, fp, w, nd, nm⟩ := h
  have mp : M p = none := s.free hp
  refine ⟨fun b x e => ?_, fp, w.frame (same_updM mp) (fun a ha => upd_ne fun z => w.dom a ha (z ▸ hp)), nd, fun a ha => ?_⟩
  · by_cases hb : b = p
    · subst hb; rw [upd_same] at e ⊢; exact e
    · rw [upd_ne hb] at e ⊢; exact s b x e
  · rw [upd_ne (show a ≠ p from fun z => w.dom a ha (by rw [z]; exact hp))]; exact nm a ha
theorem Rep.mid (h : Rep K M H (l ++ o :: r) (lv ++ v :: rv)) (e : lv.length = l.length) : ∃ fa f fb, Ows K M H l lv fa ∧ Ow K M H o v f ∧ Ows K M H r rv fb ∧ (fa ++ (f ++ fb)).Nodup ∧ (∀ a ∈ fa ++ (f ++ fb), M a = none) := by
  obtain ⟨s, fp, w, nd, nm⟩ := h
  obtain ⟨fa, fb, e1, w1, w2⟩ := w.split e
  cases w2 with
  | cons h2 h3 =>
    subst e1
    exact ⟨_, _, _, w1, h2, h3, nd, nm⟩
theorem Rep.datAt (h : Rep K M H (l ++ o :: r) (lv ++ v :: rv)) (e : lv.length = l.length) {d : D} (ho : o = .dat d) : ∃ x, v = some x ∧ Dv K M x d := by
  obtain ⟨_, _, _, _, w, _⟩ := h.mid e
  subst ho
  cases w with | dat w => exact ⟨_, rfl, w⟩
/-- one root is dropped -/
theorem Rep.drop (h : Rep K M H (l ++ o :: r) (lv ++ v :: rv)) (e : lv.length = l.length) : Rep K M H (l ++ r) (lv ++ rv) := by
  obtain ⟨fa, f, fb, w1, w2, w3, nd, nm⟩ := h.mid e
  refine ⟨h.1, fa ++ fb, w1.append w3, ?_, fun a ha => nm a ?_⟩
  · refine List.Nodup.sublist ?_ nd
    exact List.Sublist.append (List.Sublist.refl _) (List.sublist_append_right _ _)
  · simp only [List.mem_append] at ha ⊢
    rcases ha with ha | ha
    · exact .inl ha
    · exact .inr (.inr ha)
/-- a frozen root is added -/
theorem Rep.push (h : Rep K M H (l ++ r) (lv ++ rv)) (e : lv.length = l.length) {x : V} {d : D} (hd : Dv K M x d) : Rep K M H (l ++ .dat d :: r) (lv ++ some x :: rv) := by
  obtain ⟨s, fp, w, nd, nm⟩ := h
  obtain ⟨fa, fb, e1, w1, w2⟩ := w.split e
  subst e1
  exact ⟨s, fa ++ ([] ++ fb), w1.append (.cons (.dat hd) w2), nd, nm⟩
theorem Rep.pushU (h : Rep K M H (l ++ r) (lv ++ rv)) (e : lv.length = l.length) (x : Option V) : Rep K M H (l ++ .unk :: r) (lv ++ x :: rv) := by
  obtain ⟨s, fp, w, nd, nm⟩ := h
  obtain ⟨fa, fb, e1, w1, w2⟩ := w.split e
  subst e1
  exact ⟨s, fa ++ ([] ++ fb), w1.append (.cons .unk w2), nd, nm⟩
theorem set_split {α : Type} (xs : List α) (i : Nat) (y : α) : (∃ a z b, xs = a ++ z :: b ∧ a.length = i ∧ xs.set i y = a ++ y :: b) ∨ (xs.length ≤ i ∧ xs.set i y = xs) := by
  by_cases h : i < xs.length
  · refine .inl ⟨xs.take i, xs[i], xs.drop (i + 1), ?_, by simp [Nat.le_of_lt h], ?_⟩
    · rw [← List.drop_eq_getElem_cons h, List.take_append_drop]
    · rw [List.set_eq_take_append_cons_drop, if_pos h]
  · exact .inr ⟨by omega, List.set_eq_of_length_le (by omega)⟩
/-- slot i becomes a frozen thing -/
theorem Rep.setD {i : Nat} (h : Rep K M H (l ++ r) (lv ++ rv)) (e : lv.length = l.length) {x : V} {d : D} (hd : Dv K M x d) : Rep K M H (l.set i (.dat d) ++ r) (lv.set i (some x) ++ rv) := by
  rcases set_split l i (O.dat d) with ⟨a, z, b, e1, e2, e3⟩ | ⟨e1, e2⟩
  · rcases set_split lv i (some x) with ⟨a', z', b', e1', e2', e3'⟩ | ⟨e1', e2'⟩
    · rw [e3, e3']
      have ll : a'.length = a.length := by omega
      subst e1; subst e1'
      simp only [List.append_assoc, List.cons_append] at h ⊢
      exact (h.drop ll).push ll hd
    · exfalso; rw [e1] at e; simp at e; omega
  · rw [e2, List.set_eq_of_length_le (by omega)]; exact h
theorem Rep.setU {i : Nat} (h : Rep K M H (l ++ r) (lv ++ rv)) (e : lv.length = l.length) (x : Option V) : Rep K M H (l.set i .unk ++ r) (lv.set i x ++ rv) := by
  rcases set_split l i O.unk with ⟨a, z, b, e1, e2, e3⟩ | ⟨e1, e2⟩
  · rcases set_split lv i x with ⟨a', z', b', e1', e2', e3'⟩ | ⟨e1', e2'⟩
    · rw [e3, e3']
      have ll : a'.length = a.length := by omega
      subst e1; subst e1'
      simp only [List.append_assoc, List.cons_append] at h ⊢
      exact (h.drop ll).pushU ll x
    · exfalso; rw [e1] at e; simp at e; omega
  · rw [e2, List.set_eq_of_length_le (by omega)]; exact h
/-- the temporary on top of the frame goes into slot i -/
theorem Rep.into {i : Nat} (h : Rep K M H (l ++ o :: r) (lv ++ v :: rv)) (e : lv.length = l.length) : Rep K M H (l.set i o ++ r) (lv.set i v ++ rv) := by
  rcases set_split l i o with ⟨a, z, b, e1, e2, e3⟩ | ⟨e1, e2⟩
  · rcases set_split lv i v with ⟨a', z', b', e1', e2', e3'⟩ | ⟨e1', e2'⟩
    · rw [e3, e3']
      have ll : a'.length = a.length := by omega
      have lb : b'.length = b.length := by rw [e1, e1'] at e; simp at e; omega
      subst e1; subst e1'
      simp only [List.append_assoc, List.cons_append] at h ⊢
      have h1 := h.drop ll
      obtain ⟨fa, fb, w1, w2, nd, nm⟩ : ∃ fa fb, Ows K M H a a' fa ∧ Ows K M H (b ++ o :: r) (b' ++ v :: rv) fb ∧ (fa ++ fb).Nodup ∧ ∀ c ∈ fa ++ fb, M c = none := by
        obtain ⟨s, fp, w, nd, nm⟩ := h1
        obtain ⟨fa, fb, e1, w1, w2⟩ := w.split ll
        subst e1
        exact ⟨fa, fb, w1, w2, nd, nm⟩
      obtain ⟨gb, gr, e5, w3, w4⟩ := w2.split lb
      cases w4 with
      | cons w5 w6 =>
        rename_i f1 f2
        subst e5
        have pm : (fa ++ (f1 ++ (gb ++ f2))).Perm (fa ++ (gb ++ (f1 ++ f2))) := by
          refine List.Perm.append_left fa ?_
          rw [← List.append_assoc, ← List.append_assoc]
          exact List.Perm.append_right f2 List.perm_append_comm
        exact ⟨h.1, fa ++ (f1 ++ (gb ++ f2)), w1.append (.cons w5 (w3.append w6)), pm.nodup_iff.mpr nd, fun c hc => nm c (pm.mem_iff.mp hc)⟩
    · exfalso; rw [e1] at e; simp at e; omega
  · rw [e2, List.set_eq_of_length_le (by omega)]; exact h.drop e

/-! ### freezing -/
mutual
theorem Ow.frz (s : Same M M') : ∀ {o : O} {v : V} {fp : List Addr} {d : D}, Ow K M H o (some v) fp → (∀ a ∈ fp, M' a = H a) → o.toD = some d → Dv K M' v d
  | _, _, _, d, .dat h, _, e => by
    have := Option.some.inj (show some _ = some d from e)
    subst this
    exact h.mono s
  | .lst os, _, _, d, .lst h hs, k, e => by
    unfold O.toD at e
    cases q : O.toDs os with
    | none => rw [q] at e; cases e
    | some ds =>
      rw [q] at e
      have e' := Option.some.inj (show some (D.lst ds) = some d from e)
      subst e'
      exact .lst (.inl (.inl ((k _ List.mem_cons_self).trans h))) (Ows.frz s hs (fun a ha => k a (List.mem_cons_of_mem _ ha)) q)
  | .dic ks os, _, _, d, .dic (kvs := kvs) (fp := fp0) h hk hs, k, e => by
    unfold O.toD at e
    cases q : O.toDs os with
    | none => rw [q] at e; cases e
    | some ds =>
      rw [q] at e
      have e' := Option.some.inj (show some (D.dic ks ds) = some d from e)
      subst e'
      have hs' : Ows K M H os ((kvs.map (·.2)).map some) fp0 := by rw [List.map_map]; exact hs
      exact .dic ((k _ List.mem_cons_self).trans h) hk (Ows.frz s hs' (fun a ha => k a (List.mem_cons_of_mem _ ha)) q)
  | .obj C ks os, _, _, d, .obj (fs := kvs) (fp := fp0) h h2 hk hs, k, e => by
    unfold O.toD at e
    cases q : O.toDs os with
    | none => rw [q] at e; cases e
    | some ds =>
      rw [q] at e
      have e' := Option.some.inj (show some (D.obj C ks ds) = some d from e)
      subst e'
      have hs' : Ows K M H os ((kvs.map (·.2)).map some) fp0 := by rw [List.map_map]; exact hs
      exact .obj ((k _ List.mem_cons_self).trans h) ((k _ (List.mem_cons_of_mem _ List.mem_cons_self)).trans h2) hk (Ows.frz s hs' (fun a ha => k a (List.mem_cons_of_mem _ (List.mem_cons_of_mem _ ha))) q)
theorem Ows.frz (s : Same M M') : ∀ {os : List O} {vs : List V} {fp : List Addr} {ds : List D}, Ows K M H os (vs.map some) fp → (∀ a ∈ fp, M' a = H a) → O.toDs os = some ds → Dvs K M' vs ds
  | [], [], _, ds, .nil, _, e => by
    have e' := Option.some.inj (show some [] = some ds from e)
    subst e'
    exact .nil
  | o :: os, v :: vs, _, ds, .cons h hs, k, e => by
    unfold O.toDs at e
    cases q : O.toD o with
    | none => rw [q] at e; cases e
    | some d =>
      cases q2 : O.toDs os with
      | none => rw [q, q2] at e; cases e
      | some ds' =>
        rw [q, q2] at e
        have e' := Option.some.inj (show some (d :: ds') = some ds from e)
        subst e'
        exact .cons (Ow.frz s h (fun a ha => k a (List.mem_append_left _ ha)) q) (Ows.frz s hs (fun a ha => k a (List.mem_append_right _ ha)) q2)
end
theorem Rep.frz (h : Rep K M H (l ++ o :: r) (lv ++ v :: rv)) (e : lv.length = l.length) {d : D} {x : V} (hv : v = some x) (ho : o.toD = some d) :
    ∃ M', Same M M' ∧ Rep K M' H (l ++ .dat d :: r) (lv ++ v :: rv) ∧ Dv K M' x d := by
  obtain ⟨fa, f, fb, w1, w2, w3, nd, nm⟩ := h.mid e
  subst hv
  have s1 : Same M (fun a => if a ∈ f then H a else M a) := fun b y q => by
    have : b ∉ f := fun z => by
      have := nm b (by simp [z])
      rw [this] at q; cases q
    show (if b ∈ f then H b else M b) = some y
    rw [if_neg this]; exact q
  have kf : ∀ a ∈ f, (if a ∈ f then H a else M a) = H a := fun a ha => if_pos ha
  have dv := Ow.frz (H := H) s1 w2 kf ho
  have disj : ∀ a ∈ fa ++ fb, a ∉ f := fun a ha z => by
    rw [List.nodup_append] at nd
    obtain ⟨n1, n2, n3⟩ := nd
    rw [List.nodup_append] at n2
    rcases List.mem_append.mp ha with ha | ha
    · exact n3 a ha a (List.mem_append_left _ z) rfl
    · exact n2.2.2 a z a ha rfl
  refine ⟨_, s1, ⟨fun b y q => ?_, fa ++ ([] ++ fb), (w1.frame s1 fun _ _ => rfl).append (.cons (.dat dv) (w3.frame s1 fun _ _ => rfl)), ?_, fun a ha => ?_⟩, dv⟩
  · have q : (if b ∈ f then H b else M b) = some y := q
    split at q
    · exact q
    · exact h.1 b y q
  · refine List.Nodup.sublist ?_ nd
    exact List.Sublist.append (List.Sublist.refl _) (List.sublist_append_right _ _)
  · show (if a ∈ f then H a else M a) = none
    rw [if_neg (disj a (by simpa using ha))]
    refine nm a ?_
    rcases List.mem_append.mp ha with ha | ha
    · exact List.mem_append_left _ ha
    · exact List.mem_append_right _ (List.mem_append_right _ ha)
end
end PD

namespace PD
open PySem PySem.Spec PyProof.Rows L2

abbrev Ev := List O
/-- an error, as data -/
structure Exn where
  cls : Value
  fs : Option (List Str × List D)
def ExR (K : PySem.W.Frag) (M : Hp) (x : Exn) (cls : Value) (d : Option Addr) : Prop :=
  cls = x.cls ∧ ((x.fs = none ∧ d = none) ∨ ∃ ks ds da fvs, x.fs = some (ks, ds) ∧ d = some da ∧ M da = some (.xd fvs) ∧ fvs.map (·.1) = ks ∧ Dvs K M (fvs.map (·.2)) ds)

/-! ### readings by data -/
/-- a pure expression -/
def tP (K : PySem.W.Frag) (f : Ev → Option D) : TE := fun σ H Q => ∃ M ρ fo fv d, Rep K M H (ρ ++ fo) (σ ++ fv) ∧ σ.length = ρ.length ∧ f ρ = some d ∧
  ∀ M' H' v, Same M M' → Rep K M' H' (ρ ++ fo) (σ ++ fv) → Dv K M' v d → Q v H'
/-- an expression that may give a new thing of its own -/
def tO (K : PySem.W.Frag) (f : Ev → Option O) : TE := fun σ H Q => ∃ M ρ fo fv o, Rep K M H (ρ ++ fo) (σ ++ fv) ∧ σ.length = ρ.length ∧ f ρ = some o ∧
  ∀ M' H' v, Same M M' → Rep K M' H' (ρ ++ o :: fo) (σ ++ some v :: fv) → Q v H'
def tT (K : PySem.W.Frag) (f : Ev → Option Bool) : TT := fun σ H Q => ∃ M ρ fo fv b, Rep K M H (ρ ++ fo) (σ ++ fv) ∧ σ.length = ρ.length ∧ f ρ = some b ∧
  ∀ M' H', Same M M' → Rep K M' H' (ρ ++ fo) (σ ++ fv) → Q b H'
def tAr (K : PySem.W.Frag) (f : Ev → Option (List D)) : TA := fun σ H Q => ∃ M ρ fo fv ds, Rep K M H (ρ ++ fo) (σ ++ fv) ∧ σ.length = ρ.length ∧ f ρ = some ds ∧
  ∀ M' H' vs, Same M M' → Rep K M' H' (ρ ++ fo) (σ ++ fv) → Dvs K M' vs ds → Q vs H'

/-- how a statement ends -/
inductive Fl where
  | nx (ρ : Ev) | rt (o : O) (ρ : Ev) | bk (ρ : Ev) | ct (ρ : Ev) | ex (x : Exn) (ρ : Ev)
def ends (K : PySem.W.Frag) (W : WX) (M : Hp) (fo : List O) (fv : List (Option V)) (E : Ends) : Fl → Prop
  | .nx ρ => ∀ M' H' σ', Same M M' → Rep K M' H' (ρ ++ fo) (σ' ++ fv) → σ'.length = ρ.length → E.nx σ' H'
  | .bk ρ => ∀ M' H' σ', Same M M' → Rep K M' H' (ρ ++ fo) (σ' ++ fv) → σ'.length = ρ.length → E.bk σ' H'
  | .ct ρ => ∀ M' H' σ', Same M M' → Rep K M' H' (ρ ++ fo) (σ' ++ fv) → σ'.length = ρ.length → E.ct σ' H'
  | .rt o ρ => ∀ M' H' σ' v, Same M M' → Rep K M' H' (ρ ++ o :: fo) (σ' ++ some v :: fv) → σ'.length = ρ.length → E.rt v H'
  | .ex x ρ => ∀ M' H' σ' cls d, Same M M' → Rep K M' H' (ρ ++ fo) (σ' ++ fv) → σ'.length = ρ.length → ExR K M' x cls d → W cls d σ' H'
def tS (K : PySem.W.Frag) (W : WX) (g : Ev → Option Fl) : TS := fun E σ H => ∃ M ρ fo fv r, Rep K M H (ρ ++ fo) (σ ++ fv) ∧ σ.length = ρ.length ∧ g ρ = some r ∧ ends K W M fo fv E r
theorem ends.later {K : PySem.W.Frag} {W : WX} {M M1 : Hp} {fo : List O} {fv : List (Option V)} {E : Ends} {r : Fl} (h : ends K W M fo fv E r) (s : Same M M1) : ends K W M1 fo fv E r := by
  cases r with
  | nx ρ => exact fun M' H' σ' s' => h M' H' σ' (s.trans s')
  | bk ρ => exact fun M' H' σ' s' => h M' H' σ' (s.trans s')
  | ct ρ => exact fun M' H' σ' s' => h M' H' σ' (s.trans s')
  | rt o ρ => exact fun M' H' σ' v s' => h M' H' σ' v (s.trans s')
  | ex x ρ => exact fun M' H' σ' c d s' => h M' H' σ' c d (s.trans s')

section
variable {X : Cx}
theorem PE.imp {e : Expr} {t t' : TE} (h : PE X e t) (i : ∀ σ H Q, t' σ H Q → t σ H Q) : PE X e t' := ⟨fun p s σ H Q I w => h.run p s σ H Q I (i σ H Q w)⟩
theorem PT.imp {e : Expr} {t t' : TT} (h : PT X e t) (i : ∀ σ H Q, t' σ H Q → t σ H Q) : PT X e t' := ⟨fun p s σ H Q I w => h.run p s σ H Q I (i σ H Q w)⟩
theorem PW.imp {e : Expr} {t t' : TT} (h : PW X e t) (i : ∀ σ H Q, t' σ H Q → t σ H Q) : PW X e t' := ⟨fun wh p s σ H Q I w => h.run wh p s σ H Q I (i σ H Q w)⟩
theorem PA.imp {e : List Expr} {t t' : TA} (h : PA X e t) (i : ∀ σ H Q, t' σ H Q → t σ H Q) : PA X e t' := ⟨fun c p s σ H Q I w => h.run c p s σ H Q I (i σ H Q w)⟩
theorem PS.imp {e : Stmt} {t t' : TS} (h : PS X e t) (i : ∀ D σ H, t' D σ H → t D σ H) : PS X e t' := ⟨fun p s σ H D I w => h.run p s σ H D I (i D σ H w)⟩
theorem PSs.imp {e : List Stmt} {t t' : TS} (h : PSs X e t) (i : ∀ D σ H, t' D σ H → t D σ H) : PSs X e t' := ⟨fun p s σ H D I w => h.run p s σ H D I (i D σ H w)⟩
theorem PI.imp {tg e : Expr} {t t' : TI} (h : PI X tg e t) (i : ∀ σ H R, t' σ H R → t σ H R) : PI X tg e t' := ⟨fun p s σ H R I w => h.run p s σ H R I (i σ H R w)⟩
theorem PI.or {tg e : Expr} {t t' : TI} (h : PI X tg e t) (h' : PI X tg e t') : PI X tg e (fun σ H R => t σ H R ∨ t' σ H R) := ⟨fun p s σ H R I w => w.elim (h.run p s σ H R I) (h'.run p s σ H R I)⟩
theorem PE.or {e : Expr} {t t' : TE} (h : PE X e t) (h' : PE X e t') : PE X e (fun σ H R => t σ H R ∨ t' σ H R) := ⟨fun p s σ H R I w => w.elim (h.run p s σ H R I) (h'.run p s σ H R I)⟩
end

/-! ### lists by place -/
theorem Rep.slot {K : PySem.W.Frag} {M H : Hp} {ρ fo : List O} {σ fv : List (Option V)} (R : Rep K M H (ρ ++ fo) (σ ++ fv)) (l : σ.length = ρ.length) {i : Nat} {d : D} (e : ρ[i]? = some (.dat d)) : ∃ v, σ[i]? = some (some v) ∧ Dv K M v d := by
  obtain ⟨hi, e⟩ := List.getElem?_eq_some_iff.mp e
  have hi' : i < σ.length := by omega
  have e1 : ρ = ρ.take i ++ O.dat d :: ρ.drop (i + 1) := by rw [← e, ← List.drop_eq_getElem_cons hi, List.take_append_drop]
  have e2 : σ = σ.take i ++ σ[i] :: σ.drop (i + 1) := by rw [← List.drop_eq_getElem_cons hi', List.take_append_drop]
  rw [e1, e2] at R
  simp only [List.append_assoc, List.cons_append] at R
  obtain ⟨x, ex, dx⟩ := R.datAt (by simp; omega) rfl
  exact ⟨x, by rw [List.getElem?_eq_getElem hi', ex], dx⟩

/-- what slot i holds, frozen -/
def gv (i : Nat) (ρ : Ev) : Option D := match ρ[i]? with
  | some (.dat d) => some d
  | _ => none

section
variable {X : Cx}
/-! ### names and constants -/
theorem pVar (i : Nat) {x : Str} {pos : Pos} (hN : X.N[i]? = some x := by rfl) (hv : Vis X.env.scope x := by first | exact Or.inl rfl | exact Or.inr (Or.inl rfl) | exact Or.inr (Or.inr rfl)) (hd : (x == ("__debug__" : Str)) = false := by decide)
    (hcd : (x == ("__classdict__" : Str)) = false := by decide) : PE X (.Name x pos) (tP X.K (gv i)) :=
  PE.imp (pe_var hN hv hd hcd) fun σ H Q ⟨M, ρ, fo, fv, d, R, l, e, k⟩ => by
    unfold gv at e
    split at e
    · cases e
      rename_i d' e'
      obtain ⟨v, ev, dv⟩ := R.slot l e'
      exact ⟨v, ev, k M H v (Same.refl _) R dv⟩
    · cases e
theorem pC {e : Expr} {v : V} {d : D} (h : PE X e (tC v)) (hd : ∀ M, Dv X.K M v d) : PE X e (tP X.K fun _ => some d) :=
  PE.imp h fun σ H Q ⟨M, ρ, fo, fv, d', R, l, e, k⟩ => by
    cases e
    exact k M H v (Same.refl _) R (hd M)
theorem pInt {i j pos} : PE X (.Constant (.int i) j pos) (tP X.K fun _ => some (.int i)) := pC pe_int fun _ => .int _
theorem pBl {b j pos} : PE X (.Constant (.bool b) j pos) (tP X.K fun _ => some (.bl b)) := pC pe_bl fun _ => .bl _
theorem pNon {j pos} : PE X (.Constant .none j pos) (tP X.K fun _ => some .non) := pC pe_non fun _ => .non
theorem pStr {x j pos} : PE X (.Constant (.str x) j pos) (tP X.K fun _ => some (.str x)) := pC pe_str fun _ => .str _
/-- a constant of the module -/
theorem pGlobI {x : Str} {i : Int} {t : Tok} {pos : Pos} (hm : X.mg x = some (.int i t)) (hg : Gl X x := by rfl) (hd : (x == ("__debug__" : Str)) = false := by decide) : PE X (.Name x pos) (tP X.K fun _ => some (.int i)) := pC (pe_glob hg hm (v := .int i) ⟨t, rfl⟩ hd) fun _ => .int _
theorem pGlobS {x z : Str} {t : Tok} {pos : Pos} (hm : X.mg x = some (.str z t)) (hg : Gl X x := by rfl) (hd : (x == ("__debug__" : Str)) = false := by decide) : PE X (.Name x pos) (tP X.K fun _ => some (.str z)) := pC (pe_glob hg hm (v := .str z) ⟨t, rfl⟩ hd) fun _ => .str _

/-! ### two expressions in a row -/
def b2 (fa fb : Ev → Option D) (g : D → D → Option D) (ρ : Ev) : Option D := (fa ρ).bind fun x => (fb ρ).bind fun y => g x y
def b1 (fa : Ev → Option D) (g : D → Option D) (ρ : Ev) : Option D := (fa ρ).bind g
theorem b2_some {fa fb : Ev → Option D} {g : D → D → Option D} {ρ : Ev} {d : D} (h : b2 fa fb g ρ = some d) : ∃ x y, fa ρ = some x ∧ fb ρ = some y ∧ g x y = some d := by
  unfold b2 at h
  cases e1 : fa ρ with
  | none => rw [e1] at h; cases h
  | some x =>
    rw [e1] at h
    cases e2 : fb ρ with
    | none => rw [Option.bind_some, e2] at h; cases h
    | some y => rw [Option.bind_some, e2] at h; exact ⟨x, y, rfl, rfl, h⟩
theorem b1_some {fa : Ev → Option D} {g : D → Option D} {ρ : Ev} {d : D} (h : b1 fa g ρ = some d) : ∃ x, fa ρ = some x ∧ g x = some d := by
  unfold b1 at h
  cases e1 : fa ρ with
  | none => rw [e1] at h; cases h
  | some x => rw [e1] at h; exact ⟨x, rfl, h⟩
/-- an operation upon data: what it asks of the values -/
def rD (K : PySem.W.Frag) (g : D → D → Option D) : R2 := fun x y H Q => ∃ M fo fv dx dy d, Rep K M H fo fv ∧ Dv K M x dx ∧ Dv K M y dy ∧ g dx dy = some d ∧
  ∀ M' H' v, Same M M' → Rep K M' H' fo fv → Dv K M' v d → Q v H'
def rD1 (K : PySem.W.Frag) (g : D → Option D) : V → Hp → VK → Prop := fun x H Q => ∃ M fo fv dx d, Rep K M H fo fv ∧ Dv K M x dx ∧ g dx = some d ∧
  ∀ M' H' v, Same M M' → Rep K M' H' fo fv → Dv K M' v d → Q v H'
def rDs (K : PySem.W.Frag) (g : List D → Option D) : List V → Hp → VK → Prop := fun xs H Q => ∃ M fo fv ds d, Rep K M H fo fv ∧ Dvs K M xs ds ∧ g ds = some d ∧
  ∀ M' H' v, Same M M' → Rep K M' H' fo fv → Dv K M' v d → Q v H'
/-- .. that gives a new thing of its own -/
def rOs (K : PySem.W.Frag) (g : List D → Option O) : List V → Hp → VK → Prop := fun xs H Q => ∃ M fo fv ds o, Rep K M H fo fv ∧ Dvs K M xs ds ∧ g ds = some o ∧
  ∀ M' H' v, Same M M' → Rep K M' H' (o :: fo) (some v :: fv) → Q v H'
theorem seq2 {K : PySem.W.Frag} {fa fb : Ev → Option D} {g : D → D → Option D} {σ : L2.St} {H : Hp} {Q : VK} (h : tP K (b2 fa fb g) σ H Q) : tOp (rD K g) (tP K fa) (tP K fb) σ H Q := by
  obtain ⟨M, ρ, fo, fv, d, R, l, e, k⟩ := h
  obtain ⟨x, y, ea, eb, eg⟩ := b2_some e
  exact ⟨M, ρ, fo, fv, x, R, l, ea, fun M1 H1 v1 s1 R1 d1 => ⟨M1, ρ, fo, fv, y, R1, l, eb, fun M2 H2 v2 s2 R2 d2 => ⟨M2, ρ ++ fo, σ ++ fv, x, y, d, R2, d1.mono s2, d2, eg, fun M3 H3 v s3 R3 d3 => k M3 H3 v (s1.trans (s2.trans s3)) R3 d3⟩⟩⟩
variable {a b c : Expr} {pos : Pos} {fa fb fc : Ev → Option D} {g : D → D → Option D}
theorem pOp {op : Operator} (ho : OpR X (binaryOp op) (rD X.K g)) (ha : PE X a (tP X.K fa)) (hb : PE X b (tP X.K fb)) : PE X (.BinOp a op b pos) (tP X.K (b2 fa fb g)) := PE.imp (pe_op ho ha hb) fun _ _ _ h => seq2 h
theorem pCmp {op : CmpOp} (ho : OpR X (compareOp op) (rD X.K g)) (ha : PE X a (tP X.K fa)) (hb : PE X b (tP X.K fb)) (hm : behindInMarks op b = false := by first | exact nomark _ | rfl) : PE X (.Compare a [op] [b] pos) (tP X.K (b2 fa fb g)) := PE.imp (pe_cmpR ho ha hb hm) fun _ _ _ h => seq2 h
theorem pUn {op : UnaryOp} {g : D → Option D} (ho : UnR X (unaryOp op) (rD1 X.K g)) (ha : PE X a (tP X.K fa)) : PE X (.UnaryOp op a pos) (tP X.K (b1 fa g)) := PE.imp (pe_un ho ha) fun σ H Q ⟨M, ρ, fo, fv, d, R, l, e, k⟩ => by
  obtain ⟨x, ea, eg⟩ := b1_some e
  exact ⟨M, ρ, fo, fv, x, R, l, ea, fun M1 H1 v1 s1 R1 d1 => ⟨M1, ρ ++ fo, σ ++ fv, x, d, R1, d1, eg, fun M3 H3 v s3 R3 d3 => k M3 H3 v (s1.trans s3) R3 d3⟩⟩
theorem pIx (ho : IxR X (rD X.K g)) (ha : PE X a (tP X.K fa)) (hb : PE X b (tP X.K fb)) (hs : PlainIx b := by exact fun _ _ => rfl) : PE X (.Subscript a b pos) (tP X.K (b2 fa fb g)) := PE.imp (pe_ix ho ha hb hs) fun _ _ _ h => seq2 h

/-! ### tests -/
/-- a pure expression that gives a bool, as a test -/
def asB (f : Ev → Option D) (ρ : Ev) : Option Bool := match f ρ with
  | some (.bl b) => some b
  | _ => none
theorem asB_some {f : Ev → Option D} {ρ : Ev} {b : Bool} (h : asB f ρ = some b) : f ρ = some (.bl b) := by
  unfold asB at h
  split at h
  · cases h; assumption
  · cases h
theorem tB_of {K : PySem.W.Frag} {f : Ev → Option D} {σ : L2.St} {H : Hp} {Q : Bool → Hp → Prop} (h : tT K (asB f) σ H Q) : tB (tP K f) σ H Q := by
  obtain ⟨M, ρ, fo, fv, b, R, l, e, k⟩ := h
  exact ⟨M, ρ, fo, fv, .bl b, R, l, asB_some e, fun M' H' v s R' dv => by cases dv; exact ⟨b, rfl, k M' H' s R'⟩⟩
theorem tVal {e : Expr} {f : Ev → Option D} (h : PE X e (tP X.K f)) (he : ∀ whole, isTrue e X.env whole = (do let v ← whole; standAt e.pos; holding [v] (truthy v)) := by intro _; rfl) : PT X e (tT X.K (asB f)) := PT.imp (pt_val h he) fun _ _ _ h => tB_of h
theorem tCmp {op : CmpOp} (ho : OpR X (compareOp op) (rD X.K g)) (ha : PE X a (tP X.K fa)) (hb : PE X b (tP X.K fb)) (hm : behindInMarks op b = false := by first | exact nomark _ | rfl) : PT X (.Compare a [op] [b] pos) (tT X.K (asB (b2 fa fb g))) :=
  PT.imp (pt_cmpR ho ha hb hm) fun σ H Q ⟨M, ρ, fo, fv, b, R, l, e, k⟩ => seq2 (K := X.K) (Q := fun x H' => ∃ k, x = .bl k ∧ Q k H') ⟨M, ρ, fo, fv, .bl b, R, l, asB_some e, fun M' H' v s R' dv => by cases dv; exact ⟨b, rfl, k M' H' s R'⟩⟩
def andT (f g : Ev → Option Bool) (ρ : Ev) : Option Bool := match f ρ with
  | some true => g ρ
  | some false => some false
  | none => none
def orT (f g : Ev → Option Bool) (ρ : Ev) : Option Bool := match f ρ with
  | some true => some true
  | some false => g ρ
  | none => none
def notT (f : Ev → Option Bool) (ρ : Ev) : Option Bool := (f ρ).map (!·)
theorem tNotT {fa : Ev → Option Bool} (h : PT X a (tT X.K fa)) : PT X (.UnaryOp .Not a pos) (tT X.K (notT fa)) := PT.imp (pt_not h) fun σ H Q ⟨M, ρ, fo, fv, b, R, l, e, k⟩ => by
  unfold notT at e
  cases q : fa ρ with
  | none => rw [q] at e; cases e
  | some c =>
    rw [q] at e
    cases e
    exact ⟨M, ρ, fo, fv, c, R, l, q, k⟩
theorem tAnd1 {fa : Ev → Option Bool} (h : PT X a (tT X.K fa)) : PW X (.BoolOp .And [a] pos) (tT X.K fa) := pw_and1 h
theorem tOr1 {fa : Ev → Option Bool} (h : PT X a (tT X.K fa)) : PW X (.BoolOp .Or [a] pos) (tT X.K fa) := pw_or1 h
theorem tAndW {fa fb : Ev → Option Bool} {rest : List Expr} (ha : PT X a (tT X.K fa)) (hb : PW X (.BoolOp .And (b :: rest) pos) (tT X.K fb)) : PW X (.BoolOp .And (a :: b :: rest) pos) (tT X.K (andT fa fb)) := PW.imp (pw_and ha hb) fun σ H Q ⟨M, ρ, fo, fv, b, R, l, e, k⟩ => by
  unfold andT at e
  cases q : fa ρ with
  | none => rw [q] at e; cases e
  | some c =>
    rw [q] at e
    cases c with
    | true => exact ⟨M, ρ, fo, fv, true, R, l, q, fun M1 H1 s1 R1 => iteT ⟨M1, ρ, fo, fv, b, R1, l, e, fun M2 H2 s2 R2 => k M2 H2 (s1.trans s2) R2⟩⟩
    | false => cases e; exact ⟨M, ρ, fo, fv, false, R, l, q, fun M1 H1 s1 R1 => iteF (k M1 H1 s1 R1)⟩
theorem tOrW {fa fb : Ev → Option Bool} {rest : List Expr} (ha : PT X a (tT X.K fa)) (hb : PW X (.BoolOp .Or (b :: rest) pos) (tT X.K fb)) : PW X (.BoolOp .Or (a :: b :: rest) pos) (tT X.K (orT fa fb)) := PW.imp (pw_or ha hb) fun σ H Q ⟨M, ρ, fo, fv, b, R, l, e, k⟩ => by
  unfold orT at e
  cases q : fa ρ with
  | none => rw [q] at e; cases e
  | some c =>
    rw [q] at e
    cases c with
    | true => cases e; exact ⟨M, ρ, fo, fv, true, R, l, q, fun M1 H1 s1 R1 => iteT (k M1 H1 s1 R1)⟩
    | false => exact ⟨M, ρ, fo, fv, false, R, l, q, fun M1 H1 s1 R1 => iteF ⟨M1, ρ, fo, fv, b, R1, l, e, fun M2 H2 s2 R2 => k M2 H2 (s1.trans s2) R2⟩⟩
theorem tW {fa : Ev → Option Bool} (h : PW X a (tT X.K fa)) : PT X a (tT X.K fa) := h.pt
/-! ### and, or, not, if-else as values -/
def andV (f g : Ev → Option D) (ρ : Ev) : Option D := match f ρ with
  | some (.bl true) => g ρ
  | some (.bl false) => some (.bl false)
  | _ => none
def orV (f g : Ev → Option D) (ρ : Ev) : Option D := match f ρ with
  | some (.bl true) => some (.bl true)
  | some (.bl false) => g ρ
  | _ => none
def notV (f : Ev → Option D) (ρ : Ev) : Option D := match f ρ with
  | some (.bl b) => some (.bl (!b))
  | _ => none
def ifV (c : Ev → Option Bool) (f g : Ev → Option D) (ρ : Ev) : Option D := match c ρ with
  | some true => f ρ
  | some false => g ρ
  | none => none
theorem pOne {op} (h : PE X a (tP X.K fa)) : PE X (.BoolOp op [a] pos) (tP X.K fa) := pe_one h
theorem pAnd {rest : List Expr} (ha : PE X a (tP X.K fa)) (hb : PE X (.BoolOp .And (b :: rest) pos) (tP X.K fb)) : PE X (.BoolOp .And (a :: b :: rest) pos) (tP X.K (andV fa fb)) := PE.imp (pe_and ha hb) fun σ H Q ⟨M, ρ, fo, fv, d, R, l, e, k⟩ => by
  unfold andV at e
  split at e
  · rename_i q
    exact ⟨M, ρ, fo, fv, _, R, l, q, fun M1 H1 v s1 R1 dv => by cases dv; exact ⟨true, rfl, iteT ⟨M1, ρ, fo, fv, d, R1, l, e, fun M2 H2 v2 s2 R2 => k M2 H2 v2 (s1.trans s2) R2⟩⟩⟩
  · rename_i q
    cases e
    exact ⟨M, ρ, fo, fv, _, R, l, q, fun M1 H1 v s1 R1 dv => by cases dv; exact ⟨false, rfl, iteF (k M1 H1 _ s1 R1 (.bl _))⟩⟩
  · cases e
theorem pOr {rest : List Expr} (ha : PE X a (tP X.K fa)) (hb : PE X (.BoolOp .Or (b :: rest) pos) (tP X.K fb)) : PE X (.BoolOp .Or (a :: b :: rest) pos) (tP X.K (orV fa fb)) := PE.imp (pe_or ha hb) fun σ H Q ⟨M, ρ, fo, fv, d, R, l, e, k⟩ => by
  unfold orV at e
  split at e
  · rename_i q
    cases e
    exact ⟨M, ρ, fo, fv, _, R, l, q, fun M1 H1 v s1 R1 dv => by cases dv; exact ⟨true, rfl, iteT (k M1 H1 _ s1 R1 (.bl _))⟩⟩
  · rename_i q
    exact ⟨M, ρ, fo, fv, _, R, l, q, fun M1 H1 v s1 R1 dv => by cases dv; exact ⟨false, rfl, iteF ⟨M1, ρ, fo, fv, d, R1, l, e, fun M2 H2 v2 s2 R2 => k M2 H2 v2 (s1.trans s2) R2⟩⟩⟩
  · cases e
theorem pNot (ha : PE X a (tP X.K fa)) : PE X (.UnaryOp .Not a pos) (tP X.K (notV fa)) := PE.imp (pe_not ha) fun σ H Q ⟨M, ρ, fo, fv, d, R, l, e, k⟩ => by
  unfold notV at e
  split at e
  · rename_i b q
    cases e
    exact ⟨M, ρ, fo, fv, _, R, l, q, fun M1 H1 v s1 R1 dv => by cases dv; exact ⟨b, rfl, k M1 H1 _ s1 R1 (.bl _)⟩⟩
  · cases e
theorem pIf {fc : Ev → Option Bool} (hc : PT X c (tT X.K fc)) (ha : PE X a (tP X.K fa)) (hb : PE X b (tP X.K fb)) : PE X (.IfExp c a b pos) (tP X.K (ifV fc fa fb)) := PE.imp (pe_ifExp hc ha hb) fun σ H Q ⟨M, ρ, fo, fv, d, R, l, e, k⟩ => by
  unfold ifV at e
  split at e
  · rename_i q
    exact ⟨M, ρ, fo, fv, _, R, l, q, fun M1 H1 s1 R1 => iteT ⟨M1, ρ, fo, fv, d, R1, l, e, fun M2 H2 v2 s2 R2 => k M2 H2 v2 (s1.trans s2) R2⟩⟩
  · rename_i q
    exact ⟨M, ρ, fo, fv, _, R, l, q, fun M1 H1 s1 R1 => iteF ⟨M1, ρ, fo, fv, d, R1, l, e, fun M2 H2 v2 s2 R2 => k M2 H2 v2 (s1.trans s2) R2⟩⟩
  · cases e

/-! ### argument lists -/
def aCons (f : Ev → Option D) (g : Ev → Option (List D)) (ρ : Ev) : Option (List D) := (f ρ).bind fun d => (g ρ).bind fun ds => some (d :: ds)
def aNil (_ : Ev) : Option (List D) := some []
theorem aCons_some {f : Ev → Option D} {g : Ev → Option (List D)} {ρ : Ev} {ds : List D} (h : aCons f g ρ = some ds) : ∃ d r, f ρ = some d ∧ g ρ = some r ∧ ds = d :: r := by
  unfold aCons at h
  cases e1 : f ρ with
  | none => rw [e1] at h; cases h
  | some x =>
    rw [e1] at h
    cases e2 : g ρ with
    | none => rw [Option.bind_some, e2] at h; cases h
    | some y => rw [Option.bind_some, e2] at h; cases h; exact ⟨x, y, rfl, rfl, rfl⟩
theorem tCons_of {K : PySem.W.Frag} {f : Ev → Option D} {g : Ev → Option (List D)} {σ : L2.St} {H : Hp} {Q : List V → Hp → Prop} (h : tAr K (aCons f g) σ H Q) : tCons (tP K f) (tAr K g) σ H Q := by
  obtain ⟨M, ρ, fo, fv, ds, R, l, e, k⟩ := h
  obtain ⟨d, r, ef, eg, rfl⟩ := aCons_some e
  exact ⟨M, ρ, fo, fv, d, R, l, ef, fun M1 H1 v1 s1 R1 d1 => ⟨M1, ρ, fo, fv, r, R1, l, eg, fun M2 H2 vs s2 R2 d2 => k M2 H2 _ (s1.trans s2) R2 (.cons (d1.mono s2) d2)⟩⟩
theorem qNil : PA X [] (tAr X.K aNil) := PA.imp pa_nil fun σ H Q ⟨M, ρ, fo, fv, d, R, l, e, k⟩ => by
  cases e
  exact k M H [] (Same.refl _) R .nil
theorem qCons {es : List Expr} {g : Ev → Option (List D)} (ha : PE X a (tP X.K fa)) (hr : PA X es (tAr X.K g)) (hs : starEach (a :: es) X.env = (false, eval a X.env) :: starEach es X.env := by rfl) : PA X (a :: es) (tAr X.K (aCons fa g)) :=
  PA.imp (pa_cons ha hr hs) fun _ _ _ h => tCons_of h
theorem kNil : PK X [] (tAr X.K aNil) := ⟨fun p pins s σ H Q I ⟨M, ρ, fo, fv, d, R, l, e, k⟩ => by
  cases e
  exact pk_nil.run p pins s σ H Q I (k M H [] (Same.refl _) R .nil)⟩
theorem kCons {nm : Option Str} {kpos : Pos} {kws : List Keyword} {g : Ev → Option (List D)} (ha : PE X a (tP X.K fa)) (hr : PK X kws (tAr X.K g)) : PK X (⟨nm, a, kpos⟩ :: kws) (tAr X.K (aCons fa g)) :=
  ⟨fun p pins s σ H Q I h => (pk_cons ha hr).run p pins s σ H Q I (tCons_of h)⟩

/-! ### tuples and lists that are displayed -/
def mkTup (g : Ev → Option (List D)) (ρ : Ev) : Option D := (g ρ).bind fun ds => if ds.length ≤ sizeLine then some (.tup ds) else none
def mkLst (g : Ev → Option (List D)) (ρ : Ev) : Option D := (g ρ).bind fun ds => if ds.length ≤ sizeLine then some (.lst ds) else none
def mkLstO (g : Ev → Option (List D)) (ρ : Ev) : Option O := (g ρ).bind fun ds => if ds.length ≤ sizeLine then some (.lst (ds.map .dat)) else none
theorem mk_some {α : Type} {g : Ev → Option (List D)} {ρ : Ev} {h : List D → α} {d : α} (e : ((g ρ).bind fun ds => if ds.length ≤ sizeLine then some (h ds) else none) = some d) : ∃ ds, g ρ = some ds ∧ ds.length ≤ sizeLine ∧ d = h ds := by
  cases e1 : g ρ with
  | none => rw [e1] at e; cases e
  | some ds =>
    rw [e1, Option.bind_some] at e
    split at e
    · cases e; exact ⟨ds, rfl, by assumption, rfl⟩
    · cases e
variable {es : List Expr} {ga : Ev → Option (List D)}
theorem pTup {k : Nat} (h : PA X es (tAr X.K ga)) : PE X (.Tuple es k pos) (tP X.K (mkTup ga)) := PE.imp (pe_tup h) fun σ H Q ⟨M, ρ, fo, fv, d, R, l, e, k⟩ => by
  obtain ⟨ds, eg, hl, rfl⟩ := mk_some e
  refine ⟨M, ρ, fo, fv, ds, R, l, eg, fun M1 H1 vs s1 R1 d1 => ⟨by rw [d1.length]; exact hl, fun p hp => ?_⟩⟩
  have mp := R1.same.free hp
  have s2 : Same M1 (upd M1 p (.tup vs)) := same_updM mp
  exact k _ _ _ (s1.trans s2) (R1.growM hp) (.tup (.inl (.inl upd_same)) (d1.mono s2))
theorem pLst (h : PA X es (tAr X.K ga)) : PE X (.List es pos) (tP X.K (mkLst ga)) := PE.imp (pe_lst h) fun σ H Q ⟨M, ρ, fo, fv, d, R, l, e, k⟩ => by
  obtain ⟨ds, eg, hl, rfl⟩ := mk_some e
  refine ⟨M, ρ, fo, fv, ds, R, l, eg, fun M1 H1 vs s1 R1 d1 => ⟨by rw [d1.length]; exact hl, fun p hp => ?_⟩⟩
  have mp := R1.same.free hp
  have s2 : Same M1 (upd M1 p (.lst vs)) := same_updM mp
  exact k _ _ _ (s1.trans s2) (R1.growM hp) (.lst (.inl (.inl upd_same)) (d1.mono s2))
theorem ows_dat {K : PySem.W.Frag} {M H : Hp} : ∀ {vs : List V} {ds : List D}, Dvs K M vs ds → Ows K M H (ds.map O.dat) (vs.map some) []
  | _, _, .nil => .nil
  | _, _, .cons h t => by
    have := Ows.cons (Ow.dat (H := H) h) (ows_dat (H := H) t)
    exact this
/-- a new list of frozen things, of one's own -/
theorem Rep.newL {K : PySem.W.Frag} {M H : Hp} {l r : List O} {lv rv : List (Option V)} (R : Rep K M H (l ++ r) (lv ++ rv)) (e : lv.length = l.length) {p : Addr} (hp : H p = none) {vs : List V} {ds : List D} (d : Dvs K M vs ds) :
    Rep K M (upd H p (.lst vs)) (l ++ .lst (ds.map .dat) :: r) (lv ++ some (.ref p) :: rv) := by
  have R1 : Rep K M (upd H p (.lst vs)) (l ++ r) (lv ++ rv) := R.grow hp
  obtain ⟨s, fp, w, nd, nm⟩ := R
  obtain ⟨s1, fp1, w1, nd1, nm1⟩ := R1
  have pn : p ∉ fp := fun z => w.dom p z hp
  have w' : Ows K M (upd H p (.lst vs)) (l ++ r) (lv ++ rv) fp := w.frame (Same.refl _) fun a ha => upd_ne fun z => pn (z ▸ ha)
  obtain ⟨fa, fb, e1, wa, wb⟩ := w'.split e
  subst e1
  refine ⟨s1, fa ++ ([p] ++ fb), wa.append (.cons (.lst upd_same (ows_dat d)) wb), ?_, fun a ha => ?_⟩
  · rw [List.nodup_append] at nd ⊢
    obtain ⟨n1, n2, n3⟩ := nd
    refine ⟨n1, ?_, fun a ha b hb => ?_⟩
    · exact List.nodup_cons.mpr ⟨fun z => pn (List.mem_append_right _ z), n2⟩
    · rcases List.mem_cons.mp hb with rfl | hb
      · exact fun z => pn (z ▸ List.mem_append_left _ ha)
      · exact n3 a ha b hb
  · simp only [List.mem_append, List.mem_singleton] at ha
    rcases ha with ha | rfl | ha
    · exact nm a (List.mem_append_left _ ha)
    · exact s.free hp
    · exact nm a (List.mem_append_right _ ha)
theorem oLst (h : PA X es (tAr X.K ga)) : PE X (.List es pos) (tO X.K (mkLstO ga)) := PE.imp (pe_lst h) fun σ H Q ⟨M, ρ, fo, fv, d, R, l, e, k⟩ => by
  obtain ⟨ds, eg, hl, rfl⟩ := mk_some e
  exact ⟨M, ρ, fo, fv, ds, R, l, eg, fun M1 H1 vs s1 R1 d1 => ⟨by rw [d1.length]; exact hl, fun p hp => k _ _ _ s1 (R1.newL l hp d1)⟩⟩
/-- a frozen thing is a thing -/
def thaw (f : Ev → Option D) (ρ : Ev) : Option O := (f ρ).map .dat
def frz (f : Ev → Option O) (ρ : Ev) : Option D := (f ρ).bind O.toD
theorem oP {e : Expr} {f : Ev → Option D} (h : PE X e (tP X.K f)) : PE X e (tO X.K (thaw f)) := PE.imp h fun σ H Q ⟨M, ρ, fo, fv, d, R, l, e, k⟩ => by
  unfold thaw at e
  cases q : f ρ with
  | none => rw [q] at e; cases e
  | some d' =>
    rw [q] at e
    cases e
    exact ⟨M, ρ, fo, fv, d', R, l, q, fun M1 H1 v s1 R1 d1 => k M1 H1 v s1 (R1.push l d1)⟩
/-- a thing of one's own, frozen -/
theorem pO {e : Expr} {f : Ev → Option O} (h : PE X e (tO X.K f)) : PE X e (tP X.K (frz f)) := PE.imp h fun σ H Q ⟨M, ρ, fo, fv, d, R, l, e, k⟩ => by
  unfold frz at e
  cases q : f ρ with
  | none => rw [q] at e; cases e
  | some o =>
    rw [q] at e
    refine ⟨M, ρ, fo, fv, o, R, l, q, fun M1 H1 v s1 R1 => ?_⟩
    obtain ⟨M2, s2, R2, d2⟩ := R1.frz l rfl e
    exact k M2 H1 v (s1.trans s2) (R2.drop l) d2

/-! ### calls of built-ins -/
def cB (g : Ev → Option (List D)) (f : List D → Option D) (ρ : Ev) : Option D := (g ρ).bind f
theorem cB_some {g : Ev → Option (List D)} {f : List D → Option D} {ρ : Ev} {d : D} (h : cB g f ρ = some d) : ∃ ds, g ρ = some ds ∧ f ds = some d := by
  unfold cB at h
  cases e1 : g ρ with
  | none => rw [e1] at h; cases h
  | some x => rw [e1] at h; exact ⟨x, rfl, h⟩
theorem tCB_of {K : PySem.W.Frag} {g : Ev → Option (List D)} {f : List D → Option D} {σ : L2.St} {H : Hp} {Q : VK} (h : tP K (cB g f) σ H Q) : tCB (rDs K f) (tAr K g) σ H Q := by
  obtain ⟨M, ρ, fo, fv, d, R, l, e, k⟩ := h
  obtain ⟨ds, eg, ef⟩ := cB_some e
  exact ⟨M, ρ, fo, fv, ds, R, l, eg, fun M1 H1 vs s1 R1 d1 => ⟨M1, ρ ++ fo, σ ++ fv, ds, d, R1, d1, ef, fun M2 H2 v s2 R2 d2 => k M2 H2 v (s1.trans s2) R2 d2⟩⟩
theorem pCallB {id : String} {x : Str} {p : Pos} {f : List D → Option D} {e : Expr} {es : List Expr} (hc : CallR X (.builtin id) (rDs X.K f)) (hm : X.mg x = none) (hv : bootBuiltins x = some (.builtin id)) (ha : PA X (e :: es) (tAr X.K ga)) (hg : Gl X x := by rfl) (hn : x ≠ "__name__" := by decide) (hdb : (x == ("__debug__" : Str)) = false := by decide)
    (hpl : (backTo pos (starEach es X.env)).any (·.1) = false := by rfl) (hs : starEach (e :: es) X.env = (false, eval e X.env) :: starEach es X.env := by rfl) : PE X (.Call (.Name x p) (e :: es) [] pos) (tP X.K (cB ga f)) :=
  PE.imp (pe_callB hc hg hm hv ha hn hdb hs hpl) fun _ _ _ h => tCB_of h
theorem pCallT {T : String} {x : Str} {p : Pos} {f : List D → Option D} {e : Expr} {es : List Expr} (hc : CallR X (.type T) (rDs X.K f)) (hm : X.mg x = none) (hv : bootBuiltins x = some (.type T)) (ha : PA X (e :: es) (tAr X.K ga)) (hg : Gl X x := by rfl) (hn : x ≠ "__name__" := by decide) (hdb : (x == ("__debug__" : Str)) = false := by decide)
    (hpl : (backTo pos (starEach es X.env)).any (·.1) = false := by rfl) (hs : starEach (e :: es) X.env = (false, eval e X.env) :: starEach es X.env := by rfl) : PE X (.Call (.Name x p) (e :: es) [] pos) (tP X.K (cB ga f)) :=
  PE.imp (pe_callTy hc hg hm hv ha hn hdb hs hpl) fun _ _ _ h => tCB_of h
end
end PD

namespace PD
open PySem PySem.Spec L2

section
variable {X : Cx} {W : WX} {pos : Pos}
/-! ### blocks -/
def sq (f g : Ev → Option Fl) (ρ : Ev) : Option Fl := (f ρ).bind fun r => match r with
  | .nx ρ' => g ρ'
  | r => some r
def skip (ρ : Ev) : Option Fl := some (.nx ρ)
theorem sNil : PSs X [] (tS X.K W skip) := PSs.imp pss_nil fun E σ H ⟨M, ρ, fo, fv, r, R, l, e, k⟩ => by
  cases e
  exact k M H σ (Same.refl _) R l
theorem tSeq_of {K : PySem.W.Frag} {f g : Ev → Option Fl} {E : Ends} {σ : L2.St} {H : Hp} (h : tS K W (sq f g) E σ H) : tSeq (tS K W f) (tS K W g) E σ H := by
  obtain ⟨M, ρ, fo, fv, r, R, l, e, k⟩ := h
  unfold sq at e
  cases q : f ρ with
  | none => rw [q] at e; cases e
  | some r1 =>
    rw [q, Option.bind_some] at e
    refine ⟨M, ρ, fo, fv, r1, R, l, q, ?_⟩
    cases r1 with
    | nx ρ1 => exact fun M1 H1 σ1 s1 R1 l1 => ⟨M1, ρ1, fo, fv, r, R1, l1, e, k.later s1⟩
    | rt o ρ1 => cases e; exact k
    | bk ρ1 => cases e; exact k
    | ct ρ1 => cases e; exact k
    | ex x ρ1 => cases e; exact k
theorem sCons {st : Stmt} {rest : List Stmt} {f g : Ev → Option Fl} (h1 : PS X st (tS X.K W f)) (h2 : PSs X rest (tS X.K W g)) : PSs X (st :: rest) (tS X.K W (sq f g)) := PSs.imp (pss_cons h1 h2) fun _ _ _ h => tSeq_of h
theorem sOne {st : Stmt} {f : Ev → Option Fl} (h1 : PS X st (tS X.K W f)) : PSs X [st] (tS X.K W f) := pss_one h1
theorem sPass : PS X (.Pass pos) (tS X.K W skip) := PS.imp ps_pass fun E σ H ⟨M, ρ, fo, fv, r, R, l, e, k⟩ => by
  cases e
  exact k M H σ (Same.refl _) R l
def brk (ρ : Ev) : Option Fl := some (.bk ρ)
def cont (ρ : Ev) : Option Fl := some (.ct ρ)
theorem sBreak : PS X (.Break pos) (tS X.K W brk) := PS.imp ps_break fun E σ H ⟨M, ρ, fo, fv, r, R, l, e, k⟩ => by
  cases e
  exact k M H σ (Same.refl _) R l
theorem sCont : PS X (.Continue pos) (tS X.K W cont) := PS.imp ps_continue fun E σ H ⟨M, ρ, fo, fv, r, R, l, e, k⟩ => by
  cases e
  exact k M H σ (Same.refl _) R l
/-! ### return -/
def rtV (f : Ev → Option D) (ρ : Ev) : Option Fl := (f ρ).map fun d => .rt (.dat d) ρ
def rtO (f : Ev → Option O) (ρ : Ev) : Option Fl := (f ρ).map fun o => .rt o ρ
def rtN (ρ : Ev) : Option Fl := some (.rt (.dat .non) ρ)
theorem sRet {e : Expr} {f : Ev → Option D} (h : PE X e (tP X.K f)) : PS X (.Return (some e) pos) (tS X.K W (rtV f)) := PS.imp (ps_ret h) fun E σ H ⟨M, ρ, fo, fv, r, R, l, e, k⟩ => by
  unfold rtV at e
  cases q : f ρ with
  | none => rw [q] at e; cases e
  | some d =>
    rw [q] at e
    cases e
    exact ⟨M, ρ, fo, fv, d, R, l, q, fun M1 H1 v s1 R1 d1 => k M1 H1 σ v s1 (R1.push l d1) l⟩
theorem sRetO {e : Expr} {f : Ev → Option O} (h : PE X e (tO X.K f)) : PS X (.Return (some e) pos) (tS X.K W (rtO f)) := PS.imp (ps_ret h) fun E σ H ⟨M, ρ, fo, fv, r, R, l, e, k⟩ => by
  unfold rtO at e
  cases q : f ρ with
  | none => rw [q] at e; cases e
  | some d =>
    rw [q] at e
    cases e
    exact ⟨M, ρ, fo, fv, d, R, l, q, fun M1 H1 v s1 R1 => k M1 H1 σ v s1 R1 l⟩
theorem sRetN : PS X (.Return none pos) (tS X.K W rtN) := PS.imp ps_retN fun E σ H ⟨M, ρ, fo, fv, r, R, l, e, k⟩ => by
  cases e
  exact k M H σ _ (Same.refl _) (R.push l .non) l
/-! ### if -/
def ifS (c : Ev → Option Bool) (f g : Ev → Option Fl) (ρ : Ev) : Option Fl := match c ρ with
  | some true => f ρ
  | some false => g ρ
  | none => none
theorem sIf {c : Expr} {a b : List Stmt} {fc : Ev → Option Bool} {f g : Ev → Option Fl} (hc : PT X c (tT X.K fc)) (ha : PSs X a (tS X.K W f)) (hb : PSs X b (tS X.K W g)) : PS X (.If c a b pos) (tS X.K W (ifS fc f g)) :=
  PS.imp (ps_if hc ha hb) fun E σ H ⟨M, ρ, fo, fv, r, R, l, e, k⟩ => by
    unfold ifS at e
    split at e
    · rename_i q
      exact ⟨M, ρ, fo, fv, true, R, l, q, fun M1 H1 s1 R1 => iteT ⟨M1, ρ, fo, fv, r, R1, l, e, k.later s1⟩⟩
    · rename_i q
      exact ⟨M, ρ, fo, fv, false, R, l, q, fun M1 H1 s1 R1 => iteF ⟨M1, ρ, fo, fv, r, R1, l, e, k.later s1⟩⟩
    · cases e
/-! ### a name is stored -/
def stV (i : Nat) (f : Ev → Option D) (ρ : Ev) : Option Fl := (f ρ).map fun d => .nx (ρ.set i (.dat d))
def stO (i : Nat) (f : Ev → Option O) (ρ : Ev) : Option Fl := (f ρ).map fun o => .nx (ρ.set i o)
theorem sSet {i : Nat} {x : Str} {e : Expr} {f : Ev → Option D} {pos' : Pos} (hN : X.N.Nodup) (he : PE X e (tP X.K f)) (hi : X.N[i]? = some x := by rfl) (hx : Loc X.env.scope x := by first | exact Or.inl rfl | exact Or.inr rfl) (hs : swapsWith e (some (.Name x pos')) pos.line X.env = pure false := by rfl)
    (hf : X.fn x = true ∨ X.env.scope.names.lookup x = some .local := by first | exact .inl rfl | exact .inr rfl) : PS X (.Assign [.Name x pos'] e pos) (tS X.K W (stV i f)) := PS.imp (ps_set (i := i) hN hi hx he hs hf) fun E σ H ⟨M, ρ, fo, fv, r, R, l, e, k⟩ => by
  unfold stV at e
  cases q : f ρ with
  | none => rw [q] at e; cases e
  | some d =>
    rw [q] at e
    cases e
    exact ⟨M, ρ, fo, fv, d, R, l, q, fun M1 H1 v s1 R1 d1 => k M1 H1 _ s1 (R1.setD l d1) (by simp [l])⟩
theorem sSetO {i : Nat} {x : Str} {e : Expr} {f : Ev → Option O} {pos' : Pos} (hN : X.N.Nodup) (he : PE X e (tO X.K f)) (hi : X.N[i]? = some x := by rfl) (hx : Loc X.env.scope x := by first | exact Or.inl rfl | exact Or.inr rfl) (hs : swapsWith e (some (.Name x pos')) pos.line X.env = pure false := by rfl)
    (hf : X.fn x = true ∨ X.env.scope.names.lookup x = some .local := by first | exact .inl rfl | exact .inr rfl) : PS X (.Assign [.Name x pos'] e pos) (tS X.K W (stO i f)) := PS.imp (ps_set (i := i) hN hi hx he hs hf) fun E σ H ⟨M, ρ, fo, fv, r, R, l, e, k⟩ => by
  unfold stO at e
  cases q : f ρ with
  | none => rw [q] at e; cases e
  | some d =>
    rw [q] at e
    cases e
    exact ⟨M, ρ, fo, fv, d, R, l, q, fun M1 H1 v s1 R1 => k M1 H1 _ s1 (R1.into l) (by simp [l])⟩
/-- x = [..] (a comprehension on one line, x a local) is a statement of its own: from its PS with tAsg -/
theorem sAsgO {i : Nat} {st : Stmt} {f : Ev → Option O} (h : PS X st (tAsg (tO X.K f) (gName i))) : PS X st (tS X.K W (stO i f)) := PS.imp h fun E σ H ⟨M, ρ, fo, fv, r, R, l, e, k⟩ => by
  unfold stO at e
  cases q : f ρ with
  | none => rw [q] at e; cases e
  | some d =>
    rw [q] at e
    cases e
    exact ⟨M, ρ, fo, fv, d, R, l, q, fun M1 H1 v s1 R1 => k M1 H1 _ s1 (R1.into l) (by simp [l])⟩
/-! ### an owned slot is frozen (a step of the proof alone) -/
def fz (i : Nat) (g : Ev → Option Fl) (ρ : Ev) : Option Fl := match ρ[i]? with
  | some o => o.toD.bind fun d => g (ρ.set i (.dat d))
  | none => none
theorem Rep.frzAt {K : PySem.W.Frag} {M H : Hp} {ρ fo : List O} {σ fv : List (Option V)} (R : Rep K M H (ρ ++ fo) (σ ++ fv)) (l : σ.length = ρ.length) {i : Nat} {o : O} {d : D} (e : ρ[i]? = some o) (hd : o.toD = some d) :
    ∃ M', Same M M' ∧ Rep K M' H (ρ.set i (.dat d) ++ fo) (σ ++ fv) := by
  obtain ⟨hi, e⟩ := List.getElem?_eq_some_iff.mp e
  have hi' : i < σ.length := by omega
  have e1 : ρ = ρ.take i ++ o :: ρ.drop (i + 1) := by rw [← e, ← List.drop_eq_getElem_cons hi, List.take_append_drop]
  have e2 : σ = σ.take i ++ σ[i] :: σ.drop (i + 1) := by rw [← List.drop_eq_getElem_cons hi', List.take_append_drop]
  have e3 : ρ.set i (.dat d) = ρ.take i ++ .dat d :: ρ.drop (i + 1) := by rw [List.set_eq_take_append_cons_drop, if_pos hi]
  rw [e1, e2] at R
  simp only [List.append_assoc, List.cons_append] at R
  have ll : (σ.take i).length = (ρ.take i).length := by simp; omega
  obtain ⟨fa, f, fb, w1, w2, w3, nd, nm⟩ := R.mid ll
  obtain ⟨x, ex⟩ : ∃ x, σ[i] = some x := by
    generalize σ[i] = z at w2
    cases w2 with
    | unk => unfold O.toD at hd; cases hd
    | dat h => exact ⟨_, rfl⟩
    | lst h _ => exact ⟨_, rfl⟩
    | dic h _ _ => exact ⟨_, rfl⟩
    | obj h _ _ _ => exact ⟨_, rfl⟩
  obtain ⟨M', s', R', _⟩ := R.frz ll ex hd
  refine ⟨M', s', ?_⟩
  rw [e3, e2]
  simp only [List.append_assoc, List.cons_append]
  simpa using R'
theorem tFz_of {K : PySem.W.Frag} {i : Nat} {g : Ev → Option Fl} {E : Ends} {σ : L2.St} {H : Hp} (h : tS K W (fz i g) E σ H) : tS K W g E σ H := by
  obtain ⟨M, ρ, fo, fv, r, R, l, e, k⟩ := h
  unfold fz at e
  cases q : ρ[i]? with
  | none => rw [q] at e; cases e
  | some o =>
    rw [q] at e
    have e : (o.toD.bind fun d => g (ρ.set i (.dat d))) = some r := e
    cases q2 : o.toD with
    | none => rw [q2] at e; cases e
    | some d =>
      rw [q2, Option.bind_some] at e
      obtain ⟨M1, s1, R1⟩ := R.frzAt l q q2
      exact ⟨M1, _, fo, fv, r, R1, by simp [l], e, k.later s1⟩
theorem sFz {st : Stmt} {i : Nat} {g : Ev → Option Fl} (h : PS X st (tS X.K W g)) : PS X st (tS X.K W (fz i g)) := PS.imp h fun _ _ _ h => tFz_of h
/-- an expression alone -/
def drp (f : Ev → Option D) (ρ : Ev) : Option Fl := (f ρ).map fun _ => .nx ρ
theorem sExpr {e : Expr} {f : Ev → Option D} (he : PE X e (tP X.K f)) (hs : swapsWith e none pos.line X.env = pure false := by rfl) : PS X (.Expr e pos) (tS X.K W (drp f)) := PS.imp (ps_expr he hs) fun E σ H ⟨M, ρ, fo, fv, r, R, l, e, k⟩ => by
  unfold drp at e
  cases q : f ρ with
  | none => rw [q] at e; cases e
  | some d =>
    rw [q] at e
    cases e
    exact ⟨M, ρ, fo, fv, d, R, l, q, fun M1 H1 v s1 R1 d1 => k M1 H1 σ s1 R1 l⟩

/-! ### x.append(e) of an own list -/
theorem Rep.ownL {K : PySem.W.Frag} {M H : Hp} {ρ fo : List O} {σ fv : List (Option V)} (R : Rep K M H (ρ ++ fo) (σ ++ fv)) (l : σ.length = ρ.length) {i : Nat} {os : List O} (e : ρ[i]? = some (.lst os)) :
    ∃ a xs, σ[i]? = some (some (.ref a)) ∧ H a = some (.lst xs) ∧ xs.length = os.length ∧
      ∀ (x : V) (d : D), Dv K M x d → Rep K M (upd H a (.lst (xs ++ [x]))) (ρ.set i (.lst (os ++ [.dat d])) ++ fo) (σ ++ fv) := by
  obtain ⟨hi, e⟩ := List.getElem?_eq_some_iff.mp e
  have hi' : i < σ.length := by omega
  have e1 : ρ = ρ.take i ++ O.lst os :: ρ.drop (i + 1) := by rw [← e, ← List.drop_eq_getElem_cons hi, List.take_append_drop]
  have e2 : σ = σ.take i ++ σ[i] :: σ.drop (i + 1) := by rw [← List.drop_eq_getElem_cons hi', List.take_append_drop]
  have e3 : ∀ z, ρ.set i z = ρ.take i ++ z :: ρ.drop (i + 1) := fun z => by rw [List.set_eq_take_append_cons_drop, if_pos hi]
  have R0 := R
  rw [e1, e2] at R
  simp only [List.append_assoc, List.cons_append] at R
  have ll : (σ.take i).length = (ρ.take i).length := by simp; omega
  obtain ⟨fa, f, fb, w1, w2, w3, nd, nm⟩ := R.mid ll
  generalize hz : σ[i] = z at *
  cases w2 with
  | lst h ws =>
    rename_i a xs fp
    refine ⟨a, xs, by rw [List.getElem?_eq_getElem hi', hz], h, by rw [← ws.length]; simp, fun x d dx => ?_⟩
    have aout : ∀ b, b ∈ fa ∨ b ∈ fp ∨ b ∈ fb → b ≠ a := by
      intro b hb z
      subst z
      rw [List.nodup_append] at nd
      obtain ⟨n1, n2, n3⟩ := nd
      rcases hb with hb | hb | hb
      · exact n3 b hb b (by simp) rfl
      · rw [List.cons_append, List.nodup_cons] at n2
        exact n2.1 (List.mem_append_left _ hb)
      · rw [List.cons_append, List.nodup_cons] at n2
        exact n2.1 (List.mem_append_right _ hb)
    have ma : M a = none := nm a (by simp)
    rw [e3, e2]
    simp only [List.append_assoc, List.cons_append]
    refine ⟨fun b y q => ?_, fa ++ ((a :: fp) ++ fb), ?_, nd, nm⟩
    · rw [upd_ne (fun z => by subst z; rw [ma] at q; cases q)]
      exact R.same b y q
    · refine (w1.frame (Same.refl _) fun b hb => upd_ne (aout b (.inl hb))).append (.cons ?_ (w3.frame (Same.refl _) fun b hb => upd_ne (aout b (.inr (.inr hb)))))
      refine .lst upd_same ?_
      rw [List.map_append]
      have w4 := (ws.frame (Same.refl _) (H' := upd H a (.lst (xs ++ [x]))) fun b hb => upd_ne (aout b (.inr (.inl hb)))).append (Ows.cons (Ow.dat (H := upd H a (.lst (xs ++ [x]))) dx) .nil)
      simpa using w4
def app (i : Nat) (f : Ev → Option D) (ρ : Ev) : Option Fl := (f ρ).bind fun d => match ρ[i]? with
  | some (.lst os) => if os.length < sizeLine then some (.nx (ρ.set i (.lst (os ++ [.dat d])))) else none
  | _ => none
theorem sApp {i : Nat} {x : Str} {e : Expr} {f : Ev → Option D} {p apos cpos : Pos} (hv : PE X (.Name x p) (tVar i)) (he : PE X e (tP X.K f)) (hbase : attributeBase (.Name x p) "append" X.env (eval (.Name x p) X.env) = eval (.Name x p) X.env := by rfl)
    (hfew : ((backTo cpos (starEach [e] X.env)).all (fun x => !x.1) && (backToKw cpos (keywordEach [] X.env)).all (fun x => x.1.isSome)
      && decide ([e].length + ([] : List Keyword).length + (if ([] : List Keyword).isEmpty then 0 else 1) < 30)) = true := by rfl)
    (hline : (apos.endLine == cpos.line) = true := by rfl) (hs : starEach [e] X.env = (false, eval e X.env) :: starEach [] X.env := by rfl) (hplain : (backTo cpos (starEach [] X.env)).any (·.1) = false := by rfl)
    (hsw : swapsWith (.Call (.Attribute (.Name x p) "append" apos) [e] [] cpos) none pos.line X.env = pure false := by rfl) :
    PS X (.Expr (.Call (.Attribute (.Name x p) "append" apos) [e] [] cpos) pos) (tS X.K W (app i f)) :=
  PS.imp (ps_expr (pe_bm PySem.F.plainAttrs_list PySem.F.slot_list_append PySem.F.type_list_append mt_append hv (pa_cons he pa_nil hs) hbase hfew hline hs hplain) hsw) fun E σ H ⟨M, ρ, fo, fv, r, R, l, e, k⟩ => by
    unfold app at e
    cases q : f ρ with
    | none => rw [q] at e; cases e
    | some d =>
      rw [q, Option.bind_some] at e
      split at e
      · rename_i os eo
        split at e
        · rename_i hlen
          cases e
          obtain ⟨a, xs, es, ha, hl, _⟩ := R.ownL l eo
          refine ⟨.ref a, es, .inl ⟨rfl, _, .inl (.inl ha)⟩, M, ρ, fo, fv, d, R, l, q, fun M1 H1 v s1 R1 d1 => ?_⟩
          obtain ⟨a', xs', es', ha', hl', up⟩ := R1.ownL l eo
          have : a' = a := by rw [es'] at es; cases es; rfl
          subst this
          refine ⟨a', xs', v, rfl, rfl, ha', by omega, ?_⟩
          exact k M1 _ σ s1 (up v d d1) (by simp [l])
        · cases e
      · cases e
end
end PD

namespace PD
open PySem PySem.Spec L2

/-! ### what is walked -/
def Yld (K : PySem.W.Frag) (M : Hp) (J : It) (ds : List D) : Prop :=
  ∀ i H, Same M H → (i < ds.length → J.go i H) ∧ (i = ds.length → J.stop i H) ∧ ∀ d, ds[i]? = some d → ∀ x H', J.yld i H x H' → ∀ M1 os vs, Same M M1 → Rep K M1 H os vs →
    ∃ M2, Same M1 M2 ∧ Rep K M2 H' os vs ∧ Dv K M2 x d
def tI (K : PySem.W.Frag) (g : Ev → Option (List D)) : TI := fun σ H R => ∃ M ρ fo fv ds, Rep K M H (ρ ++ fo) (σ ++ fv) ∧ σ.length = ρ.length ∧ g ρ = some ds ∧
  ∀ M' H' J, Same M M' → Rep K M' H' (ρ ++ fo) (σ ++ fv) → Yld K M' J ds → R J H'
theorem yld_list {K : PySem.W.Frag} {M : Hp} {a : Addr} {xs : List V} {ds : List D} (h : SqL K M a xs) (d : Dvs K M xs ds) : Yld K M (Itl K a) ds := fun i H s => by
  have q := s.seq h
  have w := walk_list (K := K) (a := a) (xs := xs)
  have hl := d.length
  refine ⟨fun hi => w.goes i H (by omega) q, fun hi => by subst hi; rw [← hl]; exact w.stops H q, fun e he x H' y M1 os vs s1 R => ?_⟩
  have hi : i < xs.length := by rw [hl]; exact (List.getElem?_eq_some_iff.mp he).1
  obtain ⟨rfl, ex⟩ := w.yields i H x H' hi q y
  obtain ⟨e', he', dv⟩ := d.getV ex
  rw [he] at he'; cases he'
  exact ⟨M1, Same.refl _, R, dv.mono s1⟩
theorem yld_tup {K : PySem.W.Frag} {M : Hp} {a : Addr} {xs : List V} {ds : List D} (h : SqT K M a xs) (d : Dvs K M xs ds) : Yld K M (Itt K a) ds := fun i H s => by
  have q := sqT_same s h
  have w := walk_tup (K := K) (a := a) (xs := xs)
  have hl := d.length
  refine ⟨fun hi => w.goes i H (by omega) q, fun hi => by subst hi; rw [← hl]; exact w.stops H q, fun e he x H' y M1 os vs s1 R => ?_⟩
  have hi : i < xs.length := by rw [hl]; exact (List.getElem?_eq_some_iff.mp he).1
  obtain ⟨rfl, ex⟩ := w.yields i H x H' hi q y
  obtain ⟨e', he', dv⟩ := d.getV ex
  rw [he] at he'; cases he'
  exact ⟨M1, Same.refl _, R, dv.mono s1⟩
/-- the signs of a text -/
def signs (z : Str) : List D := z.cps.toList.map fun c => .str ⟨#[c]⟩
theorem yld_str {K : PySem.W.Frag} {M : Hp} {z : Str} : Yld K M (Its z) (signs z) := fun i H s => by
  have w := walk_str (z := z)
  have hl : (signs z).length = z.cps.size := by simp [signs]
  refine ⟨fun hi => w.goes i H (by omega) trivial, fun hi => by subst hi; rw [hl]; exact w.stops H trivial, fun e he x H' y M1 os vs s1 R => ?_⟩
  have hi : i < z.cps.size := by rw [← hl]; exact (List.getElem?_eq_some_iff.mp he).1
  obtain ⟨rfl, c, ec, ex⟩ := w.yields i H x H' hi trivial y
  have : e = .str ⟨#[c]⟩ := by
    unfold signs at he
    rw [List.getElem?_map, Array.getElem?_toList, ec] at he
    exact (Option.some.inj he).symm
  subst this; subst ex
  exact ⟨M1, Same.refl _, R, .str _⟩
def rangeD (lo : Int) (n : Nat) : List D := (List.range n).map fun i : Nat => .int (lo + (i : Int))
theorem yld_range {K : PySem.W.Frag} {M : Hp} {lo : Int} {n : Nat} : Yld K M (Itr lo n) (rangeD lo n) := fun i H s => by
  have w := walk_range (lo := lo) (n := n)
  have hl : (rangeD lo n).length = n := by simp [rangeD]
  refine ⟨fun hi => w.goes i H (by omega) trivial, fun hi => by subst hi; rw [hl]; exact w.stops H trivial, fun e he x H' y M1 os vs s1 R => ?_⟩
  have hi : i < n := by rw [← hl]; exact (List.getElem?_eq_some_iff.mp he).1
  obtain ⟨rfl, ex⟩ := w.yields i H x H' hi trivial y
  have : e = .int (lo + (i : Int)) := by
    unfold rangeD at he
    rw [List.getElem?_map, List.getElem?_range hi] at he
    exact (Option.some.inj he).symm
  subst this; subst ex
  exact ⟨M1, Same.refl _, R, .int _⟩
theorem yld_enum {K : PySem.W.Frag} {M : Hp} {a : Addr} {xs : List V} {ds : List D} (h : SqL K M a xs) (d : Dvs K M xs ds) : Yld K M (Ite K a) (ds.zipIdx.map fun p => .tup [.int (p.2 : Nat), p.1]) := fun i H s => by
  have q := s.seq h
  have w := walk_enum (K := K) (a := a) (xs := xs)
  have hl := d.length
  have hl2 : (ds.zipIdx.map fun p => D.tup [.int (p.2 : Nat), p.1]).length = ds.length := by simp
  refine ⟨fun hi => w.goes i H (by omega) q, fun hi => by subst hi; rw [hl2, ← hl]; exact w.stops H q, fun e he x H' y M1 os vs s1 R => ?_⟩
  have hi : i < xs.length := by rw [hl, ← hl2]; exact (List.getElem?_eq_some_iff.mp he).1
  obtain ⟨T, x1, x2, ex, hT, rfl, e1, e2⟩ := w.yields i H x H' hi q y
  obtain ⟨e', he', dv⟩ := d.getV e2
  cases e1
  have : e = .tup [.int (i : Nat), e'] := by
    rw [List.getElem?_map, List.getElem?_zipIdx, he'] at he
    simpa using (Option.some.inj he).symm
  subst this; subst ex
  have mT := R.same.free hT
  have s2 := same_updM (u := .tup [.int (i : Nat), x2]) mT
  exact ⟨_, s2, R.growM hT, .tup (.inl (.inl upd_same)) (.cons (.int _) (.cons (dv.mono (s1.trans s2)) .nil))⟩

section
variable {X : Cx} {W : WX} {pos : Pos} {tg e : Expr} {f : Ev → Option D}
def seqD : D → Option (List D)
  | .lst ds => some ds
  | .tup ds => some ds
  | .str z => some (signs z)
  | _ => none
def iOf (f : Ev → Option D) (ρ : Ev) : Option (List D) := (f ρ).bind seqD
theorem iSeq (h : PE X e (tP X.K f)) : PI X tg e (tI X.K (iOf f)) := PI.imp (PI.or (PI.or (pi_list h) (pi_tup h)) (pi_str h)) fun σ H R ⟨M, ρ, fo, fv, ds, R0, l, e, k⟩ => by
  unfold iOf at e
  cases q : f ρ with
  | none => rw [q] at e; cases e
  | some d =>
    rw [q, Option.bind_some] at e
    cases d with
    | lst es =>
      cases e
      exact .inl (.inl ⟨M, ρ, fo, fv, _, R0, l, q, fun M1 H1 v s1 R1 d1 => by
        cases d1 with
        | lst hs hd => exact ⟨_, rfl, ⟨_, R1.same.seq hs⟩, k M1 H1 _ s1 R1 (yld_list hs hd)⟩⟩)
    | tup es =>
      cases e
      exact .inl (.inr ⟨M, ρ, fo, fv, _, R0, l, q, fun M1 H1 v s1 R1 d1 => by
        cases d1 with
        | tup hs hd => exact ⟨_, rfl, ⟨_, sqT_same R1.same hs⟩, k M1 H1 _ s1 R1 (yld_tup hs hd)⟩⟩)
    | str z =>
      cases e
      exact .inr ⟨M, ρ, fo, fv, _, R0, l, q, fun M1 H1 v s1 R1 d1 => by cases d1; exact ⟨z, rfl, k M1 H1 _ s1 R1 yld_str⟩⟩
    | _ => cases e
def rng1 (f : Ev → Option D) (ρ : Ev) : Option (List D) := match f ρ with
  | some (.int n) => if n < 2 ^ 62 ∧ -(2 ^ 62) ≤ n then some (rangeD 0 n.toNat) else none
  | _ => none
def rng2 (f g : Ev → Option D) (ρ : Ev) : Option (List D) := match f ρ, g ρ with
  | some (.int m), some (.int n) => if (n < 2 ^ 62 ∧ -(2 ^ 62) ≤ n) ∧ m < 2 ^ 62 ∧ -(2 ^ 62) ≤ m then some (rangeD m (n - m).toNat) else none
  | _, _ => none
theorem iRange1 {p : Pos} (h : PE X e (tP X.K f)) (hm : X.mg "range" = none) (hg : Gl X "range" := by rfl) (hs : starEach [e] X.env = [(false, eval e X.env)] := by rfl) (hs2 : starEach [e] X.env = (false, eval e X.env) :: starEach [] X.env := by rfl) : PI X tg (.Call (.Name "range" p) [e] [] pos) (tI X.K (rng1 f)) :=
  PI.imp (pi_range1 hg hm (pa_cons h pa_nil hs2) hs) fun σ H R ⟨M, ρ, fo, fv, ds, R0, l, e, k⟩ => by
    unfold rng1 at e
    split at e
    · rename_i n q
      split at e
      · rename_i hn
        cases e
        exact ⟨M, ρ, fo, fv, _, R0, l, q, fun M1 H1 v s1 R1 d1 => by cases d1; exact ⟨n, rfl, hn.2, hn.1, k M1 H1 _ s1 R1 yld_range⟩⟩
      · cases e
    · cases e
theorem iRange2 {p : Pos} {e2 : Expr} {f2 : Ev → Option D} (h : PE X e (tP X.K f)) (h2 : PE X e2 (tP X.K f2)) (hm : X.mg "range" = none) (hg : Gl X "range" := by rfl) (hs : starEach [e, e2] X.env = [(false, eval e X.env), (false, eval e2 X.env)] := by rfl) (hs2 : starEach [e2] X.env = [(false, eval e2 X.env)] := by rfl)
    (hs3 : starEach [e, e2] X.env = (false, eval e X.env) :: starEach [e2] X.env := by rfl) (hs4 : starEach [e2] X.env = (false, eval e2 X.env) :: starEach [] X.env := by rfl) : PI X tg (.Call (.Name "range" p) [e, e2] [] pos) (tI X.K (rng2 f f2)) :=
  PI.imp (pi_range2 hg hm (pa_cons h (pa_cons h2 pa_nil hs4) hs3) hs hs2) fun σ H R ⟨M, ρ, fo, fv, ds, R0, l, e, k⟩ => by
    unfold rng2 at e
    split at e
    · rename_i m n q q2
      split at e
      · rename_i hn
        cases e
        exact ⟨M, ρ, fo, fv, _, R0, l, q, fun M1 H1 v s1 R1 d1 => by
          cases d1
          exact ⟨M1, ρ, fo, fv, _, R1, l, q2, fun M2 H2 v2 s2 R2 d2 => by cases d2; exact ⟨m, n, rfl, ⟨hn.2.2, hn.2.1, hn.1.2, hn.1.1⟩, k M2 H2 _ (s1.trans s2) R2 yld_range⟩⟩⟩
      · cases e
    · cases e
def enuD (f : Ev → Option D) (ρ : Ev) : Option (List D) := match f ρ with
  | some (.lst ds) => some (ds.zipIdx.map fun p => .tup [.int (p.2 : Nat), p.1])
  | _ => none
theorem iEnum {p tpos : Pos} {elts : List Expr} {kk : Nat} (h : PE X e (tP X.K f)) (hm : X.mg "enumerate" = none) (hg : Gl X "enumerate" := by rfl) (hs : starEach [e] X.env = [(false, eval e X.env)] := by rfl) (hs2 : starEach [e] X.env = (false, eval e X.env) :: starEach [] X.env := by rfl) :
    PI X (.Tuple elts kk tpos) (.Call (.Name "enumerate" p) [e] [] pos) (tI X.K (enuD f)) :=
  PI.imp (pi_enum hg hm (pa_cons h pa_nil hs2) hs) fun σ H R ⟨M, ρ, fo, fv, ds, R0, l, e, k⟩ => by
    unfold enuD at e
    split at e
    · rename_i es q
      cases e
      exact ⟨M, ρ, fo, fv, _, R0, l, q, fun M1 H1 v s1 R1 d1 => by
        cases d1 with
        | lst hs hd => exact ⟨_, _, rfl, R1.same.seq hs, k M1 H1 _ s1 R1 (yld_enum hs hd)⟩⟩
    · cases e

/-! ### targets -/
def tG (K : PySem.W.Frag) (is : List Nat) (g : D → Ev → Option Ev) : TG := fun v σ H Q => ∃ M ρ fo fv d ρ', Rep K M H (ρ ++ fo) (σ ++ fv) ∧ σ.length = ρ.length ∧ Dv K M v d ∧ g d ρ = some ρ' ∧
  ∀ σ', (∀ j, j ∉ is → σ'[j]? = σ[j]?) → σ'.length = σ.length → ρ'.length = ρ.length → Rep K M H (ρ' ++ fo) (σ' ++ fv) → Q σ' H
def tGs (K : PySem.W.Frag) (is : List Nat) (g : List D → Ev → Option Ev) : TGs := fun vs σ H Q => ∃ M ρ fo fv ds ρ', Rep K M H (ρ ++ fo) (σ ++ fv) ∧ σ.length = ρ.length ∧ Dvs K M vs ds ∧ g ds ρ = some ρ' ∧
  ∀ σ', (∀ j, j ∉ is → σ'[j]? = σ[j]?) → σ'.length = σ.length → ρ'.length = ρ.length → Rep K M H (ρ' ++ fo) (σ' ++ fv) → Q σ' H
def gN (i : Nat) (d : D) (ρ : Ev) : Option Ev := some (ρ.set i (.dat d))
def gsN (ds : List D) (ρ : Ev) : Option Ev := match ds with
  | [] => some ρ
  | _ => none
def gsC (g : D → Ev → Option Ev) (h : List D → Ev → Option Ev) (ds : List D) (ρ : Ev) : Option Ev := match ds with
  | d :: r => (g d ρ).bind (h r)
  | [] => none
def gT (n : Nat) (h : List D → Ev → Option Ev) (d : D) (ρ : Ev) : Option Ev := match d with
  | .tup ds => if ds.length = n then h ds ρ else none
  | _ => none
theorem PG.imp {t t' : TG} (h : PG X tg t) (i : ∀ v σ H Q, t' v σ H Q → t v σ H Q) : PG X tg t' := ⟨fun p s σ H v u Q I r w => h.run p s σ H v u Q I r (i v σ H Q w)⟩
theorem PGs.imp {ts : List Expr} {t t' : TGs} (h : PGs X ts t) (i : ∀ v σ H Q, t' v σ H Q → t v σ H Q) : PGs X ts t' := ⟨fun p s σ H v u Q I r w => h.run p s σ H v u Q I r (i v σ H Q w)⟩
theorem gName' {i : Nat} {x : Str} (hN : X.N.Nodup) (hi : X.N[i]? = some x := by rfl) (hx : Loc X.env.scope x := by first | exact Or.inl rfl | exact Or.inr rfl) (hf : X.fn x = true ∨ X.env.scope.names.lookup x = some .local := by first | exact .inl rfl | exact .inr rfl) : PG X (.Name x pos) (tG X.K [i] (gN i)) :=
  PG.imp (pg_name hN hi hx hf) fun v σ H Q ⟨M, ρ, fo, fv, d, ρ', R, l, dv, e, k⟩ => by
    cases e
    exact k _ (fun j hj => by rw [List.getElem?_set_ne (by simpa using Ne.symm (by simpa using hj))]) (by simp) (by simp) (R.setD l dv)
theorem gsNil' : PGs X [] (tGs X.K [] gsN) := PGs.imp pgs_nil fun vs σ H Q ⟨M, ρ, fo, fv, ds, ρ', R, l, dv, e, k⟩ => by
  unfold gsN at e
  split at e
  · cases e
    cases dv
    exact ⟨rfl, k σ (fun _ _ => rfl) rfl rfl R⟩
  · cases e
theorem gsCons' {es : List Expr} {is js : List Nat} {g : D → Ev → Option Ev} {h : List D → Ev → Option Ev} (h1 : PG X e (tG X.K is g)) (h2 : PGs X es (tGs X.K js h))
    (hs : (assignEach (e :: es) X.env).map (·.2) = assign e X.env :: (assignEach es X.env).map (·.2) := by rfl) : PGs X (e :: es) (tGs X.K (is ++ js) (gsC g h)) := by
  refine PGs.imp (pgs_cons h1 h2 hs) fun vs σ H Q ⟨M, ρ, fo, fv, ds, ρ', R, l, dv, e, k⟩ => ?_
  unfold gsC at e
  split at e
  · rename_i d r
    cases dv with
    | cons d1 d2 =>
      cases q : g d ρ with
      | none => rw [q] at e; cases e
      | some ρ1 =>
        rw [q, Option.bind_some] at e
        refine ⟨_, _, rfl, M, ρ, fo, fv, d, ρ1, R, l, d1, q, fun σ1 a1 l1 r1 R1 => ?_⟩
        exact ⟨M, ρ1, fo, fv, r, ρ', R1, by omega, d2, e, fun σ2 a2 l2 r2 R2 => k σ2 (fun j hj => by rw [a2 j (fun z => hj (List.mem_append_right _ z)), a1 j (fun z => hj (List.mem_append_left _ z))]) (by omega) (by omega) R2⟩
  · cases e
theorem gTup' {es : List Expr} {k n : Nat} {is : List Nat} {h : List D → Ev → Option Ev} (hc : X.calm = true) (h1 : PGs X es (tGs X.K is h)) (hn : (assignEach es X.env).length = n := by rfl) (hst : (assignEach es X.env).findIdx? (·.1) = none := by rfl) : PG X (.Tuple es k pos) (tG X.K is (gT n h)) :=
  PG.imp (pg_tup hc h1 hn hst) fun v σ H Q ⟨M, ρ, fo, fv, d, ρ', R, l, dv, e, k⟩ => by
    unfold gT at e
    split at e
    · rename_i ds
      split at e
      · rename_i hl
        cases dv with
        | tup hs hd => exact ⟨_, _, rfl, sqT_same R.same hs, by rw [hd.length]; exact hl, M, ρ, fo, fv, ds, ρ', R, l, hd, e, k⟩
      · cases e
    · cases e
/-- what a target changes -/
structure TgOk (is : List Nat) (g : D → Ev → Option Ev) : Prop where
  len : ∀ d ρ ρ', g d ρ = some ρ' → ρ'.length = ρ.length
  out : ∀ d ρ ρ', g d ρ = some ρ' → ∀ j, j ∉ is → ρ'[j]? = ρ[j]?
structure TgsOk (is : List Nat) (g : List D → Ev → Option Ev) : Prop where
  len : ∀ d ρ ρ', g d ρ = some ρ' → ρ'.length = ρ.length
  out : ∀ d ρ ρ', g d ρ = some ρ' → ∀ j, j ∉ is → ρ'[j]? = ρ[j]?
theorem gN_ok (i : Nat) : TgOk [i] (gN i) := ⟨fun d ρ ρ' e => by cases e; simp, fun d ρ ρ' e j hj => by cases e; rw [List.getElem?_set_ne (by simpa using Ne.symm (by simpa using hj))]⟩
theorem gsN_ok : TgsOk [] gsN := ⟨fun d ρ ρ' e => by unfold gsN at e; split at e <;> cases e; rfl, fun d ρ ρ' e j hj => by unfold gsN at e; split at e <;> cases e; rfl⟩
theorem gsC_ok {is js : List Nat} {g : D → Ev → Option Ev} {h : List D → Ev → Option Ev} (h1 : TgOk is g) (h2 : TgsOk js h) : TgsOk (is ++ js) (gsC g h) := by
  have key : ∀ d ρ ρ', gsC g h d ρ = some ρ' → ∃ d' r ρ1, g d' ρ = some ρ1 ∧ h r ρ1 = some ρ' := fun d ρ ρ' e => by
    unfold gsC at e
    split at e
    · rename_i d' r
      cases q : g d' ρ with
      | none => rw [q] at e; cases e
      | some ρ1 => rw [q, Option.bind_some] at e; exact ⟨d', r, ρ1, q, e⟩
    · cases e
  refine ⟨fun d ρ ρ' e => ?_, fun d ρ ρ' e j hj => ?_⟩
  · obtain ⟨d', r, ρ1, e1, e2⟩ := key d ρ ρ' e
    rw [h2.len _ _ _ e2, h1.len _ _ _ e1]
  · obtain ⟨d', r, ρ1, e1, e2⟩ := key d ρ ρ' e
    rw [h2.out _ _ _ e2 j (fun z => hj (List.mem_append_right _ z)), h1.out _ _ _ e1 j (fun z => hj (List.mem_append_left _ z))]
theorem gT_ok {is : List Nat} {n : Nat} {h : List D → Ev → Option Ev} (h1 : TgsOk is h) : TgOk is (gT n h) := by
  have key : ∀ d ρ ρ', gT n h d ρ = some ρ' → ∃ r, h r ρ = some ρ' := fun d ρ ρ' e => by
    unfold gT at e
    split at e
    · split at e
      · exact ⟨_, e⟩
      · cases e
    · cases e
  exact ⟨fun d ρ ρ' e => let ⟨r, e1⟩ := key d ρ ρ' e; h1.len _ _ _ e1, fun d ρ ρ' e j hj => let ⟨r, e1⟩ := key d ρ ρ' e; h1.out _ _ _ e1 j hj⟩
/-- a, b = e -/
def asg (f : Ev → Option D) (g : D → Ev → Option Ev) (ρ : Ev) : Option Fl := (f ρ).bind fun d => (g d ρ).map .nx
theorem sAsg {is : List Nat} {g : D → Ev → Option Ev} (he : PE X e (tP X.K f)) (hg : PG X tg (tG X.K is g)) (hs : swapsWithSole [tg] e pos.line X.env = pure false := by rfl) (hw : swappedStores [tg] e X.env = pure none := by rfl) (h1 : (assignEach [tg] X.env).map (·.2) = [assign tg X.env] := by rfl) : PS X (.Assign [tg] e pos) (tS X.K W (asg f g)) :=
  PS.imp (ps_asg he hg hs hw h1) fun E σ H ⟨M, ρ, fo, fv, r, R, l, e, k⟩ => by
    unfold asg at e
    cases q : f ρ with
    | none => rw [q] at e; cases e
    | some d =>
      rw [q, Option.bind_some] at e
      cases q2 : g d ρ with
      | none => rw [q2] at e; cases e
      | some ρ1 =>
        rw [q2] at e
        cases e
        exact ⟨M, ρ, fo, fv, d, R, l, q, fun M1 H1 v s1 R1 d1 => ⟨M1, ρ, fo, fv, d, ρ1, R1, l, d1, q2, fun σ1 a1 l1 r1 R2 => k M1 H1 σ1 s1 R2 (by omega)⟩⟩

/-! ### for -/
def loop (g : D → Ev → Option Ev) (body : Ev → Option Fl) : List D → Ev → Option Fl
  | [], ρ => some (.nx ρ)
  | d :: ds, ρ => (g d ρ).bind fun ρ1 => (body ρ1).bind fun r => match r with
    | .nx ρ' => loop g body ds ρ'
    | .ct ρ' => loop g body ds ρ'
    | .bk ρ' => some (.nx ρ')
    | r => some r
def forS (f : Ev → Option (List D)) (g : D → Ev → Option Ev) (body : Ev → Option Fl) (ρ : Ev) : Option Fl := (f ρ).bind fun ds => loop g body ds ρ
theorem sFor {iter : Expr} {body : List Stmt} {fi : Ev → Option (List D)} {is : List Nat} {g : D → Ev → Option Ev} {b : Ev → Option Fl} (hp : PassesOwn (model X.prog X.w) X.A X.env X.xe) (hc : X.calm = true) (hi : PI X tg iter (tI X.K fi)) (hg : PG X tg (tG X.K is g)) (hb : PSs X body (tS X.K W b))
    (hs : ∀ x, foldedSetIterable iter X.env x = pure x := by intro _; rfl) : PS X (.For tg iter body [] pos) (tS X.K W (forS fi g b)) := PS.imp (ps_for hp hc hi hg hb hs) fun E σ H ⟨M, ρ, fo, fv, r, R, l, e, k⟩ => by
  unfold forS at e
  cases q : fi ρ with
  | none => rw [q] at e; cases e
  | some ds =>
    rw [q, Option.bind_some] at e
    refine ⟨M, ρ, fo, fv, ds, R, l, q, fun M0 H0 J s0 R0 y => ?_⟩
    refine ⟨fun i m σ H => m = ds.length - i ∧ i ≤ ds.length ∧ ∃ M1 ρ1, Same M0 M1 ∧ Rep X.K M1 H (ρ1 ++ fo) (σ ++ fv) ∧ σ.length = ρ1.length ∧ loop g b (ds.drop i) ρ1 = some r, ⟨ds.length, by omega, Nat.zero_le _, M0, ρ, Same.refl _, R0, l, by simpa using e⟩, ?_⟩
    rintro i m σ H ⟨rfl, hi, M1, ρ1, s1, R1, l1, e1⟩
    obtain ⟨go, stop, yl⟩ := y i H (s1.trans R1.same)
    by_cases hlt : i < ds.length
    · have ed : ds.drop i = ds[i] :: ds.drop (i + 1) := List.drop_eq_getElem_cons hlt
      rw [ed] at e1
      unfold loop at e1
      cases q1 : g ds[i] ρ1 with
      | none => rw [q1] at e1; cases e1
      | some ρ2 =>
        rw [q1, Option.bind_some] at e1
        cases q2 : b ρ2 with
        | none => rw [q2] at e1; cases e1
        | some r2 =>
          rw [q2, Option.bind_some] at e1
          refine .inr ⟨go hlt, fun σ' H' => ∃ M1 ρ1, Same M0 M1 ∧ Rep X.K M1 H' (ρ1 ++ fo) (σ' ++ fv) ∧ σ'.length = ρ1.length ∧ loop g b (ds.drop (i + 1)) ρ1 = some r, fun σ' H' h => ⟨ds.length - (i + 1), by omega, rfl, hlt, h⟩, fun x H' hy => ?_⟩
          obtain ⟨M2, s2, R2, d2⟩ := yl ds[i] (List.getElem?_eq_getElem hlt) x H' hy M1 _ _ s1 R1
          refine ⟨M2, ρ1, fo, fv, ds[i], ρ2, R2, l1, d2, q1, fun σ3 a3 l3 r3 R3 => ?_⟩
          have s02 : Same M M2 := s0.trans (s1.trans s2)
          refine ⟨M2, ρ2, fo, fv, r2, R3, by omega, q2, ?_⟩
          cases r2 with
          | nx ρ4 => exact fun M4 H4 σ4 s4 R4 l4 => ⟨M4, ρ4, s1.trans (s2.trans s4), R4, l4, e1⟩
          | ct ρ4 => exact fun M4 H4 σ4 s4 R4 l4 => ⟨M4, ρ4, s1.trans (s2.trans s4), R4, l4, e1⟩
          | bk ρ4 => cases e1; exact fun M4 H4 σ4 s4 R4 l4 => k M4 H4 σ4 (s02.trans s4) R4 l4
          | rt o ρ4 => cases e1; exact fun M4 H4 σ4 v s4 R4 l4 => k M4 H4 σ4 v (s02.trans s4) R4 l4
          | ex x ρ4 => cases e1; exact fun M4 H4 σ4 cls d s4 R4 l4 => k M4 H4 σ4 cls d (s02.trans s4) R4 l4
    · have ei : i = ds.length := by omega
      rw [ei, List.drop_length] at e1
      cases e1
      exact .inl ⟨stop ei, k M1 H σ (s0.trans s1) R1 l1⟩

/-! ### while -/
def wl (c : Ev → Option Bool) (b : Ev → Option Fl) : Nat → Ev → Option Fl
  | 0, _ => none
  | n + 1, ρ => (c ρ).bind fun t => if t = true then (b ρ).bind fun r => (match r with
    | .nx ρ' => wl c b n ρ'
    | .ct ρ' => wl c b n ρ'
    | .bk ρ' => some (.nx ρ')
    | r => some r) else some (.nx ρ)
open Classical in
noncomputable def whileS (c : Ev → Option Bool) (b : Ev → Option Fl) (ρ : Ev) : Option Fl := if h : ∃ n r, wl c b n ρ = some r then some h.choose_spec.choose else none
theorem wl_more {c : Ev → Option Bool} {b : Ev → Option Fl} : ∀ {n : Nat} {ρ : Ev} {r : Fl}, wl c b n ρ = some r → ∀ m, wl c b (n + m) ρ = some r
  | 0, _, _, h, _ => by cases h
  | n + 1, ρ, r, h, m => by
    rw [show n + 1 + m = (n + m) + 1 by omega]
    unfold wl at h ⊢
    cases q : c ρ with
    | none => rw [q] at h; cases h
    | some t =>
      simp only [q, Option.bind_some] at h ⊢
      cases t with
      | false => exact h
      | true =>
        rw [if_pos rfl] at h ⊢
        cases q2 : b ρ with
        | none => rw [q2] at h; cases h
        | some r2 =>
          simp only [q2, Option.bind_some] at h ⊢
          cases r2 with
          | nx ρ' => exact wl_more (n := n) h m
          | ct ρ' => exact wl_more (n := n) h m
          | bk ρ' => exact h
          | rt o ρ' => exact h
          | ex x ρ' => exact h
theorem whileS_of {c : Ev → Option Bool} {b : Ev → Option Fl} {n : Nat} {ρ : Ev} {r : Fl} (h : wl c b n ρ = some r) : whileS c b ρ = some r := by
  unfold whileS
  have hx : ∃ n r, wl c b n ρ = some r := ⟨n, r, h⟩
  rw [dif_pos hx]
  have h2 := hx.choose_spec.choose_spec
  have a := wl_more h hx.choose
  have b := wl_more h2 n
  rw [Nat.add_comm, b] at a
  exact a
theorem whileS_some {c : Ev → Option Bool} {b : Ev → Option Fl} {ρ : Ev} {r : Fl} (h : whileS c b ρ = some r) : ∃ n, wl c b n ρ = some r := by
  unfold whileS at h
  split at h
  · rename_i hx
    have h2 := hx.choose_spec.choose_spec
    refine ⟨hx.choose, ?_⟩
    rw [h2]
    exact h
  · cases h
theorem sWhile {c : Expr} {body : List Stmt} {fc : Ev → Option Bool} {b : Ev → Option Fl} (hp : PassesOwn (model X.prog X.w) X.A X.env X.xe) (hc : PT X c (tT X.K fc)) (hb : PSs X body (tS X.K W b)) : PS X (.While c body [] pos) (tS X.K W (whileS fc b)) := PS.imp (ps_while hp hc hb) fun E σ H ⟨M, ρ, fo, fv, r, R, l, e, k⟩ => by
  obtain ⟨n, e⟩ := whileS_some e
  refine ⟨fun m σ H => ∃ M1 ρ1, Same M M1 ∧ Rep X.K M1 H (ρ1 ++ fo) (σ ++ fv) ∧ σ.length = ρ1.length ∧ wl fc b m ρ1 = some r, ⟨n, M, ρ, Same.refl _, R, l, e⟩, ?_⟩
  rintro m σ H ⟨M1, ρ1, s1, R1, l1, e1⟩
  cases m with
  | zero => cases e1
  | succ m =>
    unfold wl at e1
    cases q : fc ρ1 with
    | none => rw [q] at e1; cases e1
    | some t =>
      rw [q, Option.bind_some] at e1
      refine ⟨M1, ρ1, fo, fv, t, R1, l1, q, fun M2 H2 s2 R2 => ?_⟩
      cases t with
      | false => cases e1; exact iteF (k M2 H2 σ (s1.trans s2) R2 l1)
      | true =>
        rw [if_pos rfl] at e1
        cases q2 : b ρ1 with
        | none => rw [q2] at e1; cases e1
        | some r2 =>
          rw [q2, Option.bind_some] at e1
          refine iteT ⟨fun σ' H' => ∃ M3 ρ3, Same M M3 ∧ Rep X.K M3 H' (ρ3 ++ fo) (σ' ++ fv) ∧ σ'.length = ρ3.length ∧ wl fc b m ρ3 = some r, fun σ' H' h => ⟨m, Nat.lt_succ_self _, h⟩, M2, ρ1, fo, fv, r2, R2, l1, q2, ?_⟩
          have s12 := s1.trans s2
          cases r2 with
          | nx ρ4 => exact fun M4 H4 σ4 s4 R4 l4 => ⟨M4, ρ4, s12.trans s4, R4, l4, e1⟩
          | ct ρ4 => exact fun M4 H4 σ4 s4 R4 l4 => ⟨M4, ρ4, s12.trans s4, R4, l4, e1⟩
          | bk ρ4 => cases e1; exact fun M4 H4 σ4 s4 R4 l4 => k M4 H4 σ4 (s12.trans s4) R4 l4
          | rt o ρ4 => cases e1; exact fun M4 H4 σ4 v s4 R4 l4 => k M4 H4 σ4 v (s12.trans s4) R4 l4
          | ex x ρ4 => cases e1; exact fun M4 H4 σ4 cls d s4 R4 l4 => k M4 H4 σ4 cls d (s12.trans s4) R4 l4
end
end PD

namespace PD
open PySem PySem.Spec L2

/-! ### a comprehension's block -/
def wipeO (ρ : Ev) : List Nat → Ev
  | [] => ρ
  | v :: vs => (wipeO ρ vs).set v .unk
theorem wipeO_length (ρ : Ev) : ∀ vs : List Nat, (wipeO ρ vs).length = ρ.length
  | [] => rfl
  | v :: vs => by unfold wipeO; rw [List.length_set, wipeO_length ρ vs]
theorem wipeO_out {ρ : Ev} {i : Nat} : ∀ {vs : List Nat}, i ∉ vs → (wipeO ρ vs)[i]? = ρ[i]?
  | [], _ => rfl
  | v :: vs, h => by
    unfold wipeO
    rw [List.getElem?_set_ne (show v ≠ i from fun z => h (by rw [z]; exact List.mem_cons_self)), wipeO_out fun z => h (List.mem_cons_of_mem _ z)]
theorem wipeO_in {ρ : Ev} {i : Nat} (hi : i < ρ.length) : ∀ {vs : List Nat}, i ∈ vs → (wipeO ρ vs)[i]? = some .unk
  | v :: vs, h => by
    unfold wipeO
    by_cases e : v = i
    · subst e; rw [List.getElem?_set_self (by rw [wipeO_length]; exact hi)]
    · rw [List.getElem?_set_ne e]
      rcases List.mem_cons.mp h with h | h
      · exact absurd h.symm e
      · exact wipeO_in hi h
theorem wipe_in {σ : L2.St} {i : Nat} (hi : i < σ.length) : ∀ {vs : List Nat}, i ∈ vs → (wipe σ vs)[i]? = some none
  | v :: vs, h => by
    unfold wipe
    by_cases e : v = i
    · subst e; rw [List.getElem?_set_self (by rw [wipe_length]; exact hi)]
    · rw [List.getElem?_set_ne e]
      rcases List.mem_cons.mp h with h | h
      · exact absurd h.symm e
      · exact wipe_in hi h
theorem wipeO_ext {ρ ρ' : Ev} {vs : List Nat} (l : ρ'.length = ρ.length) (h : ∀ j, j ∉ vs → ρ'[j]? = ρ[j]?) : wipeO ρ' vs = wipeO ρ vs := by
  apply List.ext_getElem?
  intro j
  by_cases hj : j ∈ vs
  · by_cases hl : j < ρ.length
    · rw [wipeO_in hl hj, wipeO_in (l ▸ hl) hj]
    · rw [List.getElem?_eq_none (by rw [wipeO_length]; omega), List.getElem?_eq_none (by rw [wipeO_length]; omega)]
  · rw [wipeO_out hj, wipeO_out hj, h j hj]
theorem wipe_ext {ρ ρ' : L2.St} {vs : List Nat} (l : ρ'.length = ρ.length) (h : ∀ j, j ∉ vs → ρ'[j]? = ρ[j]?) : wipe ρ' vs = wipe ρ vs := by
  apply List.ext_getElem?
  intro j
  by_cases hj : j ∈ vs
  · by_cases hl : j < ρ.length
    · rw [wipe_in hl hj, wipe_in (l ▸ hl) hj]
    · rw [List.getElem?_eq_none (by rw [wipe_length]; omega), List.getElem?_eq_none (by rw [wipe_length]; omega)]
  · rw [wipe_out hj, wipe_out hj, h j hj]
def okW (ρ : Ev) (vs : List Nat) : Bool := vs.all fun v => match ρ[v]? with
  | some (.dat _) => true
  | some .unk => true
  | none => true
  | _ => false
section
variable {K : PySem.W.Frag} {M M' H H' : Hp}
theorem Rep.wipe {ρ fo : List O} {σ fv : List (Option V)} (R : Rep K M H (ρ ++ fo) (σ ++ fv)) (l : σ.length = ρ.length) : ∀ vs : List Nat, Rep K M H (wipeO ρ vs ++ fo) (L2.wipe σ vs ++ fv)
  | [] => R
  | v :: vs => (Rep.wipe R l vs).setU (by rw [wipe_length, wipeO_length]; exact l) none
theorem Ows.restore : ∀ {ρ ρ' : List O} {σ σ' : List (Option V)} {f : List Addr}, Ows K M H ρ' σ' f → ρ'.length = ρ.length → σ.length = ρ.length →
    (∀ j : Nat, (ρ'[j]? = ρ[j]? ∧ σ'[j]? = σ[j]?) ∨ (∃ d x, ρ[j]? = some (.dat d) ∧ σ[j]? = some (some x) ∧ Dv K M x d) ∨ ρ[j]? = some .unk) → ∃ f', f'.Sublist f ∧ Ows K M H ρ σ f'
  | [], _, [], _, _, .nil, _, _, _ => ⟨[], List.Sublist.refl _, .nil⟩
  | o :: ρ, _, v :: σ, _, _, .cons (o := o') (v := v') (f1 := f1) (f2 := f2) h hs, e, e2, k => by
    obtain ⟨f', sb, w⟩ := Ows.restore hs (ρ := ρ) (σ := σ) (by simpa using e) (by simpa using e2) (fun j => by have := k (j + 1); simpa using this)
    rcases k 0 with ⟨a, b⟩ | ⟨d, x, a, b, dv⟩ | a
    · have a : o' = o := by simpa using a
      have b : v' = v := by simpa using b
      subst a; subst b
      exact ⟨f1 ++ f', List.Sublist.append (List.Sublist.refl _) sb, .cons h w⟩
    · have a : o = .dat d := by simpa using a
      have b : v = some x := by simpa using b
      subst a; subst b
      exact ⟨[] ++ f', sb.trans (List.sublist_append_right _ _), .cons (.dat dv) w⟩
    · have a : o = .unk := by simpa using a
      subst a
      exact ⟨[] ++ f', sb.trans (List.sublist_append_right _ _), .cons .unk w⟩
  | [], _ :: _, _, _, _, _, e, _, _ => by simp at e
  | _ :: _, [], _, _, _, _, e, _, _ => by simp at e
  | [], _, _ :: _, _, _, _, _, e, _ => by simp at e
  | _ :: _, _, [], _, _, _, _, e, _ => by simp at e
theorem Rep.unwipe {ρ fo : List O} {σ fv : List (Option V)} (R : Rep K M H (ρ ++ fo) (σ ++ fv)) (l : σ.length = ρ.length) {vs : List Nat} (ok : okW ρ vs = true) (s : Same M M') {fo' : List O} {fv' : List (Option V)}
    (R' : Rep K M' H' (wipeO ρ vs ++ fo') (L2.wipe σ vs ++ fv')) : Rep K M' H' (ρ ++ fo') (σ ++ fv') := by
  obtain ⟨sm, fp, w, nd, nm⟩ := R'
  obtain ⟨fa, fb, e1, w1, w2⟩ := w.split (by rw [wipe_length, wipeO_length]; exact l)
  obtain ⟨f', sb, w3⟩ := w1.restore (ρ := ρ) (σ := σ) (wipeO_length _ _) l fun j => by
    by_cases hj : j ∈ vs
    · unfold okW at ok
      rw [List.all_eq_true] at ok
      have := ok j hj
      cases q : ρ[j]? with
      | none =>
        left
        have hl := List.getElem?_eq_none_iff.mp q
        exact ⟨List.getElem?_eq_none (by rw [wipeO_length]; exact hl), by rw [List.getElem?_eq_none (by rw [wipe_length]; omega), List.getElem?_eq_none (by omega)]⟩
      | some o =>
        rw [q] at this
        cases o with
        | unk => exact .inr (.inr rfl)
        | dat d =>
          obtain ⟨x, ex, dx⟩ := R.slot l q
          exact .inr (.inl ⟨d, x, rfl, ex, dx.mono s⟩)
        | lst _ => cases this
        | dic _ _ => cases this
        | obj _ _ _ => cases this
    · exact .inl ⟨wipeO_out hj, wipe_out hj⟩
  subst e1
  refine ⟨sm, f' ++ fb, w3.append w2, nd.sublist (List.Sublist.append sb (List.Sublist.refl _)), fun a ha => nm a ?_⟩
  rcases List.mem_append.mp ha with ha | ha
  · exact List.mem_append_left _ (sb.subset ha)
  · exact List.mem_append_right _ ha
end

def comp (g : D → Ev → Option Ev) (t : Ev → Option Bool) (f : Ev → Option D) (ρ : Ev) : List D → Option (List D)
  | [] => some []
  | d :: ds => (g d ρ).bind fun ρ1 => (t ρ1).bind fun b => if b = true then (f ρ1).bind fun y => (comp g t f ρ ds).map (y :: ·) else comp g t f ρ ds
def yes (_ : Ev) : Option Bool := some true
def lcO (fi : Ev → Option (List D)) (g : D → Ev → Option Ev) (t : Ev → Option Bool) (f : Ev → Option D) (vs : List Nat) (ρ : Ev) : Option O := if okW ρ vs = true then
  (fi ρ).bind fun ds => (comp g t f (wipeO ρ vs) ds).bind fun ys => if ys.length ≤ sizeLine then some (.lst (ys.map .dat)) else none else none
def lcD (fi : Ev → Option (List D)) (g : D → Ev → Option Ev) (t : Ev → Option Bool) (f : Ev → Option D) (vs : List Nat) (ρ : Ev) : Option D := if okW ρ vs = true then
  (fi ρ).bind fun ds => (comp g t f (wipeO ρ vs) ds).bind fun ys => if ys.length ≤ sizeLine then some (.lst ys) else none else none
theorem toDs_dat : ∀ ys : List D, O.toDs (ys.map .dat) = some ys
  | [] => rfl
  | y :: ys => by
    show (match O.toD (.dat y), O.toDs (ys.map .dat) with | some d, some ds => some (d :: ds) | _, _ => none) = _
    rw [toDs_dat ys]
    rfl
section
variable {X : Cx} {W : WX} {pos : Pos} {tg iter elt : Expr} {ifs : List Expr} {scope : Scope} {own : List (Str × Nat)} {fi : Ev → Option (List D)} {is : List Nat} {g : D → Ev → Option Ev} {t : Ev → Option Bool} {f : Ev → Option D}
theorem tYes_of {K : PySem.W.Frag} {σ : L2.St} {H : Hp} {Q : Bool → Hp → Prop} (h : tT K yes σ H Q) : tYes σ H Q := by
  obtain ⟨M, ρ, fo, fv, b, R, l, e, k⟩ := h
  cases e
  exact k M H (Same.refl _) R
theorem ptsNil : PTs X [] (tT X.K yes) := ⟨fun p s σ H Q I h => pts_nil.run p s σ H Q I (tYes_of h)⟩
theorem ptsOne {c : Expr} (h : PT X c (tT X.K t)) : PTs X [c] (tT X.K t) := pts_one h
theorem lc_of {K : PySem.W.Frag} {vs : List Nat} (ok : TgOk is g) (hv : ∀ i ∈ is, i ∈ vs) {σ : L2.St} {H : Hp} {Q : VK} (h : tO K (lcO fi g t f vs) σ H Q) : tLc (tI K fi) (tG K is g) (tT K t) (tP K f) vs σ H Q := by
  obtain ⟨M, ρ, fo, fv, o, R, l, e, k⟩ := h
  unfold lcO at e
  by_cases hw : okW ρ vs = true
  · rw [if_pos hw] at e
    cases q : fi ρ with
    | none => rw [q] at e; cases e
    | some ds =>
      rw [q, Option.bind_some] at e
      cases q2 : comp g t f (wipeO ρ vs) ds with
      | none => rw [q2] at e; cases e
      | some ys =>
        rw [q2, Option.bind_some] at e
        by_cases hz : ys.length ≤ sizeLine
        · rw [if_pos hz] at e
          cases e
          refine ⟨M, ρ, fo, fv, ds, R, l, q, fun M0 H0 J s0 R0 y DD hD => ?_⟩
          have lw : (L2.wipe σ vs).length = (wipeO ρ vs).length := by rw [wipe_length, wipeO_length]; exact l
          refine ⟨fun i m H => m = ds.length - i ∧ i ≤ ds.length ∧ ∃ M1 acc rest, Same M0 M1 ∧ Rep K M1 H (wipeO ρ vs ++ .lst (acc.map .dat) :: fo) (L2.wipe σ vs ++ some (.ref DD) :: fv) ∧ comp g t f (wipeO ρ vs) (ds.drop i) = some rest ∧ ys = acc ++ rest,
            ⟨ds.length, by omega, Nat.zero_le _, M0, [], ys, Same.refl _, (R0.newL l hD .nil).wipe l vs, by simpa using q2, rfl⟩, ?_⟩
          rintro i m H ⟨rfl, hi, M1, acc, rest, s1, R1, e1, ey⟩
          obtain ⟨go, stop, yl⟩ := y i H (s1.trans R1.same)
          by_cases hlt : i < ds.length
          · have ed : ds.drop i = ds[i] :: ds.drop (i + 1) := List.drop_eq_getElem_cons hlt
            rw [ed] at e1
            unfold comp at e1
            cases q3 : g ds[i] (wipeO ρ vs) with
            | none => rw [q3] at e1; cases e1
            | some ρ2 =>
              rw [q3, Option.bind_some] at e1
              cases q4 : t ρ2 with
              | none => rw [q4] at e1; cases e1
              | some b =>
                rw [q4, Option.bind_some] at e1
                refine .inr ⟨go hlt, fun H' => ∃ M1 acc rest, Same M0 M1 ∧ Rep K M1 H' (wipeO ρ vs ++ .lst (acc.map .dat) :: fo) (L2.wipe σ vs ++ some (.ref DD) :: fv) ∧ comp g t f (wipeO ρ vs) (ds.drop (i + 1)) = some rest ∧ ys = acc ++ rest,
                  fun H' h => ⟨ds.length - (i + 1), by omega, rfl, hlt, h⟩, fun x H' hy => ?_⟩
                obtain ⟨M2, s2, R2, d2⟩ := yl ds[i] (List.getElem?_eq_getElem hlt) x H' hy M1 _ _ s1 R1
                refine ⟨M2, wipeO ρ vs, .lst (acc.map .dat) :: fo, some (.ref DD) :: fv, ds[i], ρ2, R2, lw, d2, q3, fun σ3 a3 l3 r3 R3 => ?_⟩
                have ew : L2.wipe σ3 vs = L2.wipe σ vs := by
                  refine wipe_ext (by rw [l3, wipe_length]) fun j hj => ?_
                  rw [a3 j fun z => hj (hv j z), wipe_out hj]
                have er : wipeO ρ2 vs = wipeO ρ vs := by
                  refine wipeO_ext (by rw [r3, wipeO_length]) fun j hj => ?_
                  rw [ok.out _ _ _ q3 j fun z => hj (hv j z), wipeO_out hj]
                have l23 : σ3.length = ρ2.length := by omega
                refine ⟨ew, M2, ρ2, .lst (acc.map .dat) :: fo, some (.ref DD) :: fv, b, R3, l23, q4, fun M4 H4 s4 R4 => ?_⟩
                cases b with
                | false =>
                  refine iteF ⟨M4, acc, rest, s1.trans (s2.trans s4), ?_, e1, ey⟩
                  have := R4.wipe l23 vs
                  rw [ew, er] at this
                  exact this
                | true =>
                  rw [if_pos rfl] at e1
                  cases q5 : f ρ2 with
                  | none => rw [q5] at e1; cases e1
                  | some z =>
                    rw [q5, Option.bind_some] at e1
                    cases q6 : comp g t f (wipeO ρ vs) (ds.drop (i + 1)) with
                    | none => rw [q6] at e1; cases e1
                    | some rest2 =>
                      rw [q6] at e1
                      cases e1
                      refine iteT ⟨M4, ρ2, .lst (acc.map .dat) :: fo, some (.ref DD) :: fv, z, R4, l23, q5, fun M5 H5 v5 s5 R5 d5 => ?_⟩
                      have R5' : Rep K M5 H5 ((ρ2 ++ [.lst (acc.map .dat)]) ++ fo) ((σ3 ++ [some (.ref DD)]) ++ fv) := by simpa using R5
                      obtain ⟨a, xs, ea, ha, hl, up⟩ := R5'.ownL (by simp [l23]) (i := ρ2.length) (os := acc.map .dat) (by simp)
                      have : a = DD := by rw [List.getElem?_append_right (by omega)] at ea; simp [l23] at ea; exact ea.symm
                      subst this
                      refine ⟨xs, ha, by rw [hl, List.length_map]; rw [ey] at hz; simp at hz; omega, M5, acc ++ [z], rest2, s1.trans (s2.trans (s4.trans s5)), ?_, rfl, by rw [ey]; simp⟩
                      have R6 := up v5 z d5
                      rw [List.set_append_right _ _ (by omega)] at R6
                      simp only [Nat.sub_self, List.set_cons_zero, List.append_assoc, List.cons_append, List.nil_append] at R6
                      have R7 := R6.wipe l23 vs
                      rw [ew, er] at R7
                      simpa using R7
          · have ei : i = ds.length := by omega
            rw [ei, List.drop_length] at e1
            cases e1
            rw [List.append_nil] at ey
            subst ey
            exact .inl ⟨stop ei, k M1 H _ (s0.trans s1) (R0.unwipe l hw s1 R1)⟩
        · rw [if_neg hz] at e; cases e
  · rw [if_neg hw] at e; cases e
theorem oLc (own : List (Str × Nat)) (hc : X.calm = true) (hN : X.N.Nodup) (hi : PI X tg iter (tI X.K fi)) (bo : BlkOk X.N X.env.scope scope own)
    (hg : ∀ (s : Shared) (H : Hp) (C : Addr) (cl : List (Str × Addr)) (fp : List Addr), PG (X.blk s H scope (compEnvC scope cl C X.env) fp) tg (tG X.K is g)) (ht : ∀ (s : Shared) (H : Hp) (C : Addr) (cl : List (Str × Addr)) (fp : List Addr), PTs (X.blk s H scope (compEnvC scope cl C X.env) fp) ifs (tT X.K t))
    (he : ∀ (s : Shared) (H : Hp) (C : Addr) (cl : List (Str × Addr)) (fp : List Addr), PE (X.blk s H scope (compEnvC scope cl C X.env) fp) elt (tP X.K f)) (ok : TgOk is g) (hv : ∀ i ∈ is, i ∈ own.map (·.2) := by decide) (hs : ∀ x, foldedSetIterable iter X.env x = pure x := by intro _; rfl) :
    PE X (.ListComp elt [⟨tg, iter, ifs, 0⟩] scope pos) (tO X.K (lcO fi g t f (own.map (·.2)))) := PE.imp (pe_lc hc hN hi bo hg ht he hs) fun _ _ _ h => lc_of ok hv h
theorem lcD_eq (ρ : Ev) (vs : List Nat) : frz (lcO fi g t f vs) ρ = lcD fi g t f vs ρ := by
  unfold frz lcO lcD
  by_cases hw : okW ρ vs = true
  · rw [if_pos hw, if_pos hw]
    cases q : fi ρ with
    | none => rfl
    | some ds =>
      rw [Option.bind_some, Option.bind_some]
      cases q2 : comp g t f (wipeO ρ vs) ds with
      | none => rfl
      | some ys =>
        rw [Option.bind_some, Option.bind_some]
        by_cases hz : ys.length ≤ sizeLine
        · rw [if_pos hz, if_pos hz]
          show (O.toDs (ys.map .dat)).map D.lst = _
          rw [toDs_dat]
          rfl
        · rw [if_neg hz, if_neg hz]; rfl
  · rw [if_neg hw, if_neg hw]; rfl
theorem pLc (own : List (Str × Nat)) (hc : X.calm = true) (hN : X.N.Nodup) (hi : PI X tg iter (tI X.K fi)) (bo : BlkOk X.N X.env.scope scope own)
    (hg : ∀ (s : Shared) (H : Hp) (C : Addr) (cl : List (Str × Addr)) (fp : List Addr), PG (X.blk s H scope (compEnvC scope cl C X.env) fp) tg (tG X.K is g)) (ht : ∀ (s : Shared) (H : Hp) (C : Addr) (cl : List (Str × Addr)) (fp : List Addr), PTs (X.blk s H scope (compEnvC scope cl C X.env) fp) ifs (tT X.K t))
    (he : ∀ (s : Shared) (H : Hp) (C : Addr) (cl : List (Str × Addr)) (fp : List Addr), PE (X.blk s H scope (compEnvC scope cl C X.env) fp) elt (tP X.K f)) (ok : TgOk is g) (hv : ∀ i ∈ is, i ∈ own.map (·.2) := by decide) (hs : ∀ x, foldedSetIterable iter X.env x = pure x := by intro _; rfl) :
    PE X (.ListComp elt [⟨tg, iter, ifs, 0⟩] scope pos) (tP X.K (lcD fi g t f (own.map (·.2)))) := by
  have h := pO (oLc (pos := pos) own hc hN hi bo hg ht he ok hv hs)
  rw [show frz (lcO fi g t f (own.map (·.2))) = lcD fi g t f (own.map (·.2)) from funext fun ρ => lcD_eq ρ _] at h
  exact h
/-- y = [..] on one line -/
theorem sLc {i : Nat} {y : Str} {py spos : Pos} (own : List (Str × Nat)) (hc : X.calm = true) (hN : X.N.Nodup) (hi : PI X tg iter (tI X.K fi)) (bo : BlkOk X.N X.env.scope scope own)
    (hg : ∀ (s : Shared) (H : Hp) (C : Addr) (cl : List (Str × Addr)) (fp : List Addr), PG (X.blk s H scope (compEnvC scope cl C X.env) fp) tg (tG X.K is g)) (ht : ∀ (s : Shared) (H : Hp) (C : Addr) (cl : List (Str × Addr)) (fp : List Addr), PTs (X.blk s H scope (compEnvC scope cl C X.env) fp) ifs (tT X.K t))
    (he : ∀ (s : Shared) (H : Hp) (C : Addr) (cl : List (Str × Addr)) (fp : List Addr), PE (X.blk s H scope (compEnvC scope cl C X.env) fp) elt (tP X.K f)) (ok : TgOk is g) (hy : X.N[i]? = some y := by rfl) (hyl : X.env.scope.names.lookup y = some .local := by rfl)
    (hsw : swapsWith (.ListComp elt [⟨tg, iter, ifs, 0⟩] scope pos) (some (.Name y py)) spos.line X.env = pure true := by exact sw_true rfl rfl rfl (by decide +kernel)) (hv : ∀ i ∈ is, i ∈ own.map (·.2) := by decide) (hs : ∀ x, foldedSetIterable iter X.env x = pure x := by intro _; rfl) :
    PS X (.Assign [.Name y py] (.ListComp elt [⟨tg, iter, ifs, 0⟩] scope pos) spos) (tS X.K W (stO i (lcO fi g t f (own.map (·.2))))) :=
  sAsgO (PS.imp (ps_setLc (i := i) hc hN hy hyl hsw hi bo hg ht he hs) fun E σ H h => lc_of ok hv h)
end

/-! ### defs -/
inductive Rz where
  | ok (o : O) | ex (x : Exn)
/-- the promise of a def that changes nothing -/
def spX (K : PySem.W.Frag) (n : Nat) (m : List D → Option Rz) : Sp := fun vs H Q E => ∃ M fo fv ds r, vs.length = n ∧ Rep K M H fo fv ∧ Dvs K M vs ds ∧ m ds = some r ∧ match r with
  | .ok o => ∀ M' H' v, Same M M' → Rep K M' H' (o :: fo) (some v :: fv) → Q v H'
  | .ex x => ∀ M' H' cls d, Same M M' → Rep K M' H' fo fv → ExR K M' x cls d → E cls d H'
/-- .. that raises nothing and gives a frozen thing -/
def spP (K : PySem.W.Frag) (n : Nat) (m : List D → Option D) : Sp := fun vs H Q _ => vs.length = n ∧ rDs K m vs H Q
/-- .. that raises nothing and gives a new thing -/
def spO (K : PySem.W.Frag) (n : Nat) (m : List D → Option O) : Sp := fun vs H Q _ => vs.length = n ∧ rOs K m vs H Q
def env0 (n : Nat) (ds : List D) : Ev := ds.map .dat ++ List.replicate (n - ds.length) .unk
def outO (r : Fl) : Option O := match r with
  | .nx _ => some (.dat .non)
  | .rt o _ => some o
  | _ => none
def outX (r : Fl) : Option Rz := match r with
  | .nx _ => some (.ok (.dat .non))
  | .rt o _ => some (.ok o)
  | .ex x _ => some (.ex x)
  | _ => none
def runO (n : Nat) (b : Ev → Option Fl) (ds : List D) : Option O := (b (env0 n ds)).bind outO
def runP (n : Nat) (b : Ev → Option Fl) (ds : List D) : Option D := (runO n b ds).bind O.toD
def runX (n : Nat) (b : Ev → Option Fl) (ds : List D) : Option Rz := (b (env0 n ds)).bind outX
section
variable {K : PySem.W.Frag} {M H : Hp}
theorem Rep.dropL {l r : List O} {lv rv : List (Option V)} (R : Rep K M H (l ++ r) (lv ++ rv)) (e : lv.length = l.length) : Rep K M H r rv := by
  obtain ⟨s, fp, w, nd, nm⟩ := R
  obtain ⟨fa, fb, e1, w1, w2⟩ := w.split e
  subst e1
  exact ⟨s, fb, w2, nd.sublist (List.sublist_append_right _ _), fun a ha => nm a (List.mem_append_right _ ha)⟩
theorem ows_unk : ∀ n : Nat, Ows K M H (List.replicate n O.unk) (List.replicate n none) []
  | 0 => .nil
  | n + 1 => by
    have := Ows.cons (Ow.unk (K := K) (M := M) (H := H) (v := none)) (ows_unk n)
    exact this
theorem Rep.enter {fo : List O} {fv : List (Option V)} {vs : List V} {ds : List D} {N : List Str} (R : Rep K M H fo fv) (d : Dvs K M vs ds) : Rep K M H (env0 N.length ds ++ fo) (L2.start N vs ++ fv) ∧ (L2.start N vs).length = (env0 N.length ds).length := by
  have hl := d.length
  refine ⟨?_, by simp [L2.start, env0, hl]⟩
  obtain ⟨s, fp, w, nd, nm⟩ := R
  refine ⟨s, ([] ++ []) ++ fp, ?_, by simpa using nd, fun a ha => nm a (by simpa using ha)⟩
  unfold env0 L2.start
  rw [hl]
  exact ((ows_dat d).append (ows_unk _)).append w
end
section
variable {P : Program} {w : World} {K : PySem.W.Frag} {mg : Str → Option Value} {base : Heap}
abbrev W0 : WX := fun _ _ _ _ => False
theorem fnO {x qual : Str} {st : Stmt} {f : Addr} {fd : FuncData} {N ps : List Str} {k : Nat} {b : Ev → Option Fl} (F : Fun K x qual st f fd) (S : FnScope N ps (defScope st))
    (hb : ∀ (cdv : Value) (A : Around) (outer : List Env) (s : Shared) (H : Hp) (E : XK), Room k (A.deeper (PyProof.Rows.envOfC qual (defScope st) s.heap.objs.size f cdv)) →
      PSs (cxOf CX0 P w K mg base N qual (defScope st) f cdv A outer s H E).nox (defBody st) (tS K W0 b)) : FnOk P w K mg base CX0 (k + 1) f fd ps (spO K ps.length (runO N.length b)) := by
  refine F.ok S (fun vs H Q E h => h.1) fun cdv A outer s H vs Q E hr h => ⟨_, hb cdv A outer s H E hr, ?_⟩
  obtain ⟨hl, M, fo, fv, ds, o, R, dv, e, k⟩ := h
  obtain ⟨R1, l1⟩ := R.enter (N := N) dv
  unfold runO at e
  cases q : b (env0 N.length ds) with
  | none => rw [q] at e; cases e
  | some r =>
    rw [q, Option.bind_some] at e
    refine ⟨M, _, fo, fv, r, R1, l1, q, ?_⟩
    cases r with
    | nx ρ =>
      cases e
      exact fun M1 H1 σ1 s1 R1 l1 => k M1 H1 _ s1 ((R1.push l1 .non).dropL l1)
    | rt o' ρ =>
      cases e
      exact fun M1 H1 σ1 v s1 R1 l1 => k M1 H1 v s1 (R1.dropL l1)
    | bk ρ => cases e
    | ct ρ => cases e
    | ex x ρ => cases e
theorem spO_P {n : Nat} {b : Ev → Option Fl} {ps : List Str} {vs : List V} {H : Hp} {Q : VK} {E : XK} (h : spP K ps.length (runP n b) vs H Q E) : spO K ps.length (runO n b) vs H Q E := by
  obtain ⟨hl, M, fo, fv, ds, d, R, dv, e, k⟩ := h
  unfold runP at e
  cases q : runO n b ds with
  | none => rw [q] at e; cases e
  | some o =>
    rw [q, Option.bind_some] at e
    refine ⟨hl, M, fo, fv, ds, o, R, dv, q, fun M1 H1 v s1 R1 => ?_⟩
    obtain ⟨M2, s2, R2, d2⟩ := Rep.frz (l := []) (lv := []) R1 rfl rfl e
    exact k M2 H1 v (s1.trans s2) (Rep.drop (l := []) (lv := []) R2 rfl) d2
theorem fnP {x qual : Str} {st : Stmt} {f : Addr} {fd : FuncData} {N ps : List Str} {k : Nat} {b : Ev → Option Fl} (F : Fun K x qual st f fd) (S : FnScope N ps (defScope st))
    (hb : ∀ (cdv : Value) (A : Around) (outer : List Env) (s : Shared) (H : Hp) (E : XK), Room k (A.deeper (PyProof.Rows.envOfC qual (defScope st) s.heap.objs.size f cdv)) →
      PSs (cxOf CX0 P w K mg base N qual (defScope st) f cdv A outer s H E).nox (defBody st) (tS K W0 b)) : FnOk P w K mg base CX0 (k + 1) f fd ps (spP K ps.length (runP N.length b)) :=
  (fnO F S hb).imp fun vs H Q E h => spO_P h
end
end PD

namespace PD
open PySem PySem.Spec L2

/-! ### calls of defs -/
section
variable {X : Cx} {W : WX} {pos p : Pos} {a b : Expr} {e : Expr} {es : List Expr} {ga : Ev → Option (List D)} {k : Nat} {f : Addr} {fd : FuncData} {ps : List Str} {x : Str} {n : Nat}
theorem tCall_P {K : PySem.W.Frag} {m : List D → Option D} {ga : Ev → Option (List D)} {σ : L2.St} {H : Hp} {Q : VK} (h : tP K (cB ga fun ds => if ds.length = n then m ds else none) σ H Q) : tCall (spP K n m) [] E0 (tAr K ga) σ H Q := by
  obtain ⟨M, ρ, fo, fv, d, R, l, e, kk⟩ := h
  obtain ⟨ds, eg, ef⟩ := cB_some e
  refine ⟨M, ρ, fo, fv, ds, R, l, eg, fun M1 H1 vs s1 R1 d1 => ?_⟩
  split at ef
  · rename_i hl
    exact ⟨by rw [List.append_nil, d1.length]; exact hl, M1, ρ ++ fo, σ ++ fv, ds, d, R1, by rw [List.append_nil]; exact d1, ef, fun M2 H2 v s2 R2 d2 => kk M2 H2 v (s1.trans s2) R2 d2⟩
  · cases ef
def len? (n : Nat) (m : List D → Option D) (ds : List D) : Option D := if ds.length = n then m ds else none
/-- f(e, ..) -/
theorem pCall {m : List D → Option D} (F : FnOk X.prog X.w X.K X.mg X.base CX0 k f fd ps (spP X.K n m)) (hr : Room k X.A) (hm : X.mg x = some (.ref f)) (hk : PySem.W.keepIn X.K (.ref f) = true) (hb : Binds X.K fd ps []) (ha : PA X (e :: es) (tAr X.K ga)) (hg : Gl X x := by rfl)
    (hdb : (x == ("__debug__" : Str)) = false := by decide) (he : starEach (e :: es) X.env = (false, eval e X.env) :: starEach es X.env := by rfl) (hpl : (backTo pos (starEach es X.env)).any (·.1) = false := by rfl) : PE X (.Call (.Name x p) (e :: es) [] pos) (tP X.K (cB ga (len? n m))) :=
  PE.imp (pe_call F hr hg hm hk hb .nil pass0 ha hdb he hpl) fun _ _ _ h => tCall_P h
/-- f(k=v, ..) -/
def tCallN0 (m : Nat) (sp : Sp) (gV : List V → List V) (E : XK) (tk : TA) : TE := fun σ H Q => tk σ H fun zs H2 => zs.length = m ∧ sp (gV zs) H2 Q E
theorem pe_callN0 {CX : CXT} {E : XK} {sp : Sp} {ks : List Str} {kws : List Keyword} {tk : TA} {g : List Value → List Value → List Value} {gV : List V → List V → List V} (F : FnOk X.prog X.w X.K X.mg X.base CX k f fd ps sp) (hr : Room k X.A) (hg : Gl X x) (hm : X.mg x = some (.ref f)) (hk : PySem.W.keepIn X.K (.ref f) = true) (hb : KBn X.K fd ps 0 ks g gV) (hx : Passes CX X E)
    (hkw : PK X kws tk) (hall : (backToKw pos (keywordEach kws X.env)).all (·.1.isSome) = true := by rfl) (hks : (backToKw pos (keywordEach kws X.env)).filterMap (·.1) = ks := by rfl)
    (hdb : (x == ("__debug__" : Str)) = false := by decide)
    (hpl : ((backTo pos (starEach [] X.env)).any (·.1) || (backToKw pos (keywordEach kws X.env)).any (·.1.isNone)) = false := by rfl) :
    PE X (.Call (.Name x p) [] kws pos) (tCallN0 ks.length sp (gV []) E tk) := by
  refine ⟨fun pins s σ H Q I h => ?_⟩
  refine wpAny_Call_Name_kw (ld_glob I hg hm ?_ hdb)
  refine PySem.W.callWith_KW0 (h₀ := X.base) I.ok.mod.kin hk hall ?_ hpl
  refine thn (hkw.run pos pins s σ H _ I h) fun ws s2 ⟨zs, H2, I2, rz, l2, q2⟩ => ⟨I2.kIn, ?_⟩
  rw [hks]
  exact run_fnN F hr hb hx I2 .nil rz rfl l2 q2
theorem pCallK {m : List D → Option D} {ks : List Str} {kws : List Keyword} {g : List Value → List Value → List Value} (F : FnOk X.prog X.w X.K X.mg X.base CX0 k f fd ps (spP X.K n m)) (hr : Room k X.A) (hm : X.mg x = some (.ref f)) (hk : PySem.W.keepIn X.K (.ref f) = true) (hb : KBn X.K fd ps 0 ks g (fun vs zs => vs ++ zs)) (hn : ks.length = n)
    (hkw : PK X kws (tAr X.K ga)) (hg : Gl X x := by rfl) (hall : (backToKw pos (keywordEach kws X.env)).all (·.1.isSome) = true := by rfl) (hks : (backToKw pos (keywordEach kws X.env)).filterMap (·.1) = ks := by rfl)
    (hdb : (x == ("__debug__" : Str)) = false := by decide)
    (hpl : ((backTo pos (starEach [] X.env)).any (·.1) || (backToKw pos (keywordEach kws X.env)).any (·.1.isNone)) = false := by rfl) :
    PE X (.Call (.Name x p) [] kws pos) (tP X.K (cB ga (len? n m))) := PE.imp (pe_callN0 F hr hg hm hk hb pass0 hkw hall hks hdb hpl) fun σ H Q h => by
  obtain ⟨M, ρ, fo, fv, d, R, l, e, kk⟩ := h
  obtain ⟨ds, eg, ef⟩ := cB_some e
  refine ⟨M, ρ, fo, fv, ds, R, l, eg, fun M1 H1 vs s1 R1 d1 => ?_⟩
  unfold len? at ef
  split at ef
  · rename_i hl
    have hv : vs.length = n := by rw [d1.length]; exact hl
    exact ⟨by omega, hv, M1, ρ ++ fo, σ ++ fv, ds, d, R1, d1, ef, fun M2 H2 v s2 R2 d2 => kk M2 H2 v (s1.trans s2) R2 d2⟩
  · cases ef
end

section
variable {X : Cx}
theorem OpR.imp {f : Value → Value → Sem Value} {r r' : R2} (h : OpR X f r) (i : ∀ x y H Q, r' x y H Q → r x y H Q) : OpR X f r' := fun p s σ H x y v u Q I rx ry w => h p s σ H x y v u Q I rx ry (i x y H Q w)
theorem UnR.imp {f : Value → Sem Value} {r r' : V → Hp → VK → Prop} (h : UnR X f r) (i : ∀ x H Q, r' x H Q → r x H Q) : UnR X f r' := fun p s σ H x v Q I rx w => h p s σ H x v Q I rx (i x H Q w)
theorem CallR.imp {f : Value} {r r' : List V → Hp → VK → Prop} (h : CallR X f r) (i : ∀ x H Q, r' x H Q → r x H Q) : CallR X f r' := fun p s σ H x v Q I rx w => h p s σ H x v Q I rx (i x H Q w)
theorem CallR.or {f : Value} {r r' : List V → Hp → VK → Prop} (h : CallR X f r) (h' : CallR X f r') : CallR X f (fun x H Q => r x H Q ∨ r' x H Q) := fun p s σ H x v Q I rx w => w.elim (h p s σ H x v Q I rx) (h' p s σ H x v Q I rx)
theorem IxR.imp {r r' : R2} (h : IxR X r) (i : ∀ x y H Q, r' x y H Q → r x y H Q) : IxR X r' := fun v sl p s σ H x y a b Q I rx ry w hs => h v sl p s σ H x y a b Q I rx ry (i x y H Q w) hs
theorem MtR.imp {id : String} {r r' : V → List V → Hp → VK → Prop} (h : MtR X id r) (i : ∀ x xs H Q, r' x xs H Q → r x xs H Q) : MtR X id r' := fun p s σ H x xs v us Q I rx rs w => h p s σ H x xs v us Q I rx rs (i x xs H Q w)
theorem SlR.imp {r r' : V → Option Int → Option Int → Hp → VK → Prop} (h : SlR X r) (i : ∀ x lo hi H Q, r' x lo hi H Q → r x lo hi H Q) : SlR X r' := fun p s σ H x v vl vu lo hi sl Q I rx hs pl pu w => h p s σ H x v vl vu lo hi sl Q I rx hs pl pu (i x lo hi H Q w)

/-! ### operators -/
/-- two ints -/
def i2 (C : Int → Int → Bool) (g : Int → Int → D) (x y : D) : Option D := match x, y with
  | .int i, .int j => if C i j = true then some (g i j) else none
  | _, _ => none
theorem i2_some {C : Int → Int → Bool} {g : Int → Int → D} {x y d : D} (h : i2 C g x y = some d) : ∃ i j, x = .int i ∧ y = .int j ∧ C i j = true ∧ d = g i j := by
  unfold i2 at h
  split at h
  · rename_i i j
    split at h
    · cases h; exact ⟨i, j, rfl, rfl, by assumption, rfl⟩
    · cases h
  · cases h
theorem op_i2 {f : Value → Value → Sem Value} {C : Int → Int → Prop} {Cb : Int → Int → Bool} {g : Int → Int → V} {gd : Int → Int → D} (h : OpR X f (rI C g)) (hC : ∀ i j, Cb i j = true → C i j) (hd : ∀ i j M, Dv X.K M (g i j) (gd i j)) : OpR X f (rD X.K (i2 Cb gd)) :=
  OpR.imp h fun x y H Q ⟨M, fo, fv, dx, dy, d, R, d1, d2, e, k⟩ => by
    obtain ⟨i, j, rfl, rfl, hc, rfl⟩ := i2_some e
    cases d1; cases d2
    exact ⟨i, j, rfl, rfl, hC i j hc, k M H _ (Same.refl _) R (hd i j M)⟩
theorem op_i20 {f : Value → Value → Sem Value} {g : Int → Int → V} {gd : Int → Int → D} (h : OpR X f (rI0 g)) (hd : ∀ i j M, Dv X.K M (g i j) (gd i j)) : OpR X f (rD X.K (i2 (fun _ _ => true) gd)) :=
  OpR.imp h fun x y H Q ⟨M, fo, fv, dx, dy, d, R, d1, d2, e, k⟩ => by
    obtain ⟨i, j, rfl, rfl, hc, rfl⟩ := i2_some e
    cases d1; cases d2
    exact ⟨i, j, rfl, rfl, k M H _ (Same.refl _) R (hd i j M)⟩
def s2 (C : Str → Str → Bool) (g : Str → Str → D) (x y : D) : Option D := match x, y with
  | .str i, .str j => if C i j = true then some (g i j) else none
  | _, _ => none
theorem s2_some {C : Str → Str → Bool} {g : Str → Str → D} {x y d : D} (h : s2 C g x y = some d) : ∃ i j, x = .str i ∧ y = .str j ∧ C i j = true ∧ d = g i j := by
  unfold s2 at h
  split at h
  · rename_i i j
    split at h
    · cases h; exact ⟨i, j, rfl, rfl, by assumption, rfl⟩
    · cases h
  · cases h
def orD (f g : D → D → Option D) (x y : D) : Option D := match f x y with
  | some d => some d
  | none => g x y
theorem op_orD {f : Value → Value → Sem Value} {g g' : D → D → Option D} (h : OpR X f (rD X.K g)) (h' : OpR X f (rD X.K g')) : OpR X f (rD X.K (orD g g')) := OpR.imp (h.or h') fun x y H Q ⟨M, fo, fv, dx, dy, d, R, d1, d2, e, k⟩ => by
  unfold orD at e
  split at e
  · rename_i q; cases e; exact .inl ⟨M, fo, fv, dx, dy, d, R, d1, d2, q, k⟩
  · exact .inr ⟨M, fo, fv, dx, dy, d, R, d1, d2, e, k⟩
abbrev addI : D → D → Option D := i2 (fun _ _ => true) fun i j => .int (i + j)
abbrev addS : D → D → Option D := s2 (fun i j => decide (i.length + j.length ≤ sizeLine)) fun i j => .str (i ++ j)
abbrev subI : D → D → Option D := i2 (fun _ _ => true) fun i j => .int (i - j)
def okMul (i j : Int) : Bool := decide ((-(2 ^ 64) < i ∧ i < 2 ^ 64) ∨ (-(2 ^ 64) < j ∧ j < 2 ^ 64))
abbrev mulI : D → D → Option D := i2 okMul fun i j => .int (i * j)
abbrev modI : D → D → Option D := i2 (fun _ j => decide (0 < j)) fun i j => .int (i % j)
abbrev divI : D → D → Option D := i2 (fun _ j => decide (0 < j ∧ j < 1073741824)) fun i j => .int (i / j)
abbrev powI : D → D → Option D := i2 (fun i j => decide (0 ≤ j ∧ j ≤ 1000000 ∧ i.natAbs < 2 ^ 64)) fun i j => .int (i ^ j.toNat)
theorem oAddI : OpR X (binaryOp .Add) (rD X.K addI) := op_i20 op_add fun _ _ _ => .int _
theorem oSub : OpR X (binaryOp .Sub) (rD X.K subI) := op_i20 op_sub fun _ _ _ => .int _
theorem oMul : OpR X (binaryOp .Mult) (rD X.K mulI) := op_i2 op_mul (fun i j h => by simpa [okMul, CMul] using h) fun _ _ _ => .int _
theorem oMod : OpR X (binaryOp .Mod) (rD X.K modI) := op_i2 op_mod (fun i j h => of_decide_eq_true h) fun _ _ _ => .int _
theorem oDiv : OpR X (binaryOp .FloorDiv) (rD X.K divI) := op_i2 op_fdiv (fun i j h => by simpa [CDiv] using h) fun _ _ _ => .int _
theorem oPow : OpR X (binaryOp .Pow) (rD X.K powI) := op_i2 op_pow (fun i j h => by simpa [CPow] using h) fun _ _ _ => .int _
theorem oAddS : OpR X (binaryOp .Add) (rD X.K addS) := OpR.imp op_add_str fun x y H Q ⟨M, fo, fv, dx, dy, d, R, d1, d2, e, k⟩ => by
  obtain ⟨i, j, rfl, rfl, hc, rfl⟩ := s2_some e
  cases d1; cases d2
  exact ⟨i, j, rfl, rfl, of_decide_eq_true hc, k M H _ (Same.refl _) R (.str _)⟩
abbrev addD : D → D → Option D := orD addI addS
theorem oAdd : OpR X (binaryOp .Add) (rD X.K addD) := op_orD oAddI oAddS
abbrev ltI : D → D → Option D := i2 (fun _ _ => true) fun i j => .bl (decide (i < j))
abbrev leI : D → D → Option D := i2 (fun _ _ => true) fun i j => .bl (decide (i ≤ j))
abbrev gtI : D → D → Option D := i2 (fun _ _ => true) fun i j => .bl (decide (j < i))
abbrev geI : D → D → Option D := i2 (fun _ _ => true) fun i j => .bl (decide (j ≤ i))
theorem oLt : OpR X (compareOp .Lt) (rD X.K ltI) := op_i20 op_lt fun _ _ _ => .bl _
theorem oLe : OpR X (compareOp .LtE) (rD X.K leI) := op_i20 op_le fun _ _ _ => .bl _
theorem oGt : OpR X (compareOp .Gt) (rD X.K gtI) := op_i20 op_gt fun _ _ _ => .bl _
theorem oGe : OpR X (compareOp .GtE) (rD X.K geI) := op_i20 op_ge fun _ _ _ => .bl _
/-- a < b < c -/
def chn (fa fb fc : Ev → Option D) (g h : D → D → Option D) (ρ : Ev) : Option D := (fa ρ).bind fun x => (fb ρ).bind fun y => (g x y).bind fun r => match r with
  | .bl true => (fc ρ).bind fun z => h y z
  | .bl false => some (.bl false)
  | _ => none
theorem chain_of {K : PySem.W.Frag} {fa fb fc : Ev → Option D} {g h : D → D → Option D} {σ : L2.St} {H : Hp} {Q : VK} (hh : tP K (chn fa fb fc g h) σ H Q) : tChain (rD K g) (rD K h) (tP K fa) (tP K fb) (tP K fc) σ H Q := by
  obtain ⟨M, ρ, fo, fv, d, R, l, e, k⟩ := hh
  unfold chn at e
  cases q1 : fa ρ with
  | none => rw [q1] at e; cases e
  | some x =>
    cases q2 : fb ρ with
    | none => rw [q1, Option.bind_some, q2] at e; cases e
    | some y =>
      rw [q1, Option.bind_some, q2, Option.bind_some] at e
      cases q3 : g x y with
      | none => rw [q3] at e; cases e
      | some r =>
        rw [q3, Option.bind_some] at e
        refine ⟨M, ρ, fo, fv, x, R, l, q1, fun M1 H1 v1 s1 R1 d1 => ⟨M1, ρ, fo, fv, y, R1, l, q2, fun M2 H2 v2 s2 R2 d2 => ⟨M2, ρ ++ fo, σ ++ fv, x, y, r, R2, d1.mono s2, d2, q3, fun M3 H3 v3 s3 R3 d3 => ?_⟩⟩⟩
        split at e
        · cases d3
          refine ⟨true, rfl, iteT ?_⟩
          cases q4 : fc ρ with
          | none => rw [q4] at e; cases e
          | some z =>
            rw [q4, Option.bind_some] at e
            exact ⟨M3, ρ, fo, fv, z, R3, l, q4, fun M4 H4 v4 s4 R4 d4 => ⟨M4, ρ ++ fo, σ ++ fv, y, z, d, R4, d2.mono (s3.trans s4), d4, e, fun M5 H5 v5 s5 R5 d5 => k M5 H5 v5 (s1.trans (s2.trans (s3.trans (s4.trans s5)))) R5 d5⟩⟩
        · cases d3
          cases e
          exact ⟨false, rfl, iteF (k M3 H3 _ (s1.trans (s2.trans s3)) R3 (.bl _))⟩
        · cases e
theorem pChain {op op' : CmpOp} {a b c : Expr} {pos : Pos} {fa fb fc : Ev → Option D} {g h : D → D → Option D} (ho : OpR X (compareOp op) (rD X.K g)) (ho' : OpR X (compareOp op') (rD X.K h)) (ha : PE X a (tP X.K fa)) (hb : PE X b (tP X.K fb)) (hc : PE X c (tP X.K fc)) (hm : lastMarks [op, op'] [b, c] = false := by with_unfolding_all rfl) :
    PE X (.Compare a [op, op'] [b, c] pos) (tP X.K (chn fa fb fc g h)) := PE.imp (pe_chain ho ho' ha hb hc hm) fun _ _ _ h => chain_of h
theorem tChain' {op op' : CmpOp} {a b c : Expr} {pos : Pos} {fa fb fc : Ev → Option D} {g h : D → D → Option D} (ho : OpR X (compareOp op) (rD X.K g)) (ho' : OpR X (compareOp op') (rD X.K h)) (ha : PE X a (tP X.K fa)) (hb : PE X b (tP X.K fb)) (hc : PE X c (tP X.K fc)) (hm : lastMarks [op, op'] [b, c] = false := by with_unfolding_all rfl) :
    PT X (.Compare a [op, op'] [b, c] pos) (tT X.K (asB (chn fa fb fc g h))) := PT.imp (pt_chain ho ho' ha hb hc hm) fun σ H Q ⟨M, ρ, fo, fv, b, R, l, e, k⟩ =>
  chain_of (K := X.K) (Q := fun x H' => ∃ k, x = .bl k ∧ Q k H') ⟨M, ρ, fo, fv, .bl b, R, l, asB_some e, fun M' H' v s R' dv => by cases dv; exact ⟨b, rfl, k M' H' s R'⟩⟩
end
end PD

namespace PD
open PySem PySem.Spec L2

abbrev kI (i : Int) : Ev → Option D := fun _ => some (.int i)
abbrev kS (x : Str) : Ev → Option D := fun _ => some (.str x)
abbrev kB (b : Bool) : Ev → Option D := fun _ => some (.bl b)
abbrev kN : Ev → Option D := fun _ => some .non
/-! ### data as PyData -/
mutual
def D.py : D → Option PyData
  | .non => some .none
  | .bl b => some (.bool b)
  | .int i => some (.int i)
  | .str x => some (.str x)
  | .lst xs => (D.pys xs).map .list
  | .tup xs => (D.pys xs).map .tuple
  | .dic _ _ => none
  | .obj _ _ _ => none
def D.pys : List D → Option (List PyData)
  | [] => some []
  | d :: ds => match D.py d, D.pys ds with
    | some p, some ps => some (p :: ps)
    | _, _ => none
end
section
variable {K : PySem.W.Frag} {M : Hp}
mutual
theorem Dv.dp : ∀ {v : V} {d : D} {p : PyData}, Dv K M v d → d.py = some p → Dp K M v p
  | _, _, _, .non, e => by cases e; exact .non
  | _, _, _, .bl b, e => by cases e; exact .bl b
  | _, _, _, .int b, e => by cases e; exact .int b
  | _, _, _, .str b, e => by cases e; exact .str b
  | _, .lst ds, p, .lst h hs, e => by
    unfold D.py at e
    cases q : D.pys ds with
    | none => rw [q] at e; cases e
    | some ps => rw [q] at e; cases e; exact .lst h (Dvs.dp hs q)
  | _, .tup ds, p, .tup h hs, e => by
    unfold D.py at e
    cases q : D.pys ds with
    | none => rw [q] at e; cases e
    | some ps => rw [q] at e; cases e; exact .tup h (Dvs.dp hs q)
  | _, .dic _ _, _, .dic _ _ _, e => by unfold D.py at e; cases e
  | _, .obj _ _ _, _, .obj _ _ _ _, e => by unfold D.py at e; cases e
theorem Dvs.dp : ∀ {vs : List V} {ds : List D} {ps : List PyData}, Dvs K M vs ds → D.pys ds = some ps → DpAll K M vs ps
  | _, _, _, .nil, e => by cases e; exact .nil
  | _, d :: ds, ps, .cons h hs, e => by
    unfold D.pys at e
    cases q : D.py d with
    | none => rw [q] at e; cases e
    | some p =>
      cases q2 : D.pys ds with
      | none => rw [q, q2] at e; cases e
      | some ps' => rw [q, q2] at e; cases e; exact .cons (Dv.dp h q) (Dvs.dp hs q2)
end
mutual
theorem dp_mono {M' : Hp} (s : Same M M') : ∀ {v : V} {p : PyData}, Dp K M v p → Dp K M' v p
  | _, _, .non => .non
  | _, _, .bl b => .bl b
  | _, _, .int i => .int i
  | _, _, .str x => .str x
  | _, _, .lst h hs => .lst (s.seq h) (dps_mono s hs)
  | _, _, .tup h hs => .tup (sqT_same s h) (dps_mono s hs)
theorem dps_mono {M' : Hp} (s : Same M M') : ∀ {vs : List V} {ps : List PyData}, DpAll K M vs ps → DpAll K M' vs ps
  | _, _, .nil => .nil
  | _, _, .cons h hs => .cons (dp_mono s h) (dps_mono s hs)
end
end
def eqvD (x y : D) : Option Bool := match x.py, y.py with
  | some p, some q => if SeqAt.shaped p = true ∧ SeqAt.shaped q = true then some (PyData.eqv p q) else none
  | _, _ => none
/-- == of two ints, two bools, two texts -/
def eqS : D → D → Option Bool
  | .int i, .int j => some (decide (i = j))
  | .bl i, .bl j => some (decide (i = j))
  | .str i, .str j => some (decide (i = j))
  | _, _ => none
def eqB (x y : D) : Option Bool := match eqS x y with
  | some b => some b
  | none => eqvD x y
def eqD (x y : D) : Option D := (eqB x y).map .bl
def neD (x y : D) : Option D := (eqB x y).map fun b => .bl (!b)
theorem eqS_some {K : PySem.W.Frag} {M : Hp} {v w : V} {x y : D} {b : Bool} (h : eqS x y = some b) (d1 : Dv K M v x) (d2 : Dv K M w y) : scal v w = true ∧ b = decide (v = w) := by
  unfold eqS at h
  split at h
  · cases h; cases d1; cases d2; exact ⟨rfl, by rw [dec_int, Bool.beq_eq_decide_eq]⟩
  · cases h; cases d1; cases d2; exact ⟨rfl, by rw [dec_bl, Bool.beq_eq_decide_eq]⟩
  · cases h; cases d1; cases d2; exact ⟨rfl, by rw [dec_str, Bool.beq_eq_decide_eq]⟩
  · cases h
theorem eqvD_some {x y : D} {b : Bool} (h : eqvD x y = some b) : ∃ p q, x.py = some p ∧ y.py = some q ∧ SeqAt.shaped p = true ∧ SeqAt.shaped q = true ∧ b = PyData.eqv p q := by
  unfold eqvD at h
  split at h
  · split at h
    · rename_i hs
      cases h
      exact ⟨_, _, by assumption, by assumption, hs.1, hs.2, rfl⟩
    · cases h
  · cases h
section
variable {X : Cx}
theorem oEq (hu : X.A.units + 64 < cLine) : OpR X (compareOp .Eq) (rD X.K eqD) := OpR.imp (op_eq.or (op_eqD hu)) fun x y H Q ⟨M, fo, fv, dx, dy, d, R, d1, d2, e, k⟩ => by
  unfold eqD eqB at e
  cases q0 : eqS dx dy with
  | some b =>
    rw [q0] at e
    cases e
    obtain ⟨s1, rfl⟩ := eqS_some q0 d1 d2
    exact .inl ⟨s1, k M H _ (Same.refl _) R (.bl _)⟩
  | none =>
    rw [q0] at e
    have e : (eqvD dx dy).map D.bl = some d := e
    cases q : eqvD dx dy with
    | none => rw [q] at e; cases e
    | some b =>
      rw [q] at e
      cases e
      obtain ⟨p, r, e1, e2, s1, s2, rfl⟩ := eqvD_some q
      exact .inr ⟨p, r, dp_mono R.same (d1.dp e1), dp_mono R.same (d2.dp e2), s1, s2, k M H _ (Same.refl _) R (.bl _)⟩
theorem oNe (hu : X.A.units + 64 < cLine) : OpR X (compareOp .NotEq) (rD X.K neD) := OpR.imp (op_ne.or (op_neD hu)) fun x y H Q ⟨M, fo, fv, dx, dy, d, R, d1, d2, e, k⟩ => by
  unfold neD eqB at e
  cases q0 : eqS dx dy with
  | some b =>
    rw [q0] at e
    cases e
    obtain ⟨s1, rfl⟩ := eqS_some q0 d1 d2
    exact .inl ⟨s1, k M H _ (Same.refl _) R (.bl _)⟩
  | none =>
    rw [q0] at e
    have e : (eqvD dx dy).map (fun b => D.bl (!b)) = some d := e
    cases q : eqvD dx dy with
    | none => rw [q] at e; cases e
    | some b =>
      rw [q] at e
      cases e
      obtain ⟨p, r, e1, e2, s1, s2, rfl⟩ := eqvD_some q
      exact .inr ⟨p, r, dp_mono R.same (d1.dp e1), dp_mono R.same (d2.dp e2), s1, s2, k M H _ (Same.refl _) R (.bl _)⟩
/-! ### in -/
def D.flat : D → Bool
  | .non => true
  | .bl _ => true
  | .int _ => true
  | .str _ => true
  | _ => false
/-- == of flat things -/
def D.same : D → D → Bool
  | .non, .non => true
  | .bl a, .bl b => a == b
  | .bl a, .int j => (if a then 1 else 0) == j
  | .int i, .bl b => i == (if b then 1 else 0)
  | .int i, .int j => i == j
  | .str x, .str y => x == y
  | _, _ => false
/-- the text i stands in j -/
def Txt.has (j i : Str) : Bool := !(Builtin.Str.occurrences j i 0 j.length 1).isEmpty
def inB (x y : D) : Option Bool := match y with
  | .str j => (match x with
    | .str i => some (Txt.has j i)
    | _ => none)
  | .lst ds => if x.flat && ds.all D.flat then some (ds.any fun z => z.same x) else none
  | .tup ds => if x.flat && ds.all D.flat then some (ds.any fun z => z.same x) else none
  | _ => none
def inD (x y : D) : Option D := (inB x y).map .bl
def ninD (x y : D) : Option D := (inB x y).map fun b => .bl (!b)
theorem flat_of {K : PySem.W.Frag} {M : Hp} {v : V} {d : D} (h : Dv K M v d) (f : d.flat = true) : flatV v = true := by
  cases h <;> first | rfl | cases f
theorem same_of {K : PySem.W.Frag} {M : Hp} {v w : V} {d e : D} (h : Dv K M v d) (h' : Dv K M w e) (f : d.flat = true) (f' : e.flat = true) : eqV v w = d.same e := by
  cases h <;> first | (cases f; done) | (cases h' <;> first | (cases f'; done) | rfl)
theorem flats_of {K : PySem.W.Frag} {M : Hp} : ∀ {vs : List V} {ds : List D}, Dvs K M vs ds → ds.all D.flat = true → vs.all flatV = true
  | _, _, .nil, _ => rfl
  | _, _, .cons h t, f => by
    rw [List.all_cons, Bool.and_eq_true] at f ⊢
    exact ⟨flat_of h f.1, flats_of t f.2⟩
theorem any_of {K : PySem.W.Frag} {M : Hp} {w : V} {e : D} (h' : Dv K M w e) (f' : e.flat = true) : ∀ {vs : List V} {ds : List D}, Dvs K M vs ds → ds.all D.flat = true → inV w vs = ds.any fun z => z.same e
  | _, _, .nil, _ => rfl
  | _, _, .cons h t, f => by
    rw [List.all_cons, Bool.and_eq_true] at f
    unfold inV
    rw [List.any_cons, List.any_cons, same_of h h' f.1 f']
    have := any_of h' f' t f.2
    unfold inV at this
    rw [this]
theorem in_of {neg : Bool} {x y : V} {H : Hp} {Q : VK} {M : Hp} {fo : List O} {fv : List (Option V)} {dx dy : D} {b : Bool} (R : Rep X.K M H fo fv) (d1 : Dv X.K M x dx) (d2 : Dv X.K M y dy) (e : inB dx dy = some b) (k : Q (.bl (if neg then !b else b)) H) :
    rIn X.K neg x y H Q ∨ (∃ i j, x = .str i ∧ y = .str j ∧ Q (.bl (if neg then !(!(Builtin.Str.occurrences j i 0 j.length 1).isEmpty) else (!(Builtin.Str.occurrences j i 0 j.length 1).isEmpty))) H) := by
  unfold inB at e
  cases d2 with
  | str j =>
    cases d1 with
    | str i => cases e; exact .inr ⟨i, j, rfl, rfl, k⟩
    | _ => cases e
  | lst h hs =>
    simp only at e
    split at e
    · rename_i hf
      rw [Bool.and_eq_true] at hf
      cases e
      refine .inl ⟨_, _, rfl, .inl (R.same.seq h), flat_of d1 hf.1, flats_of hs hf.2, ?_⟩
      rw [any_of d1 hf.1 hs hf.2]
      exact k
    · cases e
  | tup h hs =>
    simp only at e
    split at e
    · rename_i hf
      rw [Bool.and_eq_true] at hf
      cases e
      refine .inl ⟨_, _, rfl, .inr (sqT_same R.same h), flat_of d1 hf.1, flats_of hs hf.2, ?_⟩
      rw [any_of d1 hf.1 hs hf.2]
      exact k
    · cases e
  | _ => cases e
theorem oIn : OpR X (compareOp .In) (rD X.K inD) := OpR.imp (op_in_seq.or op_in_str) fun x y H Q ⟨M, fo, fv, dx, dy, d, R, d1, d2, e, k⟩ => by
  unfold inD at e
  cases q : inB dx dy with
  | none => rw [q] at e; cases e
  | some b =>
    rw [q] at e
    cases e
    exact in_of (neg := false) R d1 d2 q (k M H _ (Same.refl _) R (.bl _))
theorem oNotIn : OpR X (compareOp .NotIn) (rD X.K ninD) := OpR.imp (op_notIn_seq.or op_notin_str) fun x y H Q ⟨M, fo, fv, dx, dy, d, R, d1, d2, e, k⟩ => by
  unfold ninD at e
  cases q : inB dx dy with
  | none => rw [q] at e; cases e
  | some b =>
    rw [q] at e
    cases e
    exact in_of (neg := true) R d1 d2 q (k M H _ (Same.refl _) R (.bl _))
/-! ### is None -/
def D.isN : D → Bool
  | .non => true
  | _ => false
def isN (x y : D) : Option D := match y with
  | .non => some (.bl x.isN)
  | _ => none
def notN (x y : D) : Option D := match y with
  | .non => some (.bl (!x.isN))
  | _ => none
theorem isN_of {K : PySem.W.Frag} {M : Hp} {v : V} {d : D} (h : Dv K M v d) : decide (v = .non) = d.isN := by
  cases h <;> first | rfl | exact decide_eq_false (fun z => nomatch z)
theorem oIs : OpR X (compareOp .Is) (rD X.K isN) := OpR.imp op_isN fun x y H Q ⟨M, fo, fv, dx, dy, d, R, d1, d2, e, k⟩ => by
  unfold isN at e
  split at e
  · cases e
    cases d2
    refine ⟨rfl, ?_⟩
    rw [isN_of d1]
    exact k M H _ (Same.refl _) R (.bl _)
  · cases e
theorem oIsNot : OpR X (compareOp .IsNot) (rD X.K notN) := OpR.imp op_notN fun x y H Q ⟨M, fo, fv, dx, dy, d, R, d1, d2, e, k⟩ => by
  unfold notN at e
  split at e
  · cases e
    cases d2
    refine ⟨rfl, ?_⟩
    rw [isN_of d1]
    exact k M H _ (Same.refl _) R (.bl _)
  · cases e
/-! ### -x -/
def negI : D → Option D
  | .int i => some (.int (-i))
  | _ => none
theorem oNeg : UnR X (unaryOp .USub) (rD1 X.K negI) := UnR.imp un_neg fun x H Q ⟨M, fo, fv, dx, d, R, d1, e, k⟩ => by
  unfold negI at e
  split at e
  · cases e; cases d1; exact ⟨_, rfl, k M H _ (Same.refl _) R (.int _)⟩
  · cases e
/-! ### built-ins -/
def lenD : List D → Option D
  | [.lst ds] => some (.int ds.length)
  | [.tup ds] => some (.int ds.length)
  | [.str z] => if z.length ≤ sizeLine then some (.int z.length) else none
  | [.dic ks _] => some (.int ks.length)
  | _ => none
theorem one_of {K : PySem.W.Frag} {M : Hp} {vs : List V} {d : D} (h : Dvs K M vs [d]) : ∃ v, vs = [v] ∧ Dv K M v d := by
  cases h with
  | cons h t => cases t; exact ⟨_, rfl, h⟩
theorem two_of {K : PySem.W.Frag} {M : Hp} {vs : List V} {d e : D} (h : Dvs K M vs [d, e]) : ∃ v w, vs = [v, w] ∧ Dv K M v d ∧ Dv K M w e := by
  cases h with
  | cons h t =>
    obtain ⟨w, rfl, h'⟩ := one_of t
    exact ⟨_, _, rfl, h, h'⟩
theorem cLen : CallR X (.builtin "len") (rDs X.K lenD) := CallR.imp ((call_len_seq.or call_len_str).or call_lenD) fun xs H Q ⟨M, fo, fv, ds, d, R, dv, e, k⟩ => by
  unfold lenD at e
  split at e
  · obtain ⟨v, rfl, dw⟩ := one_of dv; clear dv
    cases e
    cases dw with
    | lst h hs => exact .inl (.inl ⟨_, _, rfl, .inl (R.same.seq h), by rw [hs.length]; exact k M H _ (Same.refl _) R (.int _)⟩)
  · obtain ⟨v, rfl, dw⟩ := one_of dv; clear dv
    cases e
    cases dw with
    | tup h hs => exact .inl (.inl ⟨_, _, rfl, .inr (sqT_same R.same h), by rw [hs.length]; exact k M H _ (Same.refl _) R (.int _)⟩)
  · obtain ⟨v, rfl, dw⟩ := one_of dv; clear dv
    split at e
    · cases e
      cases dw
      exact .inl (.inr ⟨_, rfl, by assumption, k M H _ (Same.refl _) R (.int _)⟩)
    · cases e
  · obtain ⟨v, rfl, dw⟩ := one_of dv; clear dv
    cases e
    cases dw with
    | dic h hk hs =>
      refine .inr ⟨_, _, rfl, R.same _ _ h, ?_⟩
      have := k M H _ (Same.refl _) R (.int _)
      rw [← hk, List.length_map] at this
      exact this
  · cases e
def intD : List D → Option D
  | [.int i] => some (.int i)
  | [.bl b] => some (.int (if b then 1 else 0))
  | _ => none
theorem cInt : CallR X (.type "int") (rDs X.K intD) := CallR.imp call_int1 fun xs H Q ⟨M, fo, fv, ds, d, R, dv, e, k⟩ => by
  unfold intD at e
  split at e
  · obtain ⟨v, rfl, dw⟩ := one_of dv; clear dv
    cases e; cases dw
    exact .inl ⟨_, rfl, k M H _ (Same.refl _) R (.int _)⟩
  · obtain ⟨v, rfl, dw⟩ := one_of dv; clear dv
    cases e; cases dw
    exact .inr ⟨_, rfl, k M H _ (Same.refl _) R (.int _)⟩
  · cases e
def max2 : List D → Option D
  | [.int i, .int j] => some (.int (if j > i then j else i))
  | _ => none
def min2 : List D → Option D
  | [.int i, .int j] => some (.int (if j < i then j else i))
  | _ => none
theorem cMax2 (hc : X.calm = true) : CallR X (.builtin "max") (rDs X.K max2) := CallR.imp (call_max2 hc) fun xs H Q ⟨M, fo, fv, ds, d, R, dv, e, k⟩ => by
  unfold max2 at e
  split at e
  · obtain ⟨v, w, rfl, d1, d2⟩ := two_of dv
    cases e; cases d1; cases d2
    exact ⟨_, _, rfl, k M H _ (Same.refl _) R (.int _)⟩
  · cases e
theorem cMin2 (hc : X.calm = true) : CallR X (.builtin "min") (rDs X.K min2) := CallR.imp (call_min2 hc) fun xs H Q ⟨M, fo, fv, ds, d, R, dv, e, k⟩ => by
  unfold min2 at e
  split at e
  · obtain ⟨v, w, rfl, d1, d2⟩ := two_of dv
    cases e; cases d1; cases d2
    exact ⟨_, _, rfl, k M H _ (Same.refl _) R (.int _)⟩
  · cases e
/-- a list of bools -/
def bls : List D → Option (List Bool)
  | [] => some []
  | .bl b :: r => (bls r).map (b :: ·)
  | _ => none
theorem bls_some : ∀ {ds : List D} {bs : List Bool}, bls ds = some bs → ds = bs.map .bl
  | [], _, e => by cases e; rfl
  | .bl b :: r, bs, e => by
    unfold bls at e
    cases q : bls r with
    | none => rw [q] at e; cases e
    | some cs => rw [q] at e; cases e; rw [bls_some q]; rfl
  | .non :: _, _, e => by cases e
  | .int _ :: _, _, e => by cases e
  | .str _ :: _, _, e => by cases e
  | .lst _ :: _, _, e => by cases e
  | .tup _ :: _, _, e => by cases e
  | .dic _ _ :: _, _, e => by cases e
  | .obj _ _ _ :: _, _, e => by cases e
theorem bls_map : ∀ bs : List Bool, bls (bs.map .bl) = some bs
  | [] => rfl
  | b :: r => by
    show (bls (r.map .bl)).map (b :: ·) = _
    rw [bls_map r]; rfl
def allD : List D → Option D
  | [.lst ds] => (bls ds).map fun bs => .bl (bs.all id)
  | _ => none
def anyD : List D → Option D
  | [.lst ds] => (bls ds).map fun bs => .bl (bs.any id)
  | _ => none
theorem dvs_bls {K : PySem.W.Frag} {M : Hp} : ∀ {vs : List V} {bs : List Bool}, Dvs K M vs (bs.map .bl) → vs = bs.map .bl
  | _, [], .nil => rfl
  | _, b :: r, .cons h t => by cases h; rw [dvs_bls t]; rfl
theorem dvs_ints {K : PySem.W.Frag} {M : Hp} : ∀ {vs : List V} {ns : List Int}, Dvs K M vs (ns.map .int) → vs = ns.map .int
  | _, [], .nil => rfl
  | _, b :: r, .cons h t => by cases h; rw [dvs_ints t]; rfl
theorem dvs_strs {K : PySem.W.Frag} {M : Hp} : ∀ {vs : List V} {ns : List Str}, Dvs K M vs (ns.map .str) → vs = ns.map .str
  | _, [], .nil => rfl
  | _, b :: r, .cons h t => by cases h; rw [dvs_strs t]; rfl
theorem strs_dvs {K : PySem.W.Frag} {M : Hp} : ∀ ns : List Str, Dvs K M (ns.map .str) (ns.map .str)
  | [] => .nil
  | _ :: r => .cons (.str _) (strs_dvs r)
theorem ints_dvs {K : PySem.W.Frag} {M : Hp} : ∀ ns : List Int, Dvs K M (ns.map .int) (ns.map .int)
  | [] => .nil
  | _ :: r => .cons (.int _) (ints_dvs r)
theorem cAll (hc : X.calm = true) : CallR X (.builtin "all") (rDs X.K allD) := CallR.imp (cr_all hc) fun xs H Q ⟨M, fo, fv, ds, d, R, dv, e, k⟩ => by
  unfold allD at e
  split at e
  · rename_i ds'
    obtain ⟨v, rfl, dw⟩ := one_of dv; clear dv
    cases q : bls ds' with
    | none => rw [q] at e; cases e
    | some bs =>
      rw [q] at e
      cases e
      have := bls_some q
      subst this
      cases dw with
      | lst h hs =>
        have := dvs_bls hs
        subst this
        exact ⟨_, bs, rfl, R.same.seq h, k M H _ (Same.refl _) R (.bl _)⟩
  · cases e
theorem cAny (hc : X.calm = true) : CallR X (.builtin "any") (rDs X.K anyD) := CallR.imp (cr_any hc) fun xs H Q ⟨M, fo, fv, ds, d, R, dv, e, k⟩ => by
  unfold anyD at e
  split at e
  · rename_i ds'
    obtain ⟨v, rfl, dw⟩ := one_of dv; clear dv
    cases q : bls ds' with
    | none => rw [q] at e; cases e
    | some bs =>
      rw [q] at e
      cases e
      have := bls_some q
      subst this
      cases dw with
      | lst h hs =>
        have := dvs_bls hs
        subst this
        exact ⟨_, bs, rfl, R.same.seq h, k M H _ (Same.refl _) R (.bl _)⟩
  · cases e
/-! ### items and slices -/
def ixD (x y : D) : Option D := match x, y with
  | .lst ds, .int i => atI ds i
  | .tup ds, .int i => atI ds i
  | .str z, .int i => if z.length ≤ sizeLine then (atI z.cps.toList i).map fun c => .str ⟨#[c]⟩ else none
  | _, _ => none
theorem atI_dvs {K : PySem.W.Frag} {M : Hp} {vs : List V} {ds : List D} {i : Int} {d : D} (h : Dvs K M vs ds) (e : atI ds i = some d) : ∃ v, atI vs i = some v ∧ Dv K M v d := by
  unfold atI at e ⊢
  rw [h.length]
  cases q : ixN ds.length i with
  | none => rw [q] at e; cases e
  | some j => rw [q, Option.bind_some] at e; obtain ⟨v, e1, e2⟩ := h.get e; exact ⟨v, by rw [Option.bind_some]; exact e1, e2⟩
theorem oIx : IxR X (rD X.K ixD) := IxR.imp ix_seq fun x y H Q ⟨M, fo, fv, dx, dy, d, R, d1, d2, e, k⟩ => by
  unfold ixD at e
  split at e
  · cases d2
    cases d1 with
    | lst h hs =>
      obtain ⟨v, e1, e2⟩ := atI_dvs hs e
      exact .inl ⟨_, _, _, v, rfl, rfl, R.same.seq h, e1, k M H _ (Same.refl _) R e2⟩
  · cases d2
    cases d1 with
    | tup h hs =>
      obtain ⟨v, e1, e2⟩ := atI_dvs hs e
      exact .inr (.inl ⟨_, _, _, v, rfl, rfl, sqT_same R.same h, e1, k M H _ (Same.refl _) R e2⟩)
  · rename_i z i
    cases d2
    cases d1
    split at e
    · cases q : atI z.cps.toList i with
      | none => rw [q] at e; cases e
      | some c =>
        rw [q] at e
        cases e
        exact .inr (.inr ⟨z, i, c, rfl, rfl, by assumption, q, k M H _ (Same.refl _) R (.str _)⟩)
    · cases e
  · cases e
/-- the items of xs[lo:hi] -/
def cutD {α : Type} (xs : List α) (lo hi : Option Int) : List α := (xs.drop (HT.sIx xs.length 0 lo)).take (HT.sIx xs.length xs.length hi - HT.sIx xs.length 0 lo)
def slD (x : D) (lo hi : Option Int) : Option D := match x with
  | .lst ds => some (.lst (cutD ds lo hi))
  | .str z => if z.length ≤ sizeLine then some (.str (cutS z lo hi)) else none
  | .tup ds => if HT.sIx ds.length 0 lo = 0 ∧ HT.sIx ds.length ds.length hi = ds.length then none else some (.tup (cutD ds lo hi))
  | _ => none
theorem cut_dvs {K : PySem.W.Frag} {M : Hp} {vs : List V} {ds : List D} {lo hi : Option Int} (h : Dvs K M vs ds) : Dvs K M (cutV vs lo hi) (cutD ds lo hi) := by
  unfold cutV cutD
  rw [h.length]
  exact (h.drop _).take _
def rDsl (K : PySem.W.Frag) (g : D → Option Int → Option Int → Option D) : V → Option Int → Option Int → Hp → VK → Prop := fun x lo hi H Q => ∃ M fo fv dx d, Rep K M H fo fv ∧ Dv K M x dx ∧ g dx lo hi = some d ∧
  ∀ M' H' v, Same M M' → Rep K M' H' fo fv → Dv K M' v d → Q v H'
theorem oSl : SlR X (rDsl X.K slD) := SlR.imp (sl_list.or (sl_str.or sl_tup)) fun x lo hi H Q ⟨M, fo, fv, dx, d, R, d1, e, k⟩ => by
  unfold slD at e
  split at e
  · cases e
    cases d1 with
    | lst h hs =>
      refine .inl ⟨_, _, rfl, R.same.seq h, fun p hp => ?_⟩
      have s := fun u => same_updM (u := u) (R.same.free hp)
      exact k _ _ _ (s _) (R.growM hp) (.lst (.inl (.inl upd_same)) ((cut_dvs hs).mono (s _)))
  · split at e
    · cases e
      cases d1
      exact .inr (.inl ⟨_, rfl, by assumption, k M H _ (Same.refl _) R (.str _)⟩)
    · cases e
  · split at e
    · cases e
    · rename_i hw
      cases e
      cases d1 with
      | tup h hs =>
        refine .inr (.inr ⟨_, _, rfl, sqT_same R.same h, by rw [hs.length]; exact hw, fun p hp => ?_⟩)
        have s := fun u => same_updM (u := u) (R.same.free hp)
        exact k _ _ _ (s _) (R.growM hp) (.tup (.inl (.inl upd_same)) ((cut_dvs hs).mono (s _)))
  · cases e
/-- a slice's part -/
def tPo (K : PySem.W.Frag) (f : Ev → Option (Option Int)) : TO := fun σ H Q => ∃ M ρ fo fv d, Rep K M H (ρ ++ fo) (σ ++ fv) ∧ σ.length = ρ.length ∧ f ρ = some d ∧ ∀ M' H', Same M M' → Rep K M' H' (ρ ++ fo) (σ ++ fv) → Q d H'
def noPart (_ : Ev) : Option (Option Int) := some none
def part (f : Ev → Option D) (ρ : Ev) : Option (Option Int) := match f ρ with
  | some (.int i) => some (some i)
  | _ => none
theorem poNone : PO X none (tPo X.K noPart) := ⟨fun p s σ H Q I ⟨M, ρ, fo, fv, d, R, l, e, k⟩ => by
  cases e
  exact po_none.run p s σ H Q I (k M H (Same.refl _) R)⟩
theorem poSome {e : Expr} {f : Ev → Option D} (h : PE X e (tP X.K f)) : PO X (some e) (tPo X.K (part f)) := ⟨fun p s σ H Q I ⟨M, ρ, fo, fv, d, R, l, e, k⟩ => by
  unfold part at e
  split at e
  · rename_i i q
    cases e
    exact (po_some h).run p s σ H Q I ⟨M, ρ, fo, fv, _, R, l, q, fun M1 H1 v s1 R1 d1 => by cases d1; exact ⟨i, rfl, k M1 H1 s1 R1⟩⟩
  · cases e⟩
def slc (f : Ev → Option D) (lo hi : Ev → Option (Option Int)) (ρ : Ev) : Option D := (f ρ).bind fun x => (lo ρ).bind fun a => (hi ρ).bind fun b => slD x a b
theorem pSl {e : Expr} {lo hi : Option Expr} {p2 pos : Pos} {f : Ev → Option D} {fl fh : Ev → Option (Option Int)} (he : PE X e (tP X.K f)) (hl : PO X lo (tPo X.K fl)) (hh : PO X hi (tPo X.K fh)) : PE X (.Subscript e (.Slice lo hi none p2) pos) (tP X.K (slc f fl fh)) :=
  PE.imp (pe_slice oSl he hl hh) fun σ H Q ⟨M, ρ, fo, fv, d, R, l, e, k⟩ => by
    unfold slc at e
    cases q1 : f ρ with
    | none => rw [q1] at e; cases e
    | some x =>
      cases q2 : fl ρ with
      | none => rw [q1, Option.bind_some, q2] at e; cases e
      | some a =>
        cases q3 : fh ρ with
        | none => rw [q1, Option.bind_some, q2, Option.bind_some, q3] at e; cases e
        | some b =>
          rw [q1, Option.bind_some, q2, Option.bind_some, q3, Option.bind_some] at e
          exact ⟨M, ρ, fo, fv, x, R, l, q1, fun M1 H1 v1 s1 R1 d1 => ⟨M1, ρ, fo, fv, a, R1, l, q2, fun M2 H2 s2 R2 => ⟨M2, ρ, fo, fv, b, R2, l, q3, fun M3 H3 s3 R3 =>
            ⟨M3, ρ ++ fo, σ ++ fv, x, d, R3, d1.mono (s2.trans s3), e, fun M4 H4 v s4 R4 d4 => k M4 H4 v (s1.trans (s2.trans (s3.trans s4))) R4 d4⟩⟩⟩⟩
/-! ### methods of texts -/
def rDm (K : PySem.W.Frag) (g : D → List D → Option D) : V → List V → Hp → VK → Prop := fun x xs H Q => ∃ M fo fv dx ds d, Rep K M H fo fv ∧ Dv K M x dx ∧ Dvs K M xs ds ∧ g dx ds = some d ∧
  ∀ M' H' v, Same M M' → Rep K M' H' fo fv → Dv K M' v d → Q v H'
def m1 (f g : Ev → Option D) (h : D → List D → Option D) (ρ : Ev) : Option D := match f ρ with
  | some (.str z) => (g ρ).bind fun y => h (.str z) [y]
  | _ => none
theorem tM1_of {K : PySem.W.Frag} {f g : Ev → Option D} {h : D → List D → Option D} {σ : L2.St} {H : Hp} {Q : VK} (hh : tP K (m1 f g h) σ H Q) : tM1 (rDm K h) (tP K f) (tP K g) σ H Q := by
  obtain ⟨M, ρ, fo, fv, d, R, l, e, k⟩ := hh
  unfold m1 at e
  split at e
  · rename_i z q
    cases q2 : g ρ with
    | none => rw [q2] at e; cases e
    | some y =>
      rw [q2, Option.bind_some] at e
      exact ⟨M, ρ, fo, fv, _, R, l, q, fun M1 H1 v1 s1 R1 d1 => by
        cases d1
        exact ⟨⟨z, rfl⟩, M1, ρ, fo, fv, y, R1, l, q2, fun M2 H2 v2 s2 R2 d2 => ⟨M2, ρ ++ fo, σ ++ fv, _, _, d, R2, .str z, .cons d2 .nil, e, fun M3 H3 v s3 R3 d3 => k M3 H3 v (s1.trans (s2.trans s3)) R3 d3⟩⟩⟩
  · cases e
def splitD (x : D) (ys : List D) : Option D := match x, ys with
  | .str a, [.str b] => if (b.length == 0) = false ∧ a.length + 2 ≤ sizeLine then some (.lst ((Txt.split a b).map .str)) else none
  | _, _ => none
theorem mSplit : MtR X "str.split" (rDm X.K splitD) := MtR.imp mt_split fun x xs H Q ⟨M, fo, fv, dx, ds, d, R, d1, d2, e, k⟩ => by
  unfold splitD at e
  split at e
  · rename_i a b
    split at e
    · rename_i hc
      cases e
      cases d1
      obtain ⟨w, rfl, dw⟩ := one_of d2; clear d2
      cases dw
      refine ⟨a, b, rfl, rfl, hc.1, hc.2, fun p hp => ?_⟩
      have s := same_updM (u := .lst ((Txt.split a b).map V.str)) (R.same.free hp)
      exact k _ _ _ s (R.growM hp) (.lst (.inl (.inl upd_same)) (strs_dvs _))
    · cases e
  · cases e
/-- a list of texts -/
def strsD : List D → Option (List Str)
  | [] => some []
  | .str b :: r => (strsD r).map (b :: ·)
  | _ => none
theorem strs_some : ∀ {ds : List D} {bs : List Str}, strsD ds = some bs → ds = bs.map .str
  | [], _, e => by cases e; rfl
  | .str b :: r, bs, e => by
    unfold strsD at e
    cases q : strsD r with
    | none => rw [q] at e; cases e
    | some cs => rw [q] at e; cases e; rw [strs_some q]; rfl
  | .non :: _, _, e => by cases e
  | .int _ :: _, _, e => by cases e
  | .bl _ :: _, _, e => by cases e
  | .lst _ :: _, _, e => by cases e
  | .tup _ :: _, _, e => by cases e
  | .dic _ _ :: _, _, e => by cases e
  | .obj _ _ _ :: _, _, e => by cases e
theorem strs_map : ∀ bs : List Str, strsD (bs.map .str) = some bs
  | [] => rfl
  | b :: r => by
    show (strsD (r.map .str)).map (b :: ·) = _
    rw [strs_map r]; rfl
def joinD (x : D) (ys : List D) : Option D := match x, ys with
  | .str a, [.lst ds] => (strsD ds).bind fun zs => if (zs.map (·.length)).sum + zs.length * a.length ≤ 16777216 then some (.str (Txt.join a zs)) else none
  | .str a, [.tup ds] => (strsD ds).bind fun zs => if (zs.map (·.length)).sum + zs.length * a.length ≤ 16777216 then some (.str (Txt.join a zs)) else none
  | _, _ => none
theorem mJoin : MtR X "str.join" (rDm X.K joinD) := MtR.imp mt_join fun x xs H Q ⟨M, fo, fv, dx, ds, d, R, d1, d2, e, k⟩ => by
  unfold joinD at e
  split at e
  · rename_i a ds'
    cases q : strsD ds' with
    | none => rw [q] at e; cases e
    | some zs =>
      rw [q, Option.bind_some] at e
      split at e
      · cases e
        have := strs_some q
        subst this
        cases d1
        obtain ⟨w, rfl, dw⟩ := one_of d2; clear d2
        cases dw with
        | lst h hs =>
          have := dvs_strs hs
          subst this
          exact ⟨a, _, zs, rfl, rfl, .inl (R.same.seq h), by assumption, k M H _ (Same.refl _) R (.str _)⟩
      · cases e
  · rename_i a ds'
    cases q : strsD ds' with
    | none => rw [q] at e; cases e
    | some zs =>
      rw [q, Option.bind_some] at e
      split at e
      · cases e
        have := strs_some q
        subst this
        cases d1
        obtain ⟨w, rfl, dw⟩ := one_of d2; clear d2
        cases dw with
        | tup h hs =>
          have := dvs_strs hs
          subst this
          exact ⟨a, _, zs, rfl, rfl, .inr (sqT_same R.same h), by assumption, k M H _ (Same.refl _) R (.str _)⟩
      · cases e
  · cases e
theorem pM1 {id : String} {name : Str} {o e : Expr} {apos pos : Pos} {f g : Ev → Option D} {h : D → List D → Option D} (slot : Slot "str" name id) (ty : typeOf (.builtin id) = pure (.type "method_descriptor")) (rule : MtR X id (rDm X.K h)) (ho : PE X o (tP X.K f)) (he : PE X e (tP X.K g))
    (hs : starEach [e] X.env = [(false, eval e X.env)] := by rfl) (hbase : attributeBase o name X.env (eval o X.env) = eval o X.env := by rfl) (hline : (apos.endLine == pos.line) = true := by rfl) : PE X (.Call (.Attribute o name apos) [e] [] pos) (tP X.K (m1 f g h)) :=
  PE.imp (pe_m1 slot ty rule ho he hs hbase hline) fun _ _ _ h => tM1_of h
theorem pSplit {o e : Expr} {apos pos : Pos} {f g : Ev → Option D} (ho : PE X o (tP X.K f)) (he : PE X e (tP X.K g)) (hs : starEach [e] X.env = [(false, eval e X.env)] := by rfl) (hbase : attributeBase o "split" X.env (eval o X.env) = eval o X.env := by rfl) (hline : (apos.endLine == pos.line) = true := by rfl) :
    PE X (.Call (.Attribute o "split" apos) [e] [] pos) (tP X.K (m1 f g splitD)) := pM1 F.slot_str_split F.type_str_split mSplit ho he hs hbase hline
theorem pJoin {o e : Expr} {apos pos : Pos} {f g : Ev → Option D} (ho : PE X o (tP X.K f)) (he : PE X e (tP X.K g)) (hs : starEach [e] X.env = [(false, eval e X.env)] := by rfl) (hbase : attributeBase o "join" X.env (eval o X.env) = eval o X.env := by rfl) (hline : (apos.endLine == pos.line) = true := by rfl) :
    PE X (.Call (.Attribute o "join" apos) [e] [] pos) (tP X.K (m1 f g joinD)) := pM1 F.slot_str_join F.type_str_join mJoin ho he hs hbase hline
/-! ### isinstance(x, T), T a built-in type -/
def tyD : D → Option String
  | .non => some "NoneType"
  | .bl _ => some "bool"
  | .int _ => some "int"
  | .str _ => some "str"
  | .lst _ => some "list"
  | .tup _ => some "tuple"
  | .dic _ _ => some "dict"
  | _ => none
def isiD (T : String) (x : D) : Option D := (tyD x).bind fun t => (kitB t T).map .bl
theorem tyX_of {K : PySem.W.Frag} {M : Hp} {v : V} {d : D} {t : String} (h : Dv K M v d) (e : tyD d = some t) : TyX K M v (.type t) := by
  cases h with
  | non => cases e; exact .base .non
  | bl b => cases e; exact .base (.bl b)
  | int b => cases e; exact .base (.int b)
  | str b => cases e; exact .base (.str b)
  | lst h hs =>
    cases e
    rcases h with (h | ⟨o, h⟩) | ⟨o, its, n, lk, c, _⟩
    · exact .base (.lst h)
    · exact .base (.frz h)
    · exact .kList lk c
  | tup h hs =>
    cases e
    rcases h with (h | ⟨o, h⟩) | ⟨o, its, n, lk, c, _⟩
    · exact .base (.tup h)
    · exact .fTuple h
    · exact .kTuple lk c
  | dic h _ _ => cases e; exact .base (.dK h)
  | obj _ _ _ _ => cases e
theorem tyX_mono {K : PySem.W.Frag} {M H : Hp} {v : V} {t : Value} (s : Same M H) (h : TyX K M v t) : TyX K H v t := by
  cases h with
  | base b =>
    cases b with
    | non => exact .base .non
    | bl b => exact .base (.bl b)
    | int b => exact .base (.int b)
    | str b => exact .base (.str b)
    | flt b => exact .base (.flt b)
    | lst e => exact .base (.lst (s _ _ e))
    | frz e => exact .base (.frz (s _ _ e))
    | tup e => exact .base (.tup (s _ _ e))
    | dK e => exact .base (.dK (s _ _ e))
    | dT e => exact .base (.dT (s _ _ e))
    | ins e cl ha hn htk hm => exact .base (.ins (s _ _ e) cl ha hn htk hm)
  | byt b => exact .byt b
  | set e => exact .set (s _ _ e)
  | kList e c => exact .kList e c
  | kTuple e c => exact .kTuple e c
  | kDict e c => exact .kDict e c
  | fTuple e => exact .fTuple (s _ _ e)
  | fDict e => exact .fDict (s _ _ e)
theorem pIsi {a : Expr} {p q pos : Pos} {fa : Ev → Option D} {T : String} {y : Str} (ha : PE X a (tP X.K fa)) (hm : X.mg "isinstance" = none) (hmT : X.mg y = none) (hv : bootBuiltins y = some (.type T) := by decide +kernel) (hg : Gl X "isinstance" := by rfl) (hgT : Gl X y := by rfl)
    (hn : y ≠ "__name__" := by decide) (hd : (y == ("__debug__" : Str)) = false := by decide)
    (hs : starEach [a, .Name y q] X.env = (false, eval a X.env) :: starEach [.Name y q] X.env := by rfl) (hs2 : starEach [.Name y q] X.env = (false, eval (.Name y q) X.env) :: starEach [] X.env := by rfl) (hpl : (backTo pos (starEach [.Name y q] X.env)).any (·.1) = false := by rfl) :
    PE X (.Call (.Name "isinstance" p) [a, .Name y q] [] pos) (tP X.K (b1 fa (isiD T))) :=
  PE.imp (pe_callB call_isi hg hm (by decide +kernel) (pa_cons ha (pa_cons (pe_bltn (v := .ty T) hgT hmT hv rfl hn hd) pa_nil hs2) hs) (by decide) (by decide) hs hpl) fun σ H Q ⟨M, ρ, fo, fv, d, R, l, e, k⟩ => by
    obtain ⟨x, ea, eg⟩ := b1_some e
    unfold isiD at eg
    cases q1 : tyD x with
    | none => rw [q1] at eg; cases eg
    | some t =>
      rw [q1, Option.bind_some] at eg
      cases q2 : kitB t T with
      | none => rw [q2] at eg; cases eg
      | some b =>
        rw [q2] at eg
        cases eg
        exact ⟨M, ρ, fo, fv, x, R, l, ea, fun M1 H1 v1 s1 R1 d1 => ⟨v1, .ty T, .type t, .type T, b, rfl, .ty T, tyX_mono R1.same (tyX_of d1 q1), kit_ty q2, k M1 H1 _ s1 R1 (.bl _)⟩⟩
/-- y = [..] on one line, y is not changed later -/
theorem setD_of {K : PySem.W.Frag} {W : WX} {i : Nat} {f : Ev → Option O} {E : Ends} {σ : L2.St} {H : Hp} (h : tS K W (stV i (frz f)) E σ H) : tAsg (tO K f) (gName i) E σ H := by
  obtain ⟨M, ρ, fo, fv, r, R, l, e, k⟩ := h
  unfold stV frz at e
  cases q : f ρ with
  | none => rw [q] at e; cases e
  | some o =>
    rw [q, Option.bind_some] at e
    cases q2 : o.toD with
    | none => rw [q2] at e; cases e
    | some d =>
      rw [q2] at e
      cases e
      refine ⟨M, ρ, fo, fv, o, R, l, q, fun M1 H1 v s1 R1 => ?_⟩
      obtain ⟨M2, s2, R2, d2⟩ := R1.frz l rfl q2
      exact k M2 H1 _ (s1.trans s2) ((R2.drop l).setD l d2) (by simp [l])
theorem sLcD {W : WX} {i : Nat} {y : Str} {py spos pos : Pos} {tg iter elt : Expr} {ifs : List Expr} {scope : Scope} {fi : Ev → Option (List D)} {is : List Nat} {g : D → Ev → Option Ev} {t : Ev → Option Bool} {f : Ev → Option D} (own : List (Str × Nat)) (hc : X.calm = true) (hN : X.N.Nodup) (hi : PI X tg iter (tI X.K fi)) (bo : BlkOk X.N X.env.scope scope own)
    (hg : ∀ (s : Shared) (H : Hp) (C : Addr) (cl : List (Str × Addr)) (fp : List Addr), PG (X.blk s H scope (compEnvC scope cl C X.env) fp) tg (tG X.K is g)) (ht : ∀ (s : Shared) (H : Hp) (C : Addr) (cl : List (Str × Addr)) (fp : List Addr), PTs (X.blk s H scope (compEnvC scope cl C X.env) fp) ifs (tT X.K t))
    (he : ∀ (s : Shared) (H : Hp) (C : Addr) (cl : List (Str × Addr)) (fp : List Addr), PE (X.blk s H scope (compEnvC scope cl C X.env) fp) elt (tP X.K f)) (ok : TgOk is g) (hy : X.N[i]? = some y := by rfl) (hyl : X.env.scope.names.lookup y = some .local := by rfl)
    (hsw : swapsWith (.ListComp elt [⟨tg, iter, ifs, 0⟩] scope pos) (some (.Name y py)) spos.line X.env = pure true := by exact sw_true rfl rfl rfl (by decide +kernel)) (hv : ∀ i ∈ is, i ∈ own.map (·.2) := by decide) (hs : ∀ x, foldedSetIterable iter X.env x = pure x := by intro _; rfl) :
    PS X (.Assign [.Name y py] (.ListComp elt [⟨tg, iter, ifs, 0⟩] scope pos) spos) (tS X.K W (stV i (lcD fi g t f (own.map (·.2))))) := by
  have h := PS.imp (PS.imp (ps_setLc (i := i) (py := py) (pos := pos) (spos := spos) hc hN hy hyl hsw hi bo hg ht he hs) fun E σ H h => lc_of (f := f) (Q := fun x H1 => gName i x σ H1 E.nx) ok hv h) fun E σ H (h : tS X.K W (stV i (frz (lcO fi g t f (own.map (·.2))))) E σ H) => setD_of h
  rw [show frz (lcO fi g t f (own.map (·.2))) = lcD fi g t f (own.map (·.2)) from funext fun ρ => lcD_eq ρ _] at h
  exact h
end
/-- how a def binds when all its arguments come by name, in order -/
theorem kbn_of {K : PySem.W.Frag} {x qual : Str} {st : Stmt} {f : Addr} {fd : FuncData} {ps : List Str} (F : Fun K x qual st f fd)
    (h : ∀ (kV doc pm : Value) (an : Option Addr) (cdv ct : Value) (ws : List Value), ws.length = ps.length → bindArgs (PySem.W.fnOf x qual (defArgs st) (defBody st) (defScope st) .none kV doc pm an cdv ct) ⟨[], ps.zip ws⟩ = pure (ps.zip ws)) :
    KBn K fd ps 0 ps (fun us ws => us ++ ws) (fun vs zs => vs ++ zs) := by
  obtain ⟨oc, od, kV, doc, pm, an, cdv, ct, osl, rfl, lk, hcd⟩ := F.ex
  refine ⟨fun s us ws X h1 h2 => ?_, fun r1 r2 => r1.append r2⟩
  obtain rfl := List.length_eq_zero_iff.mp h1
  exact .of_eq (h kV doc pm an cdv ct ws h2)
end PD

namespace PD
open PySem PySem.Spec L2

/-! ### reckoning with mirrors -/
theorem loop_inv {g : D → Ev → Option Ev} {b : Ev → Option Fl} (I : Nat → Ev → Prop) : ∀ (ds : List D) (ρ : Ev) (n : Nat), I n ρ →
    (∀ i d ρ, ds[i]? = some d → I (n + i) ρ → ∃ ρ1 ρ2, g d ρ = some ρ1 ∧ (b ρ1 = some (.nx ρ2) ∨ b ρ1 = some (.ct ρ2)) ∧ I (n + i + 1) ρ2) → ∃ ρ', loop g b ds ρ = some (.nx ρ') ∧ I (n + ds.length) ρ'
  | [], ρ, n, h0, _ => ⟨ρ, rfl, h0⟩
  | d :: ds, ρ, n, h0, hs => by
    obtain ⟨ρ1, ρ2, e1, e2, h2⟩ := hs 0 d ρ rfl h0
    obtain ⟨ρ', e3, h3⟩ := loop_inv I ds ρ2 (n + 1) h2 (fun i d' ρ' e h => by
      have := hs (i + 1) d' ρ' (by simpa using e) (by rw [show n + (i + 1) = n + 1 + i by omega]; exact h)
      rw [show n + (i + 1) + 1 = n + 1 + i + 1 by omega] at this
      exact this)
    refine ⟨ρ', ?_, by rw [List.length_cons, show n + (ds.length + 1) = n + 1 + ds.length by omega]; exact h3⟩
    unfold loop
    rw [e1, Option.bind_some]
    rcases e2 with e2 | e2 <;> (rw [e2, Option.bind_some]; exact e3)
/-- a loop from the start -/
theorem loop_inv0 {g : D → Ev → Option Ev} {b : Ev → Option Fl} (I : Nat → Ev → Prop) (ds : List D) (ρ : Ev) (h0 : I 0 ρ)
    (hs : ∀ i d ρ, ds[i]? = some d → I i ρ → ∃ ρ1 ρ2, g d ρ = some ρ1 ∧ (b ρ1 = some (.nx ρ2) ∨ b ρ1 = some (.ct ρ2)) ∧ I (i + 1) ρ2) : ∃ ρ', loop g b ds ρ = some (.nx ρ') ∧ I ds.length ρ' := by
  obtain ⟨ρ', e, h⟩ := loop_inv I ds ρ 0 h0 (fun i d ρ e h => by rw [Nat.zero_add] at h ⊢; exact hs i d ρ e h)
  exact ⟨ρ', e, by rw [Nat.zero_add] at h; exact h⟩
/-- a loop that may leave by a return -/
theorem loop_ret {g : D → Ev → Option Ev} {b : Ev → Option Fl} (I : Nat → Ev → Prop) (R : O → Prop) : ∀ (ds : List D) (ρ : Ev) (n : Nat), I n ρ →
    (∀ i d ρ, ds[i]? = some d → I (n + i) ρ → ∃ ρ1, g d ρ = some ρ1 ∧ ((∃ ρ2, (b ρ1 = some (.nx ρ2) ∨ b ρ1 = some (.ct ρ2)) ∧ I (n + i + 1) ρ2) ∨ ∃ o ρ2, b ρ1 = some (.rt o ρ2) ∧ R o)) →
    (∃ ρ', loop g b ds ρ = some (.nx ρ') ∧ I (n + ds.length) ρ') ∨ ∃ o ρ', loop g b ds ρ = some (.rt o ρ') ∧ R o
  | [], ρ, n, h0, _ => .inl ⟨ρ, rfl, h0⟩
  | d :: ds, ρ, n, h0, hs => by
    obtain ⟨ρ1, e1, h⟩ := hs 0 d ρ rfl h0
    rcases h with ⟨ρ2, e2, h2⟩ | ⟨o, ρ2, e2, h2⟩
    · have ih := loop_ret I R ds ρ2 (n + 1) h2 (fun i d' ρ' e h => by
        have := hs (i + 1) d' ρ' (by simpa using e) (by rw [show n + (i + 1) = n + 1 + i by omega]; exact h)
        rw [show n + (i + 1) + 1 = n + 1 + i + 1 by omega] at this
        exact this)
      have el : loop g b (d :: ds) ρ = loop g b ds ρ2 := by
        conv => lhs; unfold loop
        rw [e1, Option.bind_some]
        rcases e2 with e2 | e2 <;> (rw [e2, Option.bind_some])
      rw [el, List.length_cons, show n + (ds.length + 1) = n + 1 + ds.length by omega]
      exact ih
    · refine .inr ⟨o, ρ2, ?_, h2⟩
      unfold loop
      rw [e1, Option.bind_some, e2, Option.bind_some]
theorem comp_map {g : D → Ev → Option Ev} {f : Ev → Option D} {ρ : Ev} {e : D → Ev} {h : D → D} : ∀ (ds : List D), (∀ d ∈ ds, g d ρ = some (e d) ∧ f (e d) = some (h d)) → comp g yes f ρ ds = some (ds.map h)
  | [], _ => rfl
  | d :: ds, H => by
    obtain ⟨e1, e2⟩ := H d List.mem_cons_self
    unfold comp
    rw [e1, Option.bind_some, show yes (e d) = some true from rfl, Option.bind_some, if_pos rfl, e2, Option.bind_some, comp_map ds fun d' hd => H d' (List.mem_cons_of_mem _ hd)]
    rfl
theorem comp_filter {g : D → Ev → Option Ev} {t : Ev → Option Bool} {f : Ev → Option D} {ρ : Ev} {e : D → Ev} {p : D → Bool} {h : D → D} : ∀ (ds : List D), (∀ d ∈ ds, g d ρ = some (e d) ∧ t (e d) = some (p d) ∧ (p d = true → f (e d) = some (h d))) → comp g t f ρ ds = some ((ds.filter p).map h)
  | [], _ => rfl
  | d :: ds, H => by
    obtain ⟨e1, e2, e3⟩ := H d List.mem_cons_self
    have ih := comp_filter ds fun d' hd => H d' (List.mem_cons_of_mem _ hd)
    unfold comp
    rw [e1, Option.bind_some, e2, Option.bind_some]
    cases q : p d with
    | true => rw [if_pos rfl, e3 q, Option.bind_some, ih, List.filter_cons_of_pos q]; rfl
    | false => rw [if_neg Bool.false_ne_true, ih, List.filter_cons_of_neg (by rw [q]; exact Bool.false_ne_true)]
/-- a comprehension with what each item gives, by place -/
theorem comp_ex {g : D → Ev → Option Ev} {f : Ev → Option D} {ρ : Ev} (R : Nat → D → Prop) : ∀ (ds : List D) (n : Nat), (∀ i d, ds[i]? = some d → ∃ ρ1 y, g d ρ = some ρ1 ∧ f ρ1 = some y ∧ R (n + i) y) → ∃ ys, comp g yes f ρ ds = some ys ∧ ys.length = ds.length ∧ ∀ i y, ys[i]? = some y → R (n + i) y
  | [], _, _ => ⟨[], rfl, rfl, fun i y h => by simp at h⟩
  | d :: ds, n, H => by
    obtain ⟨ρ1, y, e1, e2, r⟩ := H 0 d rfl
    obtain ⟨ys, e3, l, a⟩ := comp_ex R ds (n + 1) fun i d' h => by
      have := H (i + 1) d' (by simpa using h)
      rw [show n + (i + 1) = n + 1 + i by omega] at this
      exact this
    refine ⟨y :: ys, ?_, by simp [l], fun i z h => ?_⟩
    · unfold comp
      rw [e1, Option.bind_some, show yes ρ1 = some true from rfl, Option.bind_some, if_pos rfl, e2, Option.bind_some, e3]
      rfl
    · cases i with
      | zero => simp at h; subst h; exact r
      | succ i =>
        rw [show n + (i + 1) = n + 1 + i by omega]
        exact a i z (by simpa using h)

theorem line_big : (1000000 : Nat) ≤ sizeLine := by decide
theorem has_sign (z : Str) (c : Nat) : Txt.has z ⟨#[c]⟩ = decide (c ∈ z.cps.toList) := StrLaws.found_one z c
theorem signs_length (z : Str) : (signs z).length = z.length := by simp [signs, Str.length]
theorem str_len (z : Str) : z.cps.toList.length = z.length := by simp [Str.length]
theorem eq_str (x y : Str) : eqD (.str x) (.str y) = some (.bl (decide (x = y))) := rfl
theorem eq_int (x y : Int) : eqD (.int x) (.int y) = some (.bl (decide (x = y))) := rfl
theorem eq_bl (x y : Bool) : eqD (.bl x) (.bl y) = some (.bl (decide (x = y))) := rfl
theorem ne_str (x y : Str) : neD (.str x) (.str y) = some (.bl (!decide (x = y))) := rfl
theorem ne_int (x y : Int) : neD (.int x) (.int y) = some (.bl (!decide (x = y))) := rfl
theorem ne_bl (x y : Bool) : neD (.bl x) (.bl y) = some (.bl (!decide (x = y))) := rfl
/-! ### a text split at a sign -/
def sp (c : Nat) : List Nat → List (List Nat)
  | [] => [[]]
  | x :: xs => if x = c then [] :: sp c xs else match sp c xs with
    | p :: ps => (x :: p) :: ps
    | [] => [[x]]
theorem sp_ne (c : Nat) : ∀ l : List Nat, ∃ p ps, sp c l = p :: ps
  | [] => ⟨[], [], rfl⟩
  | x :: xs => by
    unfold sp
    by_cases h : x = c
    · rw [if_pos h]; exact ⟨_, _, rfl⟩
    · rw [if_neg h]
      obtain ⟨p, ps, e⟩ := sp_ne c xs
      rw [e]
      exact ⟨_, _, rfl⟩
theorem sp_free {c : Nat} : ∀ {l : List Nat}, c ∉ l → sp c l = [l]
  | [], _ => rfl
  | x :: xs, h => by
    unfold sp
    rw [if_neg fun z => h (by rw [z]; exact List.mem_cons_self), sp_free fun z => h (List.mem_cons_of_mem _ z)]
theorem sp_cut {c : Nat} (r : List Nat) : ∀ {p : List Nat}, c ∉ p → sp c (p ++ c :: r) = p :: sp c r
  | [], _ => by
    show (if c = c then [] :: sp c r else _) = _
    rw [if_pos rfl]
  | x :: p, h => by
    show (if x = c then [] :: sp c (p ++ c :: r) else match sp c (p ++ c :: r) with | q :: qs => (x :: q) :: qs | [] => [[x]]) = _
    rw [if_neg fun z => h (by rw [z]; exact List.mem_cons_self), sp_cut r fun z => h (List.mem_cons_of_mem _ z)]
theorem sub_at (x : Str) (a b : Nat) : (Builtin.Str.strSub x a b).cps.toList = (x.cps.toList.drop a).take (b - a) := StrLaws.strSub_toList x a b
theorem parts_sp (x : Str) (c : Nat) : ∀ (cuts : List Nat) (a f : Nat), StrLaws.ChainG x ⟨#[c]⟩ x.length a cuts f → (∀ k, f ≤ k → ¬ StrLaws.At x ⟨#[c]⟩ x.length k) →
    (StrLaws.partsFrom x 1 a cuts).map (·.cps.toList) = sp c (x.cps.toList.drop a)
  | [], a, f, h, hn => by
    have e : f = a := h
    subst e
    have hf := StrLaws.part_free x c f x.length (Nat.le_refl _) fun k h1 _ => hn k h1
    show [(Builtin.Str.strSub x f x.length).cps.toList] = _
    rw [← sp_free hf, sub_at, List.take_of_length_le (by rw [List.length_drop, str_len]; omega)]
  | d :: r, a, f, h, hn => by
    obtain ⟨h1, h2, h3, h4⟩ := h
    have hd : x.cps.toList[d]? = some c := (StrLaws.subAt_one x c d).mp h2
    have hdl : d < x.cps.toList.length := (List.getElem?_eq_some_iff.mp hd).1
    have hf := StrLaws.part_free x c a d (by rw [str_len] at hdl; omega) h3
    have ih := parts_sp x c r (d + 1) f h4 hn
    show (Builtin.Str.strSub x a d).cps.toList :: (StrLaws.partsFrom x 1 (d + 1) r).map (·.cps.toList) = _
    rw [ih]
    have e : x.cps.toList.drop a = (Builtin.Str.strSub x a d).cps.toList ++ c :: x.cps.toList.drop (d + 1) := by
      rw [sub_at]
      have e1 : x.cps.toList.drop d = c :: x.cps.toList.drop (d + 1) := by
        rw [List.drop_eq_getElem_cons hdl, (List.getElem?_eq_some_iff.mp hd).2]
      have e2 : x.cps.toList.drop d = (x.cps.toList.drop a).drop (d - a) := by rw [List.drop_drop]; congr 1; omega
      rw [← e1, e2, List.take_append_drop]
    rw [e, sp_cut _ hf]
theorem split_sp (t : Str) (c : Nat) : (Txt.split t ⟨#[c]⟩).map (·.cps.toList) = sp c t.cps.toList := by
  have free : c ∉ t.cps.toList → [t.cps.toList] = sp c t.cps.toList := fun h => (sp_free h).symm
  unfold Txt.split
  split
  · rename_i h
    rw [Bool.or_eq_true, decide_eq_true_eq, decide_eq_true_eq] at h
    refine free ?_
    rcases h with h | h
    · have : t.length = 0 := by
        have : (⟨#[c]⟩ : Str).length = 1 := rfl
        omega
      rw [← str_len] at this
      rw [List.length_eq_zero_iff.mp this]
      exact List.not_mem_nil
    · exact StrLaws.kind_free t c h
  · split
    · rename_i h
      refine free ?_
      obtain ⟨f, ch, hn⟩ := StrLaws.occ_tight t ⟨#[c]⟩ (Nat.le_refl 1)
      rw [List.isEmpty_iff.mp h] at ch
      have e : f = 0 := ch
      intro hm
      obtain ⟨j, hj⟩ := List.getElem?_of_mem hm
      exact hn j (by omega) ((StrLaws.subAt_one t c j).mpr hj)
    · obtain ⟨f, ch, hn⟩ := StrLaws.occ_tight t ⟨#[c]⟩ (Nat.le_refl 1)
      rw [StrLaws.partsBetween_eq]
      have := parts_sp t c _ 0 f ch hn
      rw [List.drop_zero] at this
      exact this
def toS (l : List Nat) : Str := ⟨l.toArray⟩
theorem toS_codes (l : List Nat) : (toS l).cps.toList = l := by simp [toS]
theorem codes_toS (t : Str) : toS t.cps.toList = t := by simp [toS]
theorem toS_len (l : List Nat) : (toS l).length = l.length := by simp [toS, Str.length]
theorem split_eq (t : Str) (c : Nat) : Txt.split t ⟨#[c]⟩ = (sp c t.cps.toList).map toS := by
  rw [← split_sp, List.map_map]
  conv => lhs; rw [← List.map_id (Txt.split t ⟨#[c]⟩)]
  apply List.map_congr_left
  intro x _
  exact (codes_toS x).symm
theorem sp_mem_len {c : Nat} : ∀ {l p : List Nat}, p ∈ sp c l → p.length ≤ l.length
  | [], p, h => by
    have : p = [] := by simpa [sp] using h
    subst this
    exact Nat.le_refl _
  | x :: xs, p, h => by
    unfold sp at h
    by_cases e : x = c
    · rw [if_pos e] at h
      rcases List.mem_cons.mp h with rfl | h
      · exact Nat.zero_le _
      · exact Nat.le_succ_of_le (sp_mem_len h)
    · rw [if_neg e] at h
      obtain ⟨q, qs, eq⟩ := sp_ne c xs
      rw [eq] at h
      rcases List.mem_cons.mp h with rfl | h
      · exact Nat.succ_le_succ (sp_mem_len (c := c) (by rw [eq]; exact List.mem_cons_self))
      · exact Nat.le_succ_of_le (sp_mem_len (c := c) (by rw [eq]; exact List.mem_cons_of_mem _ h))
theorem sp_length (c : Nat) : ∀ l : List Nat, (sp c l).length ≤ l.length + 1
  | [] => Nat.le_refl _
  | x :: xs => by
    unfold sp
    have ih := sp_length c xs
    by_cases e : x = c
    · rw [if_pos e]; simp; omega
    · rw [if_neg e]
      obtain ⟨q, qs, eq⟩ := sp_ne c xs
      rw [eq] at ih ⊢
      simp at ih ⊢
      omega
/-- the first c in l -/
theorem first_of {c : Nat} : ∀ {l : List Nat}, c ∈ l → ∃ p r, l = p ++ c :: r ∧ c ∉ p
  | x :: xs, h => by
    by_cases e : x = c
    · subst e; exact ⟨[], xs, rfl, List.not_mem_nil⟩
    · rcases List.mem_cons.mp h with h | h
      · exact absurd h.symm e
      · obtain ⟨p, r, e1, e2⟩ := first_of h
        exact ⟨x :: p, r, by rw [e1]; rfl, fun z => (List.mem_cons.mp z).elim (fun q => e q.symm) e2⟩
/-! ### running a mirror, by what holds at its end -/
def Rn (g : Ev → Option Fl) (ρ : Ev) (Q : Fl → Prop) : Prop := ∃ r, g ρ = some r ∧ Q r
def Nx (P : Ev → Prop) : Fl → Prop
  | .nx ρ => P ρ
  | _ => False
section
variable {f g b : Ev → Option Fl} {ρ : Ev} {Q : Fl → Prop} {P : Ev → Prop}
theorem Rn.mono {Q' : Fl → Prop} (h : Rn g ρ Q) (i : ∀ r, Q r → Q' r) : Rn g ρ Q' := let ⟨r, e, q⟩ := h; ⟨r, e, i r q⟩
theorem Rn.sq (h : Rn f ρ fun r => match r with | .nx ρ' => Rn g ρ' Q | r => Q r) : Rn (sq f g) ρ Q := by
  obtain ⟨r, e, h⟩ := h
  unfold Rn PD.sq
  rw [e, Option.bind_some]
  cases r with
  | nx ρ' => exact h
  | rt o ρ' => exact ⟨_, rfl, h⟩
  | bk ρ' => exact ⟨_, rfl, h⟩
  | ct ρ' => exact ⟨_, rfl, h⟩
  | ex x ρ' => exact ⟨_, rfl, h⟩
theorem Rn.sqN (h : Rn f ρ (Nx P)) (k : ∀ ρ', P ρ' → Rn g ρ' Q) : Rn (PD.sq f g) ρ Q := Rn.sq (h.mono fun r q => by
  cases r with
  | nx ρ' => exact k ρ' q
  | _ => exact q.elim)
theorem Rn.st {i : Nat} {e : Ev → Option D} {d : D} (h : e ρ = some d) (k : Q (.nx (ρ.set i (.dat d)))) : Rn (stV i e) ρ Q := ⟨_, by unfold stV; rw [h]; rfl, k⟩
theorem Rn.stO {i : Nat} {e : Ev → Option O} {o : O} (h : e ρ = some o) (k : Q (.nx (ρ.set i o))) : Rn (PD.stO i e) ρ Q := ⟨_, by unfold PD.stO; rw [h]; rfl, k⟩
theorem Rn.skip (k : Q (.nx ρ)) : Rn PD.skip ρ Q := ⟨_, rfl, k⟩
theorem Rn.ret {e : Ev → Option D} {d : D} (h : e ρ = some d) (k : Q (.rt (.dat d) ρ)) : Rn (rtV e) ρ Q := ⟨_, by unfold rtV; rw [h]; rfl, k⟩
theorem Rn.ite {c : Ev → Option Bool} {t : Bool} (h : c ρ = some t) (h1 : t = true → Rn f ρ Q) (h2 : t = false → Rn g ρ Q) : Rn (ifS c f g) ρ Q := by
  unfold Rn ifS
  rw [h]
  cases t with
  | true => exact h1 rfl
  | false => exact h2 rfl
theorem Rn.app {i : Nat} {e : Ev → Option D} {d : D} {os : List O} (h : e ρ = some d) (ho : ρ[i]? = some (.lst os)) (hl : os.length < sizeLine) (k : Q (.nx (ρ.set i (.lst (os ++ [.dat d]))))) : Rn (PD.app i e) ρ Q := by
  refine ⟨_, ?_, k⟩
  unfold PD.app
  rw [h, Option.bind_some, ho]
  simp only []
  rw [if_pos hl]
theorem Rn.fz {i : Nat} {o : O} {d : D} (ho : ρ[i]? = some o) (hd : o.toD = some d) (k : Rn g (ρ.set i (.dat d)) Q) : Rn (PD.fz i g) ρ Q := by
  unfold Rn PD.fz
  rw [ho]
  simp only [hd, Option.bind_some]
  exact k
/-- a for by an invariant -/
theorem Rn.for {fi : Ev → Option (List D)} {gt : D → Ev → Option Ev} {ds : List D} (h : fi ρ = some ds) (I : Nat → Ev → Prop) (h0 : I 0 ρ)
    (hs : ∀ i d ρ, ds[i]? = some d → I i ρ → ∃ ρ1, gt d ρ = some ρ1 ∧ Rn b ρ1 fun r => match r with | .nx ρ2 => I (i + 1) ρ2 | .ct ρ2 => I (i + 1) ρ2 | .bk ρ2 => Q (.nx ρ2) | r => Q r) (k : ∀ ρ', I ds.length ρ' → Q (.nx ρ')) : Rn (forS fi gt b) ρ Q := by
  unfold Rn forS
  rw [h, Option.bind_some]
  clear h
  have key : ∀ (es : List D) (n : Nat) (ρ : Ev), n + es.length = ds.length → (∀ i d, es[i]? = some d → ds[n + i]? = some d) → I n ρ → ∃ r, loop gt b es ρ = some r ∧ Q r := by
    intro es
    induction es with
    | nil => intro n ρ hn _ hi; exact ⟨_, rfl, k ρ (by rw [← hn]; exact hi)⟩
    | cons d es ih =>
      intro n ρ hn hd hi
      obtain ⟨ρ1, e1, r, e2, q⟩ := hs n d ρ (by have := hd 0 d rfl; simpa using this) hi
      unfold loop
      rw [e1, Option.bind_some, e2, Option.bind_some]
      have nxt : ∀ ρ2, I (n + 1) ρ2 → ∃ r, loop gt b es ρ2 = some r ∧ Q r := fun ρ2 h2 => ih (n + 1) ρ2 (by rw [← hn, List.length_cons]; omega) (fun i d' h' => by
        have := hd (i + 1) d' (by simpa using h')
        rw [show n + 1 + i = n + (i + 1) by omega]; exact this) h2
      cases r with
      | nx ρ2 => exact nxt ρ2 q
      | ct ρ2 => exact nxt ρ2 q
      | bk ρ2 => exact ⟨_, rfl, q⟩
      | rt o ρ2 => exact ⟨_, rfl, q⟩
      | ex x ρ2 => exact ⟨_, rfl, q⟩
  exact key ds 0 ρ (by simp) (fun i d h => by simpa using h) h0
theorem Rn.while {c : Ev → Option Bool} (μ : Ev → Nat) (I : Ev → Prop) (h0 : I ρ) (hs : ∀ ρ, I ρ → ∃ t, c ρ = some t ∧ (t = true → Rn b ρ fun r => match r with | .nx ρ2 => I ρ2 ∧ μ ρ2 < μ ρ | .ct ρ2 => I ρ2 ∧ μ ρ2 < μ ρ | .bk ρ2 => Q (.nx ρ2) | r => Q r) ∧ (t = false → Q (.nx ρ))) :
    Rn (whileS c b) ρ Q := by
  have key : ∀ (n : Nat) (ρ : Ev), μ ρ < n → I ρ → ∃ r, wl c b n ρ = some r ∧ Q r := by
    intro n
    induction n with
    | zero => intro ρ h _; omega
    | succ n ih =>
      intro ρ hm hi
      obtain ⟨t, ht, h1, h2⟩ := hs ρ hi
      unfold wl
      rw [ht, Option.bind_some]
      cases t with
      | false => exact ⟨_, rfl, h2 rfl⟩
      | true =>
        obtain ⟨r, e, q⟩ := h1 rfl
        rw [if_pos rfl, e, Option.bind_some]
        cases r with
        | nx ρ2 => exact ih ρ2 (by have := q.2; omega) q.1
        | ct ρ2 => exact ih ρ2 (by have := q.2; omega) q.1
        | bk ρ2 => exact ⟨_, rfl, q⟩
        | rt o ρ2 => exact ⟨_, rfl, q⟩
        | ex x ρ2 => exact ⟨_, rfl, q⟩
  obtain ⟨r, e, q⟩ := key _ ρ (Nat.lt_succ_self _) h0
  exact ⟨r, whileS_of e, q⟩
theorem runP_of {n : Nat} {ds : List D} {R : D → Prop} (h : Rn b (env0 n ds) fun r => ∃ o d, outO r = some o ∧ o.toD = some d ∧ R d) : ∃ d, runP n b ds = some d ∧ R d := by
  obtain ⟨r, e, o, d, e2, e3, hr⟩ := h
  exact ⟨d, by unfold runP runO; rw [e, Option.bind_some, e2, Option.bind_some, e3], hr⟩
theorem runP_eq {n : Nat} {ds : List D} {d : D} (h : Rn b (env0 n ds) fun r => ∃ o, outO r = some o ∧ o.toD = some d) : runP n b ds = some d := by
  obtain ⟨r, e, o, e2, e3⟩ := h
  unfold runP runO
  rw [e, Option.bind_some, e2, Option.bind_some, e3]
end
theorem lcD_of {fi : Ev → Option (List D)} {g : D → Ev → Option Ev} {t : Ev → Option Bool} {f : Ev → Option D} {vs : List Nat} {ρ ρw : Ev} {ds ys : List D} (hw : okW ρ vs = true) (hi : fi ρ = some ds) (hρ : wipeO ρ vs = ρw) (hc : comp g t f ρw ds = some ys) (hl : ys.length ≤ sizeLine) : lcD fi g t f vs ρ = some (.lst ys) := by
  unfold lcD
  rw [if_pos hw, hi, Option.bind_some, hρ, hc, Option.bind_some, if_pos hl]
theorem lcO_of {fi : Ev → Option (List D)} {g : D → Ev → Option Ev} {t : Ev → Option Bool} {f : Ev → Option D} {vs : List Nat} {ρ ρw : Ev} {ds ys : List D} (hw : okW ρ vs = true) (hi : fi ρ = some ds) (hρ : wipeO ρ vs = ρw) (hc : comp g t f ρw ds = some ys) (hl : ys.length ≤ sizeLine) : lcO fi g t f vs ρ = some (.lst (ys.map .dat)) := by
  unfold lcO
  rw [if_pos hw, hi, Option.bind_some, hρ, hc, Option.bind_some, if_pos hl]
theorem len_le {n : Nat} (h : n ≤ 1000000) : n ≤ sizeLine := Nat.le_trans h (by decide)
/-! ### values of mirrors, part by part -/
section
variable {ρ : Ev} {fa fb : Ev → Option D} {x y d : D}
theorem b2_of {g : D → D → Option D} (h1 : fa ρ = some x) (h2 : fb ρ = some y) : b2 fa fb g ρ = g x y := by unfold b2; rw [h1, h2]; rfl
theorem b1_of {g : D → Option D} (h1 : fa ρ = some x) : b1 fa g ρ = g x := by unfold b1; rw [h1]; rfl
theorem aC {g : Ev → Option (List D)} {ds : List D} (h1 : fa ρ = some x) (h2 : g ρ = some ds) : aCons fa g ρ = some (x :: ds) := by unfold aCons; rw [h1, h2]; rfl
theorem aC1 (h1 : fa ρ = some x) : aCons fa aNil ρ = some [x] := aC h1 rfl
theorem aC2 (h1 : fa ρ = some x) (h2 : fb ρ = some y) : aCons fa (aCons fb aNil) ρ = some [x, y] := aC h1 (aC1 h2)
theorem cB_of' {g : Ev → Option (List D)} {f : List D → Option D} {ds : List D} (h : g ρ = some ds) : cB g f ρ = f ds := by unfold cB; rw [h]; rfl
theorem len_of {n : Nat} {m : List D → Option D} {ds : List D} (h : ds.length = n) : len? n m ds = m ds := by unfold len?; rw [if_pos h]
theorem call_of {g : Ev → Option (List D)} {n : Nat} {m : List D → Option D} {ds : List D} (h : g ρ = some ds) (hl : ds.length = n) : cB g (len? n m) ρ = m ds := (cB_of' h).trans (len_of hl)
theorem int_of {i : Int} (h : fa ρ = some (.int i)) : cB (aCons fa aNil) intD ρ = some (.int i) := cB_of' (aC1 h)
theorem lenS_of {z : Str} (h : fa ρ = some (.str z)) (hl : z.length ≤ 1000000) : cB (aCons fa aNil) lenD ρ = some (.int z.length) := by
  rw [cB_of' (aC1 h)]
  show (if z.length ≤ sizeLine then _ else _) = _
  rw [if_pos (len_le hl)]
theorem lenL_of {ds : List D} (h : fa ρ = some (.lst ds)) : cB (aCons fa aNil) lenD ρ = some (.int ds.length) := cB_of' (aC1 h)
theorem add_of {i j : Int} (h1 : fa ρ = some (.int i)) (h2 : fb ρ = some (.int j)) : b2 fa fb addD ρ = some (.int (i + j)) := b2_of h1 h2
theorem sub_of {i j : Int} (h1 : fa ρ = some (.int i)) (h2 : fb ρ = some (.int j)) : b2 fa fb subI ρ = some (.int (i - j)) := b2_of h1 h2
theorem mul_of {i j : Int} (h1 : fa ρ = some (.int i)) (h2 : fb ρ = some (.int j)) (hc : okMul i j = true) : b2 fa fb mulI ρ = some (.int (i * j)) := by
  rw [b2_of h1 h2]
  show (if okMul i j = true then _ else _) = _
  rw [if_pos hc]
theorem mod_of {i j : Int} (h1 : fa ρ = some (.int i)) (h2 : fb ρ = some (.int j)) (hc : 0 < j) : b2 fa fb modI ρ = some (.int (i % j)) := by
  rw [b2_of h1 h2]
  show (if decide (0 < j) = true then _ else _) = _
  rw [if_pos (decide_eq_true hc)]
theorem div_of {i j : Int} (h1 : fa ρ = some (.int i)) (h2 : fb ρ = some (.int j)) (hc : 0 < j ∧ j < 1073741824) : b2 fa fb divI ρ = some (.int (i / j)) := by
  rw [b2_of h1 h2]
  show (if decide (0 < j ∧ j < 1073741824) = true then _ else _) = _
  rw [if_pos (decide_eq_true hc)]
theorem cat_of {i j : Str} (h1 : fa ρ = some (.str i)) (h2 : fb ρ = some (.str j)) (hc : i.length + j.length ≤ 1000000) : b2 fa fb addD ρ = some (.str (i ++ j)) := by
  rw [b2_of h1 h2]
  show (match addI (.str i) (.str j) with | some d => some d | none => addS (.str i) (.str j)) = _
  show (if decide (i.length + j.length ≤ sizeLine) = true then some (D.str (i ++ j)) else none) = _
  rw [if_pos (decide_eq_true (len_le hc))]
theorem ixL_of {ds : List D} {i : Int} (h1 : fa ρ = some (.lst ds)) (h2 : fb ρ = some (.int i)) : b2 fa fb ixD ρ = atI ds i := b2_of h1 h2
theorem ixS_of {z : Str} {i : Int} {c : Nat} (h1 : fa ρ = some (.str z)) (h2 : fb ρ = some (.int i)) (hl : z.length ≤ 1000000) (hc : atI z.cps.toList i = some c) : b2 fa fb ixD ρ = some (.str ⟨#[c]⟩) := by
  rw [b2_of h1 h2]
  show (if z.length ≤ sizeLine then (atI z.cps.toList i).map _ else none) = _
  rw [if_pos (len_le hl), hc]
  rfl
theorem slc_of {lo hi : Ev → Option (Option Int)} {a b : Option Int} (h : fa ρ = some x) (h1 : lo ρ = some a) (h2 : hi ρ = some b) : slc fa lo hi ρ = slD x a b := by unfold slc; rw [h, h1, h2]; rfl
theorem part_of {i : Int} (h : fa ρ = some (.int i)) : part fa ρ = some (some i) := by unfold part; rw [h]
theorem slS_of {lo hi : Ev → Option (Option Int)} {a b : Option Int} {z : Str} (h : fa ρ = some (.str z)) (h1 : lo ρ = some a) (h2 : hi ρ = some b) (hl : z.length ≤ 1000000) : slc fa lo hi ρ = some (.str (cutS z a b)) := by
  rw [slc_of h h1 h2]
  show (if z.length ≤ sizeLine then _ else _) = _
  rw [if_pos (len_le hl)]
theorem slL_of {lo hi : Ev → Option (Option Int)} {a b : Option Int} {ds : List D} (h : fa ρ = some (.lst ds)) (h1 : lo ρ = some a) (h2 : hi ρ = some b) : slc fa lo hi ρ = some (.lst (cutD ds a b)) := slc_of h h1 h2
theorem asB_of {b : Bool} (h : fa ρ = some (.bl b)) : asB fa ρ = some b := by unfold asB; rw [h]
theorem eqI_of {i j : Int} (h1 : fa ρ = some (.int i)) (h2 : fb ρ = some (.int j)) : b2 fa fb eqD ρ = some (.bl (decide (i = j))) := b2_of h1 h2
theorem neI_of {i j : Int} (h1 : fa ρ = some (.int i)) (h2 : fb ρ = some (.int j)) : b2 fa fb neD ρ = some (.bl (!decide (i = j))) := b2_of h1 h2
theorem eqS_of {i j : Str} (h1 : fa ρ = some (.str i)) (h2 : fb ρ = some (.str j)) : b2 fa fb eqD ρ = some (.bl (decide (i = j))) := b2_of h1 h2
theorem neS_of {i j : Str} (h1 : fa ρ = some (.str i)) (h2 : fb ρ = some (.str j)) : b2 fa fb neD ρ = some (.bl (!decide (i = j))) := b2_of h1 h2
theorem lt_of {i j : Int} (h1 : fa ρ = some (.int i)) (h2 : fb ρ = some (.int j)) : b2 fa fb ltI ρ = some (.bl (decide (i < j))) := b2_of h1 h2
theorem le_of {i j : Int} (h1 : fa ρ = some (.int i)) (h2 : fb ρ = some (.int j)) : b2 fa fb leI ρ = some (.bl (decide (i ≤ j))) := b2_of h1 h2
theorem gt_of {i j : Int} (h1 : fa ρ = some (.int i)) (h2 : fb ρ = some (.int j)) : b2 fa fb gtI ρ = some (.bl (decide (j < i))) := b2_of h1 h2
theorem ge_of {i j : Int} (h1 : fa ρ = some (.int i)) (h2 : fb ρ = some (.int j)) : b2 fa fb geI ρ = some (.bl (decide (j ≤ i))) := b2_of h1 h2
theorem andV_t (h1 : fa ρ = some (.bl true)) : andV fa fb ρ = fb ρ := by unfold andV; rw [h1]
theorem andV_f (h1 : fa ρ = some (.bl false)) : andV fa fb ρ = some (.bl false) := by unfold andV; rw [h1]
theorem orV_t (h1 : fa ρ = some (.bl true)) : orV fa fb ρ = some (.bl true) := by unfold orV; rw [h1]
theorem orV_f (h1 : fa ρ = some (.bl false)) : orV fa fb ρ = fb ρ := by unfold orV; rw [h1]
theorem andV_of {a b : Bool} (h1 : fa ρ = some (.bl a)) (h2 : a = true → fb ρ = some (.bl b)) : andV fa fb ρ = some (.bl (a && b)) := by
  cases a with
  | true => rw [andV_t h1, h2 rfl]; rfl
  | false => rw [andV_f h1]; rfl
theorem orV_of {a b : Bool} (h1 : fa ρ = some (.bl a)) (h2 : a = false → fb ρ = some (.bl b)) : orV fa fb ρ = some (.bl (a || b)) := by
  cases a with
  | true => rw [orV_t h1]; rfl
  | false => rw [orV_f h1, h2 rfl]; rfl
theorem notV_of {a : Bool} (h1 : fa ρ = some (.bl a)) : notV fa ρ = some (.bl (!a)) := by unfold notV; rw [h1]
theorem ifV_of {c : Ev → Option Bool} {b : Bool} (h : c ρ = some b) : ifV c fa fb ρ = if b = true then fa ρ else fb ρ := by
  unfold ifV; rw [h]; cases b <;> rfl
theorem andT_of {f g : Ev → Option Bool} {a b : Bool} (h1 : f ρ = some a) (h2 : a = true → g ρ = some b) : andT f g ρ = some (a && b) := by
  unfold andT; rw [h1]; cases a with
  | true => rw [Bool.true_and]; exact h2 rfl
  | false => rfl
theorem orT_of {f g : Ev → Option Bool} {a b : Bool} (h1 : f ρ = some a) (h2 : a = false → g ρ = some b) : orT f g ρ = some (a || b) := by
  unfold orT; rw [h1]; cases a with
  | true => rfl
  | false => rw [Bool.false_or]; exact h2 rfl
theorem notT_of {f : Ev → Option Bool} {a : Bool} (h1 : f ρ = some a) : notT f ρ = some (!a) := by unfold notT; rw [h1]; rfl
theorem rng1_of {n : Nat} (h : fa ρ = some (.int n)) (hn : n ≤ 1000000) : rng1 fa ρ = some (rangeD 0 n) := by
  unfold rng1
  rw [h]
  show (if _ then _ else _) = _
  rw [if_pos (by omega), Int.toNat_natCast]
theorem iOf_of {ds : List D} (h : fa ρ = some x) (hs : seqD x = some ds) : iOf fa ρ = some ds := by unfold iOf; rw [h]; exact hs
theorem mkL_of {g : Ev → Option (List D)} {ds : List D} (h : g ρ = some ds) (hl : ds.length ≤ 1000000) : mkLst g ρ = some (.lst ds) := by unfold mkLst; rw [h, Option.bind_some, if_pos (len_le hl)]
theorem mkT_of {g : Ev → Option (List D)} {ds : List D} (h : g ρ = some ds) (hl : ds.length ≤ 1000000) : mkTup g ρ = some (.tup ds) := by unfold mkTup; rw [h, Option.bind_some, if_pos (len_le hl)]
end
theorem cut_from {α : Type} (xs : List α) (k : Nat) : cutD xs (some (k : Int)) none = xs.drop k := by
  unfold cutD
  rw [HT.sIx_nat, HT.sIx_none]
  rw [List.take_of_length_le (by rw [List.length_drop]; omega)]
  by_cases h : k ≤ xs.length
  · rw [Nat.min_eq_left h]
  · rw [Nat.min_eq_right (by omega), List.drop_length, List.drop_eq_nil_of_le (by omega)]
theorem cut_to {α : Type} (xs : List α) (k : Nat) : cutD xs none (some (k : Int)) = xs.take k := by
  unfold cutD
  rw [HT.sIx_nat, HT.sIx_none, List.drop_zero, Nat.sub_zero]
  by_cases h : k ≤ xs.length
  · rw [Nat.min_eq_left h]
  · rw [Nat.min_eq_right (by omega), List.take_length, List.take_of_length_le (by omega)]
theorem cutS_codes (z : Str) (lo hi : Option Int) : (cutS z lo hi).cps.toList = cutD z.cps.toList lo hi := by
  unfold cutS cutD
  rw [str_len]
/-- the item at a place -/
theorem at_get {α : Type} {xs : List α} {j : Nat} (h : j < xs.length) : atI xs (j : Int) = some xs[j] := atI_nat (List.getElem?_eq_getElem h)
theorem at_ints {rs : List Int} {j : Nat} (h : j < rs.length) : atI (rs.map D.int) (j : Int) = some (.int rs[j]) := atI_nat (by rw [List.getElem?_map, List.getElem?_eq_getElem h]; rfl)
theorem mod_nat (x : Int) {m : Nat} (h : 0 < m) : ∃ n : Nat, x % (m : Int) = (n : Int) ∧ n < m := by
  obtain ⟨n, e⟩ := Int.eq_ofNat_of_zero_le (Int.emod_nonneg x (show (m : Int) ≠ 0 by omega))
  have := Int.emod_lt_of_pos x (show (0 : Int) < (m : Int) by omega)
  exact ⟨n, e, by omega⟩
theorem range_get {lo : Int} {n i : Nat} {d : D} (h : (rangeD lo n)[i]? = some d) : i < n ∧ d = .int (lo + i) := by
  unfold rangeD at h
  rw [List.getElem?_map] at h
  cases q : (List.range n)[i]? with
  | none => rw [q] at h; cases h
  | some j =>
    rw [q] at h
    have hl : i < n := by
      have := (List.getElem?_eq_some_iff.mp q).1
      simpa using this
    rw [List.getElem?_range hl] at q
    cases q
    exact ⟨hl, (Option.some.inj h).symm⟩
theorem rangeD_len (lo : Int) (n : Nat) : (rangeD lo n).length = n := by simp [rangeD]
theorem toDs_ints (rs : List Int) : O.toDs (rs.map fun r => .dat (.int r)) = some (rs.map .int) := by
  have := toDs_dat (rs.map D.int)
  rw [List.map_map] at this
  exact this
theorem okMulR {i j : Int} (h : -(2 ^ 64) < j ∧ j < 2 ^ 64) : okMul i j = true := by
  unfold okMul
  exact decide_eq_true (.inr h)
theorem okMulL {i j : Int} (h : -(2 ^ 64) < i ∧ i < 2 ^ 64) : okMul i j = true := by
  unfold okMul
  exact decide_eq_true (.inl h)
theorem str_eq (x y : Str) : x = y ↔ x.cps.toList = y.cps.toList := by
  constructor
  · rintro rfl; rfl
  · intro h
    cases x; cases y
    congr 1
    exact Array.toList_inj.mp h
theorem end_of {K : PySem.W.Frag} {H : Hp} {a : Addr} {m : List D → Option D} {n : Nat} {E : XK} (hm : ∀ ns : List Int, ns.length ≤ n → m [.lst (ns.map .int)] = some (.bl true)) {ns : List Int} (hl : ns.length ≤ n) (hS : SqL K H a (ns.map V.int)) : spP K 1 m [.ref a] H (fun v _ => v = .bl true) E :=
  ⟨rfl, H, [], [], [.lst (ns.map .int)], .bl true, ⟨Same.refl _, [], .nil, List.nodup_nil, fun _ h => nomatch h⟩, .cons (.lst hS (ints_dvs ns)) .nil, hm ns hl, fun _ _ v _ _ d => by cases d; rfl⟩
end PD

namespace K00
open PySem PySem.Spec L2 PD
def topS (i : Nat) : Stmt := PySem.Challenge.pw_playhall_k00_names_and_numbers.main.body.getD i (.Pass ⟨0, 0, 0, 0⟩)
abbrev sis_name : Stmt := topS 4
theorem scis_name : FnScope ["text", "char"] ["text"] (defScope sis_name) := ⟨rfl, rfl, rfl, by decide +kernel, rfl, by decide +kernel, by decide +kernel⟩
abbrev sis_number : Stmt := topS 6
theorem scis_number : FnScope ["text", "only_digits", "char"] ["text"] (defScope sis_number) := ⟨rfl, rfl, rfl, by decide +kernel, rfl, by decide +kernel, by decide +kernel⟩
abbrev s_law_cell : Stmt := topS 8
theorem sc_law_cell : FnScope ["_law_script", "_law_k"] ["_law_script", "_law_k"] (defScope s_law_cell) := ⟨rfl, rfl, rfl, by decide +kernel, rfl, by decide +kernel, by decide +kernel⟩
abbrev s_law_row : Stmt := topS 9
theorem sc_law_row : FnScope ["_law_cell_here", "_law_many", "_law_row_here", "_law_seed", "_law_rest", "_law_k", "_law_mixed"] ["_law_cell_here", "_law_many"] (defScope s_law_row) := ⟨rfl, rfl, rfl, by decide +kernel, rfl, by decide +kernel, by decide +kernel⟩
abbrev s_law_chars : Stmt := topS 10
theorem sc_law_chars : FnScope ["_law_menu", "_law_numbers", "_law_size", "_law_k"] ["_law_menu", "_law_numbers", "_law_size"] (defScope s_law_chars) := ⟨rfl, rfl, rfl, by decide +kernel, rfl, by decide +kernel, by decide +kernel⟩
abbrev s_law_is_name : Stmt := topS 12
theorem sc_law_is_name : FnScope ["_law_own_text", "_law_char"] ["_law_own_text"] (defScope s_law_is_name) := ⟨rfl, rfl, rfl, by decide +kernel, rfl, by decide +kernel, by decide +kernel⟩
abbrev s_law_is_number : Stmt := topS 14
theorem sc_law_is_number : FnScope ["_law_own_text", "_law_char"] ["_law_own_text"] (defScope s_law_is_number) := ⟨rfl, rfl, rfl, by decide +kernel, rfl, by decide +kernel, by decide +kernel⟩
abbrev s_law_told : Stmt := topS 15
theorem sc_law_told : FnScope ["_law_actual", "_law_expected"] ["_law_actual", "_law_expected"] (defScope s_law_told) := ⟨rfl, rfl, rfl, by decide +kernel, rfl, by decide +kernel, by decide +kernel⟩
abbrev sis_label : Stmt := topS 5
theorem scis_label : FnScope ["text", "parts", "part"] ["text"] (defScope sis_label) := ⟨rfl, rfl, rfl, by decide +kernel, rfl, by decide +kernel, by decide +kernel⟩
abbrev s_law_text : Stmt := topS 11
theorem sc_law_text : FnScope ["_law_row_here", "_law_signs", "_law_letters", "_law_sizes", "_law_kind", "_law_own_text", "_law_place"] ["_law_row_here"] (defScope s_law_text) := ⟨rfl, rfl, rfl, by decide +kernel, rfl, by decide +kernel, by decide +kernel⟩
abbrev s_law_is_label : Stmt := topS 13
theorem sc_law_is_label : FnScope ["_law_own_text", "_law_dots", "_law_k"] ["_law_own_text"] (defScope s_law_is_label) := ⟨rfl, rfl, rfl, by decide +kernel, rfl, by decide +kernel, by decide +kernel⟩
abbrev slaw : Stmt := topS 16
theorem sclaw : FnScope ["_law_script", "_law_k", "_law_row_here", "_law_own_text", "_law_told_here", "_law_again", "_law_expected", "_law_place"] ["_law_script"] (defScope slaw) := ⟨rfl, rfl, rfl, by decide +kernel, rfl, by decide +kernel, by decide +kernel⟩
/-- is_name: 0 text, 1 char -/
abbrev bis_name : Ev → Option Fl :=
    (rtV (andV (chn (kI 1) (cB (aCons (gv 0) aNil) lenD) (kI 12) leI leI) (cB (aCons (lcD (iOf (gv 0)) (gN 1) yes (b2 (gv 1) (kS "abcdefghijklmnopqrstuvwxyz") inD) [1]) aNil) allD)))
def mis_name : List D → Option D := runP 2 bis_name
/-- is_number: 0 text, 1 only_digits, 2 char -/
abbrev bis_number : Ev → Option Fl :=
    (sq (stV 1 (andV (b2 (gv 0) (kS "") neD) (cB (aCons (lcD (iOf (gv 0)) (gN 2) yes (b2 (gv 2) (kS "0123456789") inD) [2]) aNil) allD)))
    (rtV (andV (gv 1) (orV (b2 (gv 0) (kS "0") eqD) (b2 (b2 (gv 0) (kI 0) ixD) (kS "0") neD)))))
def mis_number : List D → Option D := runP 3 bis_number
/-- _law_cell: 0 _law_script, 1 _law_k -/
abbrev b_law_cell : Ev → Option Fl :=
    (rtV (ifV (asB (b2 (gv 1) (cB (aCons (gv 0) aNil) lenD) ltI)) (cB (aCons (b2 (gv 0) (gv 1) ixD) aNil) intD) (kI 0)))
def m_law_cell : List D → Option D := runP 2 b_law_cell
/-- _law_row: 0 _law_cell_here, 1 _law_many, 2 _law_row_here, 3 _law_seed, 4 _law_rest, 5 _law_k, 6 _law_mixed -/
abbrev b_law_row : Ev → Option Fl :=
    (sq (stO 2 (mkLstO aNil))
    (sq (stV 3 (b2 (cB (aCons (gv 0) aNil) intD) (kI 2147483629) modI))
    (sq (stV 4 (b2 (gv 0) (b2 (kI 10) (kI 18) powI) subI))
    (sq (forS (rng1 (gv 1)) (gN 5) (sq (stV 3 (b2 (cB (aCons (b2 (b2 (b2 (gv 3) (kI 48271) mulI) (b2 (kI 977) (gv 5) mulI) addD) (kI 12345) addD) aNil) intD) (kI 2147483647) modI))
    (sq (stV 6 (b2 (cB (aCons (b2 (b2 (b2 (gv 3) (kI 69621) mulI) (b2 (kI 31) (gv 5) mulI) addD) (kI 7) addD) aNil) intD) (kI 2147483629) modI))
    (sq (app 2 (ifV (asB (b2 (gv 0) (b2 (kI 10) (kI 18) powI) geI)) (b2 (cB (aCons (gv 4) aNil) intD) (kI 1000) modI) (b2 (cB (aCons (b2 (gv 6) (kI 4099) divI) aNil) intD) (kI 1000) modI)))
    (stV 4 (b2 (gv 4) (kI 1000) divI))))))
    (fz 2 (rtV (gv 2)))))))
def m_law_row : List D → Option D := runP 7 b_law_row
/-- _law_chars: 0 _law_menu, 1 _law_numbers, 2 _law_size, 3 _law_k -/
abbrev b_law_chars : Ev → Option Fl :=
    (rtV (m1 (kS "") (lcD (rng1 (gv 2)) (gN 3) yes (b2 (gv 0) (b2 (cB (aCons (b2 (gv 1) (gv 3) ixD) aNil) intD) (cB (aCons (gv 0) aNil) lenD) modI) ixD) [3]) joinD))
def m_law_chars : List D → Option D := runP 4 b_law_chars
/-- _law_is_name: 0 _law_own_text, 1 _law_char -/
abbrev b_law_is_name : Ev → Option Fl :=
    (sq (forS (iOf (gv 0)) (gN 1) (ifS (asB (b2 (gv 1) (kS "abcdefghijklmnopqrstuvwxyz") ninD)) (rtV (kB false)) skip))
    (rtV (andV (b2 (cB (aCons (gv 0) aNil) lenD) (kI 0) gtI) (b2 (cB (aCons (gv 0) aNil) lenD) (kI 13) ltI))))
def m_law_is_name : List D → Option D := runP 2 b_law_is_name
/-- _law_is_number: 0 _law_own_text, 1 _law_char -/
abbrev b_law_is_number : Ev → Option Fl :=
    (sq (forS (iOf (gv 0)) (gN 1) (ifS (asB (b2 (gv 1) (kS "0123456789") ninD)) (rtV (kB false)) skip))
    (rtV (orV (b2 (cB (aCons (gv 0) aNil) lenD) (kI 1) eqD) (andV (b2 (cB (aCons (gv 0) aNil) lenD) (kI 1) gtI) (b2 (b2 (gv 0) (kI 0) ixD) (kS "0") neD)))))
def m_law_is_number : List D → Option D := runP 2 b_law_is_number
/-- _law_told: 0 _law_actual, 1 _law_expected -/
abbrev b_law_told : Ev → Option Fl :=
    (rtV (andV (b1 (gv 0) (isiD "bool")) (b2 (gv 0) (gv 1) eqD)))
def m_law_told : List D → Option D := runP 2 b_law_told
/-- is_label: 0 text, 1 parts, 2 part -/
abbrev bis_label : Ev → Option Fl :=
    (sq (stV 1 (m1 (gv 0) (kS ".") splitD))
    (rtV (andV (b2 (cB (aCons (gv 1) aNil) lenD) (kI 2) leI) (cB (aCons (lcD (iOf (gv 1)) (gN 2) yes (cB (aCons (gv 2) aNil) (len? 1 mis_name)) [2]) aNil) allD))))
def mis_label : List D → Option D := runP 3 bis_label
/-- _law_text: 0 _law_row_here, 1 _law_signs, 2 _law_letters, 3 _law_sizes, 4 _law_kind, 5 _law_own_text, 6 _law_place -/
abbrev b_law_text : Ev → Option Fl :=
    (sq (stV 1 (kS " !\"#$&'()*+,-./0123456789:;<=>?@ABCDEFGHIJKLMNOPQRSTUVWXYZ[\\]^_`"))
    (sq (stV 2 (kS "abcdefghijklmnopqrstuvwxyz"))
    (sq (stV 1 (b2 (b2 (gv 1) (gv 2) addD) (kS "{|}~\n") addD))
    (sq (stV 3 (mkLst (aCons (kI 0) (aCons (kI 1) (aCons (kI 2) (aCons (kI 7) (aCons (kI 11) (aCons (kI 12) (aCons (kI 13) (aCons (kI 14) aNil))))))))))
    (sq (stV 4 (b2 (cB (aCons (b2 (gv 0) (kI 0) ixD) aNil) intD) (kI 6) modI))
    (sq (stV 5 (cB (aCons (gv 1) (aCons (slc (gv 0) (part (kI 5)) noPart) (aCons (b2 (cB (aCons (b2 (gv 0) (kI 1) ixD) aNil) intD) (kI 40) modI) aNil))) (len? 3 m_law_chars)))
    (sq (ifS (asB (b2 (gv 4) (kI 1) eqD)) (stV 5 (cB (aCons (gv 2) (aCons (slc (gv 0) (part (kI 5)) noPart) (aCons (b2 (gv 3) (b2 (cB (aCons (b2 (gv 0) (kI 1) ixD) aNil) intD) (kI 8) modI) ixD) aNil))) (len? 3 m_law_chars))) skip)
    (sq (ifS (asB (b2 (gv 4) (kI 2) eqD)) (sq (stV 5 (b2 (cB (aCons (gv 2) (aCons (slc (gv 0) (part (kI 5)) noPart) (aCons (b2 (gv 3) (b2 (cB (aCons (b2 (gv 0) (kI 1) ixD) aNil) intD) (kI 8) modI) ixD) aNil))) (len? 3 m_law_chars)) (kS ".") addD))
    (stV 5 (b2 (gv 5) (cB (aCons (gv 2) (aCons (slc (gv 0) (part (kI 20)) noPart) (aCons (b2 (gv 3) (b2 (cB (aCons (b2 (gv 0) (kI 2) ixD) aNil) intD) (kI 8) modI) ixD) aNil))) (len? 3 m_law_chars)) addD))) skip)
    (sq (ifS (asB (b2 (gv 4) (kI 3) eqD)) (stV 5 (cB (aCons (b2 (gv 2) (kS "....") addD) (aCons (slc (gv 0) (part (kI 5)) noPart) (aCons (b2 (cB (aCons (b2 (gv 0) (kI 1) ixD) aNil) intD) (kI 30) modI) aNil))) (len? 3 m_law_chars))) skip)
    (sq (ifS (asB (b2 (gv 4) (kI 4) eqD)) (stV 5 (cB (aCons (kS "0123456789") (aCons (slc (gv 0) (part (kI 5)) noPart) (aCons (b2 (cB (aCons (b2 (gv 0) (kI 1) ixD) aNil) intD) (kI 40) modI) aNil))) (len? 3 m_law_chars))) skip)
    (sq (ifS (asB (b2 (gv 4) (kI 5) eqD)) (stV 5 (cB (aCons (kS "00123") (aCons (slc (gv 0) (part (kI 5)) noPart) (aCons (b2 (cB (aCons (b2 (gv 0) (kI 1) ixD) aNil) intD) (kI 4) modI) aNil))) (len? 3 m_law_chars))) skip)
    (sq (ifS (asB (b2 (b2 (cB (aCons (b2 (b2 (gv 0) (kI 0) ixD) (kI 6) divI) aNil) intD) (kI 3) modI) (kI 1) eqD)) (sq (stV 6 (b2 (cB (aCons (b2 (gv 0) (kI 3) ixD) aNil) intD) (b2 (cB (aCons (gv 5) aNil) lenD) (kI 1) addD) modI))
    (stV 5 (b2 (b2 (slc (gv 5) noPart (part (gv 6))) (b2 (gv 1) (b2 (cB (aCons (b2 (gv 0) (kI 4) ixD) aNil) intD) (cB (aCons (gv 1) aNil) lenD) modI) ixD) addD) (slc (gv 5) (part (gv 6)) noPart) addD))) skip)
    (rtV (gv 5))))))))))))))
def m_law_text : List D → Option D := runP 7 b_law_text
/-- _law_is_label: 0 _law_own_text, 1 _law_dots, 2 _law_k -/
abbrev b_law_is_label : Ev → Option Fl :=
    (sq (stV 1 (lcD (rng1 (cB (aCons (gv 0) aNil) lenD)) (gN 2) (asB (b2 (b2 (gv 0) (gv 2) ixD) (kS ".") eqD)) (gv 2) [2]))
    (sq (ifS (asB (b2 (cB (aCons (gv 1) aNil) lenD) (kI 0) eqD)) (rtV (cB (aCons (gv 0) aNil) (len? 1 m_law_is_name))) skip)
    (rtV (andV (b2 (cB (aCons (gv 1) aNil) lenD) (kI 1) eqD) (andV (cB (aCons (slc (gv 0) noPart (part (b2 (gv 1) (kI 0) ixD))) aNil) (len? 1 m_law_is_name)) (cB (aCons (slc (gv 0) (part (b2 (b2 (gv 1) (kI 0) ixD) (kI 1) addD)) noPart) aNil) (len? 1 m_law_is_name)))))))
def m_law_is_label : List D → Option D := runP 3 b_law_is_label
/-- law: 0 _law_script, 1 _law_k, 2 _law_row_here, 3 _law_own_text, 4 _law_told_here, 5 _law_again, 6 _law_expected, 7 _law_place -/
abbrev blaw : Ev → Option Fl :=
    (sq (forS (rng1 (cB (aCons (kI 63) (aCons (cB (aCons (kI 1) (aCons (cB (aCons (gv 0) aNil) lenD) aNil)) max2) aNil)) min2)) (gN 1) (sq (stV 2 (cB (aCons (cB (aCons (gv 0) (aCons (gv 1) aNil)) (len? 2 m_law_cell)) (aCons (kI 90) aNil)) (len? 2 m_law_row)))
    (forS (iOf (mkLst (aCons (cB (aCons (slc (gv 2) noPart (part (kI 45))) aNil) (len? 1 m_law_text)) (aCons (cB (aCons (slc (gv 2) (part (kI 45)) noPart) aNil) (len? 1 m_law_text)) aNil)))) (gN 3) (sq (stV 4 (mkLst (aCons (cB (aCons (gv 3) aNil) (len? 1 mis_name)) (aCons (cB (aCons (gv 3) aNil) (len? 1 mis_label)) (aCons (cB (aCons (gv 3) aNil) (len? 1 mis_number)) aNil)))))
    (sq (stV 5 (mkLst (aCons (cB (aCons (gv 3) aNil) (len? 1 mis_name)) (aCons (cB (aCons (gv 3) aNil) (len? 1 mis_label)) (aCons (cB (aCons (gv 3) aNil) (len? 1 mis_number)) aNil)))))
    (sq (stV 6 (mkLst (aCons (cB (aCons (gv 3) aNil) (len? 1 m_law_is_name)) (aCons (cB (aCons (gv 3) aNil) (len? 1 m_law_is_label)) (aCons (cB (aCons (gv 3) aNil) (len? 1 m_law_is_number)) aNil)))))
    (forS (rng1 (kI 3)) (gN 7) (ifS (orT (notT (asB (cB (aCons (b2 (gv 4) (gv 7) ixD) (aCons (b2 (gv 6) (gv 7) ixD) aNil)) (len? 2 m_law_told)))) (notT (asB (cB (aCons (b2 (gv 5) (gv 7) ixD) (aCons (b2 (gv 6) (gv 7) ixD) aNil)) (len? 2 m_law_told))))) (rtV (kB false)) skip))))))))
    (rtV (kB true)))
def mlaw : List D → Option D := runP 8 blaw
section
variable {P : Program} {w : World} {K : PySem.W.Frag} {mg : Str → Option Value} {base : Heap}
/-- what the top has written -/
structure Tx (K : PySem.W.Frag) (mg : Str → Option Value) where
  t_LETTERS : Tok
  t_DIGITS : Tok
  t_LONGEST_NAME : Tok
  n_all : mg "all" = none
  n_bool : mg "bool" = none
  n_int : mg "int" = none
  n_isinstance : mg "isinstance" = none
  n_len : mg "len" = none
  n_max : mg "max" = none
  n_min : mg "min" = none
  n_range : mg "range" = none
  c_LETTERS : mg "LETTERS" = some (.str "abcdefghijklmnopqrstuvwxyz" (t_LETTERS))
  c_DIGITS : mg "DIGITS" = some (.str "0123456789" (t_DIGITS))
  c_LONGEST_NAME : mg "LONGEST_NAME" = some (.int 12 (t_LONGEST_NAME))
  fis_name : Addr
  fdis_name : FuncData
  Fis_name : Fun K "is_name" "is_name" sis_name fis_name fdis_name
  gis_name : mg "is_name" = some (.ref fis_name)
  bis_name : Binds K fdis_name ["text"] []
  kis_name : KBn K fdis_name ["text"] 0 ["text"] (fun us ws => us ++ ws) (fun vs zs => vs ++ zs)
  fis_number : Addr
  fdis_number : FuncData
  Fis_number : Fun K "is_number" "is_number" sis_number fis_number fdis_number
  gis_number : mg "is_number" = some (.ref fis_number)
  bis_number : Binds K fdis_number ["text"] []
  kis_number : KBn K fdis_number ["text"] 0 ["text"] (fun us ws => us ++ ws) (fun vs zs => vs ++ zs)
  f_law_cell : Addr
  fd_law_cell : FuncData
  F_law_cell : Fun K "_law_cell" "_law_cell" s_law_cell f_law_cell fd_law_cell
  g_law_cell : mg "_law_cell" = some (.ref f_law_cell)
  b_law_cell : Binds K fd_law_cell ["_law_script", "_law_k"] []
  f_law_row : Addr
  fd_law_row : FuncData
  F_law_row : Fun K "_law_row" "_law_row" s_law_row f_law_row fd_law_row
  g_law_row : mg "_law_row" = some (.ref f_law_row)
  b_law_row : Binds K fd_law_row ["_law_cell_here", "_law_many"] []
  f_law_chars : Addr
  fd_law_chars : FuncData
  F_law_chars : Fun K "_law_chars" "_law_chars" s_law_chars f_law_chars fd_law_chars
  g_law_chars : mg "_law_chars" = some (.ref f_law_chars)
  b_law_chars : Binds K fd_law_chars ["_law_menu", "_law_numbers", "_law_size"] []
  f_law_is_name : Addr
  fd_law_is_name : FuncData
  F_law_is_name : Fun K "_law_is_name" "_law_is_name" s_law_is_name f_law_is_name fd_law_is_name
  g_law_is_name : mg "_law_is_name" = some (.ref f_law_is_name)
  b_law_is_name : Binds K fd_law_is_name ["_law_own_text"] []
  f_law_is_number : Addr
  fd_law_is_number : FuncData
  F_law_is_number : Fun K "_law_is_number" "_law_is_number" s_law_is_number f_law_is_number fd_law_is_number
  g_law_is_number : mg "_law_is_number" = some (.ref f_law_is_number)
  b_law_is_number : Binds K fd_law_is_number ["_law_own_text"] []
  f_law_told : Addr
  fd_law_told : FuncData
  F_law_told : Fun K "_law_told" "_law_told" s_law_told f_law_told fd_law_told
  g_law_told : mg "_law_told" = some (.ref f_law_told)
  b_law_told : Binds K fd_law_told ["_law_actual", "_law_expected"] []
  fis_label : Addr
  fdis_label : FuncData
  Fis_label : Fun K "is_label" "is_label" sis_label fis_label fdis_label
  gis_label : mg "is_label" = some (.ref fis_label)
  bis_label : Binds K fdis_label ["text"] []
  kis_label : KBn K fdis_label ["text"] 0 ["text"] (fun us ws => us ++ ws) (fun vs zs => vs ++ zs)
  f_law_text : Addr
  fd_law_text : FuncData
  F_law_text : Fun K "_law_text" "_law_text" s_law_text f_law_text fd_law_text
  g_law_text : mg "_law_text" = some (.ref f_law_text)
  b_law_text : Binds K fd_law_text ["_law_row_here"] []
  f_law_is_label : Addr
  fd_law_is_label : FuncData
  F_law_is_label : Fun K "_law_is_label" "_law_is_label" s_law_is_label f_law_is_label fd_law_is_label
  g_law_is_label : mg "_law_is_label" = some (.ref f_law_is_label)
  b_law_is_label : Binds K fd_law_is_label ["_law_own_text"] []
  flaw : Addr
  fdlaw : FuncData
  Flaw : Fun K "law" "law" slaw flaw fdlaw
  glaw : mg "law" = some (.ref flaw)
  blaw : Binds K fdlaw ["_law_script"] []
theorem Tx.okis_name (T : Tx K mg) : FnOk P w K mg base CX0 1 T.fis_name T.fdis_name ["text"] (spP K 1 mis_name) :=
  fnP T.Fis_name scis_name fun cdv A outer s H E hr =>
    (sOne (sRet (pAnd (pChain oLe oLe pInt (pCallB cLen T.n_len (by decide +kernel) (qCons (pVar 0) qNil)) (pGlobI T.c_LONGEST_NAME)) (pOne (pCallB (cAll rfl) T.n_all (by decide +kernel) (qCons (pLc [("char", 1)] rfl scis_name.nd (iSeq (pVar 0)) (blkOk_by (N := ["text", "char"]) (sc := defScope sis_name) (by decide +kernel)) (fun _ _ _ _ _ => (gName' (i := 1) scis_name.nd)) (fun _ _ _ _ _ => ptsNil) (fun _ _ _ _ _ => (pCmp oIn (pVar 1) (pGlobS T.c_LETTERS))) (gN_ok 1)) qNil))))))
theorem Tx.okis_number (T : Tx K mg) : FnOk P w K mg base CX0 1 T.fis_number T.fdis_number ["text"] (spP K 1 mis_number) :=
  fnP T.Fis_number scis_number fun cdv A outer s H E hr =>
    (sCons (sSet (i := 1) scis_number.nd (pAnd (pCmp (oNe hr.units) (pVar 0) pStr) (pOne (pCallB (cAll rfl) T.n_all (by decide +kernel) (qCons (pLc [("char", 2)] rfl scis_number.nd (iSeq (pVar 0)) (blkOk_by (N := ["text", "only_digits", "char"]) (sc := defScope sis_number) (by decide +kernel)) (fun _ _ _ _ _ => (gName' (i := 2) scis_number.nd)) (fun _ _ _ _ _ => ptsNil) (fun _ _ _ _ _ => (pCmp oIn (pVar 2) (pGlobS T.c_DIGITS))) (gN_ok 2)) qNil)))))
      (sOne (sRet (pAnd (pVar 1) (pOne (pOr (pCmp (oEq hr.units) (pVar 0) pStr) (pOne (pCmp (oNe hr.units) (pIx oIx (pVar 0) pInt) pStr))))))))
theorem Tx.ok_law_cell (T : Tx K mg) : FnOk P w K mg base CX0 1 T.f_law_cell T.fd_law_cell ["_law_script", "_law_k"] (spP K 2 m_law_cell) :=
  fnP T.F_law_cell sc_law_cell fun cdv A outer s H E hr =>
    (sOne (sRet (pIf (tCmp oLt (pVar 1) (pCallB cLen T.n_len (by decide +kernel) (qCons (pVar 0) qNil))) (pCallT cInt T.n_int (by decide +kernel) (qCons (pIx oIx (pVar 0) (pVar 1)) qNil)) pInt)))
theorem Tx.ok_law_row (T : Tx K mg) : FnOk P w K mg base CX0 1 T.f_law_row T.fd_law_row ["_law_cell_here", "_law_many"] (spP K 2 m_law_row) :=
  fnP T.F_law_row sc_law_row fun cdv A outer s H E hr =>
    (sCons (sSetO (i := 2) sc_law_row.nd (oLst qNil))
      (sCons (sSet (i := 3) sc_law_row.nd (pOp oMod (pCallT cInt T.n_int (by decide +kernel) (qCons (pVar 0) qNil)) pInt))
      (sCons (sSet (i := 4) sc_law_row.nd (pOp oSub (pVar 0) (pOp oPow pInt pInt)))
      (sCons (sFor PassesOwn.never rfl (iRange1 (pVar 1) T.n_range) (gName' (i := 5) sc_law_row.nd) (sCons (sSet (i := 3) sc_law_row.nd (pOp oMod (pCallT cInt T.n_int (by decide +kernel) (qCons (pOp oAdd (pOp oAdd (pOp oMul (pVar 3) pInt) (pOp oMul pInt (pVar 5))) pInt) qNil)) pInt))
      (sCons (sSet (i := 6) sc_law_row.nd (pOp oMod (pCallT cInt T.n_int (by decide +kernel) (qCons (pOp oAdd (pOp oAdd (pOp oMul (pVar 3) pInt) (pOp oMul pInt (pVar 5))) pInt) qNil)) pInt))
      (sCons (sApp (i := 2) (pv 2) (pIf (tCmp oGe (pVar 0) (pOp oPow pInt pInt)) (pOp oMod (pCallT cInt T.n_int (by decide +kernel) (qCons (pVar 4) qNil)) pInt) (pOp oMod (pCallT cInt T.n_int (by decide +kernel) (qCons (pOp oDiv (pVar 6) pInt) qNil)) pInt)))
      (sOne (sSet (i := 4) sc_law_row.nd (pOp oDiv (pVar 4) pInt)))))))
      (sOne (sFz (i := 2) (sRet (pVar 2))))))))
theorem Tx.ok_law_chars (T : Tx K mg) : FnOk P w K mg base CX0 1 T.f_law_chars T.fd_law_chars ["_law_menu", "_law_numbers", "_law_size"] (spP K 3 m_law_chars) :=
  fnP T.F_law_chars sc_law_chars fun cdv A outer s H E hr =>
    (sOne (sRet (pJoin pStr (pLc [("_law_k", 3)] rfl sc_law_chars.nd (iRange1 (pVar 2) T.n_range) (blkOk_by (N := ["_law_menu", "_law_numbers", "_law_size", "_law_k"]) (sc := defScope s_law_chars) (by decide +kernel)) (fun _ _ _ _ _ => (gName' (i := 3) sc_law_chars.nd)) (fun _ _ _ _ _ => ptsNil) (fun _ _ _ _ _ => (pIx oIx (pVar 0) (pOp oMod (pCallT cInt T.n_int (by decide +kernel) (qCons (pIx oIx (pVar 1) (pVar 3)) qNil)) (pCallB cLen T.n_len (by decide +kernel) (qCons (pVar 0) qNil))))) (gN_ok 3)))))
theorem Tx.ok_law_is_name (T : Tx K mg) : FnOk P w K mg base CX0 1 T.f_law_is_name T.fd_law_is_name ["_law_own_text"] (spP K 1 m_law_is_name) :=
  fnP T.F_law_is_name sc_law_is_name fun cdv A outer s H E hr =>
    (sCons (sFor PassesOwn.never rfl (iSeq (pVar 0)) (gName' (i := 1) sc_law_is_name.nd) (sOne (sIf (tCmp oNotIn (pVar 1) pStr) (sOne (sRet pBl)) sNil)))
      (sOne (sRet (pAnd (pCmp oGt (pCallB cLen T.n_len (by decide +kernel) (qCons (pVar 0) qNil)) pInt) (pOne (pCmp oLt (pCallB cLen T.n_len (by decide +kernel) (qCons (pVar 0) qNil)) pInt))))))
theorem Tx.ok_law_is_number (T : Tx K mg) : FnOk P w K mg base CX0 1 T.f_law_is_number T.fd_law_is_number ["_law_own_text"] (spP K 1 m_law_is_number) :=
  fnP T.F_law_is_number sc_law_is_number fun cdv A outer s H E hr =>
    (sCons (sFor PassesOwn.never rfl (iSeq (pVar 0)) (gName' (i := 1) sc_law_is_number.nd) (sOne (sIf (tCmp oNotIn (pVar 1) pStr) (sOne (sRet pBl)) sNil)))
      (sOne (sRet (pOr (pCmp (oEq hr.units) (pCallB cLen T.n_len (by decide +kernel) (qCons (pVar 0) qNil)) pInt) (pOne (pAnd (pCmp oGt (pCallB cLen T.n_len (by decide +kernel) (qCons (pVar 0) qNil)) pInt) (pOne (pCmp (oNe hr.units) (pIx oIx (pVar 0) pInt) pStr))))))))
theorem Tx.ok_law_told (T : Tx K mg) : FnOk P w K mg base CX0 1 T.f_law_told T.fd_law_told ["_law_actual", "_law_expected"] (spP K 2 m_law_told) :=
  fnP T.F_law_told sc_law_told fun cdv A outer s H E hr =>
    (sOne (sRet (pAnd (pIsi (pVar 0) T.n_isinstance T.n_bool) (pOne (pCmp (oEq hr.units) (pVar 0) (pVar 1))))))
theorem Tx.okis_label (T : Tx K mg) : FnOk P w K mg base CX0 2 T.fis_label T.fdis_label ["text"] (spP K 1 mis_label) :=
  fnP T.Fis_label scis_label fun cdv A outer s H E hr =>
    (sCons (sSet (i := 1) scis_label.nd (pSplit (pVar 0) pStr))
      (sOne (sRet (pAnd (pCmp oLe (pCallB cLen T.n_len (by decide +kernel) (qCons (pVar 1) qNil)) pInt) (pOne (pCallB (cAll rfl) T.n_all (by decide +kernel) (qCons (pLc [("part", 2)] rfl scis_label.nd (iSeq (pVar 1)) (blkOk_by (N := ["text", "parts", "part"]) (sc := defScope sis_label) (by decide +kernel)) (fun _ _ _ _ _ => (gName' (i := 2) scis_label.nd)) (fun _ _ _ _ _ => ptsNil) (fun _ _ _ _ _ => (pCall T.okis_name (hr.mono (by decide)) T.gis_name T.Fis_name.kp T.bis_name (qCons (pVar 2) qNil))) (gN_ok 2)) qNil)))))))
theorem Tx.ok_law_text (T : Tx K mg) : FnOk P w K mg base CX0 2 T.f_law_text T.fd_law_text ["_law_row_here"] (spP K 1 m_law_text) :=
  fnP T.F_law_text sc_law_text fun cdv A outer s H E hr =>
    (sCons (sSet (i := 1) sc_law_text.nd pStr)
      (sCons (sSet (i := 2) sc_law_text.nd pStr)
      (sCons (sSet (i := 1) sc_law_text.nd (pOp oAdd (pOp oAdd (pVar 1) (pVar 2)) pStr))
      (sCons (sSet (i := 3) sc_law_text.nd (pLst (qCons pInt (qCons pInt (qCons pInt (qCons pInt (qCons pInt (qCons pInt (qCons pInt (qCons pInt qNil))))))))))
      (sCons (sSet (i := 4) sc_law_text.nd (pOp oMod (pCallT cInt T.n_int (by decide +kernel) (qCons (pIx oIx (pVar 0) pInt) qNil)) pInt))
      (sCons (sSet (i := 5) sc_law_text.nd (pCall T.ok_law_chars (hr.mono (by decide)) T.g_law_chars T.F_law_chars.kp T.b_law_chars (qCons (pVar 1) (qCons (pSl (pVar 0) (poSome pInt) poNone) (qCons (pOp oMod (pCallT cInt T.n_int (by decide +kernel) (qCons (pIx oIx (pVar 0) pInt) qNil)) pInt) qNil)))))
      (sCons (sIf (tCmp (oEq hr.units) (pVar 4) pInt) (sOne (sSet (i := 5) sc_law_text.nd (pCall T.ok_law_chars (hr.mono (by decide)) T.g_law_chars T.F_law_chars.kp T.b_law_chars (qCons (pVar 2) (qCons (pSl (pVar 0) (poSome pInt) poNone) (qCons (pIx oIx (pVar 3) (pOp oMod (pCallT cInt T.n_int (by decide +kernel) (qCons (pIx oIx (pVar 0) pInt) qNil)) pInt)) qNil)))))) sNil)
      (sCons (sIf (tCmp (oEq hr.units) (pVar 4) pInt) (sCons (sSet (i := 5) sc_law_text.nd (pOp oAdd (pCall T.ok_law_chars (hr.mono (by decide)) T.g_law_chars T.F_law_chars.kp T.b_law_chars (qCons (pVar 2) (qCons (pSl (pVar 0) (poSome pInt) poNone) (qCons (pIx oIx (pVar 3) (pOp oMod (pCallT cInt T.n_int (by decide +kernel) (qCons (pIx oIx (pVar 0) pInt) qNil)) pInt)) qNil)))) pStr))
      (sOne (sSet (i := 5) sc_law_text.nd (pOp oAdd (pVar 5) (pCall T.ok_law_chars (hr.mono (by decide)) T.g_law_chars T.F_law_chars.kp T.b_law_chars (qCons (pVar 2) (qCons (pSl (pVar 0) (poSome pInt) poNone) (qCons (pIx oIx (pVar 3) (pOp oMod (pCallT cInt T.n_int (by decide +kernel) (qCons (pIx oIx (pVar 0) pInt) qNil)) pInt)) qNil)))))))) sNil)
      (sCons (sIf (tCmp (oEq hr.units) (pVar 4) pInt) (sOne (sSet (i := 5) sc_law_text.nd (pCall T.ok_law_chars (hr.mono (by decide)) T.g_law_chars T.F_law_chars.kp T.b_law_chars (qCons (pOp oAdd (pVar 2) pStr) (qCons (pSl (pVar 0) (poSome pInt) poNone) (qCons (pOp oMod (pCallT cInt T.n_int (by decide +kernel) (qCons (pIx oIx (pVar 0) pInt) qNil)) pInt) qNil)))))) sNil)
      (sCons (sIf (tCmp (oEq hr.units) (pVar 4) pInt) (sOne (sSet (i := 5) sc_law_text.nd (pCall T.ok_law_chars (hr.mono (by decide)) T.g_law_chars T.F_law_chars.kp T.b_law_chars (qCons pStr (qCons (pSl (pVar 0) (poSome pInt) poNone) (qCons (pOp oMod (pCallT cInt T.n_int (by decide +kernel) (qCons (pIx oIx (pVar 0) pInt) qNil)) pInt) qNil)))))) sNil)
      (sCons (sIf (tCmp (oEq hr.units) (pVar 4) pInt) (sOne (sSet (i := 5) sc_law_text.nd (pCall T.ok_law_chars (hr.mono (by decide)) T.g_law_chars T.F_law_chars.kp T.b_law_chars (qCons pStr (qCons (pSl (pVar 0) (poSome pInt) poNone) (qCons (pOp oMod (pCallT cInt T.n_int (by decide +kernel) (qCons (pIx oIx (pVar 0) pInt) qNil)) pInt) qNil)))))) sNil)
      (sCons (sIf (tCmp (oEq hr.units) (pOp oMod (pCallT cInt T.n_int (by decide +kernel) (qCons (pOp oDiv (pIx oIx (pVar 0) pInt) pInt) qNil)) pInt) pInt) (sCons (sSet (i := 6) sc_law_text.nd (pOp oMod (pCallT cInt T.n_int (by decide +kernel) (qCons (pIx oIx (pVar 0) pInt) qNil)) (pOp oAdd (pCallB cLen T.n_len (by decide +kernel) (qCons (pVar 5) qNil)) pInt)))
      (sOne (sSet (i := 5) sc_law_text.nd (pOp oAdd (pOp oAdd (pSl (pVar 5) poNone (poSome (pVar 6))) (pIx oIx (pVar 1) (pOp oMod (pCallT cInt T.n_int (by decide +kernel) (qCons (pIx oIx (pVar 0) pInt) qNil)) (pCallB cLen T.n_len (by decide +kernel) (qCons (pVar 1) qNil))))) (pSl (pVar 5) (poSome (pVar 6)) poNone))))) sNil)
      (sOne (sRet (pVar 5)))))))))))))))
theorem Tx.ok_law_is_label (T : Tx K mg) : FnOk P w K mg base CX0 2 T.f_law_is_label T.fd_law_is_label ["_law_own_text"] (spP K 1 m_law_is_label) :=
  fnP T.F_law_is_label sc_law_is_label fun cdv A outer s H E hr =>
    (sCons (sLcD (i := 1) [("_law_k", 2)] rfl sc_law_is_label.nd (iRange1 (pCallB cLen T.n_len (by decide +kernel) (qCons (pVar 0) qNil)) T.n_range) (blkOk_by (N := ["_law_own_text", "_law_dots", "_law_k"]) (sc := defScope s_law_is_label) (by decide +kernel)) (fun _ _ _ _ _ => (gName' (i := 2) sc_law_is_label.nd)) (fun _ _ _ _ _ => (ptsOne (tCmp (oEq hr.units) (pIx oIx (pVar 0) (pVar 2)) pStr))) (fun _ _ _ _ _ => (pVar 2)) (gN_ok 2))
      (sCons (sIf (tCmp (oEq hr.units) (pCallB cLen T.n_len (by decide +kernel) (qCons (pVar 1) qNil)) pInt) (sOne (sRet (pCall T.ok_law_is_name (hr.mono (by decide)) T.g_law_is_name T.F_law_is_name.kp T.b_law_is_name (qCons (pVar 0) qNil)))) sNil)
      (sOne (sRet (pAnd (pCmp (oEq hr.units) (pCallB cLen T.n_len (by decide +kernel) (qCons (pVar 1) qNil)) pInt) (pAnd (pCall T.ok_law_is_name (hr.mono (by decide)) T.g_law_is_name T.F_law_is_name.kp T.b_law_is_name (qCons (pSl (pVar 0) poNone (poSome (pIx oIx (pVar 1) pInt))) qNil)) (pOne (pCall T.ok_law_is_name (hr.mono (by decide)) T.g_law_is_name T.F_law_is_name.kp T.b_law_is_name (qCons (pSl (pVar 0) (poSome (pOp oAdd (pIx oIx (pVar 1) pInt) pInt)) poNone) qNil)))))))))
theorem Tx.oklaw (T : Tx K mg) : FnOk P w K mg base CX0 3 T.flaw T.fdlaw ["_law_script"] (spP K 1 mlaw) :=
  fnP T.Flaw sclaw fun cdv A outer s H E hr =>
    (sCons (sFor PassesOwn.never rfl (iRange1 (pCallB (cMin2 rfl) T.n_min (by decide +kernel) (qCons pInt (qCons (pCallB (cMax2 rfl) T.n_max (by decide +kernel) (qCons pInt (qCons (pCallB cLen T.n_len (by decide +kernel) (qCons (pVar 0) qNil)) qNil))) qNil))) T.n_range) (gName' (i := 1) sclaw.nd) (sCons (sSet (i := 2) sclaw.nd (pCall T.ok_law_row (hr.mono (by decide)) T.g_law_row T.F_law_row.kp T.b_law_row (qCons (pCall T.ok_law_cell (hr.mono (by decide)) T.g_law_cell T.F_law_cell.kp T.b_law_cell (qCons (pVar 0) (qCons (pVar 1) qNil))) (qCons pInt qNil))))
      (sOne (sFor PassesOwn.never rfl (iSeq (pLst (qCons (pCall T.ok_law_text (hr.mono (by decide)) T.g_law_text T.F_law_text.kp T.b_law_text (qCons (pSl (pVar 2) poNone (poSome pInt)) qNil)) (qCons (pCall T.ok_law_text (hr.mono (by decide)) T.g_law_text T.F_law_text.kp T.b_law_text (qCons (pSl (pVar 2) (poSome pInt) poNone) qNil)) qNil)))) (gName' (i := 3) sclaw.nd) (sCons (sSet (i := 4) sclaw.nd (pLst (qCons (pCall T.okis_name (hr.mono (by decide)) T.gis_name T.Fis_name.kp T.bis_name (qCons (pVar 3) qNil)) (qCons (pCall T.okis_label (hr.mono (by decide)) T.gis_label T.Fis_label.kp T.bis_label (qCons (pVar 3) qNil)) (qCons (pCall T.okis_number (hr.mono (by decide)) T.gis_number T.Fis_number.kp T.bis_number (qCons (pVar 3) qNil)) qNil)))))
      (sCons (sSet (i := 5) sclaw.nd (pLst (qCons (pCallK T.okis_name (hr.mono (by decide)) T.gis_name T.Fis_name.kp T.kis_name rfl (kCons (pVar 3) kNil)) (qCons (pCallK T.okis_label (hr.mono (by decide)) T.gis_label T.Fis_label.kp T.kis_label rfl (kCons (pVar 3) kNil)) (qCons (pCallK T.okis_number (hr.mono (by decide)) T.gis_number T.Fis_number.kp T.kis_number rfl (kCons (pVar 3) kNil)) qNil)))))
      (sCons (sSet (i := 6) sclaw.nd (pLst (qCons (pCall T.ok_law_is_name (hr.mono (by decide)) T.g_law_is_name T.F_law_is_name.kp T.b_law_is_name (qCons (pVar 3) qNil)) (qCons (pCall T.ok_law_is_label (hr.mono (by decide)) T.g_law_is_label T.F_law_is_label.kp T.b_law_is_label (qCons (pVar 3) qNil)) (qCons (pCall T.ok_law_is_number (hr.mono (by decide)) T.g_law_is_number T.F_law_is_number.kp T.b_law_is_number (qCons (pVar 3) qNil)) qNil)))))
      (sOne (sFor PassesOwn.never rfl (iRange1 pInt T.n_range) (gName' (i := 7) sclaw.nd) (sOne (sIf (tW (tOrW (tNotT (tVal (pCall T.ok_law_told (hr.mono (by decide)) T.g_law_told T.F_law_told.kp T.b_law_told (qCons (pIx oIx (pVar 4) (pVar 7)) (qCons (pIx oIx (pVar 6) (pVar 7)) qNil))))) (tOr1 (tNotT (tVal (pCall T.ok_law_told (hr.mono (by decide)) T.g_law_told T.F_law_told.kp T.b_law_told (qCons (pIx oIx (pVar 5) (pVar 7)) (qCons (pIx oIx (pVar 6) (pVar 7)) qNil)))))))) (sOne (sRet pBl)) sNil)))))))))))
      (sOne (sRet pBl)))
end
theorem tx_mk {K : PySem.W.Frag} {h : Heap} {mg : Str → Option Value} (X : K.In h) (G : h.Ns mainGlobals mg)
    (z0 : PySem.W.nsIn K mainGlobals "all" = some none)
    (z1 : PySem.W.nsIn K mainGlobals "bool" = some none)
    (z2 : PySem.W.nsIn K mainGlobals "int" = some none)
    (z3 : PySem.W.nsIn K mainGlobals "isinstance" = some none)
    (z4 : PySem.W.nsIn K mainGlobals "len" = some none)
    (z5 : PySem.W.nsIn K mainGlobals "max" = some none)
    (z6 : PySem.W.nsIn K mainGlobals "min" = some none)
    (z7 : PySem.W.nsIn K mainGlobals "range" = some none)
    {t0 : Tok} (y0 : PySem.W.nsIn K mainGlobals "LETTERS" = some (some (.str "abcdefghijklmnopqrstuvwxyz" t0)))
    {t1 : Tok} (y1 : PySem.W.nsIn K mainGlobals "DIGITS" = some (some (.str "0123456789" t1)))
    {t2 : Tok} (y2 : PySem.W.nsIn K mainGlobals "LONGEST_NAME" = some (some (.int 12 t2)))
    {f0 : Addr} {oc0 kV0 dc0 pm0 cd0 ct0 : Value} {od0 an0 : Option Addr} {sl0 : Array (Option Value)}
    (a0 : PySem.W.nsIn K mainGlobals "is_name" = some (some (.ref f0))) (l0 : K.lookup f0 = some ⟨oc0, od0, .func (PySem.W.fnOf "is_name" "is_name" (defArgs sis_name) (defBody sis_name) (defScope sis_name) .none kV0 dc0 pm0 an0 cd0 ct0), sl0⟩) (c0 : PySem.W.codeIn K cd0 "is_name" = true) (k0 : PySem.W.keepIn K (.ref f0) = true)
    {f1 : Addr} {oc1 kV1 dc1 pm1 cd1 ct1 : Value} {od1 an1 : Option Addr} {sl1 : Array (Option Value)}
    (a1 : PySem.W.nsIn K mainGlobals "is_number" = some (some (.ref f1))) (l1 : K.lookup f1 = some ⟨oc1, od1, .func (PySem.W.fnOf "is_number" "is_number" (defArgs sis_number) (defBody sis_number) (defScope sis_number) .none kV1 dc1 pm1 an1 cd1 ct1), sl1⟩) (c1 : PySem.W.codeIn K cd1 "is_number" = true) (k1 : PySem.W.keepIn K (.ref f1) = true)
    {f2 : Addr} {oc2 kV2 dc2 pm2 cd2 ct2 : Value} {od2 an2 : Option Addr} {sl2 : Array (Option Value)}
    (a2 : PySem.W.nsIn K mainGlobals "_law_cell" = some (some (.ref f2))) (l2 : K.lookup f2 = some ⟨oc2, od2, .func (PySem.W.fnOf "_law_cell" "_law_cell" (defArgs s_law_cell) (defBody s_law_cell) (defScope s_law_cell) .none kV2 dc2 pm2 an2 cd2 ct2), sl2⟩) (c2 : PySem.W.codeIn K cd2 "_law_cell" = true) (k2 : PySem.W.keepIn K (.ref f2) = true)
    {f3 : Addr} {oc3 kV3 dc3 pm3 cd3 ct3 : Value} {od3 an3 : Option Addr} {sl3 : Array (Option Value)}
    (a3 : PySem.W.nsIn K mainGlobals "_law_row" = some (some (.ref f3))) (l3 : K.lookup f3 = some ⟨oc3, od3, .func (PySem.W.fnOf "_law_row" "_law_row" (defArgs s_law_row) (defBody s_law_row) (defScope s_law_row) .none kV3 dc3 pm3 an3 cd3 ct3), sl3⟩) (c3 : PySem.W.codeIn K cd3 "_law_row" = true) (k3 : PySem.W.keepIn K (.ref f3) = true)
    {f4 : Addr} {oc4 kV4 dc4 pm4 cd4 ct4 : Value} {od4 an4 : Option Addr} {sl4 : Array (Option Value)}
    (a4 : PySem.W.nsIn K mainGlobals "_law_chars" = some (some (.ref f4))) (l4 : K.lookup f4 = some ⟨oc4, od4, .func (PySem.W.fnOf "_law_chars" "_law_chars" (defArgs s_law_chars) (defBody s_law_chars) (defScope s_law_chars) .none kV4 dc4 pm4 an4 cd4 ct4), sl4⟩) (c4 : PySem.W.codeIn K cd4 "_law_chars" = true) (k4 : PySem.W.keepIn K (.ref f4) = true)
    {f5 : Addr} {oc5 kV5 dc5 pm5 cd5 ct5 : Value} {od5 an5 : Option Addr} {sl5 : Array (Option Value)}
    (a5 : PySem.W.nsIn K mainGlobals "_law_is_name" = some (some (.ref f5))) (l5 : K.lookup f5 = some ⟨oc5, od5, .func (PySem.W.fnOf "_law_is_name" "_law_is_name" (defArgs s_law_is_name) (defBody s_law_is_name) (defScope s_law_is_name) .none kV5 dc5 pm5 an5 cd5 ct5), sl5⟩) (c5 : PySem.W.codeIn K cd5 "_law_is_name" = true) (k5 : PySem.W.keepIn K (.ref f5) = true)
    {f6 : Addr} {oc6 kV6 dc6 pm6 cd6 ct6 : Value} {od6 an6 : Option Addr} {sl6 : Array (Option Value)}
    (a6 : PySem.W.nsIn K mainGlobals "_law_is_number" = some (some (.ref f6))) (l6 : K.lookup f6 = some ⟨oc6, od6, .func (PySem.W.fnOf "_law_is_number" "_law_is_number" (defArgs s_law_is_number) (defBody s_law_is_number) (defScope s_law_is_number) .none kV6 dc6 pm6 an6 cd6 ct6), sl6⟩) (c6 : PySem.W.codeIn K cd6 "_law_is_number" = true) (k6 : PySem.W.keepIn K (.ref f6) = true)
    {f7 : Addr} {oc7 kV7 dc7 pm7 cd7 ct7 : Value} {od7 an7 : Option Addr} {sl7 : Array (Option Value)}
    (a7 : PySem.W.nsIn K mainGlobals "_law_told" = some (some (.ref f7))) (l7 : K.lookup f7 = some ⟨oc7, od7, .func (PySem.W.fnOf "_law_told" "_law_told" (defArgs s_law_told) (defBody s_law_told) (defScope s_law_told) .none kV7 dc7 pm7 an7 cd7 ct7), sl7⟩) (c7 : PySem.W.codeIn K cd7 "_law_told" = true) (k7 : PySem.W.keepIn K (.ref f7) = true)
    {f8 : Addr} {oc8 kV8 dc8 pm8 cd8 ct8 : Value} {od8 an8 : Option Addr} {sl8 : Array (Option Value)}
    (a8 : PySem.W.nsIn K mainGlobals "is_label" = some (some (.ref f8))) (l8 : K.lookup f8 = some ⟨oc8, od8, .func (PySem.W.fnOf "is_label" "is_label" (defArgs sis_label) (defBody sis_label) (defScope sis_label) .none kV8 dc8 pm8 an8 cd8 ct8), sl8⟩) (c8 : PySem.W.codeIn K cd8 "is_label" = true) (k8 : PySem.W.keepIn K (.ref f8) = true)
    {f9 : Addr} {oc9 kV9 dc9 pm9 cd9 ct9 : Value} {od9 an9 : Option Addr} {sl9 : Array (Option Value)}
    (a9 : PySem.W.nsIn K mainGlobals "_law_text" = some (some (.ref f9))) (l9 : K.lookup f9 = some ⟨oc9, od9, .func (PySem.W.fnOf "_law_text" "_law_text" (defArgs s_law_text) (defBody s_law_text) (defScope s_law_text) .none kV9 dc9 pm9 an9 cd9 ct9), sl9⟩) (c9 : PySem.W.codeIn K cd9 "_law_text" = true) (k9 : PySem.W.keepIn K (.ref f9) = true)
    {f10 : Addr} {oc10 kV10 dc10 pm10 cd10 ct10 : Value} {od10 an10 : Option Addr} {sl10 : Array (Option Value)}
    (a10 : PySem.W.nsIn K mainGlobals "_law_is_label" = some (some (.ref f10))) (l10 : K.lookup f10 = some ⟨oc10, od10, .func (PySem.W.fnOf "_law_is_label" "_law_is_label" (defArgs s_law_is_label) (defBody s_law_is_label) (defScope s_law_is_label) .none kV10 dc10 pm10 an10 cd10 ct10), sl10⟩) (c10 : PySem.W.codeIn K cd10 "_law_is_label" = true) (k10 : PySem.W.keepIn K (.ref f10) = true)
    {f11 : Addr} {oc11 kV11 dc11 pm11 cd11 ct11 : Value} {od11 an11 : Option Addr} {sl11 : Array (Option Value)}
    (a11 : PySem.W.nsIn K mainGlobals "law" = some (some (.ref f11))) (l11 : K.lookup f11 = some ⟨oc11, od11, .func (PySem.W.fnOf "law" "law" (defArgs slaw) (defBody slaw) (defScope slaw) .none kV11 dc11 pm11 an11 cd11 ct11), sl11⟩) (c11 : PySem.W.codeIn K cd11 "law" = true) (k11 : PySem.W.keepIn K (.ref f11) = true)
    : ∃ T : Tx K mg, ∀ (s : Shared) (v : Value), BindsTo s T.fdlaw ⟨[v], []⟩ [("_law_script", v)] := by
  have F0 := fun_mk (st := sis_name) l0 c0 k0
  have b0 := F0.binds (ps := ["text"]) fun _ _ _ _ _ _ us hl => match us, hl with | [_], _ => rfl
  have q0 := kbn_of (ps := ["text"]) F0 fun _ _ _ _ _ _ ws hl => match ws, hl with | [_], _ => rfl
  have F1 := fun_mk (st := sis_number) l1 c1 k1
  have b1 := F1.binds (ps := ["text"]) fun _ _ _ _ _ _ us hl => match us, hl with | [_], _ => rfl
  have q1 := kbn_of (ps := ["text"]) F1 fun _ _ _ _ _ _ ws hl => match ws, hl with | [_], _ => rfl
  have F2 := fun_mk (st := s_law_cell) l2 c2 k2
  have b2 := F2.binds (ps := ["_law_script", "_law_k"]) fun _ _ _ _ _ _ us hl => match us, hl with | [_, _], _ => rfl
  have F3 := fun_mk (st := s_law_row) l3 c3 k3
  have b3 := F3.binds (ps := ["_law_cell_here", "_law_many"]) fun _ _ _ _ _ _ us hl => match us, hl with | [_, _], _ => rfl
  have F4 := fun_mk (st := s_law_chars) l4 c4 k4
  have b4 := F4.binds (ps := ["_law_menu", "_law_numbers", "_law_size"]) fun _ _ _ _ _ _ us hl => match us, hl with | [_, _, _], _ => rfl
  have F5 := fun_mk (st := s_law_is_name) l5 c5 k5
  have b5 := F5.binds (ps := ["_law_own_text"]) fun _ _ _ _ _ _ us hl => match us, hl with | [_], _ => rfl
  have F6 := fun_mk (st := s_law_is_number) l6 c6 k6
  have b6 := F6.binds (ps := ["_law_own_text"]) fun _ _ _ _ _ _ us hl => match us, hl with | [_], _ => rfl
  have F7 := fun_mk (st := s_law_told) l7 c7 k7
  have b7 := F7.binds (ps := ["_law_actual", "_law_expected"]) fun _ _ _ _ _ _ us hl => match us, hl with | [_, _], _ => rfl
  have F8 := fun_mk (st := sis_label) l8 c8 k8
  have b8 := F8.binds (ps := ["text"]) fun _ _ _ _ _ _ us hl => match us, hl with | [_], _ => rfl
  have q8 := kbn_of (ps := ["text"]) F8 fun _ _ _ _ _ _ ws hl => match ws, hl with | [_], _ => rfl
  have F9 := fun_mk (st := s_law_text) l9 c9 k9
  have b9 := F9.binds (ps := ["_law_row_here"]) fun _ _ _ _ _ _ us hl => match us, hl with | [_], _ => rfl
  have F10 := fun_mk (st := s_law_is_label) l10 c10 k10
  have b10 := F10.binds (ps := ["_law_own_text"]) fun _ _ _ _ _ _ us hl => match us, hl with | [_], _ => rfl
  have F11 := fun_mk (st := slaw) l11 c11 k11
  have b11 := F11.binds (ps := ["_law_script"]) fun _ _ _ _ _ _ us hl => match us, hl with | [_], _ => rfl
  exact ⟨{ n_all := PySem.W.mg_none_of X G z0, n_bool := PySem.W.mg_none_of X G z1, n_int := PySem.W.mg_none_of X G z2, n_isinstance := PySem.W.mg_none_of X G z3, n_len := PySem.W.mg_none_of X G z4, n_max := PySem.W.mg_none_of X G z5, n_min := PySem.W.mg_none_of X G z6, n_range := PySem.W.mg_none_of X G z7, t_LETTERS := t0, c_LETTERS := PySem.W.mg_of X G y0, t_DIGITS := t1, c_DIGITS := PySem.W.mg_of X G y1, t_LONGEST_NAME := t2, c_LONGEST_NAME := PySem.W.mg_of X G y2, fis_name := f0, fdis_name := _, Fis_name := F0, gis_name := PySem.W.mg_of X G a0, bis_name := b0, kis_name := q0, fis_number := f1, fdis_number := _, Fis_number := F1, gis_number := PySem.W.mg_of X G a1, bis_number := b1, kis_number := q1, f_law_cell := f2, fd_law_cell := _, F_law_cell := F2, g_law_cell := PySem.W.mg_of X G a2, b_law_cell := b2, f_law_row := f3, fd_law_row := _, F_law_row := F3, g_law_row := PySem.W.mg_of X G a3, b_law_row := b3, f_law_chars := f4, fd_law_chars := _, F_law_chars := F4, g_law_chars := PySem.W.mg_of X G a4, b_law_chars := b4, f_law_is_name := f5, fd_law_is_name := _, F_law_is_name := F5, g_law_is_name := PySem.W.mg_of X G a5, b_law_is_name := b5, f_law_is_number := f6, fd_law_is_number := _, F_law_is_number := F6, g_law_is_number := PySem.W.mg_of X G a6, b_law_is_number := b6, f_law_told := f7, fd_law_told := _, F_law_told := F7, g_law_told := PySem.W.mg_of X G a7, b_law_told := b7, fis_label := f8, fdis_label := _, Fis_label := F8, gis_label := PySem.W.mg_of X G a8, bis_label := b8, kis_label := q8, f_law_text := f9, fd_law_text := _, F_law_text := F9, g_law_text := PySem.W.mg_of X G a9, b_law_text := b9, f_law_is_label := f10, fd_law_is_label := _, F_law_is_label := F10, g_law_is_label := PySem.W.mg_of X G a10, b_law_is_label := b10, flaw := f11, fdlaw := _, Flaw := F11, glaw := PySem.W.mg_of X G a11, blaw := b11 }, fun s v => .of_eq rfl⟩
end K00

namespace K00
open PySem L2 PD
local macro_rules | `(tactic| walk_at "ev") => `(tactic| (try simp only [runP, runO, outO, O.toD, env0, List.map_cons, List.map_nil, List.length_cons, List.length_nil, List.replicate, List.cons_append, List.nil_append, rtV, andV, orV, notV, ifV, chn, kI, kS, kB, cB, aCons, gv, aNil, b2, b1,
  List.getElem?_cons_zero, List.getElem?_cons_succ, Option.bind_some, Option.map_some, lenD, leI, ltI, gtI, geI, i2, s2, addD, addI, addS, orD, subI, mulI, modI, divI, powI, if_true, if_false, sq, stV, stO, app, fz, ifS, asB, andT, orT, notT, forS, iOf, seqD, mkLst, mkLstO, mkTup, len?, intD, max2, min2, reduceIte,
  List.set_cons_zero, List.set_cons_succ, Option.map_none, Option.bind_none, wipeO, slc, part, noPart, slD, ixD, m1, eq_str, eq_int, eq_bl, ne_str, ne_int, ne_bl, rng1, gN, Nat.reduceAdd, Nat.reduceSub, Nat.zero_le]))
/-! ### names -/
abbrev L : List Nat := (Str.ofString "abcdefghijklmnopqrstuvwxyz").cps.toList
def nameB (t : List Nat) : Bool := decide (1 ≤ t.length ∧ t.length ≤ 12) && t.all fun c => decide (c ∈ L)
theorem comp_in (Z : Str) (i : Nat) (ρ : Ev) (hi : i < ρ.length) (t : Str) : comp (gN i) yes (b2 (gv i) (kS Z) inD) ρ (signs t) = some (t.cps.toList.map fun c => .bl (decide (c ∈ Z.cps.toList))) := by
  rw [comp_map (e := fun d => ρ.set i (.dat d)) (h := fun d => match d with | .str z => .bl (Txt.has Z z) | _ => .non) (signs t)]
  · unfold signs
    rw [List.map_map]
    congr 1
    apply List.map_congr_left
    intro c _
    show D.bl (Txt.has Z ⟨#[c]⟩) = _
    rw [has_sign]
  · intro d hd
    unfold signs at hd
    obtain ⟨c, _, rfl⟩ := List.mem_map.mp hd
    refine ⟨rfl, ?_⟩
    simp only [b2, gv, List.getElem?_set_self hi, Option.bind_some, kS, inD, inB, Option.map_some]
theorem small_line {n : Nat} (h : n ≤ 1000) : n ≤ sizeLine := Nat.le_trans h (by decide)
theorem lc_in (Z : Str) (i j : Nat) (ρ : Ev) (hi : i < ρ.length) (hw : okW ρ [i] = true) (t : Str) (ht : gv j ρ = some (.str t)) (hl : t.length ≤ 1000) :
    lcD (iOf (gv j)) (gN i) yes (b2 (gv i) (kS Z) inD) [i] ρ = some (.lst ((t.cps.toList.map fun c => decide (c ∈ Z.cps.toList)).map .bl)) := by
  unfold lcD
  rw [if_pos hw]
  simp only [iOf, ht, Option.bind_some, seqD]
  rw [comp_in Z i _ (by rw [wipeO_length]; exact hi) t, Option.bind_some, if_pos (by rw [List.length_map, str_len]; exact small_line hl), List.map_map]
  rfl
theorem is_name_eq (t : Str) (h : t.length ≤ 1000) : mis_name [.str t] = some (.bl (nameB t.cps.toList)) := by
  have hs := small_line h
  have e := lc_in "abcdefghijklmnopqrstuvwxyz" 1 0 [.dat (.str t), .unk] (by simp) rfl t rfl h
  unfold mis_name
  walk_at "ev"
  rw [if_pos hs]
  simp only [Option.bind_some]
  unfold nameB
  rw [str_len]
  by_cases h1 : 1 ≤ t.length
  · rw [decide_eq_true (show (1 : Int) ≤ (t.length : Int) by omega)]
    simp only [Option.bind_some]
    by_cases h2 : t.length ≤ 12
    · rw [decide_eq_true (show (t.length : Int) ≤ 12 by omega), decide_eq_true (show 1 ≤ t.length ∧ t.length ≤ 12 from ⟨h1, h2⟩)]
      simp only [e, Option.bind_some, allD, bls_map, Option.map_some, outO, O.toD, Bool.true_and, List.all_map]
      rfl
    · rw [decide_eq_false (show ¬ (t.length : Int) ≤ 12 by omega), decide_eq_false (show ¬ (1 ≤ t.length ∧ t.length ≤ 12) by omega)]
      rfl
  · rw [decide_eq_false (show ¬ (1 : Int) ≤ (t.length : Int) by omega), decide_eq_false (show ¬ (1 ≤ t.length ∧ t.length ≤ 12) by omega)]
    rfl
def sgn (c : Nat) : D := .str ⟨#[c]⟩
theorem nin_sgn (Z : Str) (c : Nat) : ninD (sgn c) (.str Z) = some (.bl (!decide (c ∈ Z.cps.toList))) := by
  unfold sgn ninD inB
  simp only [Option.map_some, has_sign]
theorem loop_out (Z : Str) (x : O) : ∀ (cs : List Nat) (y : O), ∃ y', loop (gN 1) (ifS (asB (b2 (gv 1) (kS Z) ninD)) (rtV (kB false)) skip) (cs.map sgn) [x, y] =
    if (cs.all fun c => decide (c ∈ Z.cps.toList)) = true then some (.nx [x, y']) else some (.rt (.dat (.bl false)) [x, y'])
  | [], y => ⟨y, rfl⟩
  | c :: cs, y => by
    rw [List.map_cons]
    unfold loop
    walk_at "ev"
    rw [nin_sgn]
    by_cases h : c ∈ Z.cps.toList
    · obtain ⟨y', e⟩ := loop_out Z x cs (.dat (sgn c))
      refine ⟨y', ?_⟩
      rw [List.all_cons, decide_eq_true h, Bool.true_and, ← e]
      rfl
    · refine ⟨.dat (sgn c), ?_⟩
      rw [List.all_cons, decide_eq_false h, Bool.false_and]
      rfl
theorem signs_eq (t : Str) : signs t = t.cps.toList.map sgn := rfl
theorem law_is_name_eq (t : Str) (h : t.length ≤ 1000) : m_law_is_name [.str t] = some (.bl (nameB t.cps.toList)) := by
  have hs := small_line h
  obtain ⟨y', e⟩ := loop_out "abcdefghijklmnopqrstuvwxyz" (.dat (.str t)) t.cps.toList .unk
  unfold m_law_is_name
  walk_at "ev"
  rw [signs_eq, e]
  unfold nameB
  by_cases ha : (t.cps.toList.all fun c => decide (c ∈ L)) = true
  · rw [if_pos ha, ha, Bool.and_true]
    walk_at "ev"
    rw [if_pos hs, str_len]
    walk_at "ev"
    by_cases h1 : 0 < t.length
    · rw [decide_eq_true (show (0 : Int) < (t.length : Int) by omega)]
      walk_at "ev"
      congr 2
      rw [decide_eq_decide]
      omega
    · rw [decide_eq_false (show ¬ (0 : Int) < (t.length : Int) by omega), decide_eq_false (show ¬ (1 ≤ t.length ∧ t.length ≤ 12) by omega)]
      rfl
  · rw [if_neg ha, Bool.eq_false_iff.mpr ha, Bool.and_false]
    rfl
/-! ### numbers -/
abbrev G : List Nat := (Str.ofString "0123456789").cps.toList
def numB (t : List Nat) : Bool := t.all (fun c => decide (c ∈ G)) && (decide (t.length = 1) || (decide (1 < t.length) && !decide (t[0]? = some 48)))
theorem is_number_eq (t : Str) (h : t.length ≤ 1000) : mis_number [.str t] = some (.bl (numB t.cps.toList)) := by
  have hs := small_line h
  have e := lc_in "0123456789" 2 0 [.dat (.str t), .unk, .unk] (by simp) rfl t rfl h
  unfold mis_number
  walk_at "ev"
  unfold numB
  by_cases h0 : t = Str.ofString ""
  · subst h0
    rw [decide_eq_true rfl]
    rfl
  · have hn : 0 < t.length := by
      cases q : t.cps.toList with
      | nil => exact absurd ((str_eq t _).mpr (q.trans rfl)) h0
      | cons c cs => rw [← str_len, q]; simp
    rw [decide_eq_false h0]
    simp only [Bool.not_false, e, Option.bind_some, allD, bls_map, Option.map_some, List.all_map]
    walk_at "ev"
    have eg : (t.cps.toList.all ((id : Bool → Bool) ∘ fun c => decide (c ∈ (Str.ofString "0123456789").cps.toList))) = t.cps.toList.all fun c => decide (c ∈ G) := rfl
    rw [eg]
    cases ha : (t.cps.toList.all fun c => decide (c ∈ G)) with
    | false => rw [Bool.false_and]; rfl
    | true =>
      rw [Bool.true_and]
      simp only []
      obtain ⟨c, hc⟩ : ∃ c, t.cps.toList[0]? = some c := ⟨t.cps.toList[0]'(by rw [str_len]; exact hn), List.getElem?_eq_getElem _⟩
      have hat : atI t.cps.toList 0 = some c := atI_nat (j := 0) hc
      rw [hc]
      by_cases hz : t = Str.ofString "0"
      · subst hz
        rw [decide_eq_true rfl]
        rfl
      · rw [decide_eq_false hz]
        simp only [if_pos hs, hat, Option.map_some, Option.bind_some]
        walk_at "ev"
        have ec : decide ((⟨#[c]⟩ : Str) = Str.ofString "0") = decide (some c = some 48) := by
          rw [decide_eq_decide, str_eq]
          constructor
          · intro z
            have : [c] = [48] := z
            simpa using this
          · intro z
            have : c = 48 := by simpa using z
            subst this
            rfl
        rw [ec]
        congr 2
        rw [str_len]
        by_cases h1 : t.length = 1
        · rw [decide_eq_true h1, Bool.true_or]
          have : ¬ (some c = some 48) := fun z => hz (by
            rw [str_eq]
            have hl : t.cps.toList.length = 1 := by rw [str_len]; exact h1
            obtain ⟨d, hd⟩ := List.length_eq_one_iff.mp hl
            rw [hd] at hc
            have : d = c := by simpa using hc
            rw [hd, this, Option.some.inj z]
            rfl)
          rw [decide_eq_false this]
          rfl
        · rw [decide_eq_false h1, decide_eq_true (show 1 < t.length by omega), Bool.false_or, Bool.true_and]
theorem law_is_number_eq (t : Str) (h : t.length ≤ 1000) : m_law_is_number [.str t] = some (.bl (numB t.cps.toList)) := by
  have hs := small_line h
  obtain ⟨y', e⟩ := loop_out "0123456789" (.dat (.str t)) t.cps.toList .unk
  unfold m_law_is_number
  walk_at "ev"
  rw [signs_eq, e]
  unfold numB
  by_cases ha : (t.cps.toList.all fun c => decide (c ∈ G)) = true
  · rw [if_pos ha, ha, Bool.true_and]
    walk_at "ev"
    rw [if_pos hs, str_len]
    walk_at "ev"
    by_cases h1 : t.length = 1
    · rw [decide_eq_true (show (t.length : Int) = 1 by omega), decide_eq_true h1]
      rfl
    · rw [decide_eq_false (show ¬ (t.length : Int) = 1 by omega), decide_eq_false h1, Bool.false_or]
      walk_at "ev"
      by_cases h2 : 1 < t.length
      · rw [decide_eq_true (show (1 : Int) < (t.length : Int) by omega), decide_eq_true h2, Bool.true_and]
        obtain ⟨c, hc⟩ : ∃ c, t.cps.toList[0]? = some c := ⟨t.cps.toList[0]'(by rw [str_len]; omega), List.getElem?_eq_getElem _⟩
        have hat : atI t.cps.toList 0 = some c := atI_nat (j := 0) hc
        simp only [hat, if_pos hs, Option.map_some, Option.bind_some]
        walk_at "ev"
        rw [hc]
        congr 3
        rw [decide_eq_decide, str_eq]
        constructor
        · intro z
          have : [c] = [48] := z
          simpa using this
        · intro z
          have : c = 48 := by simpa using z
          subst this
          rfl
      · rw [decide_eq_false (show ¬ (1 : Int) < (t.length : Int) by omega), decide_eq_false h2]
        rfl
  · rw [if_neg ha, Bool.eq_false_iff.mpr ha, Bool.false_and]
    rfl
end K00

namespace K00
open PySem L2 PD
local macro_rules | `(tactic| walk_at "ev") => `(tactic| (try simp only [runP, runO, outO, O.toD, env0, List.map_cons, List.map_nil, List.length_cons, List.length_nil, List.replicate, List.cons_append, List.nil_append, rtV, andV, orV, notV, ifV, chn, kI, kS, kB, cB, aCons, gv, aNil, b2, b1,
  List.getElem?_cons_zero, List.getElem?_cons_succ, Option.bind_some, Option.map_some, lenD, leI, ltI, gtI, geI, i2, s2, addD, addI, addS, orD, subI, mulI, modI, divI, powI, if_true, if_false, sq, stV, stO, app, fz, ifS, asB, andT, orT, notT, forS, iOf, seqD, mkLst, mkLstO, mkTup, len?, intD, max2, min2, reduceIte,
  List.set_cons_zero, List.set_cons_succ, Option.map_none, Option.bind_none, wipeO, slc, part, noPart, slD, ixD, m1, eq_str, eq_int, eq_bl, ne_str, ne_int, ne_bl, rng1, gN, Nat.reduceAdd, Nat.reduceSub, Nat.zero_le]))
theorem law_cell_eq (ns : List Int) (k : Nat) : m_law_cell [.lst (ns.map .int), .int k] = some (.int (ns.getD k 0)) := by
  unfold m_law_cell
  walk_at "ev"
  rw [List.length_map]
  by_cases h : k < ns.length
  · rw [decide_eq_true (show (k : Int) < (ns.length : Int) by omega)]
    have : atI (ns.map D.int) (k : Int) = some (.int (ns.getD k 0)) := atI_nat (by rw [List.getElem?_map, List.getElem?_eq_getElem h]; simp [h])
    simp only [this]
    walk_at "ev"
  · rw [decide_eq_false (show ¬ (k : Int) < (ns.length : Int) by omega)]
    walk_at "ev"
    rw [show ns.getD k 0 = 0 by simp [List.getD_eq_getElem?_getD, List.getElem?_eq_none (show ns.length ≤ k by omega)]]
theorem law_row_ex (c : Int) (n : Nat) (hn : n ≤ 1000) : ∃ rs : List Int, m_law_row [.int c, .int n] = some (.lst (rs.map .int)) ∧ rs.length = n ∧ ∀ r ∈ rs, 0 ≤ r ∧ r < 1000 := by
  obtain ⟨d, e, rs, rfl, hl, hr⟩ : ∃ d, m_law_row [.int c, .int n] = some d ∧ ∃ rs : List Int, d = .lst (rs.map .int) ∧ rs.length = n ∧ ∀ r ∈ rs, 0 ≤ r ∧ r < 1000 := by
    refine runP_of ?_
    unfold b_law_row
    refine Rn.sq (Rn.stO (o := .lst []) rfl ?_)
    refine Rn.sq (Rn.st (d := .int (c % 2147483629)) rfl ?_)
    refine Rn.sq (Rn.st (d := .int (c - 10 ^ 18)) (by walk_at "ev"; rfl) ?_)
    refine Rn.sq (Rn.for (ds := rangeD 0 n) (by
        show rng1 (gv 1) [.dat (.int c), .dat (.int n), _, _, _, _, _] = _
        walk_at "ev"
        rw [if_pos (by omega)]
        rfl) (fun i ρ => ∃ (rs : List Int) (s t : Int) (x y : O), ρ = [.dat (.int c), .dat (.int n), .lst (rs.map fun r => .dat (.int r)), .dat (.int s), .dat (.int t), x, y] ∧ rs.length = i ∧ ∀ r ∈ rs, 0 ≤ r ∧ r < 1000)
      ⟨[], c % 2147483629, c - 10 ^ 18, .unk, .unk, rfl, rfl, fun r h => nomatch h⟩ (fun i d ρ hd hI => ?_) (fun ρ hI => ?_))
    · obtain ⟨hi, rfl⟩ := range_get hd
      obtain ⟨rs, s, t, x, y, rfl, hl, hr⟩ := hI
      refine ⟨_, rfl, ?_⟩
      refine Rn.sq (Rn.st (d := .int ((s * 48271 + 977 * (0 + (i : Int)) + 12345) % 2147483647)) (by
        walk_at "ev"
        rw [okMulR (by decide), okMulL (by decide)]
        rfl) ?_)
      generalize (s * 48271 + 977 * (0 + (i : Int)) + 12345) % 2147483647 = s'
      refine Rn.sq (Rn.st (d := .int ((s' * 69621 + 31 * (0 + (i : Int)) + 7) % 2147483629)) (by
        walk_at "ev"
        rw [okMulR (by decide), okMulL (by decide)]
        rfl) ?_)
      generalize (s' * 69621 + 31 * (0 + (i : Int)) + 7) % 2147483629 = m
      obtain ⟨v, hv, hv1, hv2⟩ : ∃ v : Int, ifV (asB (b2 (gv 0) (b2 (kI 10) (kI 18) powI) geI)) (b2 (cB (aCons (gv 4) aNil) intD) (kI 1000) modI) (b2 (cB (aCons (b2 (gv 6) (kI 4099) divI) aNil) intD) (kI 1000) modI)
          [.dat (.int c), .dat (.int n), .lst (rs.map fun r => .dat (.int r)), .dat (.int s'), .dat (.int t), .dat (.int (0 + (i : Int))), .dat (.int m)] = some (.int v) ∧ 0 ≤ v ∧ v < 1000 := by
        have et : asB (b2 (gv 0) (b2 (kI 10) (kI 18) powI) geI) [.dat (.int c), .dat (.int n), .lst (rs.map fun r => .dat (.int r)), .dat (.int s'), .dat (.int t), .dat (.int (0 + (i : Int))), .dat (.int m)] = some (decide ((10 : Int) ^ 18 ≤ c)) := rfl
        unfold ifV
        rw [et]
        by_cases hc : (10 : Int) ^ 18 ≤ c
        · rw [decide_eq_true hc]
          exact ⟨t % 1000, rfl, Int.emod_nonneg _ (by decide), Int.emod_lt_of_pos _ (by decide)⟩
        · rw [decide_eq_false hc]
          exact ⟨m / 4099 % 1000, rfl, Int.emod_nonneg _ (by decide), Int.emod_lt_of_pos _ (by decide)⟩
      refine Rn.sq (Rn.app hv rfl (by rw [List.length_map, hl]; exact Nat.lt_of_lt_of_le (show i < 1000 by omega) (by decide)) ?_)
      refine Rn.st (d := .int (t / 1000)) (by walk_at "ev"; rfl) ?_
      refine ⟨rs ++ [v], s', t / 1000, .dat (.int (0 + (i : Int))), .dat (.int m), ?_, by simp [hl], fun r hm => ?_⟩
      · rw [List.map_append]; rfl
      · rcases List.mem_append.mp hm with hm | hm
        · exact hr r hm
        · have : r = v := by simpa using hm
          subst this; exact ⟨hv1, hv2⟩
    · obtain ⟨rs, s, t, x, y, rfl, hl, hr⟩ := hI
      refine Rn.fz (o := .lst (rs.map fun r => .dat (.int r))) (d := .lst (rs.map .int)) rfl (by unfold O.toD; rw [toDs_ints]; rfl) ?_
      refine Rn.ret (d := .lst (rs.map .int)) rfl ?_
      exact ⟨_, _, rfl, rfl, rs, rfl, by simpa [rangeD] using hl, hr⟩
  exact ⟨rs, e, hl, hr⟩
/-! ### texts -/
theorem join_len : ∀ (ts : List Str), (∀ t ∈ ts, t.length = 1) → (Txt.join "" ts).length ≤ ts.length := fun ts h => by
  show (Builtin.Str.glued "" ts).length ≤ _
  rw [StrLaws.glued_eq_join]
  refine Nat.le_trans (StrLaws.join_length_le "" ts) ?_
  have e : ∀ us : List Str, (∀ t ∈ us, t.length = 1) → (us.map (·.length)).sum = us.length := fun us => by
    induction us with
    | nil => intro _; rfl
    | cons u us ih => intro h; rw [List.map_cons, List.sum_cons, ih fun t ht => h t (List.mem_cons_of_mem _ ht), h u List.mem_cons_self, List.length_cons]; omega
  rw [e ts h, show (Str.ofString "").length = 0 from rfl]
  omega
theorem law_chars_ex (menu : Str) (rs : List Int) (n : Nat) (hm : 0 < menu.length) (hm2 : menu.length ≤ 1000) (hn : n ≤ rs.length) (hn2 : n ≤ 1000) : ∃ t : Str, m_law_chars [.str menu, .lst (rs.map .int), .int n] = some (.str t) ∧ t.length ≤ n := by
  have hs := small_line hm2
  obtain ⟨ys, ey, ly, ay⟩ := comp_ex (g := gN 3) (f := b2 (gv 0) (b2 (cB (aCons (b2 (gv 1) (gv 3) ixD) aNil) intD) (cB (aCons (gv 0) aNil) lenD) modI) ixD) (ρ := [.dat (.str menu), .dat (.lst (rs.map .int)), .dat (.int n), .unk]) (fun _ y => ∃ c : Nat, y = .str ⟨#[c]⟩) (rangeD 0 n) 0 (fun i d h => by
    obtain ⟨hi, rfl⟩ := range_get h
    have hi2 : i < rs.length := by omega
    have e1 : atI (rs.map D.int) (0 + (i : Int)) = some (.int rs[i]) := by
      rw [Int.zero_add]
      exact atI_nat (by rw [List.getElem?_map, List.getElem?_eq_getElem hi2]; rfl)
    have hr0 : 0 ≤ rs[i] % (menu.length : Int) := Int.emod_nonneg _ (by omega)
    have hr1 : rs[i] % (menu.length : Int) < (menu.length : Int) := Int.emod_lt_of_pos _ (by omega)
    obtain ⟨j, hj⟩ := Int.eq_ofNat_of_zero_le hr0
    have hjl : j < menu.cps.toList.length := by rw [str_len]; omega
    have e2 : atI menu.cps.toList (rs[i] % (menu.length : Int)) = some menu.cps.toList[j] := by
      rw [hj]
      exact atI_nat (List.getElem?_eq_getElem hjl)
    refine ⟨_, .str ⟨#[menu.cps.toList[j]]⟩, rfl, ?_, _, rfl⟩
    walk_at "ev"
    simp only [e1]
    walk_at "ev"
    simp only [if_pos hs, Option.bind_some]
    rw [decide_eq_true (show (0 : Int) < (menu.length : Int) by omega)]
    walk_at "ev"
    simp only [e2, Option.map_some, if_pos hs])
  have hy : ∃ ts : List Str, ys = ts.map .str ∧ ∀ t ∈ ts, t.length = 1 := by
    clear ey ly
    induction ys with
    | nil => exact ⟨[], rfl, fun t h => nomatch h⟩
    | cons y ys ih =>
      obtain ⟨c, rfl⟩ := ay 0 y rfl
      obtain ⟨ts, e, h⟩ := ih fun i z hz => ay (i + 1) z (by simpa using hz)
      exact ⟨⟨#[c]⟩ :: ts, by rw [e]; rfl, fun t ht => by
        rcases List.mem_cons.mp ht with rfl | ht
        · rfl
        · exact h t ht⟩
  obtain ⟨ts, rfl, h1⟩ := hy
  have lt : ts.length = n := by simpa [rangeD] using ly
  have hb : (ts.map (·.length)).sum + ts.length * (Str.ofString "").length ≤ 16777216 := by
    have e : ∀ us : List Str, (∀ t ∈ us, t.length = 1) → (us.map (·.length)).sum = us.length := fun us => by
      induction us with
      | nil => intro _; rfl
      | cons u us ih => intro h; rw [List.map_cons, List.sum_cons, ih fun t ht => h t (List.mem_cons_of_mem _ ht), h u List.mem_cons_self, List.length_cons]; omega
    rw [e ts h1, show (Str.ofString "").length = 0 from rfl]
    omega
  refine ⟨Txt.join "" ts, ?_, by rw [← lt]; exact join_len ts h1⟩
  have el : lcD (rng1 (gv 2)) (gN 3) yes (b2 (gv 0) (b2 (cB (aCons (b2 (gv 1) (gv 3) ixD) aNil) intD) (cB (aCons (gv 0) aNil) lenD) modI) ixD) [3] [.dat (.str menu), .dat (.lst (rs.map .int)), .dat (.int n), .unk] = some (.lst (ts.map .str)) := by
    refine lcD_of (ds := rangeD 0 n) rfl ?_ rfl ey (by rw [List.length_map, lt]; exact small_line hn2)
    walk_at "ev"
    rw [if_pos (by omega)]
    rfl
  unfold m_law_chars
  walk_at "ev"
  rw [el]
  simp only [Option.bind_some, joinD, strs_map, if_pos hb, Option.map_some, outO, O.toD]
end K00

namespace K00
open PySem L2 PD
local macro_rules | `(tactic| walk_at "ev") => `(tactic| (try simp only [runP, runO, outO, O.toD, env0, List.map_cons, List.map_nil, List.length_cons, List.length_nil, List.replicate, List.cons_append, List.nil_append, rtV, andV, orV, notV, ifV, chn, kI, kS, kB, cB, aCons, gv, aNil, b2, b1,
  List.getElem?_cons_zero, List.getElem?_cons_succ, Option.bind_some, Option.map_some, lenD, leI, ltI, gtI, geI, i2, s2, addD, addI, addS, orD, subI, mulI, modI, divI, powI, if_true, if_false, sq, stV, stO, app, fz, ifS, asB, andT, orT, notT, forS, iOf, seqD, mkLst, mkLstO, mkTup, len?, intD, max2, min2, reduceIte,
  List.set_cons_zero, List.set_cons_succ, Option.map_none, Option.bind_none, wipeO, slc, part, noPart, slD, ixD, m1, eq_str, eq_int, eq_bl, ne_str, ne_int, ne_bl, rng1, gN, Nat.reduceAdd, Nat.reduceSub, Nat.zero_le]))
theorem chars_call {ρ : Ev} {fm fn fs : Ev → Option D} {menu : Str} {rs : List Int} {n : Nat} (h1 : fm ρ = some (.str menu)) (h2 : fn ρ = some (.lst (rs.map .int))) (h3 : fs ρ = some (.int n)) (hm : 0 < menu.length) (hm2 : menu.length ≤ 1000) (hn : n ≤ rs.length) (hn2 : n ≤ 1000) :
    ∃ t : Str, cB (aCons fm (aCons fn (aCons fs aNil))) (len? 3 m_law_chars) ρ = some (.str t) ∧ t.length ≤ n := by
  obtain ⟨t, e, l⟩ := law_chars_ex menu rs n hm hm2 hn hn2
  exact ⟨t, (call_of (aC h1 (aC h2 (aC1 h3))) rfl).trans e, l⟩
def sizes : List D := [.int 0, .int 1, .int 2, .int 7, .int 11, .int 12, .int 13, .int 14]
theorem sizes_at {j : Nat} (h : j < 8) : ∃ n : Nat, atI sizes (j : Int) = some (.int n) ∧ n ≤ 14 := by
  have key : ∀ j : _root_.Fin 8, ∃ n : Nat, n ≤ 14 ∧ sizes[j.val]? = some (.int n) := by
    intro j
    match j with
    | ⟨0, _⟩ => exact ⟨0, by decide, rfl⟩
    | ⟨1, _⟩ => exact ⟨1, by decide, rfl⟩
    | ⟨2, _⟩ => exact ⟨2, by decide, rfl⟩
    | ⟨3, _⟩ => exact ⟨7, by decide, rfl⟩
    | ⟨4, _⟩ => exact ⟨11, by decide, rfl⟩
    | ⟨5, _⟩ => exact ⟨12, by decide, rfl⟩
    | ⟨6, _⟩ => exact ⟨13, by decide, rfl⟩
    | ⟨7, _⟩ => exact ⟨14, by decide, rfl⟩
  obtain ⟨n, hn, e⟩ := key ⟨j, h⟩
  exact ⟨n, atI_nat e, hn⟩
theorem law_text_ex (rs : List Int) (hl : rs.length = 45) : ∃ t : Str, m_law_text [.lst (rs.map .int)] = some (.str t) ∧ t.length ≤ 100 := by
  obtain ⟨d, e, t, rfl, ht⟩ : ∃ d, m_law_text [.lst (rs.map .int)] = some d ∧ ∃ t : Str, d = .str t ∧ t.length ≤ 100 := by
    refine runP_of ?_
    unfold b_law_text
    refine Rn.sq (Rn.st rfl ?_)
    refine Rn.sq (Rn.st rfl ?_)
    obtain ⟨S, hS, hS0, hS1⟩ : ∃ S : Str, b2 (b2 (gv 1) (gv 2) addD) (kS "{|}~\n") addD [.dat (.lst (rs.map .int)), .dat (.str " !\"#$&'()*+,-./0123456789:;<=>?@ABCDEFGHIJKLMNOPQRSTUVWXYZ[\\]^_`"), .dat (.str "abcdefghijklmnopqrstuvwxyz"), .unk, .unk, .unk, .unk] = some (.str S) ∧ 0 < S.length ∧ S.length ≤ 1000 :=
      ⟨_, rfl, by decide +kernel, by decide +kernel⟩
    refine Rn.sq (Rn.st hS ?_)
    refine Rn.sq (Rn.st (d := .lst sizes) rfl ?_)
    have i0 : atI (rs.map D.int) 0 = some (.int rs[0]) := at_ints (j := 0) (by omega)
    have i1 : atI (rs.map D.int) 1 = some (.int rs[1]) := at_ints (j := 1) (by omega)
    have i2' : atI (rs.map D.int) 2 = some (.int rs[2]) := at_ints (j := 2) (by omega)
    have i3 : atI (rs.map D.int) 3 = some (.int rs[3]) := at_ints (j := 3) (by omega)
    have i4 : atI (rs.map D.int) 4 = some (.int rs[4]) := at_ints (j := 4) (by omega)
    obtain ⟨kd, ekd, _⟩ := mod_nat rs[0] (m := 6) (by decide)
    refine Rn.sq (Rn.st (d := .int kd) (by
      rw [mod_of (int_of ((ixL_of (ds := rs.map .int) rfl rfl).trans i0)) rfl (by decide)]
      exact congrArg (fun z => some (D.int z)) ekd) ?_)
    -- the kinds of pieces
    have nums : ∀ (k : Nat) (x1 x2 x3 x4 x5 x6 : O), slc (gv 0) (part (kI (k : Int))) noPart [.dat (.lst (rs.map .int)), x1, x2, x3, x4, x5, x6] = some (.lst ((rs.drop k).map .int)) := by
      intro k x1 x2 x3 x4 x5 x6
      rw [slL_of (ds := rs.map .int) rfl (part_of rfl) rfl, cut_from, List.map_drop]
    have size : ∀ (j : Nat) (hj : j < 45) (m : Nat) (hm : 0 < m) (x1 x2 x3 x4 x5 x6 : O), ∃ n : Nat, b2 (cB (aCons (b2 (gv 0) (kI (j : Int)) ixD) aNil) intD) (kI (m : Int)) modI [.dat (.lst (rs.map .int)), x1, x2, x3, x4, x5, x6] = some (.int n) ∧ n < m := by
      intro j hj m hm x1 x2 x3 x4 x5 x6
      obtain ⟨n, en, hn⟩ := mod_nat (rs[j]'(by omega)) hm
      refine ⟨n, ?_, hn⟩
      rw [mod_of (int_of ((ixL_of (ds := rs.map .int) rfl rfl).trans (at_ints (show j < rs.length by omega)))) rfl (by omega), en]
    have size8 : ∀ (j : Nat) (hj : j < 45) (x1 x2 x4 x5 x6 : O), ∃ n : Nat, b2 (gv 3) (b2 (cB (aCons (b2 (gv 0) (kI (j : Int)) ixD) aNil) intD) (kI 8) modI) ixD [.dat (.lst (rs.map .int)), x1, x2, .dat (.lst sizes), x4, x5, x6] = some (.int n) ∧ n ≤ 14 := by
      intro j hj x1 x2 x4 x5 x6
      obtain ⟨q, eq, hq⟩ := size j hj 8 (by decide) x1 x2 (.dat (.lst sizes)) x4 x5 x6
      obtain ⟨n, en, hn⟩ := sizes_at hq
      exact ⟨n, (ixL_of (ds := sizes) rfl eq).trans en, hn⟩
    have nl : ∀ k : Nat, (rs.drop k).length = 45 - k := fun k => by rw [List.length_drop, hl]
    obtain ⟨n1, en1, hn1⟩ := size 1 (by decide) 40 (by decide) (.dat (.str S)) (.dat (.str "abcdefghijklmnopqrstuvwxyz")) (.dat (.lst sizes)) (.dat (.int kd)) .unk .unk
    obtain ⟨t0, et0, ht0⟩ := chars_call (ρ := [.dat (.lst (rs.map .int)), .dat (.str S), .dat (.str "abcdefghijklmnopqrstuvwxyz"), .dat (.lst sizes), .dat (.int kd), .unk, .unk]) (fm := gv 1) rfl (nums 5 _ _ _ _ _ _) en1 hS0 hS1 (by rw [nl]; omega) (by omega)
    refine Rn.sq (Rn.st et0 ?_)
    -- from here on: slot 5 holds a short text
    let I : Nat → Ev → Prop := fun b ρ => ∃ t : Str, ρ = [.dat (.lst (rs.map .int)), .dat (.str S), .dat (.str "abcdefghijklmnopqrstuvwxyz"), .dat (.lst sizes), .dat (.int kd), .dat (.str t), .unk] ∧ t.length ≤ b
    have kind : ∀ (k : Int) (x5 x6 : O), asB (b2 (gv 4) (kI k) eqD) [.dat (.lst (rs.map .int)), .dat (.str S), .dat (.str "abcdefghijklmnopqrstuvwxyz"), .dat (.lst sizes), .dat (.int kd), x5, x6] = some (decide ((kd : Int) = k)) := fun k x5 x6 => rfl
    have l26 : (Str.ofString "abcdefghijklmnopqrstuvwxyz").length = 26 := by decide +kernel
    refine Rn.sqN (P := I 40) (Rn.ite (kind 1 _ _) (fun _ => ?_) (fun _ => Rn.skip ⟨t0, rfl, by omega⟩)) ?_
    · obtain ⟨n, en, hn⟩ := size8 1 (by decide) (.dat (.str S)) (.dat (.str "abcdefghijklmnopqrstuvwxyz")) (.dat (.int kd)) (.dat (.str t0)) .unk
      obtain ⟨t, et, ht⟩ := chars_call (ρ := [.dat (.lst (rs.map .int)), .dat (.str S), .dat (.str "abcdefghijklmnopqrstuvwxyz"), .dat (.lst sizes), .dat (.int kd), .dat (.str t0), .unk]) (fm := gv 2) rfl (nums 5 _ _ _ _ _ _) en (by rw [l26]; decide) (by rw [l26]; decide) (by rw [nl]; omega) (by omega)
      exact Rn.st et ⟨t, rfl, by omega⟩
    rintro ρ ⟨t1, rfl, ht1⟩
    refine Rn.sqN (P := I 40) (Rn.ite (kind 2 _ _) (fun _ => ?_) (fun _ => Rn.skip ⟨t1, rfl, by omega⟩)) ?_
    · obtain ⟨n, en, hn⟩ := size8 1 (by decide) (.dat (.str S)) (.dat (.str "abcdefghijklmnopqrstuvwxyz")) (.dat (.int kd)) (.dat (.str t1)) .unk
      obtain ⟨t, et, ht⟩ := chars_call (ρ := [.dat (.lst (rs.map .int)), .dat (.str S), .dat (.str "abcdefghijklmnopqrstuvwxyz"), .dat (.lst sizes), .dat (.int kd), .dat (.str t1), .unk]) (fm := gv 2) rfl (nums 5 _ _ _ _ _ _) en (by rw [l26]; decide) (by rw [l26]; decide) (by rw [nl]; omega) (by omega)
      have l1 : (Str.ofString ".").length = 1 := by decide +kernel
      refine Rn.sq (Rn.st (d := .str (t ++ Str.ofString ".")) (cat_of et rfl (by rw [l1]; omega)) ?_)
      obtain ⟨n', en', hn'⟩ := size8 2 (by decide) (.dat (.str S)) (.dat (.str "abcdefghijklmnopqrstuvwxyz")) (.dat (.int kd)) (.dat (.str (t ++ Str.ofString "."))) .unk
      obtain ⟨t', et', ht'⟩ := chars_call (ρ := [.dat (.lst (rs.map .int)), .dat (.str S), .dat (.str "abcdefghijklmnopqrstuvwxyz"), .dat (.lst sizes), .dat (.int kd), .dat (.str (t ++ Str.ofString ".")), .unk]) (fm := gv 2) rfl (nums 20 _ _ _ _ _ _) en' (by rw [l26]; decide) (by rw [l26]; decide) (by rw [nl]; omega) (by omega)
      have hlen : (t ++ Str.ofString ".").length = t.length + 1 := by rw [Str.length_append, l1]
      refine Rn.st (d := .str (t ++ Str.ofString "." ++ t')) (cat_of (i := t ++ Str.ofString ".") rfl et' (by rw [hlen]; omega)) ?_
      exact ⟨_, rfl, by rw [Str.length_append, hlen]; omega⟩
    rintro ρ ⟨t2, rfl, ht2⟩
    refine Rn.sqN (P := I 40) (Rn.ite (kind 3 _ _) (fun _ => ?_) (fun _ => Rn.skip ⟨t2, rfl, by omega⟩)) ?_
    · obtain ⟨n, en, hn⟩ := size 1 (by decide) 30 (by decide) (.dat (.str S)) (.dat (.str "abcdefghijklmnopqrstuvwxyz")) (.dat (.lst sizes)) (.dat (.int kd)) (.dat (.str t2)) .unk
      obtain ⟨t, et, ht⟩ := chars_call (ρ := [.dat (.lst (rs.map .int)), .dat (.str S), .dat (.str "abcdefghijklmnopqrstuvwxyz"), .dat (.lst sizes), .dat (.int kd), .dat (.str t2), .unk]) (fm := b2 (gv 2) (kS "....") addD) (menu := Str.ofString "abcdefghijklmnopqrstuvwxyz" ++ Str.ofString "....") rfl (nums 5 _ _ _ _ _ _) en (by decide +kernel) (by decide +kernel) (by rw [nl]; omega) (by omega)
      exact Rn.st et ⟨t, rfl, by omega⟩
    rintro ρ ⟨t3, rfl, ht3⟩
    refine Rn.sqN (P := I 40) (Rn.ite (kind 4 _ _) (fun _ => ?_) (fun _ => Rn.skip ⟨t3, rfl, by omega⟩)) ?_
    · obtain ⟨n, en, hn⟩ := size 1 (by decide) 40 (by decide) (.dat (.str S)) (.dat (.str "abcdefghijklmnopqrstuvwxyz")) (.dat (.lst sizes)) (.dat (.int kd)) (.dat (.str t3)) .unk
      obtain ⟨t, et, ht⟩ := chars_call (ρ := [.dat (.lst (rs.map .int)), .dat (.str S), .dat (.str "abcdefghijklmnopqrstuvwxyz"), .dat (.lst sizes), .dat (.int kd), .dat (.str t3), .unk]) (fm := kS "0123456789") (menu := Str.ofString "0123456789") rfl (nums 5 _ _ _ _ _ _) en (by decide +kernel) (by decide +kernel) (by rw [nl]; omega) (by omega)
      exact Rn.st et ⟨t, rfl, by omega⟩
    rintro ρ ⟨t4, rfl, ht4⟩
    refine Rn.sqN (P := I 40) (Rn.ite (kind 5 _ _) (fun _ => ?_) (fun _ => Rn.skip ⟨t4, rfl, by omega⟩)) ?_
    · obtain ⟨n, en, hn⟩ := size 1 (by decide) 4 (by decide) (.dat (.str S)) (.dat (.str "abcdefghijklmnopqrstuvwxyz")) (.dat (.lst sizes)) (.dat (.int kd)) (.dat (.str t4)) .unk
      obtain ⟨t, et, ht⟩ := chars_call (ρ := [.dat (.lst (rs.map .int)), .dat (.str S), .dat (.str "abcdefghijklmnopqrstuvwxyz"), .dat (.lst sizes), .dat (.int kd), .dat (.str t4), .unk]) (fm := kS "00123") (menu := Str.ofString "00123") rfl (nums 5 _ _ _ _ _ _) en (by decide +kernel) (by decide +kernel) (by rw [nl]; omega) (by omega)
      exact Rn.st et ⟨t, rfl, by omega⟩
    rintro ρ ⟨t5, rfl, ht5⟩
    refine Rn.sqN (P := fun ρ => ∃ (t : Str) (x : O), ρ = [.dat (.lst (rs.map .int)), .dat (.str S), .dat (.str "abcdefghijklmnopqrstuvwxyz"), .dat (.lst sizes), .dat (.int kd), .dat (.str t), x] ∧ t.length ≤ 100) (Rn.ite (t := decide (rs[0] / 6 % 3 = 1)) (asB_of (eqI_of (mod_of (int_of (div_of ((ixL_of (ds := rs.map .int) rfl rfl).trans i0) rfl (by decide))) rfl (by decide)) rfl)) (fun _ => ?_) (fun _ => Rn.skip ⟨t5, .unk, rfl, by omega⟩)) ?_
    · obtain ⟨n, en, hn⟩ := mod_nat rs[3] (m := t5.length + 1) (by omega)
      have h5l : t5.length ≤ 1000000 := by omega
      refine Rn.sq (Rn.st (d := .int n) (by
        rw [mod_of (int_of ((ixL_of (ds := rs.map .int) rfl rfl).trans i3)) (add_of (lenS_of (z := t5) rfl h5l) rfl) (by omega)]
        exact congrArg (fun z => some (D.int z)) en) ?_)
      obtain ⟨m, em, hm⟩ := mod_nat rs[4] hS0
      have hml : m < S.cps.toList.length := by rw [str_len]; exact hm
      have ec : b2 (gv 1) (b2 (cB (aCons (b2 (gv 0) (kI 4) ixD) aNil) intD) (cB (aCons (gv 1) aNil) lenD) modI) ixD [.dat (.lst (rs.map .int)), .dat (.str S), .dat (.str "abcdefghijklmnopqrstuvwxyz"), .dat (.lst sizes), .dat (.int kd), .dat (.str t5), .dat (.int n)] = some (.str ⟨#[S.cps.toList[m]]⟩) :=
        ixS_of (z := S) rfl (mod_of (int_of ((ixL_of (ds := rs.map .int) rfl rfl).trans i4)) (lenS_of (z := S) rfl (by omega)) (by omega)) (by omega) (by rw [em]; exact at_get hml)
      have e1 : slc (gv 5) noPart (part (gv 6)) [.dat (.lst (rs.map .int)), .dat (.str S), .dat (.str "abcdefghijklmnopqrstuvwxyz"), .dat (.lst sizes), .dat (.int kd), .dat (.str t5), .dat (.int n)] = some (.str (cutS t5 none (some (n : Int)))) := slS_of (z := t5) rfl rfl (part_of rfl) h5l
      have e2 : slc (gv 5) (part (gv 6)) noPart [.dat (.lst (rs.map .int)), .dat (.str S), .dat (.str "abcdefghijklmnopqrstuvwxyz"), .dat (.lst sizes), .dat (.int kd), .dat (.str t5), .dat (.int n)] = some (.str (cutS t5 (some (n : Int)) none)) := slS_of (z := t5) rfl (part_of rfl) rfl h5l
      have c1 := cutS_length t5 none (some (n : Int))
      have c2 := cutS_length t5 (some (n : Int)) none
      have lc : (⟨#[S.cps.toList[m]]⟩ : Str).length = 1 := rfl
      show Rn _ [.dat (.lst (rs.map .int)), .dat (.str S), .dat (.str "abcdefghijklmnopqrstuvwxyz"), .dat (.lst sizes), .dat (.int kd), .dat (.str t5), .dat (.int n)] _
      refine Rn.st (d := .str (cutS t5 none (some (n : Int)) ++ ⟨#[S.cps.toList[m]]⟩ ++ cutS t5 (some (n : Int)) none)) (cat_of (cat_of e1 ec (by rw [lc]; omega)) e2 (by rw [Str.length_append, lc]; omega)) ?_
      exact ⟨_, _, rfl, by rw [Str.length_append, Str.length_append, lc]; omega⟩
    rintro ρ ⟨t, x, rfl, ht⟩
    exact Rn.ret (d := .str t) rfl ⟨_, _, rfl, rfl, t, rfl, ht⟩
  exact ⟨t, e, ht⟩
end K00

namespace K00
open PySem L2 PD
def labB (t : List Nat) : Bool := decide ((sp 46 t).length ≤ 2) && (sp 46 t).all nameB
theorem dot : Str.ofString "." = ⟨#[46]⟩ := by decide +kernel
theorem is_label_eq (t : Str) (h : t.length ≤ 900) : mis_label [.str t] = some (.bl (labB t.cps.toList)) := by
  refine runP_eq ?_
  unfold bis_label
  have e1 : m1 (gv 0) (kS ".") splitD [.dat (.str t), .unk, .unk] = some (.lst ((sp 46 t.cps.toList).map fun p => .str (toS p))) := by
    show (if ((Str.ofString ".").length == 0) = false ∧ t.length + 2 ≤ sizeLine then some (D.lst ((Txt.split t (Str.ofString ".")).map .str)) else none) = _
    rw [if_pos ⟨by decide +kernel, len_le (by omega)⟩, dot, split_eq, List.map_map]
    rfl
  refine Rn.sq (Rn.st e1 ?_)
  show Rn _ [.dat (.str t), .dat (.lst ((sp 46 t.cps.toList).map fun p => .str (toS p))), .unk] _
  have e2 : lcD (iOf (gv 1)) (gN 2) yes (cB (aCons (gv 2) aNil) (len? 1 mis_name)) [2] [.dat (.str t), .dat (.lst ((sp 46 t.cps.toList).map fun p => .str (toS p))), .unk] = some (.lst (((sp 46 t.cps.toList).map nameB).map .bl)) := by
    refine lcD_of (ds := (sp 46 t.cps.toList).map fun p => .str (toS p)) rfl rfl rfl ?_ ?_
    · rw [comp_map (e := fun d => [.dat (.str t), .dat (.lst ((sp 46 t.cps.toList).map fun p => .str (toS p))), .dat d]) (h := fun d => match d with | .str z => .bl (nameB z.cps.toList) | _ => .non)]
      · rw [List.map_map, List.map_map]
        refine congrArg some (List.map_congr_left ?_)
        intro p _
        exact congrArg (fun z => D.bl (nameB z)) (toS_codes p)
      · intro d hd
        obtain ⟨p, hp, rfl⟩ := List.mem_map.mp hd
        refine ⟨rfl, (call_of (aC1 rfl) rfl).trans (is_name_eq (toS p) ?_)⟩
        rw [toS_len]
        have := sp_mem_len hp
        rw [str_len] at this
        omega
    · rw [List.length_map, List.length_map]
      have := sp_length 46 t.cps.toList
      rw [str_len] at this
      exact len_le (by omega)
  refine Rn.ret (d := .bl (labB t.cps.toList)) ?_ ⟨_, rfl, rfl⟩
  unfold labB
  have e3 := lenL_of (fa := gv 1) (ρ := [.dat (.str t), .dat (.lst ((sp 46 t.cps.toList).map fun p => .str (toS p))), .unk]) rfl
  rw [andV_of (le_of e3 rfl) (fun _ => (cB_of' (aC1 e2)).trans (show allD [.lst (((sp 46 t.cps.toList).map nameB).map .bl)] = some (.bl (((sp 46 t.cps.toList).map nameB).all id)) by unfold allD; simp only [bls_map, Option.map_some]))]
  rw [List.length_map, List.all_map]
  congr 2
  · congr 1
    rw [decide_eq_decide]
    omega
/-! ### the law's own reading -/
def dots (t : List Nat) : List Nat := (List.range t.length).filter fun k => decide (t[k]? = some 46)
theorem dots_none {t : List Nat} (h : 46 ∉ t) : dots t = [] := by
  unfold dots
  rw [List.filter_eq_nil_iff]
  intro k _ hk
  exact h (List.mem_of_getElem? (of_decide_eq_true hk))
theorem dots_app (p r : List Nat) : dots (p ++ 46 :: r) = dots p ++ p.length :: (dots r).map (· + (p.length + 1)) := by
  unfold dots
  rw [List.length_append, List.length_cons, show p.length + (r.length + 1) = p.length + (1 + r.length) by omega, List.range_add, List.filter_append, List.range_add, List.map_append, List.filter_append]
  congr 1
  · apply List.filter_congr
    intro k hk
    have hk : k < p.length := List.mem_range.mp hk
    rw [List.getElem?_append_left hk]
  · have e1 : List.filter (fun k => decide ((p ++ 46 :: r)[k]? = some 46)) (List.map (fun x => p.length + x) (List.range 1)) = [p.length] := by
      have : List.range 1 = [0] := rfl
      rw [this, List.map_cons, List.map_nil, Nat.add_zero, List.filter_cons_of_pos (by rw [List.getElem?_append_right (Nat.le_refl _), Nat.sub_self]; rfl)]
      rfl
    rw [e1, List.map_map, List.filter_map, List.singleton_append]
    congr 1
    rw [show (fun x => x + (p.length + 1)) = ((fun x => p.length + x) ∘ fun x => 1 + x) from funext fun x => by show x + (p.length + 1) = p.length + (1 + x); omega]
    congr 1
    apply List.filter_congr
    intro k _
    show decide ((p ++ 46 :: r)[p.length + (1 + k)]? = some 46) = _
    rw [List.getElem?_append_right (by omega), show p.length + (1 + k) - p.length = k + 1 by omega, List.getElem?_cons_succ]
theorem law_is_label_eq (t : Str) (h : t.length ≤ 900) : m_law_is_label [.str t] = some (.bl (labB t.cps.toList)) := by
  have hl : t.length ≤ 1000000 := by omega
  refine runP_eq ?_
  unfold b_law_is_label
  have e1 : lcD (rng1 (cB (aCons (gv 0) aNil) lenD)) (gN 2) (asB (b2 (b2 (gv 0) (gv 2) ixD) (kS ".") eqD)) (gv 2) [2] [.dat (.str t), .unk, .unk] = some (.lst ((dots t.cps.toList).map fun k : Nat => .int (k : Int))) := by
    refine lcD_of (ds := rangeD 0 t.length) rfl (rng1_of (lenS_of (z := t) rfl hl) hl) rfl ?_ ?_
    · rw [comp_filter (e := fun d => [.dat (.str t), .unk, .dat d]) (p := fun d => match d with | .int i => decide (t.cps.toList[i.toNat]? = some 46) | _ => false) (h := fun d => d)]
      · congr 1
        rw [List.map_id']
        unfold rangeD dots
        rw [List.filter_map, str_len]
        congr 1
        · funext k; show D.int (0 + (k : Int)) = _; rw [Int.zero_add]
        · apply List.filter_congr
          intro k _
          show decide (t.cps.toList[(0 + (k : Int)).toNat]? = some 46) = _
          rw [Int.zero_add, Int.toNat_natCast]
      · intro d hd
        obtain ⟨i, hi0⟩ := List.getElem?_of_mem hd
        obtain ⟨hi, rfl⟩ := range_get hi0
        have hi2 : i < t.cps.toList.length := by rw [str_len]; exact hi
        refine ⟨rfl, ?_, fun _ => rfl⟩
        rw [asB_of (eqS_of (ixS_of (z := t) (i := 0 + (i : Int)) (c := t.cps.toList[i]) rfl rfl hl (by rw [Int.zero_add]; exact at_get hi2)) rfl)]
        show some _ = some (decide (t.cps.toList[(0 + (i : Int)).toNat]? = some 46))
        rw [Int.zero_add, Int.toNat_natCast, List.getElem?_eq_getElem hi2, dot]
        congr 1
        rw [decide_eq_decide, str_eq]
        constructor
        · intro z
          have : [t.cps.toList[i]] = [46] := z
          simpa using this
        · intro z
          have : t.cps.toList[i] = 46 := by simpa using z
          rw [this]
    · rw [List.length_map]
      have : (dots t.cps.toList).length ≤ t.cps.toList.length := by
        unfold dots
        exact Nat.le_trans (List.length_filter_le _ _) (by simp)
      rw [str_len] at this
      exact len_le (by omega)
  refine Rn.sq (Rn.st e1 ?_)
  show Rn _ [.dat (.str t), .dat (.lst ((dots t.cps.toList).map fun k : Nat => .int (k : Int))), .unk] _
  have e2 : cB (aCons (gv 1) aNil) lenD [.dat (.str t), .dat (.lst ((dots t.cps.toList).map fun k : Nat => .int (k : Int))), .unk] = some (.int (dots t.cps.toList).length) := by
    have := lenL_of (fa := gv 1) (ρ := [.dat (.str t), .dat (.lst ((dots t.cps.toList).map fun k : Nat => .int (k : Int))), .unk]) rfl
    rw [List.length_map] at this
    exact this
  refine Rn.sq (Rn.ite (asB_of (eqI_of e2 rfl)) (fun hz => ?_) (fun hz => ?_))
  · have hz : (dots t.cps.toList).length = 0 := by have := of_decide_eq_true hz; omega
    refine Rn.ret ((call_of (aC1 rfl) rfl).trans (law_is_name_eq t (by omega))) ⟨_, rfl, ?_⟩
    have hn : 46 ∉ t.cps.toList := fun hm => by
      obtain ⟨p, r, e, _⟩ := first_of hm
      rw [e, dots_app] at hz
      simp at hz
    unfold labB
    rw [sp_free hn]
    show some (D.bl (nameB t.cps.toList)) = some (D.bl (decide (1 ≤ 2) && (nameB t.cps.toList && true)))
    rw [Bool.and_true]
    rfl
  · have hz : (dots t.cps.toList).length ≠ 0 := by have := of_decide_eq_false hz; omega
    refine Rn.skip ?_
    have hm : 46 ∈ t.cps.toList := Decidable.byContradiction fun hn => hz (by rw [dots_none hn]; rfl)
    obtain ⟨p, r, e, hp⟩ := first_of hm
    have ed : dots t.cps.toList = p.length :: (dots r).map (· + (p.length + 1)) := by rw [e, dots_app, dots_none hp]; rfl
    have i0 : b2 (gv 1) (kI 0) ixD [.dat (.str t), .dat (.lst ((dots t.cps.toList).map fun k : Nat => .int (k : Int))), .unk] = some (.int (p.length : Int)) := by
      rw [ixL_of (ds := (dots t.cps.toList).map fun k : Nat => .int (k : Int)) rfl rfl, ed]
      exact atI_nat (j := 0) rfl
    have s1 : slc (gv 0) noPart (part (b2 (gv 1) (kI 0) ixD)) [.dat (.str t), .dat (.lst ((dots t.cps.toList).map fun k : Nat => .int (k : Int))), .unk] = some (.str (cutS t none (some (p.length : Int)))) := slS_of (z := t) rfl rfl (part_of i0) hl
    have s2 : slc (gv 0) (part (b2 (b2 (gv 1) (kI 0) ixD) (kI 1) addD)) noPart [.dat (.str t), .dat (.lst ((dots t.cps.toList).map fun k : Nat => .int (k : Int))), .unk] = some (.str (cutS t (some ((p.length + 1 : Nat) : Int)) none)) := slS_of (z := t) rfl (part_of ((add_of (j := 1) i0 rfl).trans (by rw [Int.natCast_add]; rfl))) rfl hl
    have c1 : (cutS t none (some (p.length : Int))).cps.toList = p := by rw [cutS_codes, cut_to, e, List.take_left]
    have c2 : (cutS t (some ((p.length + 1 : Nat) : Int)) none).cps.toList = r := by
      rw [cutS_codes, cut_from, e, ← List.drop_drop, List.drop_left]
      rfl
    have n1 := law_is_name_eq (cutS t none (some (p.length : Int))) (Nat.le_trans (cutS_length _ _ _) (by omega))
    have n2 := law_is_name_eq (cutS t (some ((p.length + 1 : Nat) : Int)) none) (Nat.le_trans (cutS_length _ _ _) (by omega))
    rw [c1] at n1
    rw [c2] at n2
    refine Rn.ret (andV_of (eqI_of e2 rfl) fun _ => andV_of ((call_of (aC1 s1) rfl).trans n1) fun _ => (call_of (aC1 s2) rfl).trans n2) ⟨_, rfl, ?_⟩
    show some (D.bl _) = some (D.bl _)
    congr 2
    unfold labB
    rw [e, sp_cut r hp, ← e, ed]
    by_cases hr : 46 ∈ r
    · obtain ⟨p2, r2, er, hp2⟩ := first_of hr
      rw [decide_eq_false (by rw [er, dots_app]; simp; omega), er, sp_cut r2 hp2]
      obtain ⟨q, qs, eq⟩ := sp_ne 46 r2
      rw [eq, decide_eq_false (show ¬ (p :: p2 :: q :: qs).length ≤ 2 by simp)]
      rfl
    · rw [dots_none hr, sp_free hr]
      show (decide (((p.length :: ([] : List Nat)).length : Int) = 1) && (nameB p && nameB r)) = (decide (2 ≤ 2) && (nameB p && (nameB r && true)))
      rw [Bool.and_true]
      rfl
theorem law_told_eq (a b : Bool) : m_law_told [.bl a, .bl b] = some (.bl (decide (a = b))) := by
  refine runP_eq ?_
  unfold b_law_told
  refine Rn.ret (andV_of (a := true) (b1_of (x := .bl a) rfl) fun _ => (b2_of (x := .bl a) (y := .bl b) rfl rfl).trans (eq_bl a b)) ⟨_, rfl, ?_⟩
  rw [Bool.true_and]
  rfl
theorem law_true (ns : List Int) (hn : ns.length ≤ 63) : mlaw [.lst (ns.map .int)] = some (.bl true) := by
  refine runP_eq ?_
  unfold blaw
  obtain ⟨n, en⟩ : ∃ n : Nat, cB (aCons (kI 63) (aCons (cB (aCons (kI 1) (aCons (cB (aCons (gv 0) aNil) lenD) aNil)) max2) aNil)) min2 (env0 8 [.lst (ns.map .int)]) = some (.int n) ∧ n ≤ 63 := by
    have e1 := lenL_of (fa := gv 0) (ρ := env0 8 [.lst (ns.map .int)]) (ds := ns.map .int) rfl
    have e2 : cB (aCons (kI 1) (aCons (cB (aCons (gv 0) aNil) lenD) aNil)) max2 (env0 8 [.lst (ns.map .int)]) = some (.int (if (((ns.map D.int).length : Nat) : Int) > 1 then (((ns.map D.int).length : Nat) : Int) else 1)) := cB_of' (aC2 (x := .int 1) rfl e1)
    have e3 : cB (aCons (kI 63) (aCons (cB (aCons (kI 1) (aCons (cB (aCons (gv 0) aNil) lenD) aNil)) max2) aNil)) min2 (env0 8 [.lst (ns.map .int)]) = _ := cB_of' (aC2 (x := .int 63) rfl e2)
    rw [e3, List.length_map]
    show ∃ n : Nat, some (D.int (if (if ((ns.length : Nat) : Int) > 1 then ((ns.length : Nat) : Int) else 1) < 63 then (if ((ns.length : Nat) : Int) > 1 then ((ns.length : Nat) : Int) else 1) else 63)) = some (.int (n : Int)) ∧ n ≤ 63
    by_cases h1 : ((ns.length : Nat) : Int) > 1
    · rw [if_pos h1]
      by_cases h2 : ((ns.length : Nat) : Int) < 63
      · rw [if_pos h2]; exact ⟨ns.length, rfl, hn⟩
      · rw [if_neg h2]; exact ⟨63, rfl, by decide⟩
    · rw [if_neg h1]; exact ⟨1, rfl, by decide⟩
  refine Rn.sqN (P := fun ρ => True) (Rn.for (ds := rangeD 0 n) (rng1_of en.1 (by omega)) (fun i ρ => ∃ x1 x2 x3 x4 x5 x6 x7 : O, ρ = [.dat (.lst (ns.map .int)), x1, x2, x3, x4, x5, x6, x7]) ⟨_, _, _, _, _, _, _, rfl⟩ (fun i d ρ hd hI => ?_) (fun _ _ => trivial)) (fun ρ _ => Rn.ret rfl ⟨_, rfl, rfl⟩)
  obtain ⟨hi, rfl⟩ := range_get hd
  obtain ⟨x1, x2, x3, x4, x5, x6, x7, rfl⟩ := hI
  refine ⟨_, rfl, ?_⟩
  obtain ⟨rs, ers, lrs, _⟩ := law_row_ex (ns.getD i 0) 90 (by decide)
  have ec : cB (aCons (gv 0) (aCons (gv 1) aNil)) (len? 2 m_law_cell) [.dat (.lst (ns.map .int)), .dat (.int (0 + (i : Int))), x2, x3, x4, x5, x6, x7] = some (.int (ns.getD i 0)) := by
    have := law_cell_eq ns i
    rw [show (i : Int) = 0 + (i : Int) by omega] at this
    exact (call_of (aC2 (x := .lst (ns.map .int)) (y := .int (0 + (i : Int))) rfl rfl) rfl).trans this
  refine Rn.sq (Rn.st ((call_of (aC2 ec rfl) rfl).trans ers) ?_)
  show Rn _ [.dat (.lst (ns.map .int)), .dat (.int (0 + (i : Int))), .dat (.lst (rs.map .int)), x3, x4, x5, x6, x7] _
  obtain ⟨ta, eta, hta⟩ := law_text_ex (rs.take 45) (by rw [List.length_take, lrs]; decide)
  obtain ⟨tb, etb, htb⟩ := law_text_ex (rs.drop 45) (by rw [List.length_drop, lrs])
  have e1 : slc (gv 2) noPart (part (kI 45)) [.dat (.lst (ns.map .int)), .dat (.int (0 + (i : Int))), .dat (.lst (rs.map .int)), x3, x4, x5, x6, x7] = some (.lst ((rs.take 45).map .int)) := by
    rw [slL_of (ds := rs.map .int) rfl rfl (part_of rfl), List.map_take]
    exact congrArg (fun z => some (D.lst z)) (cut_to _ 45)
  have e2 : slc (gv 2) (part (kI 45)) noPart [.dat (.lst (ns.map .int)), .dat (.int (0 + (i : Int))), .dat (.lst (rs.map .int)), x3, x4, x5, x6, x7] = some (.lst ((rs.drop 45).map .int)) := by
    rw [slL_of (ds := rs.map .int) rfl (part_of rfl) rfl, List.map_drop]
    exact congrArg (fun z => some (D.lst z)) (cut_from _ 45)
  refine Rn.for (ds := [.str ta, .str tb]) (iOf_of (mkL_of (aC2 ((call_of (aC1 e1) rfl).trans eta) ((call_of (aC1 e2) rfl).trans etb)) (by simp)) rfl)
    (fun _ ρ => ∃ x3 x4 x5 x6 x7 : O, ρ = [.dat (.lst (ns.map .int)), .dat (.int (0 + (i : Int))), .dat (.lst (rs.map .int)), x3, x4, x5, x6, x7]) ⟨_, _, _, _, _, rfl⟩ (fun j d ρ hd hI => ?_) (fun ρ ⟨_, _, _, _, _, e⟩ => ⟨_, _, _, _, _, _, _, e⟩)
  obtain ⟨y3, y4, y5, y6, y7, rfl⟩ := hI
  obtain ⟨t, rfl, ht⟩ : ∃ t : Str, d = .str t ∧ t.length ≤ 100 := by
    match j, hd with
    | 0, hd => cases hd; exact ⟨ta, rfl, hta⟩
    | 1, hd => cases hd; exact ⟨tb, rfl, htb⟩
    | j + 2, hd => simp at hd
  refine ⟨_, rfl, ?_⟩
  have p1 := is_name_eq t (by omega)
  have p2 := is_label_eq t (by omega)
  have p3 := is_number_eq t (by omega)
  have q1 := law_is_name_eq t (by omega)
  have q2 := law_is_label_eq t (by omega)
  have q3 := law_is_number_eq t (by omega)
  let A : D := .lst [.bl (nameB t.cps.toList), .bl (labB t.cps.toList), .bl (numB t.cps.toList)]
  refine Rn.sq (Rn.st (d := A) (mkL_of (aC ((call_of (aC1 rfl) rfl).trans p1) (aC2 ((call_of (aC1 rfl) rfl).trans p2) ((call_of (aC1 rfl) rfl).trans p3))) (by simp)) ?_)
  refine Rn.sq (Rn.st (d := A) (mkL_of (aC ((call_of (aC1 rfl) rfl).trans p1) (aC2 ((call_of (aC1 rfl) rfl).trans p2) ((call_of (aC1 rfl) rfl).trans p3))) (by simp)) ?_)
  refine Rn.sq (Rn.st (d := A) (mkL_of (aC ((call_of (aC1 rfl) rfl).trans q1) (aC2 ((call_of (aC1 rfl) rfl).trans q2) ((call_of (aC1 rfl) rfl).trans q3))) (by simp)) ?_)
  refine Rn.for (ds := rangeD 0 3) (rng1_of (n := 3) rfl (by decide)) (fun _ ρ => ∃ y7 : O, ρ = [.dat (.lst (ns.map .int)), .dat (.int (0 + (i : Int))), .dat (.lst (rs.map .int)), .dat (.str t), .dat A, .dat A, .dat A, y7]) ⟨_, rfl⟩ (fun k d ρ hd hI => ?_) (fun ρ ⟨_, e⟩ => ⟨_, _, _, _, _, e⟩)
  obtain ⟨hk, rfl⟩ := range_get hd
  obtain ⟨z7, rfl⟩ := hI
  refine ⟨_, rfl, ?_⟩
  obtain ⟨b, eb⟩ : ∃ b : Bool, atI [D.bl (nameB t.cps.toList), .bl (labB t.cps.toList), .bl (numB t.cps.toList)] (0 + (k : Int)) = some (.bl b) := by
    rw [Int.zero_add]
    match k, hk with
    | 0, _ => exact ⟨_, atI_nat (j := 0) rfl⟩
    | 1, _ => exact ⟨_, atI_nat (j := 1) rfl⟩
    | 2, _ => exact ⟨_, atI_nat (j := 2) rfl⟩
  have et : m_law_told [.bl b, .bl b] = some (.bl true) := by rw [law_told_eq, decide_eq_true rfl]
  refine Rn.ite (t := false) (orT_of (a := false) (b := false) (notT_of (a := true) (asB_of ((call_of (aC2 (b2_of (x := A) rfl rfl |>.trans eb) (b2_of (x := A) rfl rfl |>.trans eb)) rfl).trans et))) fun _ => notT_of (a := true) (asB_of ((call_of (aC2 (b2_of (x := A) rfl rfl |>.trans eb) (b2_of (x := A) rfl rfl |>.trans eb)) rfl).trans et))) (fun h => nomatch h) (fun _ => Rn.skip ⟨_, rfl⟩)
end K00

namespace K00
open PySem PySem.Spec L2 PD
theorem all_mk {lw : PySem.W.OpenLaw} {w : World} {fa : Addr} {K : PySem.W.Frag} {h : Heap} {mg : Str → Option Value} (X : K.In h) (G : h.Ns mainGlobals mg)
    (z0 : PySem.W.nsIn K mainGlobals "all" = some none)
    (z1 : PySem.W.nsIn K mainGlobals "bool" = some none)
    (z2 : PySem.W.nsIn K mainGlobals "int" = some none)
    (z3 : PySem.W.nsIn K mainGlobals "isinstance" = some none)
    (z4 : PySem.W.nsIn K mainGlobals "len" = some none)
    (z5 : PySem.W.nsIn K mainGlobals "max" = some none)
    (z6 : PySem.W.nsIn K mainGlobals "min" = some none)
    (z7 : PySem.W.nsIn K mainGlobals "range" = some none)
    {t0 : Tok} (y0 : PySem.W.nsIn K mainGlobals "LETTERS" = some (some (.str "abcdefghijklmnopqrstuvwxyz" t0)))
    {t1 : Tok} (y1 : PySem.W.nsIn K mainGlobals "DIGITS" = some (some (.str "0123456789" t1)))
    {t2 : Tok} (y2 : PySem.W.nsIn K mainGlobals "LONGEST_NAME" = some (some (.int 12 t2)))
    {f0 : Addr} {oc0 kV0 dc0 pm0 cd0 ct0 : Value} {od0 an0 : Option Addr} {sl0 : Array (Option Value)}
    (a0 : PySem.W.nsIn K mainGlobals "is_name" = some (some (.ref f0))) (l0 : K.lookup f0 = some ⟨oc0, od0, .func (PySem.W.fnOf "is_name" "is_name" (defArgs sis_name) (defBody sis_name) (defScope sis_name) .none kV0 dc0 pm0 an0 cd0 ct0), sl0⟩) (c0 : PySem.W.codeIn K cd0 "is_name" = true) (k0 : PySem.W.keepIn K (.ref f0) = true)
    {f1 : Addr} {oc1 kV1 dc1 pm1 cd1 ct1 : Value} {od1 an1 : Option Addr} {sl1 : Array (Option Value)}
    (a1 : PySem.W.nsIn K mainGlobals "is_number" = some (some (.ref f1))) (l1 : K.lookup f1 = some ⟨oc1, od1, .func (PySem.W.fnOf "is_number" "is_number" (defArgs sis_number) (defBody sis_number) (defScope sis_number) .none kV1 dc1 pm1 an1 cd1 ct1), sl1⟩) (c1 : PySem.W.codeIn K cd1 "is_number" = true) (k1 : PySem.W.keepIn K (.ref f1) = true)
    {f2 : Addr} {oc2 kV2 dc2 pm2 cd2 ct2 : Value} {od2 an2 : Option Addr} {sl2 : Array (Option Value)}
    (a2 : PySem.W.nsIn K mainGlobals "_law_cell" = some (some (.ref f2))) (l2 : K.lookup f2 = some ⟨oc2, od2, .func (PySem.W.fnOf "_law_cell" "_law_cell" (defArgs s_law_cell) (defBody s_law_cell) (defScope s_law_cell) .none kV2 dc2 pm2 an2 cd2 ct2), sl2⟩) (c2 : PySem.W.codeIn K cd2 "_law_cell" = true) (k2 : PySem.W.keepIn K (.ref f2) = true)
    {f3 : Addr} {oc3 kV3 dc3 pm3 cd3 ct3 : Value} {od3 an3 : Option Addr} {sl3 : Array (Option Value)}
    (a3 : PySem.W.nsIn K mainGlobals "_law_row" = some (some (.ref f3))) (l3 : K.lookup f3 = some ⟨oc3, od3, .func (PySem.W.fnOf "_law_row" "_law_row" (defArgs s_law_row) (defBody s_law_row) (defScope s_law_row) .none kV3 dc3 pm3 an3 cd3 ct3), sl3⟩) (c3 : PySem.W.codeIn K cd3 "_law_row" = true) (k3 : PySem.W.keepIn K (.ref f3) = true)
    {f4 : Addr} {oc4 kV4 dc4 pm4 cd4 ct4 : Value} {od4 an4 : Option Addr} {sl4 : Array (Option Value)}
    (a4 : PySem.W.nsIn K mainGlobals "_law_chars" = some (some (.ref f4))) (l4 : K.lookup f4 = some ⟨oc4, od4, .func (PySem.W.fnOf "_law_chars" "_law_chars" (defArgs s_law_chars) (defBody s_law_chars) (defScope s_law_chars) .none kV4 dc4 pm4 an4 cd4 ct4), sl4⟩) (c4 : PySem.W.codeIn K cd4 "_law_chars" = true) (k4 : PySem.W.keepIn K (.ref f4) = true)
    {f5 : Addr} {oc5 kV5 dc5 pm5 cd5 ct5 : Value} {od5 an5 : Option Addr} {sl5 : Array (Option Value)}
    (a5 : PySem.W.nsIn K mainGlobals "_law_is_name" = some (some (.ref f5))) (l5 : K.lookup f5 = some ⟨oc5, od5, .func (PySem.W.fnOf "_law_is_name" "_law_is_name" (defArgs s_law_is_name) (defBody s_law_is_name) (defScope s_law_is_name) .none kV5 dc5 pm5 an5 cd5 ct5), sl5⟩) (c5 : PySem.W.codeIn K cd5 "_law_is_name" = true) (k5 : PySem.W.keepIn K (.ref f5) = true)
    {f6 : Addr} {oc6 kV6 dc6 pm6 cd6 ct6 : Value} {od6 an6 : Option Addr} {sl6 : Array (Option Value)}
    (a6 : PySem.W.nsIn K mainGlobals "_law_is_number" = some (some (.ref f6))) (l6 : K.lookup f6 = some ⟨oc6, od6, .func (PySem.W.fnOf "_law_is_number" "_law_is_number" (defArgs s_law_is_number) (defBody s_law_is_number) (defScope s_law_is_number) .none kV6 dc6 pm6 an6 cd6 ct6), sl6⟩) (c6 : PySem.W.codeIn K cd6 "_law_is_number" = true) (k6 : PySem.W.keepIn K (.ref f6) = true)
    {f7 : Addr} {oc7 kV7 dc7 pm7 cd7 ct7 : Value} {od7 an7 : Option Addr} {sl7 : Array (Option Value)}
    (a7 : PySem.W.nsIn K mainGlobals "_law_told" = some (some (.ref f7))) (l7 : K.lookup f7 = some ⟨oc7, od7, .func (PySem.W.fnOf "_law_told" "_law_told" (defArgs s_law_told) (defBody s_law_told) (defScope s_law_told) .none kV7 dc7 pm7 an7 cd7 ct7), sl7⟩) (c7 : PySem.W.codeIn K cd7 "_law_told" = true) (k7 : PySem.W.keepIn K (.ref f7) = true)
    {f8 : Addr} {oc8 kV8 dc8 pm8 cd8 ct8 : Value} {od8 an8 : Option Addr} {sl8 : Array (Option Value)}
    (a8 : PySem.W.nsIn K mainGlobals "is_label" = some (some (.ref f8))) (l8 : K.lookup f8 = some ⟨oc8, od8, .func (PySem.W.fnOf "is_label" "is_label" (defArgs sis_label) (defBody sis_label) (defScope sis_label) .none kV8 dc8 pm8 an8 cd8 ct8), sl8⟩) (c8 : PySem.W.codeIn K cd8 "is_label" = true) (k8 : PySem.W.keepIn K (.ref f8) = true)
    {f9 : Addr} {oc9 kV9 dc9 pm9 cd9 ct9 : Value} {od9 an9 : Option Addr} {sl9 : Array (Option Value)}
    (a9 : PySem.W.nsIn K mainGlobals "_law_text" = some (some (.ref f9))) (l9 : K.lookup f9 = some ⟨oc9, od9, .func (PySem.W.fnOf "_law_text" "_law_text" (defArgs s_law_text) (defBody s_law_text) (defScope s_law_text) .none kV9 dc9 pm9 an9 cd9 ct9), sl9⟩) (c9 : PySem.W.codeIn K cd9 "_law_text" = true) (k9 : PySem.W.keepIn K (.ref f9) = true)
    {f10 : Addr} {oc10 kV10 dc10 pm10 cd10 ct10 : Value} {od10 an10 : Option Addr} {sl10 : Array (Option Value)}
    (a10 : PySem.W.nsIn K mainGlobals "_law_is_label" = some (some (.ref f10))) (l10 : K.lookup f10 = some ⟨oc10, od10, .func (PySem.W.fnOf "_law_is_label" "_law_is_label" (defArgs s_law_is_label) (defBody s_law_is_label) (defScope s_law_is_label) .none kV10 dc10 pm10 an10 cd10 ct10), sl10⟩) (c10 : PySem.W.codeIn K cd10 "_law_is_label" = true) (k10 : PySem.W.keepIn K (.ref f10) = true)
    {f11 : Addr} {oc11 kV11 dc11 pm11 cd11 ct11 : Value} {od11 an11 : Option Addr} {sl11 : Array (Option Value)}
    (a11 : PySem.W.nsIn K mainGlobals "law" = some (some (.ref f11))) (l11 : K.lookup f11 = some ⟨oc11, od11, .func (PySem.W.fnOf "law" "law" (defArgs slaw) (defBody slaw) (defScope slaw) .none kV11 dc11 pm11 an11 cd11 ct11), sl11⟩) (c11 : PySem.W.codeIn K cd11 "law" = true) (k11 : PySem.W.keepIn K (.ref f11) = true) (hfa : mg "law" = some (.ref fa)) :
    ∃ fd : FuncData, (∀ (s : Shared) (v : Value), BindsTo s fd ⟨[v], []⟩ [("_law_script", v)]) ∧ ∀ base : Heap, K.In base → base.Ns mainGlobals mg → FnOk lw.prog w K mg base CX0 3 fa fd ["_law_script"] (spP K 1 mlaw) := by
  obtain ⟨T, hb⟩ := tx_mk X G z0 z1 z2 z3 z4 z5 z6 z7 y0 y1 y2 a0 l0 c0 k0 a1 l1 c1 k1 a2 l2 c2 k2 a3 l3 c3 k3 a4 l4 c4 k4 a5 l5 c5 k5 a6 l6 c6 k6 a7 l7 c7 k7 a8 l8 c8 k8 a9 l9 c9 k9 a10 l10 c10 k10 a11 l11 c11 k11
  have e : fa = T.flaw := by
    have := hfa.symm.trans T.glaw
    cases this
    rfl
  subst e
  exact ⟨T.fdlaw, hb, fun base _ _ => T.oklaw⟩
end K00
open PySem PySem.W PyProof.Rows
set_option maxHeartbeats 0 in
theorem PySem.Challenge.cw_playhall_k00_names_and_numbers_holds : PySem.Challenge.rw_playhall_k00_names_and_numbers.Holds := by
  w_on; o_law; k_head; (case hw => w_witness2)
  k_fill
  refine L2.walk_of (l := PySem.Challenge.rw_playhall_k00_names_and_numbers) (n := 63) (k := 3) (x := "_law_script") (CX := fun _ => L2.CX0) (sp := fun w => PD.spP _ 1 K00.mlaw) rfl (by decide) rfl ⟨rfl, by decide, by decide⟩ (fun w h Y => PySem.W.kIn_of Y) ?F (fun _ H a ns hl _ hS => PD.end_of K00.law_true hl hS) (fun _ _ _ _ _ h => h)
  case F =>
    intro w mg fa h KX G hmg
    refine' K00.all_mk KX G ?z0 ?z1 ?z2 ?z3 ?z4 ?z5 ?z6 ?z7 ?y0 ?y1 ?y2 ?a0 ?l0 ?c0 ?k0 ?a1 ?l1 ?c1 ?k1 ?a2 ?l2 ?c2 ?k2 ?a3 ?l3 ?c3 ?k3 ?a4 ?l4 ?c4 ?k4 ?a5 ?l5 ?c5 ?k5 ?a6 ?l6 ?c6 ?k6 ?a7 ?l7 ?c7 ?k7 ?a8 ?l8 ?c8 ?k8 ?a9 ?l9 ?c9 ?k9 ?a10 ?l10 ?c10 ?k10 ?a11 ?l11 ?c11 ?k11 hmg
    (case z0 => k_is); (case z1 => k_is); (case z2 => k_is); (case z3 => k_is); (case z4 => k_is); (case z5 => k_is); (case z6 => k_is); (case z7 => k_is); (case y0 => k_is); (case y1 => k_is); (case y2 => k_is); (case a0 => k_is); (case l0 => k_is); (case c0 => k_is); (case k0 => k_is); (case a1 => k_is); (case l1 => k_is); (case c1 => k_is); (case k1 => k_is); (case a2 => k_is); (case l2 => k_is); (case c2 => k_is); (case k2 => k_is); (case a3 => k_is); (case l3 => k_is); (case c3 => k_is); (case k3 => k_is); (case a4 => k_is); (case l4 => k_is); (case c4 => k_is); (case k4 => k_is); (case a5 => k_is); (case l5 => k_is); (case c5 => k_is); (case k5 => k_is); (case a6 => k_is); (case l6 => k_is); (case c6 => k_is); (case k6 => k_is); (case a7 => k_is); (case l7 => k_is); (case c7 => k_is); (case k7 => k_is); (case a8 => k_is); (case l8 => k_is); (case c8 => k_is); (case k8 => k_is); (case a9 => k_is); (case l9 => k_is); (case c9 => k_is); (case k9 => k_is); (case a10 => k_is); (case l10 => k_is); (case c10 => k_is); (case k10 => k_is); (case a11 => k_is); (case l11 => k_is); (case c11 => k_is); (case k11 => k_is)

