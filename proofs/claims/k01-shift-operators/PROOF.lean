import PyProof.Rows.All
import Wide.All
import OpenK.AllK
import Wide.FinOn
import HandS.ForMost
import HandS.ForExc
import HandS.Walk
import HandS.Wide
import HandS.Defaults
import HandS.IsInst
import HandS.Flow
import HandS.Property
import HandS.MakeKw
import KE.KOpsOwn
import KE.SortData
import KE.KDictCopyH
import HandS.ListItems
import HandS.Conv
import HandS.TupAny
import HandS.Style
import HandS.EndBits
import PySem.Challenge.RW_playhall_k01_shift_operators
set_option Elab.async false
set_option linter.all false
set_option maxRecDepth 100000
set_option maxHeartbeats 4000000
namespace PD
open PySem PySem.Spec PyProof.Rows L2

/-! ### data and owned things -/
inductive D where
  | non | bl (b : Bool) | int (i : Int) | str (x : Str) | lst (xs : List D) | tup (xs : List D)
  | dic (ks : List Key) (vs : List D) | obj (C : Addr) (fs : List Str) (vs : List D)

inductive O where
  | unk | dat (d : D) | lst (xs : List O) | tup (xs : List O) | dic (ks : List Key) (vs : List O) | obj (C : Addr) (fs : List Str) (vs : List O)

mutual
def O.toD : O → Option D
  | .unk => none
  | .dat d => some d
  | .lst xs => (O.toDs xs).map .lst
  | .tup xs => (O.toDs xs).map .tup
  | .dic ks vs => (O.toDs vs).map (.dic ks)
  | .obj C fs vs => (O.toDs vs).map (.obj C fs)
def O.toDs : List O → Option (List D)
  | [] => some []
  | o :: os => match O.toD o, O.toDs os with
    | some d, some ds => some (d :: ds)
    | _, _ => none
end

/-- a list that is looked at: tracked, or one of the written part -/
def SqX (K : PySem.W.Frag) (H : Hp) (a : Addr) (xs : List V) : Prop :=
  Rd H a (.lst xs) ∨ ∃ (its : Array Value) (n : Nat), K.lookup a = some ({ cls := .type "list", data := .seq its n } : Obj) ∧ its.size ≤ sizeLine ∧ Vals xs its.toList
theorem SqX.toL {K : PySem.W.Frag} {H : Hp} {a : Addr} {xs : List V} (h : SqX K H a xs) : SqL K H a xs := by
  rcases h with h | ⟨its, n, lk, hz, r⟩
  · exact .inl h
  · exact .inr ⟨_, its, n, lk, rfl, rfl, rfl, hz, r⟩
theorem sqX_same {K : PySem.W.Frag} {H H' : Hp} {a : Addr} {xs : List V} (e : Same H H') (h : SqX K H a xs) : SqX K H' a xs := by
  rcases h with (h | ⟨o, h⟩) | h
  · exact .inl (.inl (e _ _ h))
  · exact .inl (.inr ⟨o, e _ _ h⟩)
  · exact .inr h
theorem seqX {K : PySem.W.Frag} {H H' : Hp} {a : Addr} {xs : List V} (e : Same H H') (h : SqX K H a xs) : SqL K H' a xs := (sqX_same e h).toL
mutual
inductive Dv (K : PySem.W.Frag) (M : Hp) : V → D → Prop
  | non : Dv K M .non .non
  | bl (b : Bool) : Dv K M (.bl b) (.bl b)
  | int (i : Int) : Dv K M (.int i) (.int i)
  | str (x : Str) : Dv K M (.str x) (.str x)
  | lst {a : Addr} {xs : List V} {ds : List D} : SqX K M a xs → Dvs K M xs ds → Dv K M (.ref a) (.lst ds)
  | tup {a : Addr} {xs : List V} {ds : List D} : SqT K M a xs → Dvs K M xs ds → Dv K M (.ref a) (.tup ds)
  | dic {a : Addr} {kvs : List (Key × V)} {ks : List Key} {ds : List D} : M a = some (.dK kvs) → kvs.map (·.1) = ks → Dvs K M (kvs.map (·.2)) ds → Dv K M (.ref a) (.dic ks ds)
  | obj {a C dx : Addr} {fs : List (Str × V)} {ks : List Str} {ds : List D} : M a = some (.ins C dx fs) → M dx = some (.own a) → fs.map (·.1) = ks → Dvs K M (fs.map (·.2)) ds → Dv K M (.ref a) (.obj C ks ds)
inductive Dvs (K : PySem.W.Frag) (M : Hp) : List V → List D → Prop
  | nil : Dvs K M [] []
  | cons {v : V} {vs : List V} {d : D} {ds : List D} : Dv K M v d → Dvs K M vs ds → Dvs K M (v :: vs) (d :: ds)
end

theorem sqT_same {K : PySem.W.Frag} {H H' : Hp} {a : Addr} {xs : List V} (e : Same H H') (h : SqT K H a xs) : SqT K H' a xs := by
  rcases h with (h | ⟨o, h⟩) | h
  · exact .inl (.inl (e _ _ h))
  · exact .inl (.inr ⟨o, e _ _ h⟩)
  · exact .inr h

section
variable {K : PySem.W.Frag} {M M' : Hp}
mutual
theorem Dv.mono (s : Same M M') : ∀ {v : V} {d : D}, Dv K M v d → Dv K M' v d
  | _, _, .non => .non
  | _, _, .bl b => .bl b
  | _, _, .int i => .int i
  | _, _, .str x => .str x
  | _, _, .lst h hs => .lst (sqX_same s h) (Dvs.mono s hs)
  | _, _, .tup h hs => .tup (sqT_same s h) (Dvs.mono s hs)
  | _, _, .dic h e hs => .dic (s _ _ h) e (Dvs.mono s hs)
  | _, _, .obj h h2 e hs => .obj (s _ _ h) (s _ _ h2) e (Dvs.mono s hs)
theorem Dvs.mono (s : Same M M') : ∀ {vs : List V} {ds : List D}, Dvs K M vs ds → Dvs K M' vs ds
  | _, _, .nil => .nil
  | _, _, .cons h hs => .cons (Dv.mono s h) (Dvs.mono s hs)
end
theorem Dvs.length {vs : List V} {ds : List D} (h : Dvs K M vs ds) : vs.length = ds.length := by
  induction ds generalizing vs with
  | nil => cases h; rfl
  | cons d ds ih => cases h with | cons _ t => simp [ih t]
theorem Dvs.get : ∀ {vs : List V} {ds : List D} {i : Nat} {d : D}, Dvs K M vs ds → ds[i]? = some d → ∃ v, vs[i]? = some v ∧ Dv K M v d
  | _, _, 0, _, .cons h _, e => by simp at e; subst e; exact ⟨_, rfl, h⟩
  | _, _, i + 1, d, .cons _ t, e => by
    obtain ⟨v, e1, e2⟩ := Dvs.get (i := i) (d := d) t (by simpa using e)
    exact ⟨v, by simpa using e1, e2⟩
  | _, _, _, _, .nil, e => by simp at e
theorem Dvs.getV : ∀ {vs : List V} {ds : List D} {i : Nat} {v : V}, Dvs K M vs ds → vs[i]? = some v → ∃ d, ds[i]? = some d ∧ Dv K M v d
  | _, _, 0, _, .cons h _, e => by simp at e; subst e; exact ⟨_, rfl, h⟩
  | _, _, i + 1, d, .cons _ t, e => by
    obtain ⟨v, e1, e2⟩ := Dvs.getV (i := i) (v := d) t (by simpa using e)
    exact ⟨v, by simpa using e1, e2⟩
  | _, _, _, _, .nil, e => by simp at e
theorem Dvs.append : ∀ {vs ws : List V} {ds es : List D}, Dvs K M vs ds → Dvs K M ws es → Dvs K M (vs ++ ws) (ds ++ es)
  | _, _, _, _, .nil, s => s
  | _, _, _, _, .cons r t, s => .cons r (Dvs.append t s)
theorem Dvs.take : ∀ {vs : List V} {ds : List D} (n : Nat), Dvs K M vs ds → Dvs K M (vs.take n) (ds.take n)
  | _, _, 0, _ => .nil
  | _, _, _ + 1, .nil => .nil
  | _, _, n + 1, .cons r t => .cons r (Dvs.take n t)
theorem Dvs.drop : ∀ {vs : List V} {ds : List D} (n : Nat), Dvs K M vs ds → Dvs K M (vs.drop n) (ds.drop n)
  | _, _, 0, r => r
  | _, _, _ + 1, .nil => .nil
  | _, _, n + 1, .cons _ t => Dvs.drop n t
end

mutual
inductive Ow (K : PySem.W.Frag) (M H : Hp) : O → Option V → List Addr → Prop
  | unk {v : Option V} : Ow K M H .unk v []
  | dat {v : V} {d : D} : Dv K M v d → Ow K M H (.dat d) (some v) []
  | lst {a : Addr} {xs : List V} {os : List O} {fp : List Addr} : H a = some (.lst xs) → Ows K M H os (xs.map some) fp → Ow K M H (.lst os) (some (.ref a)) (a :: fp)
  | tup {a : Addr} {xs : List V} {os : List O} {fp : List Addr} : H a = some (.tup xs) → Ows K M H os (xs.map some) fp → Ow K M H (.tup os) (some (.ref a)) (a :: fp)
  | dic {a : Addr} {kvs : List (Key × V)} {ks : List Key} {os : List O} {fp : List Addr} : H a = some (.dK kvs) → kvs.map (·.1) = ks → Ows K M H os (kvs.map fun p => some p.2) fp → Ow K M H (.dic ks os) (some (.ref a)) (a :: fp)
  | obj {a C dx : Addr} {fs : List (Str × V)} {ks : List Str} {os : List O} {fp : List Addr} : H a = some (.ins C dx fs) → H dx = some (.own a) → fs.map (·.1) = ks → Ows K M H os (fs.map fun p => some p.2) fp →
      Ow K M H (.obj C ks os) (some (.ref a)) (a :: dx :: fp)
inductive Ows (K : PySem.W.Frag) (M H : Hp) : List O → List (Option V) → List Addr → Prop
  | nil : Ows K M H [] [] []
  | cons {o : O} {v : Option V} {f1 : List Addr} {os : List O} {vs : List (Option V)} {f2 : List Addr} : Ow K M H o v f1 → Ows K M H os vs f2 → Ows K M H (o :: os) (v :: vs) (f1 ++ f2)
end

section
variable {K : PySem.W.Frag} {M M' H H' : Hp}
mutual
theorem Ow.frame (s : Same M M') : ∀ {o : O} {v : Option V} {fp : List Addr}, Ow K M H o v fp → (∀ a ∈ fp, H' a = H a) → Ow K M' H' o v fp
  | _, _, _, .unk, _ => .unk
  | _, _, _, .dat h, _ => .dat (h.mono s)
  | _, _, _, .lst h hs, k => .lst ((k _ List.mem_cons_self).trans h) (Ows.frame s hs fun a ha => k a (List.mem_cons_of_mem _ ha))
  | _, _, _, .tup h hs, k => .tup ((k _ List.mem_cons_self).trans h) (Ows.frame s hs fun a ha => k a (List.mem_cons_of_mem _ ha))
  | _, _, _, .dic h e hs, k => .dic ((k _ List.mem_cons_self).trans h) e (Ows.frame s hs fun a ha => k a (List.mem_cons_of_mem _ ha))
  | _, _, _, .obj h h2 e hs, k => .obj ((k _ List.mem_cons_self).trans h) ((k _ (List.mem_cons_of_mem _ List.mem_cons_self)).trans h2) e (Ows.frame s hs fun a ha => k a (List.mem_cons_of_mem _ (List.mem_cons_of_mem _ ha)))
theorem Ows.frame (s : Same M M') : ∀ {os : List O} {vs : List (Option V)} {fp : List Addr}, Ows K M H os vs fp → (∀ a ∈ fp, H' a = H a) → Ows K M' H' os vs fp
  | _, _, _, .nil, _ => .nil
  | _, _, _, .cons h hs, k => .cons (Ow.frame s h fun a ha => k a (List.mem_append_left _ ha)) (Ows.frame s hs fun a ha => k a (List.mem_append_right _ ha))
end
mutual
theorem Ow.dom : ∀ {o : O} {v : Option V} {fp : List Addr}, Ow K M H o v fp → ∀ a ∈ fp, H a ≠ none
  | _, _, _, .unk, _, h => nomatch h
  | _, _, _, .dat _, _, h => nomatch h
  | _, _, _, .lst h hs, a, ha => by
    rcases List.mem_cons.mp ha with rfl | ha
    · rw [h]; exact fun z => nomatch z
    · exact Ows.dom hs a ha
  | _, _, _, .tup h hs, a, ha => by
    rcases List.mem_cons.mp ha with rfl | ha
    · rw [h]; exact fun z => nomatch z
    · exact Ows.dom hs a ha
  | _, _, _, .dic h _ hs, a, ha => by
    rcases List.mem_cons.mp ha with rfl | ha
    · rw [h]; exact fun z => nomatch z
    · exact Ows.dom hs a ha
  | _, _, _, .obj h h2 _ hs, a, ha => by
    rcases List.mem_cons.mp ha with rfl | ha
    · rw [h]; exact fun z => nomatch z
    · rcases List.mem_cons.mp ha with rfl | ha
      · rw [h2]; exact fun z => nomatch z
      · exact Ows.dom hs a ha
theorem Ows.dom : ∀ {os : List O} {vs : List (Option V)} {fp : List Addr}, Ows K M H os vs fp → ∀ a ∈ fp, H a ≠ none
  | _, _, _, .nil, _, h => nomatch h
  | _, _, _, .cons h hs, a, ha => (List.mem_append.mp ha).elim (Ow.dom h a) (Ows.dom hs a)
end
theorem Ows.length : ∀ {os : List O} {vs : List (Option V)} {fp : List Addr}, Ows K M H os vs fp → vs.length = os.length
  | _, _, _, .nil => rfl
  | _, _, _, .cons _ hs => by simp [hs.length]
theorem Ows.append : ∀ {a b : List O} {va vb : List (Option V)} {fa fb : List Addr}, Ows K M H a va fa → Ows K M H b vb fb → Ows K M H (a ++ b) (va ++ vb) (fa ++ fb)
  | _, _, _, _, _, _, .nil, s => s
  | _, _, _, _, _, _, .cons r t, s => by
    rw [List.append_assoc]
    exact .cons r (Ows.append t s)
theorem Ows.split : ∀ {a b : List O} {va vb : List (Option V)} {fp : List Addr}, Ows K M H (a ++ b) (va ++ vb) fp → va.length = a.length → ∃ fa fb, fp = fa ++ fb ∧ Ows K M H a va fa ∧ Ows K M H b vb fb
  | [], _, [], _, fp, h, _ => ⟨[], fp, rfl, .nil, h⟩
  | o :: a, b, v :: va, vb, _, h, e => by
    cases h with
    | cons h hs =>
      obtain ⟨fa, fb, e1, h1, h2⟩ := Ows.split hs (by simpa using e)
      exact ⟨_ ++ fa, fb, by rw [e1, List.append_assoc], .cons h h1, h2⟩
  | [], _, _ :: _, _, _, _, e => by simp at e
  | _ :: _, _, [], _, _, _, e => by simp at e
end

/-- the state: M the frozen part, os the things known of the roots vs -/
def Rep (K : PySem.W.Frag) (M H : Hp) (os : List O) (vs : List (Option V)) : Prop :=
  Same M H ∧ ∃ fp, Ows K M H os vs fp ∧ fp.Nodup ∧ ∀ a ∈ fp, M a = none

section
variable {K : PySem.W.Frag} {M M' H H' : Hp} {os l r : List O} {vs lv rv : List (Option V)} {o : O} {v : Option V}
theorem Rep.same (h : Rep K M H os vs) : Same M H := h.1
theorem Rep.length (h : Rep K M H os vs) : vs.length = os.length := by obtain ⟨_, _, w, _⟩ := h; exact w.length
/-- a new object, not frozen -/
theorem Rep.grow (h : Rep K M H os vs) {p : Addr} {u : HO} (hp : H p = none) : Rep K M (upd H p u) os vs := by
  obtain ⟨s, fp, w, nd, nm⟩ := h
  refine ⟨fun b x e => ?_, fp, w.frame (Same.refl _) (fun a ha => upd_ne fun z => w.dom a ha (z ▸ hp)), nd, nm⟩
  rw [upd_ne (ne_of_none (s b x e) hp)]; exact s b x e
theorem same_updM {M : Hp} {p : Addr} (hp : M p = none) {u : HO} : Same M (upd M p u) := fun b x e => by
  rw [upd_ne (ne_of_none e hp)]; exact e
/-- a new frozen object -/
theorem Rep.growM (h : Rep K M H os vs) {p : Addr} {u : HO} (hp : H p = none) : Rep K (upd M p u) (upd H p u) os vs := by
  obtain ⟨s, fp, w, nd, nm⟩ := h
  have mp : M p = none := s.free hp
  refine ⟨fun b x e => ?_, fp, w.frame (same_updM mp) (fun a ha => upd_ne fun z => w.dom a ha (z ▸ hp)), nd, fun a ha => ?_⟩
  · by_cases hb : b = p
    · subst hb; rw [upd_same] at e ⊢; exact e
    · rw [upd_ne hb] at e ⊢; exact s b x e
  · rw [upd_ne (show a ≠ p from fun z => w.dom a ha (by rw [z]; exact hp))]; exact nm a ha
theorem Rep.mid (h : Rep K M H (l ++ o :: r) (lv ++ v :: rv)) (e : lv.length = l.length) : ∃ fa f fb, Ows K M H l lv fa ∧ Ow K M H o v f ∧ Ows K M H r rv fb ∧ (fa ++ (f ++ fb)).Nodup ∧ (∀ a ∈ fa ++ (f ++ fb), M a = none) := by
  obtain ⟨s, fp, w, nd, nm⟩ := h
  obtain ⟨fa, fb, e1, w1, w2⟩ := w.split e
  cases w2 with
  | cons h2 h3 =>
    subst e1
    exact ⟨_, _, _, w1, h2, h3, nd, nm⟩
theorem Rep.datAt (h : Rep K M H (l ++ o :: r) (lv ++ v :: rv)) (e : lv.length = l.length) {d : D} (ho : o = .dat d) : ∃ x, v = some x ∧ Dv K M x d := by
  obtain ⟨_, _, _, _, w, _⟩ := h.mid e
  subst ho
  cases w with | dat w => exact ⟨_, rfl, w⟩
/-- one root is dropped -/
theorem Rep.drop (h : Rep K M H (l ++ o :: r) (lv ++ v :: rv)) (e : lv.length = l.length) : Rep K M H (l ++ r) (lv ++ rv) := by
  obtain ⟨fa, f, fb, w1, w2, w3, nd, nm⟩ := h.mid e
  refine ⟨h.1, fa ++ fb, w1.append w3, ?_, fun a ha => nm a ?_⟩
  · refine List.Nodup.sublist ?_ nd
    exact List.Sublist.append (List.Sublist.refl _) (List.sublist_append_right _ _)
  · simp only [List.mem_append] at ha ⊢
    rcases ha with ha | ha
    · exact .inl ha
    · exact .inr (.inr ha)
/-- a frozen root is added -/
theorem Rep.push (h : Rep K M H (l ++ r) (lv ++ rv)) (e : lv.length = l.length) {x : V} {d : D} (hd : Dv K M x d) : Rep K M H (l ++ .dat d :: r) (lv ++ some x :: rv) := by
  obtain ⟨s, fp, w, nd, nm⟩ := h
  obtain ⟨fa, fb, e1, w1, w2⟩ := w.split e
  subst e1
  exact ⟨s, fa ++ ([] ++ fb), w1.append (.cons (.dat hd) w2), nd, nm⟩
theorem Rep.pushU (h : Rep K M H (l ++ r) (lv ++ rv)) (e : lv.length = l.length) (x : Option V) : Rep K M H (l ++ .unk :: r) (lv ++ x :: rv) := by
  obtain ⟨s, fp, w, nd, nm⟩ := h
  obtain ⟨fa, fb, e1, w1, w2⟩ := w.split e
  subst e1
  exact ⟨s, fa ++ ([] ++ fb), w1.append (.cons .unk w2), nd, nm⟩
theorem set_split {α : Type} (xs : List α) (i : Nat) (y : α) : (∃ a z b, xs = a ++ z :: b ∧ a.length = i ∧ xs.set i y = a ++ y :: b) ∨ (xs.length ≤ i ∧ xs.set i y = xs) := by
  by_cases h : i < xs.length
  · refine .inl ⟨xs.take i, xs[i], xs.drop (i + 1), ?_, by simp [Nat.le_of_lt h], ?_⟩
    · rw [← List.drop_eq_getElem_cons h, List.take_append_drop]
    · rw [List.set_eq_take_append_cons_drop, if_pos h]
  · exact .inr ⟨by omega, List.set_eq_of_length_le (by omega)⟩
/-- slot i becomes a frozen thing -/
theorem Rep.setD {i : Nat} (h : Rep K M H (l ++ r) (lv ++ rv)) (e : lv.length = l.length) {x : V} {d : D} (hd : Dv K M x d) : Rep K M H (l.set i (.dat d) ++ r) (lv.set i (some x) ++ rv) := by
  rcases set_split l i (O.dat d) with ⟨a, z, b, e1, e2, e3⟩ | ⟨e1, e2⟩
  · rcases set_split lv i (some x) with ⟨a', z', b', e1', e2', e3'⟩ | ⟨e1', e2'⟩
    · rw [e3, e3']
      have ll : a'.length = a.length := by omega
      subst e1; subst e1'
      simp only [List.append_assoc, List.cons_append] at h ⊢
      exact (h.drop ll).push ll hd
    · exfalso; rw [e1] at e; simp at e; omega
  · rw [e2, List.set_eq_of_length_le (by omega)]; exact h
theorem Rep.setU {i : Nat} (h : Rep K M H (l ++ r) (lv ++ rv)) (e : lv.length = l.length) (x : Option V) : Rep K M H (l.set i .unk ++ r) (lv.set i x ++ rv) := by
  rcases set_split l i O.unk with ⟨a, z, b, e1, e2, e3⟩ | ⟨e1, e2⟩
  · rcases set_split lv i x with ⟨a', z', b', e1', e2', e3'⟩ | ⟨e1', e2'⟩
    · rw [e3, e3']
      have ll : a'.length = a.length := by omega
      subst e1; subst e1'
      simp only [List.append_assoc, List.cons_append] at h ⊢
      exact (h.drop ll).pushU ll x
    · exfalso; rw [e1] at e; simp at e; omega
  · rw [e2, List.set_eq_of_length_le (by omega)]; exact h
/-- the temporary on top of the frame goes into slot i -/
theorem Rep.into {i : Nat} (h : Rep K M H (l ++ o :: r) (lv ++ v :: rv)) (e : lv.length = l.length) : Rep K M H (l.set i o ++ r) (lv.set i v ++ rv) := by
  rcases set_split l i o with ⟨a, z, b, e1, e2, e3⟩ | ⟨e1, e2⟩
  · rcases set_split lv i v with ⟨a', z', b', e1', e2', e3'⟩ | ⟨e1', e2'⟩
    · rw [e3, e3']
      have ll : a'.length = a.length := by omega
      have lb : b'.length = b.length := by rw [e1, e1'] at e; simp at e; omega
      subst e1; subst e1'
      simp only [List.append_assoc, List.cons_append] at h ⊢
      have h1 := h.drop ll
      obtain ⟨fa, fb, w1, w2, nd, nm⟩ : ∃ fa fb, Ows K M H a a' fa ∧ Ows K M H (b ++ o :: r) (b' ++ v :: rv) fb ∧ (fa ++ fb).Nodup ∧ ∀ c ∈ fa ++ fb, M c = none := by
        obtain ⟨s, fp, w, nd, nm⟩ := h1
        obtain ⟨fa, fb, e1, w1, w2⟩ := w.split ll
        subst e1
        exact ⟨fa, fb, w1, w2, nd, nm⟩
      obtain ⟨gb, gr, e5, w3, w4⟩ := w2.split lb
      cases w4 with
      | cons w5 w6 =>
        rename_i f1 f2
        subst e5
        have pm : (fa ++ (f1 ++ (gb ++ f2))).Perm (fa ++ (gb ++ (f1 ++ f2))) := by
          refine List.Perm.append_left fa ?_
          rw [← List.append_assoc, ← List.append_assoc]
          exact List.Perm.append_right f2 List.perm_append_comm
        exact ⟨h.1, fa ++ (f1 ++ (gb ++ f2)), w1.append (.cons w5 (w3.append w6)), pm.nodup_iff.mpr nd, fun c hc => nm c (pm.mem_iff.mp hc)⟩
    · exfalso; rw [e1] at e; simp at e; omega
  · rw [e2, List.set_eq_of_length_le (by omega)]; exact h.drop e

/-! ### freezing -/
mutual
theorem Ow.frz (s : Same M M') : ∀ {o : O} {v : V} {fp : List Addr} {d : D}, Ow K M H o (some v) fp → (∀ a ∈ fp, M' a = H a) → o.toD = some d → Dv K M' v d
  | _, _, _, d, .dat h, _, e => by
    have := Option.some.inj (show some _ = some d from e)
    subst this
    exact h.mono s
  | .lst os, _, _, d, .lst h hs, k, e => by
    unfold O.toD at e
    cases q : O.toDs os with
    | none => rw [q] at e; cases e
    | some ds =>
      rw [q] at e
      have e' := Option.some.inj (show some (D.lst ds) = some d from e)
      subst e'
      exact .lst (.inl (.inl ((k _ List.mem_cons_self).trans h))) (Ows.frz s hs (fun a ha => k a (List.mem_cons_of_mem _ ha)) q)
  | .tup os, _, _, d, .tup h hs, k, e => by
    unfold O.toD at e
    cases q : O.toDs os with
    | none => rw [q] at e; cases e
    | some ds =>
      rw [q] at e
      have e' := Option.some.inj (show some (D.tup ds) = some d from e)
      subst e'
      exact .tup (.inl (.inl ((k _ List.mem_cons_self).trans h))) (Ows.frz s hs (fun a ha => k a (List.mem_cons_of_mem _ ha)) q)
  | .dic ks os, _, _, d, .dic (kvs := kvs) (fp := fp0) h hk hs, k, e => by
    unfold O.toD at e
    cases q : O.toDs os with
    | none => rw [q] at e; cases e
    | some ds =>
      rw [q] at e
      have e' := Option.some.inj (show some (D.dic ks ds) = some d from e)
      subst e'
      have hs' : Ows K M H os ((kvs.map (·.2)).map some) fp0 := by rw [List.map_map]; exact hs
      exact .dic ((k _ List.mem_cons_self).trans h) hk (Ows.frz s hs' (fun a ha => k a (List.mem_cons_of_mem _ ha)) q)
  | .obj C ks os, _, _, d, .obj (fs := kvs) (fp := fp0) h h2 hk hs, k, e => by
    unfold O.toD at e
    cases q : O.toDs os with
    | none => rw [q] at e; cases e
    | some ds =>
      rw [q] at e
      have e' := Option.some.inj (show some (D.obj C ks ds) = some d from e)
      subst e'
      have hs' : Ows K M H os ((kvs.map (·.2)).map some) fp0 := by rw [List.map_map]; exact hs
      exact .obj ((k _ List.mem_cons_self).trans h) ((k _ (List.mem_cons_of_mem _ List.mem_cons_self)).trans h2) hk (Ows.frz s hs' (fun a ha => k a (List.mem_cons_of_mem _ (List.mem_cons_of_mem _ ha))) q)
theorem Ows.frz (s : Same M M') : ∀ {os : List O} {vs : List V} {fp : List Addr} {ds : List D}, Ows K M H os (vs.map some) fp → (∀ a ∈ fp, M' a = H a) → O.toDs os = some ds → Dvs K M' vs ds
  | [], [], _, ds, .nil, _, e => by
    have e' := Option.some.inj (show some [] = some ds from e)
    subst e'
    exact .nil
  | o :: os, v :: vs, _, ds, .cons h hs, k, e => by
    unfold O.toDs at e
    cases q : O.toD o with
    | none => rw [q] at e; cases e
    | some d =>
      cases q2 : O.toDs os with
      | none => rw [q, q2] at e; cases e
      | some ds' =>
        rw [q, q2] at e
        have e' := Option.some.inj (show some (d :: ds') = some ds from e)
        subst e'
        exact .cons (Ow.frz s h (fun a ha => k a (List.mem_append_left _ ha)) q) (Ows.frz s hs (fun a ha => k a (List.mem_append_right _ ha)) q2)
end
theorem Rep.frz (h : Rep K M H (l ++ o :: r) (lv ++ v :: rv)) (e : lv.length = l.length) {d : D} {x : V} (hv : v = some x) (ho : o.toD = some d) :
    ∃ M', Same M M' ∧ Rep K M' H (l ++ .dat d :: r) (lv ++ v :: rv) ∧ Dv K M' x d := by
  obtain ⟨fa, f, fb, w1, w2, w3, nd, nm⟩ := h.mid e
  subst hv
  have s1 : Same M (fun a => if a ∈ f then H a else M a) := fun b y q => by
    have : b ∉ f := fun z => by
      have := nm b (by simp [z])
      rw [this] at q; cases q
    show (if b ∈ f then H b else M b) = some y
    rw [if_neg this]; exact q
  have kf : ∀ a ∈ f, (if a ∈ f then H a else M a) = H a := fun a ha => if_pos ha
  have dv := Ow.frz (H := H) s1 w2 kf ho
  have disj : ∀ a ∈ fa ++ fb, a ∉ f := fun a ha z => by
    rw [List.nodup_append] at nd
    obtain ⟨n1, n2, n3⟩ := nd
    rw [List.nodup_append] at n2
    rcases List.mem_append.mp ha with ha | ha
    · exact n3 a ha a (List.mem_append_left _ z) rfl
    · exact n2.2.2 a z a ha rfl
  refine ⟨_, s1, ⟨fun b y q => ?_, fa ++ ([] ++ fb), (w1.frame s1 fun _ _ => rfl).append (.cons (.dat dv) (w3.frame s1 fun _ _ => rfl)), ?_, fun a ha => ?_⟩, dv⟩
  · have q : (if b ∈ f then H b else M b) = some y := q
    split at q
    · exact q
    · exact h.1 b y q
  · refine List.Nodup.sublist ?_ nd
    exact List.Sublist.append (List.Sublist.refl _) (List.sublist_append_right _ _)
  · show (if a ∈ f then H a else M a) = none
    rw [if_neg (disj a (by simpa using ha))]
    refine nm a ?_
    rcases List.mem_append.mp ha with ha | ha
    · exact List.mem_append_left _ ha
    · exact List.mem_append_right _ (List.mem_append_right _ ha)
end
end PD

namespace PD
open PySem PySem.Spec PyProof.Rows L2

abbrev Ev := List O
/-- an error, as data -/
structure Exn where
  cls : Value
  fs : Option (List Str × List D)
def ExR (K : PySem.W.Frag) (M : Hp) (x : Exn) (cls : Value) (d : Option Addr) : Prop :=
  cls = x.cls ∧ ((x.fs = none ∧ d = none) ∨ ∃ ks ds da fvs, x.fs = some (ks, ds) ∧ d = some da ∧ M da = some (.xd fvs) ∧ fvs.map (·.1) = ks ∧ Dvs K M (fvs.map (·.2)) ds)

/-! ### readings by data -/
/-- a pure expression -/
def tP (K : PySem.W.Frag) (f : Ev → Option D) : TE := fun σ H Q => ∃ M ρ fo fv d, Rep K M H (ρ ++ fo) (σ ++ fv) ∧ σ.length = ρ.length ∧ f ρ = some d ∧
  ∀ M' H' v, Same M M' → Rep K M' H' (ρ ++ fo) (σ ++ fv) → Dv K M' v d → Q v H'
/-- an expression that may give a new thing of its own -/
def tO (K : PySem.W.Frag) (f : Ev → Option O) : TE := fun σ H Q => ∃ M ρ fo fv o, Rep K M H (ρ ++ fo) (σ ++ fv) ∧ σ.length = ρ.length ∧ f ρ = some o ∧
  ∀ M' H' v, Same M M' → Rep K M' H' (ρ ++ o :: fo) (σ ++ some v :: fv) → Q v H'
def tT (K : PySem.W.Frag) (f : Ev → Option Bool) : TT := fun σ H Q => ∃ M ρ fo fv b, Rep K M H (ρ ++ fo) (σ ++ fv) ∧ σ.length = ρ.length ∧ f ρ = some b ∧
  ∀ M' H', Same M M' → Rep K M' H' (ρ ++ fo) (σ ++ fv) → Q b H'
def tAr (K : PySem.W.Frag) (f : Ev → Option (List D)) : TA := fun σ H Q => ∃ M ρ fo fv ds, Rep K M H (ρ ++ fo) (σ ++ fv) ∧ σ.length = ρ.length ∧ f ρ = some ds ∧
  ∀ M' H' vs, Same M M' → Rep K M' H' (ρ ++ fo) (σ ++ fv) → Dvs K M' vs ds → Q vs H'

/-- how a statement ends -/
inductive Fl where
  | nx (ρ : Ev) | rt (o : O) (ρ : Ev) | bk (ρ : Ev) | ct (ρ : Ev) | ex (x : Exn) (ρ : Ev)
/-- the slots and what is known of them go together; the slots J hold what they held at first -/
def Lk (J : List Nat) (σ0 σ : L2.St) (ρ : Ev) : Prop := σ.length = ρ.length ∧ ∀ j ∈ J, σ[j]? = σ0[j]?
theorem Lk.set {J : List Nat} {σ0 σ : L2.St} {ρ : Ev} (h : Lk J σ0 σ ρ) {i : Nat} (hi : i ∉ J) (v : Option V) (o : O) : Lk J σ0 (σ.set i v) (ρ.set i o) := ⟨by simp [h.1], fun j hj => by
  have hne : i ≠ j := fun z => by subst z; exact hi hj
  rw [List.getElem?_set_ne hne]; exact h.2 j hj⟩
theorem Lk.setR {J : List Nat} {σ0 σ : L2.St} {ρ : Ev} (h : Lk J σ0 σ ρ) {i : Nat} (o : O) : Lk J σ0 σ (ρ.set i o) := ⟨by simp [h.1], h.2⟩
def ends (K : PySem.W.Frag) (W : WX) (J : List Nat) (σ0 : L2.St) (M : Hp) (fo : List O) (fv : List (Option V)) (E : Ends) : Fl → Prop
  | .nx ρ => ∀ M' H' σ', Same M M' → Rep K M' H' (ρ ++ fo) (σ' ++ fv) → Lk J σ0 σ' ρ → E.nx σ' H'
  | .bk ρ => ∀ M' H' σ', Same M M' → Rep K M' H' (ρ ++ fo) (σ' ++ fv) → Lk J σ0 σ' ρ → E.bk σ' H'
  | .ct ρ => ∀ M' H' σ', Same M M' → Rep K M' H' (ρ ++ fo) (σ' ++ fv) → Lk J σ0 σ' ρ → E.ct σ' H'
  | .rt o ρ => ∀ M' H' σ' v, Same M M' → Rep K M' H' (ρ ++ o :: fo) (σ' ++ some v :: fv) → Lk J σ0 σ' ρ → E.rt v H'
  | .ex x ρ => ∀ M' H' σ' cls d, Same M M' → Rep K M' H' (ρ ++ fo) (σ' ++ fv) → Lk J σ0 σ' ρ → ExR K M' x cls d → W cls d σ' H'
def tS (K : PySem.W.Frag) (W : WX) (J : List Nat) (g : Ev → Option Fl) : TS := fun E σ H => ∃ M ρ fo fv r σ0, Rep K M H (ρ ++ fo) (σ ++ fv) ∧ Lk J σ0 σ ρ ∧ g ρ = some r ∧ ends K W J σ0 M fo fv E r
theorem ends.later {K : PySem.W.Frag} {W : WX} {J : List Nat} {σ0 : L2.St} {M M1 : Hp} {fo : List O} {fv : List (Option V)} {E : Ends} {r : Fl} (h : ends K W J σ0 M fo fv E r) (s : Same M M1) : ends K W J σ0 M1 fo fv E r := by
  cases r with
  | nx ρ => exact fun M' H' σ' s' => h M' H' σ' (s.trans s')
  | bk ρ => exact fun M' H' σ' s' => h M' H' σ' (s.trans s')
  | ct ρ => exact fun M' H' σ' s' => h M' H' σ' (s.trans s')
  | rt o ρ => exact fun M' H' σ' v s' => h M' H' σ' v (s.trans s')
  | ex x ρ => exact fun M' H' σ' c d s' => h M' H' σ' c d (s.trans s')

section
variable {X : Cx}
theorem PE.imp {e : Expr} {t t' : TE} (h : PE X e t) (i : ∀ σ H Q, t' σ H Q → t σ H Q) : PE X e t' := ⟨fun p s σ H Q I w => h.run p s σ H Q I (i σ H Q w)⟩
theorem PT.imp {e : Expr} {t t' : TT} (h : PT X e t) (i : ∀ σ H Q, t' σ H Q → t σ H Q) : PT X e t' := ⟨fun p s σ H Q I w => h.run p s σ H Q I (i σ H Q w)⟩
theorem PW.imp {e : Expr} {t t' : TT} (h : PW X e t) (i : ∀ σ H Q, t' σ H Q → t σ H Q) : PW X e t' := ⟨fun wh p s σ H Q I w => h.run wh p s σ H Q I (i σ H Q w)⟩
theorem PA.imp {e : List Expr} {t t' : TA} (h : PA X e t) (i : ∀ σ H Q, t' σ H Q → t σ H Q) : PA X e t' := ⟨fun c p s σ H Q I w => h.run c p s σ H Q I (i σ H Q w)⟩
theorem PS.imp {e : Stmt} {t t' : TS} (h : PS X e t) (i : ∀ D σ H, t' D σ H → t D σ H) : PS X e t' := ⟨fun p s σ H D I w => h.run p s σ H D I (i D σ H w)⟩
theorem PSs.imp {e : List Stmt} {t t' : TS} (h : PSs X e t) (i : ∀ D σ H, t' D σ H → t D σ H) : PSs X e t' := ⟨fun p s σ H D I w => h.run p s σ H D I (i D σ H w)⟩
theorem PI.imp {tg e : Expr} {t t' : TI} (h : PI X tg e t) (i : ∀ σ H R, t' σ H R → t σ H R) : PI X tg e t' := ⟨fun p s σ H R I w => h.run p s σ H R I (i σ H R w)⟩
theorem PI.or {tg e : Expr} {t t' : TI} (h : PI X tg e t) (h' : PI X tg e t') : PI X tg e (fun σ H R => t σ H R ∨ t' σ H R) := ⟨fun p s σ H R I w => w.elim (h.run p s σ H R I) (h'.run p s σ H R I)⟩
theorem PE.or {e : Expr} {t t' : TE} (h : PE X e t) (h' : PE X e t') : PE X e (fun σ H R => t σ H R ∨ t' σ H R) := ⟨fun p s σ H R I w => w.elim (h.run p s σ H R I) (h'.run p s σ H R I)⟩
end

/-! ### lists by place -/
theorem Rep.slot {K : PySem.W.Frag} {M H : Hp} {ρ fo : List O} {σ fv : List (Option V)} (R : Rep K M H (ρ ++ fo) (σ ++ fv)) (l : σ.length = ρ.length) {i : Nat} {d : D} (e : ρ[i]? = some (.dat d)) : ∃ v, σ[i]? = some (some v) ∧ Dv K M v d := by
  obtain ⟨hi, e⟩ := List.getElem?_eq_some_iff.mp e
  have hi' : i < σ.length := by omega
  have e1 : ρ = ρ.take i ++ O.dat d :: ρ.drop (i + 1) := by rw [← e, ← List.drop_eq_getElem_cons hi, List.take_append_drop]
  have e2 : σ = σ.take i ++ σ[i] :: σ.drop (i + 1) := by rw [← List.drop_eq_getElem_cons hi', List.take_append_drop]
  rw [e1, e2] at R
  simp only [List.append_assoc, List.cons_append] at R
  obtain ⟨x, ex, dx⟩ := R.datAt (by simp; omega) rfl
  exact ⟨x, by rw [List.getElem?_eq_getElem hi', ex], dx⟩

/-- what slot i holds, frozen -/
def gv (i : Nat) (ρ : Ev) : Option D := match ρ[i]? with
  | some (.dat d) => some d
  | _ => none

section
variable {X : Cx}
/-! ### names and constants -/
theorem pVar (i : Nat) {x : Str} {pos : Pos} (hN : X.N[i]? = some x := by rfl) (hv : Vis X.env.scope x := by first | exact Or.inl rfl | exact Or.inr (Or.inl rfl) | exact Or.inr (Or.inr rfl)) (hd : (x == ("__debug__" : Str)) = false := by decide)
    (hcd : (x == ("__classdict__" : Str)) = false := by decide) : PE X (.Name x pos) (tP X.K (gv i)) :=
  PE.imp (pe_var hN hv hd hcd) fun σ H Q ⟨M, ρ, fo, fv, d, R, l, e, k⟩ => by
    unfold gv at e
    split at e
    · cases e
      rename_i d' e'
      obtain ⟨v, ev, dv⟩ := R.slot l e'
      exact ⟨v, ev, k M H v (Same.refl _) R dv⟩
    · cases e
theorem pC {e : Expr} {v : V} {d : D} (h : PE X e (tC v)) (hd : ∀ M, Dv X.K M v d) : PE X e (tP X.K fun _ => some d) :=
  PE.imp h fun σ H Q ⟨M, ρ, fo, fv, d', R, l, e, k⟩ => by
    cases e
    exact k M H v (Same.refl _) R (hd M)
theorem pInt {i j pos} : PE X (.Constant (.int i) j pos) (tP X.K fun _ => some (.int i)) := pC pe_int fun _ => .int _
theorem pBl {b j pos} : PE X (.Constant (.bool b) j pos) (tP X.K fun _ => some (.bl b)) := pC pe_bl fun _ => .bl _
theorem pNon {j pos} : PE X (.Constant .none j pos) (tP X.K fun _ => some .non) := pC pe_non fun _ => .non
theorem pStr {x j pos} : PE X (.Constant (.str x) j pos) (tP X.K fun _ => some (.str x)) := pC pe_str fun _ => .str _
/-- a constant of the module -/
theorem pGlobI {x : Str} {i : Int} {t : Tok} {pos : Pos} (hm : X.mg x = some (.int i t)) (hg : Gl X x := by rfl) (hd : (x == ("__debug__" : Str)) = false := by decide) : PE X (.Name x pos) (tP X.K fun _ => some (.int i)) := pC (pe_glob hg hm (v := .int i) ⟨t, rfl⟩ hd) fun _ => .int _
theorem pGlobS {x z : Str} {t : Tok} {pos : Pos} (hm : X.mg x = some (.str z t)) (hg : Gl X x := by rfl) (hd : (x == ("__debug__" : Str)) = false := by decide) : PE X (.Name x pos) (tP X.K fun _ => some (.str z)) := pC (pe_glob hg hm (v := .str z) ⟨t, rfl⟩ hd) fun _ => .str _

/-! ### two expressions in a row -/
def b2 (fa fb : Ev → Option D) (g : D → D → Option D) (ρ : Ev) : Option D := (fa ρ).bind fun x => (fb ρ).bind fun y => g x y
def b1 (fa : Ev → Option D) (g : D → Option D) (ρ : Ev) : Option D := (fa ρ).bind g
theorem b2_some {fa fb : Ev → Option D} {g : D → D → Option D} {ρ : Ev} {d : D} (h : b2 fa fb g ρ = some d) : ∃ x y, fa ρ = some x ∧ fb ρ = some y ∧ g x y = some d := by
  unfold b2 at h
  cases e1 : fa ρ with
  | none => rw [e1] at h; cases h
  | some x =>
    rw [e1] at h
    cases e2 : fb ρ with
    | none => rw [Option.bind_some, e2] at h; cases h
    | some y => rw [Option.bind_some, e2] at h; exact ⟨x, y, rfl, rfl, h⟩
theorem b1_some {fa : Ev → Option D} {g : D → Option D} {ρ : Ev} {d : D} (h : b1 fa g ρ = some d) : ∃ x, fa ρ = some x ∧ g x = some d := by
  unfold b1 at h
  cases e1 : fa ρ with
  | none => rw [e1] at h; cases h
  | some x => rw [e1] at h; exact ⟨x, rfl, h⟩
/-- an operation upon data: what it asks of the values -/
def rD (K : PySem.W.Frag) (g : D → D → Option D) : R2 := fun x y H Q => ∃ M fo fv dx dy d, Rep K M H fo fv ∧ Dv K M x dx ∧ Dv K M y dy ∧ g dx dy = some d ∧
  ∀ M' H' v, Same M M' → Rep K M' H' fo fv → Dv K M' v d → Q v H'
def rD1 (K : PySem.W.Frag) (g : D → Option D) : V → Hp → VK → Prop := fun x H Q => ∃ M fo fv dx d, Rep K M H fo fv ∧ Dv K M x dx ∧ g dx = some d ∧
  ∀ M' H' v, Same M M' → Rep K M' H' fo fv → Dv K M' v d → Q v H'
def rDs (K : PySem.W.Frag) (g : List D → Option D) : List V → Hp → VK → Prop := fun xs H Q => ∃ M fo fv ds d, Rep K M H fo fv ∧ Dvs K M xs ds ∧ g ds = some d ∧
  ∀ M' H' v, Same M M' → Rep K M' H' fo fv → Dv K M' v d → Q v H'
/-- .. that gives a new thing of its own -/
def rOs (K : PySem.W.Frag) (g : List D → Option O) : List V → Hp → VK → Prop := fun xs H Q => ∃ M fo fv ds o, Rep K M H fo fv ∧ Dvs K M xs ds ∧ g ds = some o ∧
  ∀ M' H' v, Same M M' → Rep K M' H' (o :: fo) (some v :: fv) → Q v H'
theorem seq2 {K : PySem.W.Frag} {fa fb : Ev → Option D} {g : D → D → Option D} {σ : L2.St} {H : Hp} {Q : VK} (h : tP K (b2 fa fb g) σ H Q) : tOp (rD K g) (tP K fa) (tP K fb) σ H Q := by
  obtain ⟨M, ρ, fo, fv, d, R, l, e, k⟩ := h
  obtain ⟨x, y, ea, eb, eg⟩ := b2_some e
  exact ⟨M, ρ, fo, fv, x, R, l, ea, fun M1 H1 v1 s1 R1 d1 => ⟨M1, ρ, fo, fv, y, R1, l, eb, fun M2 H2 v2 s2 R2 d2 => ⟨M2, ρ ++ fo, σ ++ fv, x, y, d, R2, d1.mono s2, d2, eg, fun M3 H3 v s3 R3 d3 => k M3 H3 v (s1.trans (s2.trans s3)) R3 d3⟩⟩⟩
variable {a b c : Expr} {pos : Pos} {fa fb fc : Ev → Option D} {g : D → D → Option D}
theorem pOp {op : Operator} (ho : OpR X (binaryOp op) (rD X.K g)) (ha : PE X a (tP X.K fa)) (hb : PE X b (tP X.K fb)) : PE X (.BinOp a op b pos) (tP X.K (b2 fa fb g)) := PE.imp (pe_op ho ha hb) fun _ _ _ h => seq2 h
theorem pCmp {op : CmpOp} (ho : OpR X (compareOp op) (rD X.K g)) (ha : PE X a (tP X.K fa)) (hb : PE X b (tP X.K fb)) (hm : behindInMarks op b = false := by first | exact nomark _ | rfl) : PE X (.Compare a [op] [b] pos) (tP X.K (b2 fa fb g)) := PE.imp (pe_cmpR ho ha hb hm) fun _ _ _ h => seq2 h
theorem pUn {op : UnaryOp} {g : D → Option D} (ho : UnR X (unaryOp op) (rD1 X.K g)) (ha : PE X a (tP X.K fa)) : PE X (.UnaryOp op a pos) (tP X.K (b1 fa g)) := PE.imp (pe_un ho ha) fun σ H Q ⟨M, ρ, fo, fv, d, R, l, e, k⟩ => by
  obtain ⟨x, ea, eg⟩ := b1_some e
  exact ⟨M, ρ, fo, fv, x, R, l, ea, fun M1 H1 v1 s1 R1 d1 => ⟨M1, ρ ++ fo, σ ++ fv, x, d, R1, d1, eg, fun M3 H3 v s3 R3 d3 => k M3 H3 v (s1.trans s3) R3 d3⟩⟩
theorem pIx (ho : IxR X (rD X.K g)) (ha : PE X a (tP X.K fa)) (hb : PE X b (tP X.K fb)) (hs : PlainIx b := by exact fun _ _ => rfl) : PE X (.Subscript a b pos) (tP X.K (b2 fa fb g)) := PE.imp (pe_ix ho ha hb hs) fun _ _ _ h => seq2 h

/-! ### tests -/
/-- a pure expression that gives a bool, as a test -/
def asB (f : Ev → Option D) (ρ : Ev) : Option Bool := match f ρ with
  | some (.bl b) => some b
  | _ => none
theorem asB_some {f : Ev → Option D} {ρ : Ev} {b : Bool} (h : asB f ρ = some b) : f ρ = some (.bl b) := by
  unfold asB at h
  split at h
  · cases h; assumption
  · cases h
theorem tB_of {K : PySem.W.Frag} {f : Ev → Option D} {σ : L2.St} {H : Hp} {Q : Bool → Hp → Prop} (h : tT K (asB f) σ H Q) : tB (tP K f) σ H Q := by
  obtain ⟨M, ρ, fo, fv, b, R, l, e, k⟩ := h
  exact ⟨M, ρ, fo, fv, .bl b, R, l, asB_some e, fun M' H' v s R' dv => by cases dv; exact ⟨b, rfl, k M' H' s R'⟩⟩
theorem tVal {e : Expr} {f : Ev → Option D} (h : PE X e (tP X.K f)) (he : ∀ whole, isTrue e X.env whole = (do let v ← whole; standAt e.pos; holding [v] (truthy v)) := by intro _; rfl) : PT X e (tT X.K (asB f)) := PT.imp (pt_val h he) fun _ _ _ h => tB_of h
theorem tCmp {op : CmpOp} (ho : OpR X (compareOp op) (rD X.K g)) (ha : PE X a (tP X.K fa)) (hb : PE X b (tP X.K fb)) (hm : behindInMarks op b = false := by first | exact nomark _ | rfl) : PT X (.Compare a [op] [b] pos) (tT X.K (asB (b2 fa fb g))) :=
  PT.imp (pt_cmpR ho ha hb hm) fun σ H Q ⟨M, ρ, fo, fv, b, R, l, e, k⟩ => seq2 (K := X.K) (Q := fun x H' => ∃ k, x = .bl k ∧ Q k H') ⟨M, ρ, fo, fv, .bl b, R, l, asB_some e, fun M' H' v s R' dv => by cases dv; exact ⟨b, rfl, k M' H' s R'⟩⟩
def andT (f g : Ev → Option Bool) (ρ : Ev) : Option Bool := match f ρ with
  | some true => g ρ
  | some false => some false
  | none => none
def orT (f g : Ev → Option Bool) (ρ : Ev) : Option Bool := match f ρ with
  | some true => some true
  | some false => g ρ
  | none => none
def notT (f : Ev → Option Bool) (ρ : Ev) : Option Bool := (f ρ).map (!·)
theorem tNotT {fa : Ev → Option Bool} (h : PT X a (tT X.K fa)) : PT X (.UnaryOp .Not a pos) (tT X.K (notT fa)) := PT.imp (pt_not h) fun σ H Q ⟨M, ρ, fo, fv, b, R, l, e, k⟩ => by
  unfold notT at e
  cases q : fa ρ with
  | none => rw [q] at e; cases e
  | some c =>
    rw [q] at e
    cases e
    exact ⟨M, ρ, fo, fv, c, R, l, q, k⟩
theorem tAnd1 {fa : Ev → Option Bool} (h : PT X a (tT X.K fa)) : PW X (.BoolOp .And [a] pos) (tT X.K fa) := pw_and1 h
theorem tOr1 {fa : Ev → Option Bool} (h : PT X a (tT X.K fa)) : PW X (.BoolOp .Or [a] pos) (tT X.K fa) := pw_or1 h
theorem tAndW {fa fb : Ev → Option Bool} {rest : List Expr} (ha : PT X a (tT X.K fa)) (hb : PW X (.BoolOp .And (b :: rest) pos) (tT X.K fb)) : PW X (.BoolOp .And (a :: b :: rest) pos) (tT X.K (andT fa fb)) := PW.imp (pw_and ha hb) fun σ H Q ⟨M, ρ, fo, fv, b, R, l, e, k⟩ => by
  unfold andT at e
  cases q : fa ρ with
  | none => rw [q] at e; cases e
  | some c =>
    rw [q] at e
    cases c with
    | true => exact ⟨M, ρ, fo, fv, true, R, l, q, fun M1 H1 s1 R1 => iteT ⟨M1, ρ, fo, fv, b, R1, l, e, fun M2 H2 s2 R2 => k M2 H2 (s1.trans s2) R2⟩⟩
    | false => cases e; exact ⟨M, ρ, fo, fv, false, R, l, q, fun M1 H1 s1 R1 => iteF (k M1 H1 s1 R1)⟩
theorem tOrW {fa fb : Ev → Option Bool} {rest : List Expr} (ha : PT X a (tT X.K fa)) (hb : PW X (.BoolOp .Or (b :: rest) pos) (tT X.K fb)) : PW X (.BoolOp .Or (a :: b :: rest) pos) (tT X.K (orT fa fb)) := PW.imp (pw_or ha hb) fun σ H Q ⟨M, ρ, fo, fv, b, R, l, e, k⟩ => by
  unfold orT at e
  cases q : fa ρ with
  | none => rw [q] at e; cases e
  | some c =>
    rw [q] at e
    cases c with
    | true => cases e; exact ⟨M, ρ, fo, fv, true, R, l, q, fun M1 H1 s1 R1 => iteT (k M1 H1 s1 R1)⟩
    | false => exact ⟨M, ρ, fo, fv, false, R, l, q, fun M1 H1 s1 R1 => iteF ⟨M1, ρ, fo, fv, b, R1, l, e, fun M2 H2 s2 R2 => k M2 H2 (s1.trans s2) R2⟩⟩
theorem tW {fa : Ev → Option Bool} (h : PW X a (tT X.K fa)) : PT X a (tT X.K fa) := h.pt
/-! ### and, or, not, if-else as values -/
def andV (f g : Ev → Option D) (ρ : Ev) : Option D := match f ρ with
  | some (.bl true) => g ρ
  | some (.bl false) => some (.bl false)
  | _ => none
def orV (f g : Ev → Option D) (ρ : Ev) : Option D := match f ρ with
  | some (.bl true) => some (.bl true)
  | some (.bl false) => g ρ
  | _ => none
def notV (f : Ev → Option D) (ρ : Ev) : Option D := match f ρ with
  | some (.bl b) => some (.bl (!b))
  | _ => none
def ifV (c : Ev → Option Bool) (f g : Ev → Option D) (ρ : Ev) : Option D := match c ρ with
  | some true => f ρ
  | some false => g ρ
  | none => none
theorem pOne {op} (h : PE X a (tP X.K fa)) : PE X (.BoolOp op [a] pos) (tP X.K fa) := pe_one h
theorem pAnd {rest : List Expr} (ha : PE X a (tP X.K fa)) (hb : PE X (.BoolOp .And (b :: rest) pos) (tP X.K fb)) : PE X (.BoolOp .And (a :: b :: rest) pos) (tP X.K (andV fa fb)) := PE.imp (pe_and ha hb) fun σ H Q ⟨M, ρ, fo, fv, d, R, l, e, k⟩ => by
  unfold andV at e
  split at e
  · rename_i q
    exact ⟨M, ρ, fo, fv, _, R, l, q, fun M1 H1 v s1 R1 dv => by cases dv; exact ⟨true, rfl, iteT ⟨M1, ρ, fo, fv, d, R1, l, e, fun M2 H2 v2 s2 R2 => k M2 H2 v2 (s1.trans s2) R2⟩⟩⟩
  · rename_i q
    cases e
    exact ⟨M, ρ, fo, fv, _, R, l, q, fun M1 H1 v s1 R1 dv => by cases dv; exact ⟨false, rfl, iteF (k M1 H1 _ s1 R1 (.bl _))⟩⟩
  · cases e
theorem pOr {rest : List Expr} (ha : PE X a (tP X.K fa)) (hb : PE X (.BoolOp .Or (b :: rest) pos) (tP X.K fb)) : PE X (.BoolOp .Or (a :: b :: rest) pos) (tP X.K (orV fa fb)) := PE.imp (pe_or ha hb) fun σ H Q ⟨M, ρ, fo, fv, d, R, l, e, k⟩ => by
  unfold orV at e
  split at e
  · rename_i q
    cases e
    exact ⟨M, ρ, fo, fv, _, R, l, q, fun M1 H1 v s1 R1 dv => by cases dv; exact ⟨true, rfl, iteT (k M1 H1 _ s1 R1 (.bl _))⟩⟩
  · rename_i q
    exact ⟨M, ρ, fo, fv, _, R, l, q, fun M1 H1 v s1 R1 dv => by cases dv; exact ⟨false, rfl, iteF ⟨M1, ρ, fo, fv, d, R1, l, e, fun M2 H2 v2 s2 R2 => k M2 H2 v2 (s1.trans s2) R2⟩⟩⟩
  · cases e
theorem pNot (ha : PE X a (tP X.K fa)) : PE X (.UnaryOp .Not a pos) (tP X.K (notV fa)) := PE.imp (pe_not ha) fun σ H Q ⟨M, ρ, fo, fv, d, R, l, e, k⟩ => by
  unfold notV at e
  split at e
  · rename_i b q
    cases e
    exact ⟨M, ρ, fo, fv, _, R, l, q, fun M1 H1 v s1 R1 dv => by cases dv; exact ⟨b, rfl, k M1 H1 _ s1 R1 (.bl _)⟩⟩
  · cases e
theorem pIf {fc : Ev → Option Bool} (hc : PT X c (tT X.K fc)) (ha : PE X a (tP X.K fa)) (hb : PE X b (tP X.K fb)) : PE X (.IfExp c a b pos) (tP X.K (ifV fc fa fb)) := PE.imp (pe_ifExp hc ha hb) fun σ H Q ⟨M, ρ, fo, fv, d, R, l, e, k⟩ => by
  unfold ifV at e
  split at e
  · rename_i q
    exact ⟨M, ρ, fo, fv, _, R, l, q, fun M1 H1 s1 R1 => iteT ⟨M1, ρ, fo, fv, d, R1, l, e, fun M2 H2 v2 s2 R2 => k M2 H2 v2 (s1.trans s2) R2⟩⟩
  · rename_i q
    exact ⟨M, ρ, fo, fv, _, R, l, q, fun M1 H1 s1 R1 => iteF ⟨M1, ρ, fo, fv, d, R1, l, e, fun M2 H2 v2 s2 R2 => k M2 H2 v2 (s1.trans s2) R2⟩⟩
  · cases e

/-! ### argument lists -/
def aCons (f : Ev → Option D) (g : Ev → Option (List D)) (ρ : Ev) : Option (List D) := (f ρ).bind fun d => (g ρ).bind fun ds => some (d :: ds)
def aNil (_ : Ev) : Option (List D) := some []
theorem aCons_some {f : Ev → Option D} {g : Ev → Option (List D)} {ρ : Ev} {ds : List D} (h : aCons f g ρ = some ds) : ∃ d r, f ρ = some d ∧ g ρ = some r ∧ ds = d :: r := by
  unfold aCons at h
  cases e1 : f ρ with
  | none => rw [e1] at h; cases h
  | some x =>
    rw [e1] at h
    cases e2 : g ρ with
    | none => rw [Option.bind_some, e2] at h; cases h
    | some y => rw [Option.bind_some, e2] at h; cases h; exact ⟨x, y, rfl, rfl, rfl⟩
theorem tCons_of {K : PySem.W.Frag} {f : Ev → Option D} {g : Ev → Option (List D)} {σ : L2.St} {H : Hp} {Q : List V → Hp → Prop} (h : tAr K (aCons f g) σ H Q) : tCons (tP K f) (tAr K g) σ H Q := by
  obtain ⟨M, ρ, fo, fv, ds, R, l, e, k⟩ := h
  obtain ⟨d, r, ef, eg, rfl⟩ := aCons_some e
  exact ⟨M, ρ, fo, fv, d, R, l, ef, fun M1 H1 v1 s1 R1 d1 => ⟨M1, ρ, fo, fv, r, R1, l, eg, fun M2 H2 vs s2 R2 d2 => k M2 H2 _ (s1.trans s2) R2 (.cons (d1.mono s2) d2)⟩⟩
theorem qNil : PA X [] (tAr X.K aNil) := PA.imp pa_nil fun σ H Q ⟨M, ρ, fo, fv, d, R, l, e, k⟩ => by
  cases e
  exact k M H [] (Same.refl _) R .nil
theorem qCons {es : List Expr} {g : Ev → Option (List D)} (ha : PE X a (tP X.K fa)) (hr : PA X es (tAr X.K g)) (hs : starEach (a :: es) X.env = (false, eval a X.env) :: starEach es X.env := by rfl) : PA X (a :: es) (tAr X.K (aCons fa g)) :=
  PA.imp (pa_cons ha hr hs) fun _ _ _ h => tCons_of h
theorem kNil : PK X [] (tAr X.K aNil) := ⟨fun p pins s σ H Q I ⟨M, ρ, fo, fv, d, R, l, e, k⟩ => by
  cases e
  exact pk_nil.run p pins s σ H Q I (k M H [] (Same.refl _) R .nil)⟩
theorem kCons {nm : Option Str} {kpos : Pos} {kws : List Keyword} {g : Ev → Option (List D)} (ha : PE X a (tP X.K fa)) (hr : PK X kws (tAr X.K g)) : PK X (⟨nm, a, kpos⟩ :: kws) (tAr X.K (aCons fa g)) :=
  ⟨fun p pins s σ H Q I h => (pk_cons ha hr).run p pins s σ H Q I (tCons_of h)⟩

/-! ### tuples and lists that are displayed -/
def mkTup (g : Ev → Option (List D)) (ρ : Ev) : Option D := (g ρ).bind fun ds => if ds.length ≤ sizeLine then some (.tup ds) else none
def mkLst (g : Ev → Option (List D)) (ρ : Ev) : Option D := (g ρ).bind fun ds => if ds.length ≤ sizeLine then some (.lst ds) else none
def mkLstO (g : Ev → Option (List D)) (ρ : Ev) : Option O := (g ρ).bind fun ds => if ds.length ≤ sizeLine then some (.lst (ds.map .dat)) else none
theorem mk_some {α : Type} {g : Ev → Option (List D)} {ρ : Ev} {h : List D → α} {d : α} (e : ((g ρ).bind fun ds => if ds.length ≤ sizeLine then some (h ds) else none) = some d) : ∃ ds, g ρ = some ds ∧ ds.length ≤ sizeLine ∧ d = h ds := by
  cases e1 : g ρ with
  | none => rw [e1] at e; cases e
  | some ds =>
    rw [e1, Option.bind_some] at e
    split at e
    · cases e; exact ⟨ds, rfl, by assumption, rfl⟩
    · cases e
variable {es : List Expr} {ga : Ev → Option (List D)}
theorem pTup {k : Nat} (h : PA X es (tAr X.K ga)) : PE X (.Tuple es k pos) (tP X.K (mkTup ga)) := PE.imp (pe_tup h) fun σ H Q ⟨M, ρ, fo, fv, d, R, l, e, k⟩ => by
  obtain ⟨ds, eg, hl, rfl⟩ := mk_some e
  refine ⟨M, ρ, fo, fv, ds, R, l, eg, fun M1 H1 vs s1 R1 d1 => ⟨by rw [d1.length]; exact hl, fun p hp => ?_⟩⟩
  have mp := R1.same.free hp
  have s2 : Same M1 (upd M1 p (.tup vs)) := same_updM mp
  exact k _ _ _ (s1.trans s2) (R1.growM hp) (.tup (.inl (.inl upd_same)) (d1.mono s2))
theorem pLst (h : PA X es (tAr X.K ga)) : PE X (.List es pos) (tP X.K (mkLst ga)) := PE.imp (pe_lst h) fun σ H Q ⟨M, ρ, fo, fv, d, R, l, e, k⟩ => by
  obtain ⟨ds, eg, hl, rfl⟩ := mk_some e
  refine ⟨M, ρ, fo, fv, ds, R, l, eg, fun M1 H1 vs s1 R1 d1 => ⟨by rw [d1.length]; exact hl, fun p hp => ?_⟩⟩
  have mp := R1.same.free hp
  have s2 : Same M1 (upd M1 p (.lst vs)) := same_updM mp
  exact k _ _ _ (s1.trans s2) (R1.growM hp) (.lst (.inl (.inl upd_same)) (d1.mono s2))
theorem ows_dat {K : PySem.W.Frag} {M H : Hp} : ∀ {vs : List V} {ds : List D}, Dvs K M vs ds → Ows K M H (ds.map O.dat) (vs.map some) []
  | _, _, .nil => .nil
  | _, _, .cons h t => by
    have := Ows.cons (Ow.dat (H := H) h) (ows_dat (H := H) t)
    exact this
/-- a new list of frozen things, of one's own -/
theorem Rep.newL {K : PySem.W.Frag} {M H : Hp} {l r : List O} {lv rv : List (Option V)} (R : Rep K M H (l ++ r) (lv ++ rv)) (e : lv.length = l.length) {p : Addr} (hp : H p = none) {vs : List V} {ds : List D} (d : Dvs K M vs ds) :
    Rep K M (upd H p (.lst vs)) (l ++ .lst (ds.map .dat) :: r) (lv ++ some (.ref p) :: rv) := by
  have R1 : Rep K M (upd H p (.lst vs)) (l ++ r) (lv ++ rv) := R.grow hp
  obtain ⟨s, fp, w, nd, nm⟩ := R
  obtain ⟨s1, fp1, w1, nd1, nm1⟩ := R1
  have pn : p ∉ fp := fun z => w.dom p z hp
  have w' : Ows K M (upd H p (.lst vs)) (l ++ r) (lv ++ rv) fp := w.frame (Same.refl _) fun a ha => upd_ne fun z => pn (z ▸ ha)
  obtain ⟨fa, fb, e1, wa, wb⟩ := w'.split e
  subst e1
  refine ⟨s1, fa ++ ([p] ++ fb), wa.append (.cons (.lst upd_same (ows_dat d)) wb), ?_, fun a ha => ?_⟩
  · rw [List.nodup_append] at nd ⊢
    obtain ⟨n1, n2, n3⟩ := nd
    refine ⟨n1, ?_, fun a ha b hb => ?_⟩
    · exact List.nodup_cons.mpr ⟨fun z => pn (List.mem_append_right _ z), n2⟩
    · rcases List.mem_cons.mp hb with rfl | hb
      · exact fun z => pn (z ▸ List.mem_append_left _ ha)
      · exact n3 a ha b hb
  · simp only [List.mem_append, List.mem_singleton] at ha
    rcases ha with ha | rfl | ha
    · exact nm a (List.mem_append_left _ ha)
    · exact s.free hp
    · exact nm a (List.mem_append_right _ ha)
theorem oLst (h : PA X es (tAr X.K ga)) : PE X (.List es pos) (tO X.K (mkLstO ga)) := PE.imp (pe_lst h) fun σ H Q ⟨M, ρ, fo, fv, d, R, l, e, k⟩ => by
  obtain ⟨ds, eg, hl, rfl⟩ := mk_some e
  exact ⟨M, ρ, fo, fv, ds, R, l, eg, fun M1 H1 vs s1 R1 d1 => ⟨by rw [d1.length]; exact hl, fun p hp => k _ _ _ s1 (R1.newL l hp d1)⟩⟩
/-- a frozen thing is a thing -/
def thaw (f : Ev → Option D) (ρ : Ev) : Option O := (f ρ).map .dat
def frz (f : Ev → Option O) (ρ : Ev) : Option D := (f ρ).bind O.toD
theorem oP {e : Expr} {f : Ev → Option D} (h : PE X e (tP X.K f)) : PE X e (tO X.K (thaw f)) := PE.imp h fun σ H Q ⟨M, ρ, fo, fv, d, R, l, e, k⟩ => by
  unfold thaw at e
  cases q : f ρ with
  | none => rw [q] at e; cases e
  | some d' =>
    rw [q] at e
    cases e
    exact ⟨M, ρ, fo, fv, d', R, l, q, fun M1 H1 v s1 R1 d1 => k M1 H1 v s1 (R1.push l d1)⟩
/-- a thing of one's own, frozen -/
theorem pO {e : Expr} {f : Ev → Option O} (h : PE X e (tO X.K f)) : PE X e (tP X.K (frz f)) := PE.imp h fun σ H Q ⟨M, ρ, fo, fv, d, R, l, e, k⟩ => by
  unfold frz at e
  cases q : f ρ with
  | none => rw [q] at e; cases e
  | some o =>
    rw [q] at e
    refine ⟨M, ρ, fo, fv, o, R, l, q, fun M1 H1 v s1 R1 => ?_⟩
    obtain ⟨M2, s2, R2, d2⟩ := R1.frz l rfl e
    exact k M2 H1 v (s1.trans s2) (R2.drop l) d2

/-! ### calls of built-ins -/
def cB (g : Ev → Option (List D)) (f : List D → Option D) (ρ : Ev) : Option D := (g ρ).bind f
theorem cB_some {g : Ev → Option (List D)} {f : List D → Option D} {ρ : Ev} {d : D} (h : cB g f ρ = some d) : ∃ ds, g ρ = some ds ∧ f ds = some d := by
  unfold cB at h
  cases e1 : g ρ with
  | none => rw [e1] at h; cases h
  | some x => rw [e1] at h; exact ⟨x, rfl, h⟩
theorem tCB_of {K : PySem.W.Frag} {g : Ev → Option (List D)} {f : List D → Option D} {σ : L2.St} {H : Hp} {Q : VK} (h : tP K (cB g f) σ H Q) : tCB (rDs K f) (tAr K g) σ H Q := by
  obtain ⟨M, ρ, fo, fv, d, R, l, e, k⟩ := h
  obtain ⟨ds, eg, ef⟩ := cB_some e
  exact ⟨M, ρ, fo, fv, ds, R, l, eg, fun M1 H1 vs s1 R1 d1 => ⟨M1, ρ ++ fo, σ ++ fv, ds, d, R1, d1, ef, fun M2 H2 v s2 R2 d2 => k M2 H2 v (s1.trans s2) R2 d2⟩⟩
theorem pCallB {id : String} {x : Str} {p : Pos} {f : List D → Option D} {e : Expr} {es : List Expr} (hc : CallR X (.builtin id) (rDs X.K f)) (hm : X.mg x = none) (hv : bootBuiltins x = some (.builtin id)) (ha : PA X (e :: es) (tAr X.K ga)) (hg : Gl X x := by rfl) (hn : x ≠ "__name__" := by decide) (hdb : (x == ("__debug__" : Str)) = false := by decide)
    (hpl : (backTo pos (starEach es X.env)).any (·.1) = false := by rfl) (hs : starEach (e :: es) X.env = (false, eval e X.env) :: starEach es X.env := by rfl) : PE X (.Call (.Name x p) (e :: es) [] pos) (tP X.K (cB ga f)) :=
  PE.imp (pe_callB hc hg hm hv ha hn hdb hs hpl) fun _ _ _ h => tCB_of h
theorem pCallT {T : String} {x : Str} {p : Pos} {f : List D → Option D} {e : Expr} {es : List Expr} (hc : CallR X (.type T) (rDs X.K f)) (hm : X.mg x = none) (hv : bootBuiltins x = some (.type T)) (ha : PA X (e :: es) (tAr X.K ga)) (hg : Gl X x := by rfl) (hn : x ≠ "__name__" := by decide) (hdb : (x == ("__debug__" : Str)) = false := by decide)
    (hpl : (backTo pos (starEach es X.env)).any (·.1) = false := by rfl) (hs : starEach (e :: es) X.env = (false, eval e X.env) :: starEach es X.env := by rfl) : PE X (.Call (.Name x p) (e :: es) [] pos) (tP X.K (cB ga f)) :=
  PE.imp (pe_callTy hc hg hm hv ha hn hdb hs hpl) fun _ _ _ h => tCB_of h
end
end PD

namespace PD
open PySem PySem.Spec L2

section
variable {X : Cx} {W : WX} {J : List Nat} {pos : Pos}
/-! ### blocks -/
def sq (f g : Ev → Option Fl) (ρ : Ev) : Option Fl := (f ρ).bind fun r => match r with
  | .nx ρ' => g ρ'
  | r => some r
def skip (ρ : Ev) : Option Fl := some (.nx ρ)
theorem sNil : PSs X [] (tS X.K W J skip) := PSs.imp pss_nil fun E σ H ⟨M, ρ, fo, fv, r, σ0, R, l, e, k⟩ => by
  cases e
  exact k M H σ (Same.refl _) R l
theorem tSeq_of {K : PySem.W.Frag} {f g : Ev → Option Fl} {E : Ends} {σ : L2.St} {H : Hp} (h : tS K W J (sq f g) E σ H) : tSeq (tS K W J f) (tS K W J g) E σ H := by
  obtain ⟨M, ρ, fo, fv, r, σ0, R, l, e, k⟩ := h
  unfold sq at e
  cases q : f ρ with
  | none => rw [q] at e; cases e
  | some r1 =>
    rw [q, Option.bind_some] at e
    refine ⟨M, ρ, fo, fv, r1, σ0, R, l, q, ?_⟩
    cases r1 with
    | nx ρ1 => exact fun M1 H1 σ1 s1 R1 l1 => ⟨M1, ρ1, fo, fv, r, σ0, R1, l1, e, k.later s1⟩
    | rt o ρ1 => cases e; exact k
    | bk ρ1 => cases e; exact k
    | ct ρ1 => cases e; exact k
    | ex x ρ1 => cases e; exact k
theorem sCons {st : Stmt} {rest : List Stmt} {f g : Ev → Option Fl} (h1 : PS X st (tS X.K W J f)) (h2 : PSs X rest (tS X.K W J g)) : PSs X (st :: rest) (tS X.K W J (sq f g)) := PSs.imp (pss_cons h1 h2) fun _ _ _ h => tSeq_of h
theorem sOne {st : Stmt} {f : Ev → Option Fl} (h1 : PS X st (tS X.K W J f)) : PSs X [st] (tS X.K W J f) := pss_one h1
theorem sPass : PS X (.Pass pos) (tS X.K W J skip) := PS.imp ps_pass fun E σ H ⟨M, ρ, fo, fv, r, σ0, R, l, e, k⟩ => by
  cases e
  exact k M H σ (Same.refl _) R l
def brk (ρ : Ev) : Option Fl := some (.bk ρ)
def cont (ρ : Ev) : Option Fl := some (.ct ρ)
theorem sBreak : PS X (.Break pos) (tS X.K W J brk) := PS.imp ps_break fun E σ H ⟨M, ρ, fo, fv, r, σ0, R, l, e, k⟩ => by
  cases e
  exact k M H σ (Same.refl _) R l
theorem sCont : PS X (.Continue pos) (tS X.K W J cont) := PS.imp ps_continue fun E σ H ⟨M, ρ, fo, fv, r, σ0, R, l, e, k⟩ => by
  cases e
  exact k M H σ (Same.refl _) R l
/-! ### return -/
def rtV (f : Ev → Option D) (ρ : Ev) : Option Fl := (f ρ).map fun d => .rt (.dat d) ρ
def rtO (f : Ev → Option O) (ρ : Ev) : Option Fl := (f ρ).map fun o => .rt o ρ
def rtN (ρ : Ev) : Option Fl := some (.rt (.dat .non) ρ)
theorem sRet {e : Expr} {f : Ev → Option D} (h : PE X e (tP X.K f)) : PS X (.Return (some e) pos) (tS X.K W J (rtV f)) := PS.imp (ps_ret h) fun E σ H ⟨M, ρ, fo, fv, r, σ0, R, l, e, k⟩ => by
  unfold rtV at e
  cases q : f ρ with
  | none => rw [q] at e; cases e
  | some d =>
    rw [q] at e
    cases e
    exact ⟨M, ρ, fo, fv, d, R, l.1, q, fun M1 H1 v s1 R1 d1 => k M1 H1 σ v s1 (R1.push l.1 d1) l⟩
theorem sRetO {e : Expr} {f : Ev → Option O} (h : PE X e (tO X.K f)) : PS X (.Return (some e) pos) (tS X.K W J (rtO f)) := PS.imp (ps_ret h) fun E σ H ⟨M, ρ, fo, fv, r, σ0, R, l, e, k⟩ => by
  unfold rtO at e
  cases q : f ρ with
  | none => rw [q] at e; cases e
  | some d =>
    rw [q] at e
    cases e
    exact ⟨M, ρ, fo, fv, d, R, l.1, q, fun M1 H1 v s1 R1 => k M1 H1 σ v s1 R1 l⟩
theorem sRetN : PS X (.Return none pos) (tS X.K W J rtN) := PS.imp ps_retN fun E σ H ⟨M, ρ, fo, fv, r, σ0, R, l, e, k⟩ => by
  cases e
  exact k M H σ _ (Same.refl _) (R.push l.1 .non) l
/-! ### if -/
def ifS (c : Ev → Option Bool) (f g : Ev → Option Fl) (ρ : Ev) : Option Fl := match c ρ with
  | some true => f ρ
  | some false => g ρ
  | none => none
theorem sIf {c : Expr} {a b : List Stmt} {fc : Ev → Option Bool} {f g : Ev → Option Fl} (hc : PT X c (tT X.K fc)) (ha : PSs X a (tS X.K W J f)) (hb : PSs X b (tS X.K W J g)) : PS X (.If c a b pos) (tS X.K W J (ifS fc f g)) :=
  PS.imp (ps_if hc ha hb) fun E σ H ⟨M, ρ, fo, fv, r, σ0, R, l, e, k⟩ => by
    unfold ifS at e
    split at e
    · rename_i q
      exact ⟨M, ρ, fo, fv, true, R, l.1, q, fun M1 H1 s1 R1 => iteT ⟨M1, ρ, fo, fv, r, σ0, R1, l, e, k.later s1⟩⟩
    · rename_i q
      exact ⟨M, ρ, fo, fv, false, R, l.1, q, fun M1 H1 s1 R1 => iteF ⟨M1, ρ, fo, fv, r, σ0, R1, l, e, k.later s1⟩⟩
    · cases e
/-! ### a name is stored -/
def stV (i : Nat) (f : Ev → Option D) (ρ : Ev) : Option Fl := (f ρ).map fun d => .nx (ρ.set i (.dat d))
def stO (i : Nat) (f : Ev → Option O) (ρ : Ev) : Option Fl := (f ρ).map fun o => .nx (ρ.set i o)
theorem sSet {i : Nat} {x : Str} {e : Expr} {f : Ev → Option D} {pos' : Pos} (hN : X.N.Nodup) (he : PE X e (tP X.K f)) (hJ : i ∉ J := by decide) (hi : X.N[i]? = some x := by rfl) (hx : Loc X.env.scope x := by first | exact Or.inl rfl | exact Or.inr rfl) (hs : swapsWith e (some (.Name x pos')) pos.line X.env = pure false := by rfl)
    (hf : X.fn x = true ∨ X.env.scope.names.lookup x = some .local := by first | exact .inl rfl | exact .inr rfl) : PS X (.Assign [.Name x pos'] e pos) (tS X.K W J (stV i f)) := PS.imp (ps_set (i := i) hN hi hx he hs hf) fun E σ H ⟨M, ρ, fo, fv, r, σ0, R, l, e, k⟩ => by
  unfold stV at e
  cases q : f ρ with
  | none => rw [q] at e; cases e
  | some d =>
    rw [q] at e
    cases e
    exact ⟨M, ρ, fo, fv, d, R, l.1, q, fun M1 H1 v s1 R1 d1 => k M1 H1 _ s1 (R1.setD l.1 d1) (l.set hJ _ _)⟩
theorem sSetO {i : Nat} {x : Str} {e : Expr} {f : Ev → Option O} {pos' : Pos} (hN : X.N.Nodup) (he : PE X e (tO X.K f)) (hJ : i ∉ J := by decide) (hi : X.N[i]? = some x := by rfl) (hx : Loc X.env.scope x := by first | exact Or.inl rfl | exact Or.inr rfl) (hs : swapsWith e (some (.Name x pos')) pos.line X.env = pure false := by rfl)
    (hf : X.fn x = true ∨ X.env.scope.names.lookup x = some .local := by first | exact .inl rfl | exact .inr rfl) : PS X (.Assign [.Name x pos'] e pos) (tS X.K W J (stO i f)) := PS.imp (ps_set (i := i) hN hi hx he hs hf) fun E σ H ⟨M, ρ, fo, fv, r, σ0, R, l, e, k⟩ => by
  unfold stO at e
  cases q : f ρ with
  | none => rw [q] at e; cases e
  | some d =>
    rw [q] at e
    cases e
    exact ⟨M, ρ, fo, fv, d, R, l.1, q, fun M1 H1 v s1 R1 => k M1 H1 _ s1 (R1.into l.1) (l.set hJ _ _)⟩
/-- x = [..] (a comprehension on one line, x a local) is a statement of its own: from its PS with tAsg -/
theorem sAsgO {i : Nat} {st : Stmt} {f : Ev → Option O} (h : PS X st (tAsg (tO X.K f) (gName i))) (hJ : i ∉ J := by decide) : PS X st (tS X.K W J (stO i f)) := PS.imp h fun E σ H ⟨M, ρ, fo, fv, r, σ0, R, l, e, k⟩ => by
  unfold stO at e
  cases q : f ρ with
  | none => rw [q] at e; cases e
  | some d =>
    rw [q] at e
    cases e
    exact ⟨M, ρ, fo, fv, d, R, l.1, q, fun M1 H1 v s1 R1 => k M1 H1 _ s1 (R1.into l.1) (l.set hJ _ _)⟩
/-! ### an owned slot is frozen (a step of the proof alone) -/
def fz (i : Nat) (g : Ev → Option Fl) (ρ : Ev) : Option Fl := match ρ[i]? with
  | some o => o.toD.bind fun d => g (ρ.set i (.dat d))
  | none => none
theorem Rep.frzAt {K : PySem.W.Frag} {M H : Hp} {ρ fo : List O} {σ fv : List (Option V)} (R : Rep K M H (ρ ++ fo) (σ ++ fv)) (l : σ.length = ρ.length) {i : Nat} {o : O} {d : D} (e : ρ[i]? = some o) (hd : o.toD = some d) :
    ∃ M', Same M M' ∧ Rep K M' H (ρ.set i (.dat d) ++ fo) (σ ++ fv) := by
  obtain ⟨hi, e⟩ := List.getElem?_eq_some_iff.mp e
  have hi' : i < σ.length := by omega
  have e1 : ρ = ρ.take i ++ o :: ρ.drop (i + 1) := by rw [← e, ← List.drop_eq_getElem_cons hi, List.take_append_drop]
  have e2 : σ = σ.take i ++ σ[i] :: σ.drop (i + 1) := by rw [← List.drop_eq_getElem_cons hi', List.take_append_drop]
  have e3 : ρ.set i (.dat d) = ρ.take i ++ .dat d :: ρ.drop (i + 1) := by rw [List.set_eq_take_append_cons_drop, if_pos hi]
  rw [e1, e2] at R
  simp only [List.append_assoc, List.cons_append] at R
  have ll : (σ.take i).length = (ρ.take i).length := by simp; omega
  obtain ⟨fa, f, fb, w1, w2, w3, nd, nm⟩ := R.mid ll
  obtain ⟨x, ex⟩ : ∃ x, σ[i] = some x := by
    generalize σ[i] = z at w2
    cases w2 with
    | unk => unfold O.toD at hd; cases hd
    | dat h => exact ⟨_, rfl⟩
    | lst h _ => exact ⟨_, rfl⟩
    | tup h _ => exact ⟨_, rfl⟩
    | dic h _ _ => exact ⟨_, rfl⟩
    | obj h _ _ _ => exact ⟨_, rfl⟩
  obtain ⟨M', s', R', _⟩ := R.frz ll ex hd
  refine ⟨M', s', ?_⟩
  rw [e3, e2]
  simp only [List.append_assoc, List.cons_append]
  simpa using R'
theorem tFz_of {K : PySem.W.Frag} {i : Nat} {g : Ev → Option Fl} {E : Ends} {σ : L2.St} {H : Hp} (h : tS K W J (fz i g) E σ H) : tS K W J g E σ H := by
  obtain ⟨M, ρ, fo, fv, r, σ0, R, l, e, k⟩ := h
  unfold fz at e
  cases q : ρ[i]? with
  | none => rw [q] at e; cases e
  | some o =>
    rw [q] at e
    have e : (o.toD.bind fun d => g (ρ.set i (.dat d))) = some r := e
    cases q2 : o.toD with
    | none => rw [q2] at e; cases e
    | some d =>
      rw [q2, Option.bind_some] at e
      obtain ⟨M1, s1, R1⟩ := R.frzAt l.1 q q2
      exact ⟨M1, _, fo, fv, r, σ0, R1, l.setR _, e, k.later s1⟩
theorem sFz {st : Stmt} {i : Nat} {g : Ev → Option Fl} (h : PS X st (tS X.K W J g)) : PS X st (tS X.K W J (fz i g)) := PS.imp h fun _ _ _ h => tFz_of h
/-- an expression alone -/
def drp (f : Ev → Option D) (ρ : Ev) : Option Fl := (f ρ).map fun _ => .nx ρ
theorem sExpr {e : Expr} {f : Ev → Option D} (he : PE X e (tP X.K f)) (hs : swapsWith e none pos.line X.env = pure false := by rfl) : PS X (.Expr e pos) (tS X.K W J (drp f)) := PS.imp (ps_expr he hs) fun E σ H ⟨M, ρ, fo, fv, r, σ0, R, l, e, k⟩ => by
  unfold drp at e
  cases q : f ρ with
  | none => rw [q] at e; cases e
  | some d =>
    rw [q] at e
    cases e
    exact ⟨M, ρ, fo, fv, d, R, l.1, q, fun M1 H1 v s1 R1 d1 => k M1 H1 σ s1 R1 l⟩

/-! ### x.append(e) of an own list -/
theorem Rep.ownL {K : PySem.W.Frag} {M H : Hp} {ρ fo : List O} {σ fv : List (Option V)} (R : Rep K M H (ρ ++ fo) (σ ++ fv)) (l : σ.length = ρ.length) {i : Nat} {os : List O} (e : ρ[i]? = some (.lst os)) :
    ∃ a xs, σ[i]? = some (some (.ref a)) ∧ H a = some (.lst xs) ∧ xs.length = os.length ∧
      ∀ (x : V) (d : D), Dv K M x d → Rep K M (upd H a (.lst (xs ++ [x]))) (ρ.set i (.lst (os ++ [.dat d])) ++ fo) (σ ++ fv) := by
  obtain ⟨hi, e⟩ := List.getElem?_eq_some_iff.mp e
  have hi' : i < σ.length := by omega
  have e1 : ρ = ρ.take i ++ O.lst os :: ρ.drop (i + 1) := by rw [← e, ← List.drop_eq_getElem_cons hi, List.take_append_drop]
  have e2 : σ = σ.take i ++ σ[i] :: σ.drop (i + 1) := by rw [← List.drop_eq_getElem_cons hi', List.take_append_drop]
  have e3 : ∀ z, ρ.set i z = ρ.take i ++ z :: ρ.drop (i + 1) := fun z => by rw [List.set_eq_take_append_cons_drop, if_pos hi]
  have R0 := R
  rw [e1, e2] at R
  simp only [List.append_assoc, List.cons_append] at R
  have ll : (σ.take i).length = (ρ.take i).length := by simp; omega
  obtain ⟨fa, f, fb, w1, w2, w3, nd, nm⟩ := R.mid ll
  generalize hz : σ[i] = z at *
  cases w2 with
  | lst h ws =>
    rename_i a xs fp
    refine ⟨a, xs, by rw [List.getElem?_eq_getElem hi', hz], h, by rw [← ws.length]; simp, fun x d dx => ?_⟩
    have aout : ∀ b, b ∈ fa ∨ b ∈ fp ∨ b ∈ fb → b ≠ a := by
      intro b hb z
      subst z
      rw [List.nodup_append] at nd
      obtain ⟨n1, n2, n3⟩ := nd
      rcases hb with hb | hb | hb
      · exact n3 b hb b (by simp) rfl
      · rw [List.cons_append, List.nodup_cons] at n2
        exact n2.1 (List.mem_append_left _ hb)
      · rw [List.cons_append, List.nodup_cons] at n2
        exact n2.1 (List.mem_append_right _ hb)
    have ma : M a = none := nm a (by simp)
    rw [e3, e2]
    simp only [List.append_assoc, List.cons_append]
    refine ⟨fun b y q => ?_, fa ++ ((a :: fp) ++ fb), ?_, nd, nm⟩
    · rw [upd_ne (fun z => by subst z; rw [ma] at q; cases q)]
      exact R.same b y q
    · refine (w1.frame (Same.refl _) fun b hb => upd_ne (aout b (.inl hb))).append (.cons ?_ (w3.frame (Same.refl _) fun b hb => upd_ne (aout b (.inr (.inr hb)))))
      refine .lst upd_same ?_
      rw [List.map_append]
      have w4 := (ws.frame (Same.refl _) (H' := upd H a (.lst (xs ++ [x]))) fun b hb => upd_ne (aout b (.inr (.inl hb)))).append (Ows.cons (Ow.dat (H := upd H a (.lst (xs ++ [x]))) dx) .nil)
      simpa using w4
def app (i : Nat) (f : Ev → Option D) (ρ : Ev) : Option Fl := (f ρ).bind fun d => match ρ[i]? with
  | some (.lst os) => if os.length < sizeLine then some (.nx (ρ.set i (.lst (os ++ [.dat d])))) else none
  | _ => none
theorem sApp {i : Nat} {x : Str} {e : Expr} {f : Ev → Option D} {p apos cpos : Pos} (hv : PE X (.Name x p) (tVar i)) (he : PE X e (tP X.K f)) (hbase : attributeBase (.Name x p) "append" X.env (eval (.Name x p) X.env) = eval (.Name x p) X.env := by rfl)
    (hfew : ((backTo cpos (starEach [e] X.env)).all (fun x => !x.1) && (backToKw cpos (keywordEach [] X.env)).all (fun x => x.1.isSome)
      && decide ([e].length + ([] : List Keyword).length + (if ([] : List Keyword).isEmpty then 0 else 1) < 30)) = true := by rfl)
    (hline : (apos.endLine == cpos.line) = true := by rfl) (hs : starEach [e] X.env = (false, eval e X.env) :: starEach [] X.env := by rfl) (hplain : (backTo cpos (starEach [] X.env)).any (·.1) = false := by rfl)
    (hsw : swapsWith (.Call (.Attribute (.Name x p) "append" apos) [e] [] cpos) none pos.line X.env = pure false := by rfl) :
    PS X (.Expr (.Call (.Attribute (.Name x p) "append" apos) [e] [] cpos) pos) (tS X.K W J (app i f)) :=
  PS.imp (ps_expr (pe_bm PySem.F.plainAttrs_list PySem.F.slot_list_append PySem.F.type_list_append mt_append hv (pa_cons he pa_nil hs) hbase hfew hline hs hplain) hsw) fun E σ H ⟨M, ρ, fo, fv, r, σ0, R, l, e, k⟩ => by
    unfold app at e
    cases q : f ρ with
    | none => rw [q] at e; cases e
    | some d =>
      rw [q, Option.bind_some] at e
      split at e
      · rename_i os eo
        split at e
        · rename_i hlen
          cases e
          obtain ⟨a, xs, es, ha, hl, _⟩ := R.ownL l.1 eo
          refine ⟨.ref a, es, .inl ⟨rfl, _, .inl (.inl ha)⟩, M, ρ, fo, fv, d, R, l.1, q, fun M1 H1 v s1 R1 d1 => ?_⟩
          obtain ⟨a', xs', es', ha', hl', up⟩ := R1.ownL l.1 eo
          have : a' = a := by rw [es'] at es; cases es; rfl
          subst this
          refine ⟨a', xs', v, rfl, rfl, ha', by omega, ?_⟩
          exact k M1 _ σ s1 (up v d d1) (l.setR _)
        · cases e
      · cases e
end
end PD

namespace PD
open PySem PySem.Spec L2

theorem Lk.to {J : List Nat} {σ0 σ σ1 : L2.St} {ρ ρ1 : Ev} (l : Lk J σ0 σ ρ) (l1 : σ1.length = σ.length) (r1 : ρ1.length = ρ.length) {is : List Nat} (a : ∀ j, j ∉ is → σ1[j]? = σ[j]?) (h : ∀ i ∈ is, i ∉ J) : Lk J σ0 σ1 ρ1 :=
  ⟨by rw [l1, r1]; exact l.1, fun j hj => (a j fun z => h j z hj).trans (l.2 j hj)⟩
/-! ### what is walked -/
/-- nd: roots that must stand as they were -/
def Yld (K : PySem.W.Frag) (M : Hp) (nd : List (O × Option V)) (J : It) (ds : List D) : Prop :=
  ∀ i M1 H os vs, Same M M1 → Rep K M1 H os vs → (∀ r ∈ nd, r ∈ os.zip vs) → (i < ds.length → J.go i H) ∧ (i = ds.length → J.stop i H) ∧ ∀ d, ds[i]? = some d → ∀ x H', J.yld i H x H' →
    ∃ M2, Same M1 M2 ∧ Rep K M2 H' os vs ∧ Dv K M2 x d
/-- kn: the slots whose own lists are walked -/
def tI (K : PySem.W.Frag) (kn : List Nat) (g : Ev → Option (List D)) : TI := fun σ H R => ∃ M ρ fo fv ds, Rep K M H (ρ ++ fo) (σ ++ fv) ∧ σ.length = ρ.length ∧ g ρ = some ds ∧
  ∀ M' H' J, Same M M' → Rep K M' H' (ρ ++ fo) (σ ++ fv) → Yld K M' (kn.map fun k => (ρ.getD k .unk, σ.getD k none)) J ds → R J H'
theorem yld_list {K : PySem.W.Frag} {M : Hp} {a : Addr} {xs : List V} {ds : List D} (h : SqX K M a xs) (d : Dvs K M xs ds) : Yld K M [] (Itl K a) ds := fun i M1 H os vs s1 R _ => by
  have q := seqX (s1.trans R.same) h
  have w := walk_list (K := K) (a := a) (xs := xs)
  have hl := d.length
  refine ⟨fun hi => w.goes i H (by omega) q, fun hi => by subst hi; rw [← hl]; exact w.stops H q, fun e he x H' y => ?_⟩
  have hi : i < xs.length := by rw [hl]; exact (List.getElem?_eq_some_iff.mp he).1
  obtain ⟨rfl, ex⟩ := w.yields i H x H' hi q y
  obtain ⟨e', he', dv⟩ := d.getV ex
  rw [he] at he'; cases he'
  exact ⟨M1, Same.refl _, R, dv.mono s1⟩
theorem yld_tup {K : PySem.W.Frag} {M : Hp} {a : Addr} {xs : List V} {ds : List D} (h : SqT K M a xs) (d : Dvs K M xs ds) : Yld K M [] (Itt K a) ds := fun i M1 H os vs s1 R _ => by
  have q := sqT_same (s1.trans R.same) h
  have w := walk_tup (K := K) (a := a) (xs := xs)
  have hl := d.length
  refine ⟨fun hi => w.goes i H (by omega) q, fun hi => by subst hi; rw [← hl]; exact w.stops H q, fun e he x H' y => ?_⟩
  have hi : i < xs.length := by rw [hl]; exact (List.getElem?_eq_some_iff.mp he).1
  obtain ⟨rfl, ex⟩ := w.yields i H x H' hi q y
  obtain ⟨e', he', dv⟩ := d.getV ex
  rw [he] at he'; cases he'
  exact ⟨M1, Same.refl _, R, dv.mono s1⟩
/-- the signs of a text -/
def signs (z : Str) : List D := z.cps.toList.map fun c => .str ⟨#[c]⟩
theorem yld_str {K : PySem.W.Frag} {M : Hp} {z : Str} : Yld K M [] (Its z) (signs z) := fun i M1 H os vs s1 R _ => by
  have w := walk_str (z := z)
  have hl : (signs z).length = z.cps.size := by simp [signs]
  refine ⟨fun hi => w.goes i H (by omega) trivial, fun hi => by subst hi; rw [hl]; exact w.stops H trivial, fun e he x H' y => ?_⟩
  have hi : i < z.cps.size := by rw [← hl]; exact (List.getElem?_eq_some_iff.mp he).1
  obtain ⟨rfl, c, ec, ex⟩ := w.yields i H x H' hi trivial y
  have : e = .str ⟨#[c]⟩ := by
    unfold signs at he
    rw [List.getElem?_map, Array.getElem?_toList, ec] at he
    exact (Option.some.inj he).symm
  subst this; subst ex
  exact ⟨M1, Same.refl _, R, .str _⟩
def rangeD (lo : Int) (n : Nat) : List D := (List.range n).map fun i : Nat => .int (lo + (i : Int))
theorem yld_range {K : PySem.W.Frag} {M : Hp} {lo : Int} {n : Nat} : Yld K M [] (Itr lo n) (rangeD lo n) := fun i M1 H os vs s1 R _ => by
  have w := walk_range (lo := lo) (n := n)
  have hl : (rangeD lo n).length = n := by simp [rangeD]
  refine ⟨fun hi => w.goes i H (by omega) trivial, fun hi => by subst hi; rw [hl]; exact w.stops H trivial, fun e he x H' y => ?_⟩
  have hi : i < n := by rw [← hl]; exact (List.getElem?_eq_some_iff.mp he).1
  obtain ⟨rfl, ex⟩ := w.yields i H x H' hi trivial y
  have : e = .int (lo + (i : Int)) := by
    unfold rangeD at he
    rw [List.getElem?_map, List.getElem?_range hi] at he
    exact (Option.some.inj he).symm
  subst this; subst ex
  exact ⟨M1, Same.refl _, R, .int _⟩
theorem yld_enum {K : PySem.W.Frag} {M : Hp} {a : Addr} {xs : List V} {ds : List D} (h : SqX K M a xs) (d : Dvs K M xs ds) : Yld K M [] (Ite K a) (ds.zipIdx.map fun p => .tup [.int (p.2 : Nat), p.1]) := fun i M1 H os vs s1 R _ => by
  have q := seqX (s1.trans R.same) h
  have w := walk_enum (K := K) (a := a) (xs := xs)
  have hl := d.length
  have hl2 : (ds.zipIdx.map fun p => D.tup [.int (p.2 : Nat), p.1]).length = ds.length := by simp
  refine ⟨fun hi => w.goes i H (by omega) q, fun hi => by subst hi; rw [hl2, ← hl]; exact w.stops H q, fun e he x H' y => ?_⟩
  have hi : i < xs.length := by rw [hl, ← hl2]; exact (List.getElem?_eq_some_iff.mp he).1
  obtain ⟨T, x1, x2, ex, hT, rfl, e1, e2⟩ := w.yields i H x H' hi q y
  obtain ⟨e', he', dv⟩ := d.getV e2
  cases e1
  have : e = .tup [.int (i : Nat), e'] := by
    rw [List.getElem?_map, List.getElem?_zipIdx, he'] at he
    simpa using (Option.some.inj he).symm
  subst this; subst ex
  have mT := R.same.free hT
  have s2 := same_updM (u := .tup [.int (i : Nat), x2]) mT
  exact ⟨_, s2, R.growM hT, .tup (.inl (.inl upd_same)) (.cons (.int _) (.cons (dv.mono (s1.trans s2)) .nil))⟩

section
variable {X : Cx} {W : WX} {J : List Nat} {pos : Pos} {tg e : Expr} {f : Ev → Option D}
def seqD : D → Option (List D)
  | .lst ds => some ds
  | .tup ds => some ds
  | .str z => some (signs z)
  | _ => none
def iOf (f : Ev → Option D) (ρ : Ev) : Option (List D) := (f ρ).bind seqD
theorem iSeq (h : PE X e (tP X.K f)) : PI X tg e (tI X.K [] (iOf f)) := PI.imp (PI.or (PI.or (pi_list h) (pi_tup h)) (pi_str h)) fun σ H R ⟨M, ρ, fo, fv, ds, R0, l, e, k⟩ => by
  unfold iOf at e
  cases q : f ρ with
  | none => rw [q] at e; cases e
  | some d =>
    rw [q, Option.bind_some] at e
    cases d with
    | lst es =>
      cases e
      exact .inl (.inl ⟨M, ρ, fo, fv, _, R0, l, q, fun M1 H1 v s1 R1 d1 => by
        cases d1 with
        | lst hs hd => exact ⟨_, rfl, ⟨_, seqX R1.same hs⟩, k M1 H1 _ s1 R1 (yld_list hs hd)⟩⟩)
    | tup es =>
      cases e
      exact .inl (.inr ⟨M, ρ, fo, fv, _, R0, l, q, fun M1 H1 v s1 R1 d1 => by
        cases d1 with
        | tup hs hd => exact ⟨_, rfl, ⟨_, sqT_same R1.same hs⟩, k M1 H1 _ s1 R1 (yld_tup hs hd)⟩⟩)
    | str z =>
      cases e
      exact .inr ⟨M, ρ, fo, fv, _, R0, l, q, fun M1 H1 v s1 R1 d1 => by cases d1; exact ⟨z, rfl, k M1 H1 _ s1 R1 yld_str⟩⟩
    | _ => cases e
def rng1 (f : Ev → Option D) (ρ : Ev) : Option (List D) := match f ρ with
  | some (.int n) => if n < 2 ^ 62 ∧ -(2 ^ 62) ≤ n then some (rangeD 0 n.toNat) else none
  | _ => none
def rng2 (f g : Ev → Option D) (ρ : Ev) : Option (List D) := match f ρ, g ρ with
  | some (.int m), some (.int n) => if (n < 2 ^ 62 ∧ -(2 ^ 62) ≤ n) ∧ m < 2 ^ 62 ∧ -(2 ^ 62) ≤ m then some (rangeD m (n - m).toNat) else none
  | _, _ => none
theorem iRange1 {p : Pos} (h : PE X e (tP X.K f)) (hm : X.mg "range" = none) (hg : Gl X "range" := by rfl) (hs : starEach [e] X.env = [(false, eval e X.env)] := by rfl) (hs2 : starEach [e] X.env = (false, eval e X.env) :: starEach [] X.env := by rfl) : PI X tg (.Call (.Name "range" p) [e] [] pos) (tI X.K [] (rng1 f)) :=
  PI.imp (pi_range1 hg hm (pa_cons h pa_nil hs2) hs) fun σ H R ⟨M, ρ, fo, fv, ds, R0, l, e, k⟩ => by
    unfold rng1 at e
    split at e
    · rename_i n q
      split at e
      · rename_i hn
        cases e
        exact ⟨M, ρ, fo, fv, _, R0, l, q, fun M1 H1 v s1 R1 d1 => by cases d1; exact ⟨n, rfl, hn.2, hn.1, k M1 H1 _ s1 R1 yld_range⟩⟩
      · cases e
    · cases e
theorem iRange2 {p : Pos} {e2 : Expr} {f2 : Ev → Option D} (h : PE X e (tP X.K f)) (h2 : PE X e2 (tP X.K f2)) (hm : X.mg "range" = none) (hg : Gl X "range" := by rfl) (hs : starEach [e, e2] X.env = [(false, eval e X.env), (false, eval e2 X.env)] := by rfl) (hs2 : starEach [e2] X.env = [(false, eval e2 X.env)] := by rfl)
    (hs3 : starEach [e, e2] X.env = (false, eval e X.env) :: starEach [e2] X.env := by rfl) (hs4 : starEach [e2] X.env = (false, eval e2 X.env) :: starEach [] X.env := by rfl) : PI X tg (.Call (.Name "range" p) [e, e2] [] pos) (tI X.K [] (rng2 f f2)) :=
  PI.imp (pi_range2 hg hm (pa_cons h (pa_cons h2 pa_nil hs4) hs3) hs hs2) fun σ H R ⟨M, ρ, fo, fv, ds, R0, l, e, k⟩ => by
    unfold rng2 at e
    split at e
    · rename_i m n q q2
      split at e
      · rename_i hn
        cases e
        exact ⟨M, ρ, fo, fv, _, R0, l, q, fun M1 H1 v s1 R1 d1 => by
          cases d1
          exact ⟨M1, ρ, fo, fv, _, R1, l, q2, fun M2 H2 v2 s2 R2 d2 => by cases d2; exact ⟨m, n, rfl, ⟨hn.2.2, hn.2.1, hn.1.2, hn.1.1⟩, k M2 H2 _ (s1.trans s2) R2 yld_range⟩⟩⟩
      · cases e
    · cases e
def enuD (f : Ev → Option D) (ρ : Ev) : Option (List D) := match f ρ with
  | some (.lst ds) => some (ds.zipIdx.map fun p => .tup [.int (p.2 : Nat), p.1])
  | _ => none
theorem iEnum {p tpos : Pos} {elts : List Expr} {kk : Nat} (h : PE X e (tP X.K f)) (hm : X.mg "enumerate" = none) (hg : Gl X "enumerate" := by rfl) (hs : starEach [e] X.env = [(false, eval e X.env)] := by rfl) (hs2 : starEach [e] X.env = (false, eval e X.env) :: starEach [] X.env := by rfl) :
    PI X (.Tuple elts kk tpos) (.Call (.Name "enumerate" p) [e] [] pos) (tI X.K [] (enuD f)) :=
  PI.imp (pi_enum hg hm (pa_cons h pa_nil hs2) hs) fun σ H R ⟨M, ρ, fo, fv, ds, R0, l, e, k⟩ => by
    unfold enuD at e
    split at e
    · rename_i es q
      cases e
      exact ⟨M, ρ, fo, fv, _, R0, l, q, fun M1 H1 v s1 R1 d1 => by
        cases d1 with
        | lst hs hd => exact ⟨_, _, rfl, seqX R1.same hs, k M1 H1 _ s1 R1 (yld_enum hs hd)⟩⟩
    · cases e

/-! ### targets -/
def tG (K : PySem.W.Frag) (is : List Nat) (g : D → Ev → Option Ev) : TG := fun v σ H Q => ∃ M ρ fo fv d ρ', Rep K M H (ρ ++ fo) (σ ++ fv) ∧ σ.length = ρ.length ∧ Dv K M v d ∧ g d ρ = some ρ' ∧
  ∀ σ', (∀ j, j ∉ is → σ'[j]? = σ[j]?) → σ'.length = σ.length → ρ'.length = ρ.length → Rep K M H (ρ' ++ fo) (σ' ++ fv) → Q σ' H
def tGs (K : PySem.W.Frag) (is : List Nat) (g : List D → Ev → Option Ev) : TGs := fun vs σ H Q => ∃ M ρ fo fv ds ρ', Rep K M H (ρ ++ fo) (σ ++ fv) ∧ σ.length = ρ.length ∧ Dvs K M vs ds ∧ g ds ρ = some ρ' ∧
  ∀ σ', (∀ j, j ∉ is → σ'[j]? = σ[j]?) → σ'.length = σ.length → ρ'.length = ρ.length → Rep K M H (ρ' ++ fo) (σ' ++ fv) → Q σ' H
def gN (i : Nat) (d : D) (ρ : Ev) : Option Ev := some (ρ.set i (.dat d))
def gsN (ds : List D) (ρ : Ev) : Option Ev := match ds with
  | [] => some ρ
  | _ => none
def gsC (g : D → Ev → Option Ev) (h : List D → Ev → Option Ev) (ds : List D) (ρ : Ev) : Option Ev := match ds with
  | d :: r => (g d ρ).bind (h r)
  | [] => none
def gT (n : Nat) (h : List D → Ev → Option Ev) (d : D) (ρ : Ev) : Option Ev := match d with
  | .tup ds => if ds.length = n then h ds ρ else none
  | _ => none
theorem PG.imp {t t' : TG} (h : PG X tg t) (i : ∀ v σ H Q, t' v σ H Q → t v σ H Q) : PG X tg t' := ⟨fun p s σ H v u Q I r w => h.run p s σ H v u Q I r (i v σ H Q w)⟩
theorem PGs.imp {ts : List Expr} {t t' : TGs} (h : PGs X ts t) (i : ∀ v σ H Q, t' v σ H Q → t v σ H Q) : PGs X ts t' := ⟨fun p s σ H v u Q I r w => h.run p s σ H v u Q I r (i v σ H Q w)⟩
theorem gName' {i : Nat} {x : Str} (hN : X.N.Nodup) (hi : X.N[i]? = some x := by rfl) (hx : Loc X.env.scope x := by first | exact Or.inl rfl | exact Or.inr rfl) (hf : X.fn x = true ∨ X.env.scope.names.lookup x = some .local := by first | exact .inl rfl | exact .inr rfl) : PG X (.Name x pos) (tG X.K [i] (gN i)) :=
  PG.imp (pg_name hN hi hx hf) fun v σ H Q ⟨M, ρ, fo, fv, d, ρ', R, l, dv, e, k⟩ => by
    cases e
    exact k _ (fun j hj => by rw [List.getElem?_set_ne (by simpa using Ne.symm (by simpa using hj))]) (by simp) (by simp) (R.setD l dv)
theorem gsNil' : PGs X [] (tGs X.K [] gsN) := PGs.imp pgs_nil fun vs σ H Q ⟨M, ρ, fo, fv, ds, ρ', R, l, dv, e, k⟩ => by
  unfold gsN at e
  split at e
  · cases e
    cases dv
    exact ⟨rfl, k σ (fun _ _ => rfl) rfl rfl R⟩
  · cases e
theorem gsCons' {es : List Expr} {is js : List Nat} {g : D → Ev → Option Ev} {h : List D → Ev → Option Ev} (h1 : PG X e (tG X.K is g)) (h2 : PGs X es (tGs X.K js h))
    (hs : (assignEach (e :: es) X.env).map (·.2) = assign e X.env :: (assignEach es X.env).map (·.2) := by rfl) : PGs X (e :: es) (tGs X.K (is ++ js) (gsC g h)) := by
  refine PGs.imp (pgs_cons h1 h2 hs) fun vs σ H Q ⟨M, ρ, fo, fv, ds, ρ', R, l, dv, e, k⟩ => ?_
  unfold gsC at e
  split at e
  · rename_i d r
    cases dv with
    | cons d1 d2 =>
      cases q : g d ρ with
      | none => rw [q] at e; cases e
      | some ρ1 =>
        rw [q, Option.bind_some] at e
        refine ⟨_, _, rfl, M, ρ, fo, fv, d, ρ1, R, l, d1, q, fun σ1 a1 l1 r1 R1 => ?_⟩
        exact ⟨M, ρ1, fo, fv, r, ρ', R1, by omega, d2, e, fun σ2 a2 l2 r2 R2 => k σ2 (fun j hj => by rw [a2 j (fun z => hj (List.mem_append_right _ z)), a1 j (fun z => hj (List.mem_append_left _ z))]) (by omega) (by omega) R2⟩
  · cases e
theorem gTup' {es : List Expr} {k n : Nat} {is : List Nat} {h : List D → Ev → Option Ev} (hc : X.calm = true) (h1 : PGs X es (tGs X.K is h)) (hn : (assignEach es X.env).length = n := by rfl) (hst : (assignEach es X.env).findIdx? (·.1) = none := by rfl) : PG X (.Tuple es k pos) (tG X.K is (gT n h)) :=
  PG.imp (pg_tup hc h1 hn hst) fun v σ H Q ⟨M, ρ, fo, fv, d, ρ', R, l, dv, e, k⟩ => by
    unfold gT at e
    split at e
    · rename_i ds
      split at e
      · rename_i hl
        cases dv with
        | tup hs hd => exact ⟨_, _, rfl, sqT_same R.same hs, by rw [hd.length]; exact hl, M, ρ, fo, fv, ds, ρ', R, l, hd, e, k⟩
      · cases e
    · cases e
/-- what a target changes -/
structure TgOk (is : List Nat) (g : D → Ev → Option Ev) : Prop where
  len : ∀ d ρ ρ', g d ρ = some ρ' → ρ'.length = ρ.length
  out : ∀ d ρ ρ', g d ρ = some ρ' → ∀ j, j ∉ is → ρ'[j]? = ρ[j]?
structure TgsOk (is : List Nat) (g : List D → Ev → Option Ev) : Prop where
  len : ∀ d ρ ρ', g d ρ = some ρ' → ρ'.length = ρ.length
  out : ∀ d ρ ρ', g d ρ = some ρ' → ∀ j, j ∉ is → ρ'[j]? = ρ[j]?
theorem gN_ok (i : Nat) : TgOk [i] (gN i) := ⟨fun d ρ ρ' e => by cases e; simp, fun d ρ ρ' e j hj => by cases e; rw [List.getElem?_set_ne (by simpa using Ne.symm (by simpa using hj))]⟩
theorem gsN_ok : TgsOk [] gsN := ⟨fun d ρ ρ' e => by unfold gsN at e; split at e <;> cases e; rfl, fun d ρ ρ' e j hj => by unfold gsN at e; split at e <;> cases e; rfl⟩
theorem gsC_ok {is js : List Nat} {g : D → Ev → Option Ev} {h : List D → Ev → Option Ev} (h1 : TgOk is g) (h2 : TgsOk js h) : TgsOk (is ++ js) (gsC g h) := by
  have key : ∀ d ρ ρ', gsC g h d ρ = some ρ' → ∃ d' r ρ1, g d' ρ = some ρ1 ∧ h r ρ1 = some ρ' := fun d ρ ρ' e => by
    unfold gsC at e
    split at e
    · rename_i d' r
      cases q : g d' ρ with
      | none => rw [q] at e; cases e
      | some ρ1 => rw [q, Option.bind_some] at e; exact ⟨d', r, ρ1, q, e⟩
    · cases e
  refine ⟨fun d ρ ρ' e => ?_, fun d ρ ρ' e j hj => ?_⟩
  · obtain ⟨d', r, ρ1, e1, e2⟩ := key d ρ ρ' e
    rw [h2.len _ _ _ e2, h1.len _ _ _ e1]
  · obtain ⟨d', r, ρ1, e1, e2⟩ := key d ρ ρ' e
    rw [h2.out _ _ _ e2 j (fun z => hj (List.mem_append_right _ z)), h1.out _ _ _ e1 j (fun z => hj (List.mem_append_left _ z))]
theorem gT_ok {is : List Nat} {n : Nat} {h : List D → Ev → Option Ev} (h1 : TgsOk is h) : TgOk is (gT n h) := by
  have key : ∀ d ρ ρ', gT n h d ρ = some ρ' → ∃ r, h r ρ = some ρ' := fun d ρ ρ' e => by
    unfold gT at e
    split at e
    · split at e
      · exact ⟨_, e⟩
      · cases e
    · cases e
  exact ⟨fun d ρ ρ' e => let ⟨r, e1⟩ := key d ρ ρ' e; h1.len _ _ _ e1, fun d ρ ρ' e j hj => let ⟨r, e1⟩ := key d ρ ρ' e; h1.out _ _ _ e1 j hj⟩
/-- a, b = e -/
def asg (f : Ev → Option D) (g : D → Ev → Option Ev) (ρ : Ev) : Option Fl := (f ρ).bind fun d => (g d ρ).map .nx
theorem sAsg {is : List Nat} {g : D → Ev → Option Ev} (he : PE X e (tP X.K f)) (hg : PG X tg (tG X.K is g)) (hJ : ∀ i ∈ is, i ∉ J := by decide) (hs : swapsWithSole [tg] e pos.line X.env = pure false := by rfl) (hw : swappedStores [tg] e X.env = pure none := by rfl) (h1 : (assignEach [tg] X.env).map (·.2) = [assign tg X.env] := by rfl) : PS X (.Assign [tg] e pos) (tS X.K W J (asg f g)) :=
  PS.imp (ps_asg he hg hs hw h1) fun E σ H ⟨M, ρ, fo, fv, r, σ0, R, l, e, k⟩ => by
    unfold asg at e
    cases q : f ρ with
    | none => rw [q] at e; cases e
    | some d =>
      rw [q, Option.bind_some] at e
      cases q2 : g d ρ with
      | none => rw [q2] at e; cases e
      | some ρ1 =>
        rw [q2] at e
        cases e
        exact ⟨M, ρ, fo, fv, d, R, l.1, q, fun M1 H1 v s1 R1 d1 => ⟨M1, ρ, fo, fv, d, ρ1, R1, l.1, d1, q2, fun σ1 a1 l1 r1 R2 => k M1 H1 σ1 s1 R2 (l.to l1 r1 a1 hJ)⟩⟩

/-! ### for -/
def loop (g : D → Ev → Option Ev) (body : Ev → Option Fl) : List D → Ev → Option Fl
  | [], ρ => some (.nx ρ)
  | d :: ds, ρ => (g d ρ).bind fun ρ1 => (body ρ1).bind fun r => match r with
    | .nx ρ' => loop g body ds ρ'
    | .ct ρ' => loop g body ds ρ'
    | .bk ρ' => some (.nx ρ')
    | r => some r
def forS (f : Ev → Option (List D)) (g : D → Ev → Option Ev) (body : Ev → Option Fl) (ρ : Ev) : Option Fl := (f ρ).bind fun ds => loop g body ds ρ
theorem sFor {iter : Expr} {body : List Stmt} {fi : Ev → Option (List D)} {is : List Nat} {g : D → Ev → Option Ev} {b : Ev → Option Fl} (hp : PassesOwn (model X.prog X.w) X.A X.env X.xe) (hc : X.calm = true) (hi : PI X tg iter (tI X.K [] fi)) (hg : PG X tg (tG X.K is g)) (hb : PSs X body (tS X.K W J b)) (hJ : ∀ i ∈ is, i ∉ J := by decide)
    (hs : ∀ x, foldedSetIterable iter X.env x = pure x := by intro _; rfl) : PS X (.For tg iter body [] pos) (tS X.K W J (forS fi g b)) := PS.imp (ps_for hp hc hi hg hb hs) fun E σ H ⟨M, ρ, fo, fv, r, σ0, R, l, e, k⟩ => by
  unfold forS at e
  cases q : fi ρ with
  | none => rw [q] at e; cases e
  | some ds =>
    rw [q, Option.bind_some] at e
    refine ⟨M, ρ, fo, fv, ds, R, l.1, q, fun M0 H0 JJ s0 R0 y => ?_⟩
    refine ⟨fun i m σ H => m = ds.length - i ∧ i ≤ ds.length ∧ ∃ M1 ρ1, Same M0 M1 ∧ Rep X.K M1 H (ρ1 ++ fo) (σ ++ fv) ∧ Lk J σ0 σ ρ1 ∧ loop g b (ds.drop i) ρ1 = some r, ⟨ds.length, by omega, Nat.zero_le _, M0, ρ, Same.refl _, R0, l, by simpa using e⟩, ?_⟩
    rintro i m σ H ⟨rfl, hi, M1, ρ1, s1, R1, l1, e1⟩
    obtain ⟨go, stop, yl⟩ := y i M1 H _ _ s1 R1 (fun r hr => nomatch hr)
    by_cases hlt : i < ds.length
    · have ed : ds.drop i = ds[i] :: ds.drop (i + 1) := List.drop_eq_getElem_cons hlt
      rw [ed] at e1
      unfold loop at e1
      cases q1 : g ds[i] ρ1 with
      | none => rw [q1] at e1; cases e1
      | some ρ2 =>
        rw [q1, Option.bind_some] at e1
        cases q2 : b ρ2 with
        | none => rw [q2] at e1; cases e1
        | some r2 =>
          rw [q2, Option.bind_some] at e1
          refine .inr ⟨go hlt, fun σ' H' => ∃ M1 ρ1, Same M0 M1 ∧ Rep X.K M1 H' (ρ1 ++ fo) (σ' ++ fv) ∧ Lk J σ0 σ' ρ1 ∧ loop g b (ds.drop (i + 1)) ρ1 = some r, fun σ' H' h => ⟨ds.length - (i + 1), by omega, rfl, hlt, h⟩, fun x H' hy => ?_⟩
          obtain ⟨M2, s2, R2, d2⟩ := yl ds[i] (List.getElem?_eq_getElem hlt) x H' hy
          refine ⟨M2, ρ1, fo, fv, ds[i], ρ2, R2, l1.1, d2, q1, fun σ3 a3 l3 r3 R3 => ?_⟩
          have s02 : Same M M2 := s0.trans (s1.trans s2)
          refine ⟨M2, ρ2, fo, fv, r2, σ0, R3, l1.to l3 r3 a3 hJ, q2, ?_⟩
          cases r2 with
          | nx ρ4 => exact fun M4 H4 σ4 s4 R4 l4 => ⟨M4, ρ4, s1.trans (s2.trans s4), R4, l4, e1⟩
          | ct ρ4 => exact fun M4 H4 σ4 s4 R4 l4 => ⟨M4, ρ4, s1.trans (s2.trans s4), R4, l4, e1⟩
          | bk ρ4 => cases e1; exact fun M4 H4 σ4 s4 R4 l4 => k M4 H4 σ4 (s02.trans s4) R4 l4
          | rt o ρ4 => cases e1; exact fun M4 H4 σ4 v s4 R4 l4 => k M4 H4 σ4 v (s02.trans s4) R4 l4
          | ex x ρ4 => cases e1; exact fun M4 H4 σ4 cls d s4 R4 l4 => k M4 H4 σ4 cls d (s02.trans s4) R4 l4
    · have ei : i = ds.length := by omega
      rw [ei, List.drop_length] at e1
      cases e1
      exact .inl ⟨stop ei, k M1 H σ (s0.trans s1) R1 l1⟩

/-! ### while -/
def wl (c : Ev → Option Bool) (b : Ev → Option Fl) : Nat → Ev → Option Fl
  | 0, _ => none
  | n + 1, ρ => (c ρ).bind fun t => if t = true then (b ρ).bind fun r => (match r with
    | .nx ρ' => wl c b n ρ'
    | .ct ρ' => wl c b n ρ'
    | .bk ρ' => some (.nx ρ')
    | r => some r) else some (.nx ρ)
open Classical in
noncomputable def whileS (c : Ev → Option Bool) (b : Ev → Option Fl) (ρ : Ev) : Option Fl := if h : ∃ n r, wl c b n ρ = some r then some h.choose_spec.choose else none
theorem wl_more {c : Ev → Option Bool} {b : Ev → Option Fl} : ∀ {n : Nat} {ρ : Ev} {r : Fl}, wl c b n ρ = some r → ∀ m, wl c b (n + m) ρ = some r
  | 0, _, _, h, _ => by cases h
  | n + 1, ρ, r, h, m => by
    rw [show n + 1 + m = (n + m) + 1 by omega]
    unfold wl at h ⊢
    cases q : c ρ with
    | none => rw [q] at h; cases h
    | some t =>
      simp only [q, Option.bind_some] at h ⊢
      cases t with
      | false => exact h
      | true =>
        rw [if_pos rfl] at h ⊢
        cases q2 : b ρ with
        | none => rw [q2] at h; cases h
        | some r2 =>
          simp only [q2, Option.bind_some] at h ⊢
          cases r2 with
          | nx ρ' => exact wl_more (n := n) h m
          | ct ρ' => exact wl_more (n := n) h m
          | bk ρ' => exact h
          | rt o ρ' => exact h
          | ex x ρ' => exact h
theorem whileS_of {c : Ev → Option Bool} {b : Ev → Option Fl} {n : Nat} {ρ : Ev} {r : Fl} (h : wl c b n ρ = some r) : whileS c b ρ = some r := by
  unfold whileS
  have hx : ∃ n r, wl c b n ρ = some r := ⟨n, r, h⟩
  rw [dif_pos hx]
  have h2 := hx.choose_spec.choose_spec
  have a := wl_more h hx.choose
  have b := wl_more h2 n
  rw [Nat.add_comm, b] at a
  exact a
theorem whileS_some {c : Ev → Option Bool} {b : Ev → Option Fl} {ρ : Ev} {r : Fl} (h : whileS c b ρ = some r) : ∃ n, wl c b n ρ = some r := by
  unfold whileS at h
  split at h
  · rename_i hx
    have h2 := hx.choose_spec.choose_spec
    refine ⟨hx.choose, ?_⟩
    rw [h2]
    exact h
  · cases h
theorem sWhile {c : Expr} {body : List Stmt} {fc : Ev → Option Bool} {b : Ev → Option Fl} (hp : PassesOwn (model X.prog X.w) X.A X.env X.xe) (hc : PT X c (tT X.K fc)) (hb : PSs X body (tS X.K W J b)) : PS X (.While c body [] pos) (tS X.K W J (whileS fc b)) := PS.imp (ps_while hp hc hb) fun E σ H ⟨M, ρ, fo, fv, r, σ0, R, l, e, k⟩ => by
  obtain ⟨n, e⟩ := whileS_some e
  refine ⟨fun m σ H => ∃ M1 ρ1, Same M M1 ∧ Rep X.K M1 H (ρ1 ++ fo) (σ ++ fv) ∧ Lk J σ0 σ ρ1 ∧ wl fc b m ρ1 = some r, ⟨n, M, ρ, Same.refl _, R, l, e⟩, ?_⟩
  rintro m σ H ⟨M1, ρ1, s1, R1, l1, e1⟩
  cases m with
  | zero => cases e1
  | succ m =>
    unfold wl at e1
    cases q : fc ρ1 with
    | none => rw [q] at e1; cases e1
    | some t =>
      rw [q, Option.bind_some] at e1
      refine ⟨M1, ρ1, fo, fv, t, R1, l1.1, q, fun M2 H2 s2 R2 => ?_⟩
      cases t with
      | false => cases e1; exact iteF (k M2 H2 σ (s1.trans s2) R2 l1)
      | true =>
        rw [if_pos rfl] at e1
        cases q2 : b ρ1 with
        | none => rw [q2] at e1; cases e1
        | some r2 =>
          rw [q2, Option.bind_some] at e1
          refine iteT ⟨fun σ' H' => ∃ M3 ρ3, Same M M3 ∧ Rep X.K M3 H' (ρ3 ++ fo) (σ' ++ fv) ∧ Lk J σ0 σ' ρ3 ∧ wl fc b m ρ3 = some r, fun σ' H' h => ⟨m, Nat.lt_succ_self _, h⟩, M2, ρ1, fo, fv, r2, σ0, R2, l1, q2, ?_⟩
          have s12 := s1.trans s2
          cases r2 with
          | nx ρ4 => exact fun M4 H4 σ4 s4 R4 l4 => ⟨M4, ρ4, s12.trans s4, R4, l4, e1⟩
          | ct ρ4 => exact fun M4 H4 σ4 s4 R4 l4 => ⟨M4, ρ4, s12.trans s4, R4, l4, e1⟩
          | bk ρ4 => cases e1; exact fun M4 H4 σ4 s4 R4 l4 => k M4 H4 σ4 (s12.trans s4) R4 l4
          | rt o ρ4 => cases e1; exact fun M4 H4 σ4 v s4 R4 l4 => k M4 H4 σ4 v (s12.trans s4) R4 l4
          | ex x ρ4 => cases e1; exact fun M4 H4 σ4 cls d s4 R4 l4 => k M4 H4 σ4 cls d (s12.trans s4) R4 l4
end
end PD

namespace PD
open PySem PySem.Spec L2

/-! ### a comprehension's block -/
def wipeO (ρ : Ev) : List Nat → Ev
  | [] => ρ
  | v :: vs => (wipeO ρ vs).set v .unk
theorem wipeO_length (ρ : Ev) : ∀ vs : List Nat, (wipeO ρ vs).length = ρ.length
  | [] => rfl
  | v :: vs => by unfold wipeO; rw [List.length_set, wipeO_length ρ vs]
theorem wipeO_out {ρ : Ev} {i : Nat} : ∀ {vs : List Nat}, i ∉ vs → (wipeO ρ vs)[i]? = ρ[i]?
  | [], _ => rfl
  | v :: vs, h => by
    unfold wipeO
    rw [List.getElem?_set_ne (show v ≠ i from fun z => h (by rw [z]; exact List.mem_cons_self)), wipeO_out fun z => h (List.mem_cons_of_mem _ z)]
theorem wipeO_in {ρ : Ev} {i : Nat} (hi : i < ρ.length) : ∀ {vs : List Nat}, i ∈ vs → (wipeO ρ vs)[i]? = some .unk
  | v :: vs, h => by
    unfold wipeO
    by_cases e : v = i
    · subst e; rw [List.getElem?_set_self (by rw [wipeO_length]; exact hi)]
    · rw [List.getElem?_set_ne e]
      rcases List.mem_cons.mp h with h | h
      · exact absurd h.symm e
      · exact wipeO_in hi h
theorem wipe_in {σ : L2.St} {i : Nat} (hi : i < σ.length) : ∀ {vs : List Nat}, i ∈ vs → (wipe σ vs)[i]? = some none
  | v :: vs, h => by
    unfold wipe
    by_cases e : v = i
    · subst e; rw [List.getElem?_set_self (by rw [wipe_length]; exact hi)]
    · rw [List.getElem?_set_ne e]
      rcases List.mem_cons.mp h with h | h
      · exact absurd h.symm e
      · exact wipe_in hi h
theorem wipeO_ext {ρ ρ' : Ev} {vs : List Nat} (l : ρ'.length = ρ.length) (h : ∀ j, j ∉ vs → ρ'[j]? = ρ[j]?) : wipeO ρ' vs = wipeO ρ vs := by
  apply List.ext_getElem?
  intro j
  by_cases hj : j ∈ vs
  · by_cases hl : j < ρ.length
    · rw [wipeO_in hl hj, wipeO_in (l ▸ hl) hj]
    · rw [List.getElem?_eq_none (by rw [wipeO_length]; omega), List.getElem?_eq_none (by rw [wipeO_length]; omega)]
  · rw [wipeO_out hj, wipeO_out hj, h j hj]
theorem wipe_ext {ρ ρ' : L2.St} {vs : List Nat} (l : ρ'.length = ρ.length) (h : ∀ j, j ∉ vs → ρ'[j]? = ρ[j]?) : wipe ρ' vs = wipe ρ vs := by
  apply List.ext_getElem?
  intro j
  by_cases hj : j ∈ vs
  · by_cases hl : j < ρ.length
    · rw [wipe_in hl hj, wipe_in (l ▸ hl) hj]
    · rw [List.getElem?_eq_none (by rw [wipe_length]; omega), List.getElem?_eq_none (by rw [wipe_length]; omega)]
  · rw [wipe_out hj, wipe_out hj, h j hj]
def okW (ρ : Ev) (vs : List Nat) : Bool := vs.all fun v => match ρ[v]? with
  | some (.dat _) => true
  | some .unk => true
  | none => true
  | _ => false
section
variable {K : PySem.W.Frag} {M M' H H' : Hp}
theorem Rep.wipe {ρ fo : List O} {σ fv : List (Option V)} (R : Rep K M H (ρ ++ fo) (σ ++ fv)) (l : σ.length = ρ.length) : ∀ vs : List Nat, Rep K M H (wipeO ρ vs ++ fo) (L2.wipe σ vs ++ fv)
  | [] => R
  | v :: vs => (Rep.wipe R l vs).setU (by rw [wipe_length, wipeO_length]; exact l) none
theorem Ows.restore : ∀ {ρ ρ' : List O} {σ σ' : List (Option V)} {f : List Addr}, Ows K M H ρ' σ' f → ρ'.length = ρ.length → σ.length = ρ.length →
    (∀ j : Nat, (ρ'[j]? = ρ[j]? ∧ σ'[j]? = σ[j]?) ∨ (∃ d x, ρ[j]? = some (.dat d) ∧ σ[j]? = some (some x) ∧ Dv K M x d) ∨ ρ[j]? = some .unk) → ∃ f', f'.Sublist f ∧ Ows K M H ρ σ f'
  | [], _, [], _, _, .nil, _, _, _ => ⟨[], List.Sublist.refl _, .nil⟩
  | o :: ρ, _, v :: σ, _, _, .cons (o := o') (v := v') (f1 := f1) (f2 := f2) h hs, e, e2, k => by
    obtain ⟨f', sb, w⟩ := Ows.restore hs (ρ := ρ) (σ := σ) (by simpa using e) (by simpa using e2) (fun j => by have := k (j + 1); simpa using this)
    rcases k 0 with ⟨a, b⟩ | ⟨d, x, a, b, dv⟩ | a
    · have a : o' = o := by simpa using a
      have b : v' = v := by simpa using b
      subst a; subst b
      exact ⟨f1 ++ f', List.Sublist.append (List.Sublist.refl _) sb, .cons h w⟩
    · have a : o = .dat d := by simpa using a
      have b : v = some x := by simpa using b
      subst a; subst b
      exact ⟨[] ++ f', sb.trans (List.sublist_append_right _ _), .cons (.dat dv) w⟩
    · have a : o = .unk := by simpa using a
      subst a
      exact ⟨[] ++ f', sb.trans (List.sublist_append_right _ _), .cons .unk w⟩
  | [], _ :: _, _, _, _, _, e, _, _ => by simp at e
  | _ :: _, [], _, _, _, _, e, _, _ => by simp at e
  | [], _, _ :: _, _, _, _, _, e, _ => by simp at e
  | _ :: _, _, [], _, _, _, _, e, _ => by simp at e
theorem Rep.unwipe {ρ fo : List O} {σ fv : List (Option V)} (R : Rep K M H (ρ ++ fo) (σ ++ fv)) (l : σ.length = ρ.length) {vs : List Nat} (ok : okW ρ vs = true) (s : Same M M') {fo' : List O} {fv' : List (Option V)}
    (R' : Rep K M' H' (wipeO ρ vs ++ fo') (L2.wipe σ vs ++ fv')) : Rep K M' H' (ρ ++ fo') (σ ++ fv') := by
  obtain ⟨sm, fp, w, nd, nm⟩ := R'
  obtain ⟨fa, fb, e1, w1, w2⟩ := w.split (by rw [wipe_length, wipeO_length]; exact l)
  obtain ⟨f', sb, w3⟩ := w1.restore (ρ := ρ) (σ := σ) (wipeO_length _ _) l fun j => by
    by_cases hj : j ∈ vs
    · unfold okW at ok
      rw [List.all_eq_true] at ok
      have := ok j hj
      cases q : ρ[j]? with
      | none =>
        left
        have hl := List.getElem?_eq_none_iff.mp q
        exact ⟨List.getElem?_eq_none (by rw [wipeO_length]; exact hl), by rw [List.getElem?_eq_none (by rw [wipe_length]; omega), List.getElem?_eq_none (by omega)]⟩
      | some o =>
        rw [q] at this
        cases o with
        | unk => exact .inr (.inr rfl)
        | dat d =>
          obtain ⟨x, ex, dx⟩ := R.slot l q
          exact .inr (.inl ⟨d, x, rfl, ex, dx.mono s⟩)
        | lst _ => cases this
        | tup _ => cases this
        | dic _ _ => cases this
        | obj _ _ _ => cases this
    · exact .inl ⟨wipeO_out hj, wipe_out hj⟩
  subst e1
  refine ⟨sm, f' ++ fb, w3.append w2, nd.sublist (List.Sublist.append sb (List.Sublist.refl _)), fun a ha => nm a ?_⟩
  rcases List.mem_append.mp ha with ha | ha
  · exact List.mem_append_left _ (sb.subset ha)
  · exact List.mem_append_right _ ha
end

def comp (g : D → Ev → Option Ev) (t : Ev → Option Bool) (f : Ev → Option D) (ρ : Ev) : List D → Option (List D)
  | [] => some []
  | d :: ds => (g d ρ).bind fun ρ1 => (t ρ1).bind fun b => if b = true then (f ρ1).bind fun y => (comp g t f ρ ds).map (y :: ·) else comp g t f ρ ds
def yes (_ : Ev) : Option Bool := some true
def lcO (fi : Ev → Option (List D)) (g : D → Ev → Option Ev) (t : Ev → Option Bool) (f : Ev → Option D) (vs : List Nat) (ρ : Ev) : Option O := if okW ρ vs = true then
  (fi ρ).bind fun ds => (comp g t f (wipeO ρ vs) ds).bind fun ys => if ys.length ≤ sizeLine then some (.lst (ys.map .dat)) else none else none
def lcD (fi : Ev → Option (List D)) (g : D → Ev → Option Ev) (t : Ev → Option Bool) (f : Ev → Option D) (vs : List Nat) (ρ : Ev) : Option D := if okW ρ vs = true then
  (fi ρ).bind fun ds => (comp g t f (wipeO ρ vs) ds).bind fun ys => if ys.length ≤ sizeLine then some (.lst ys) else none else none
theorem toDs_dat : ∀ ys : List D, O.toDs (ys.map .dat) = some ys
  | [] => rfl
  | y :: ys => by
    show (match O.toD (.dat y), O.toDs (ys.map .dat) with | some d, some ds => some (d :: ds) | _, _ => none) = _
    rw [toDs_dat ys]
    rfl
section
variable {X : Cx} {W : WX} {J : List Nat} {pos : Pos} {tg iter elt : Expr} {ifs : List Expr} {scope : Scope} {own : List (Str × Nat)} {fi : Ev → Option (List D)} {is kn : List Nat} {g : D → Ev → Option Ev} {t : Ev → Option Bool} {f : Ev → Option D}
theorem tYes_of {K : PySem.W.Frag} {σ : L2.St} {H : Hp} {Q : Bool → Hp → Prop} (h : tT K yes σ H Q) : tYes σ H Q := by
  obtain ⟨M, ρ, fo, fv, b, R, l, e, k⟩ := h
  cases e
  exact k M H (Same.refl _) R
theorem ptsNil : PTs X [] (tT X.K yes) := ⟨fun p s σ H Q I h => pts_nil.run p s σ H Q I (tYes_of h)⟩
theorem ptsOne {c : Expr} (h : PT X c (tT X.K t)) : PTs X [c] (tT X.K t) := pts_one h
theorem lc_of {K : PySem.W.Frag} {vs kn : List Nat} (ok : TgOk is g) (hv : ∀ i ∈ is, i ∈ vs) (hkn : ∀ ρ ds, fi ρ = some ds → ∀ k ∈ kn, k < ρ.length) (hkv : ∀ k ∈ kn, k ∉ vs) {σ : L2.St} {H : Hp} {Q : VK} (h : tO K (lcO fi g t f vs) σ H Q) : tLc (tI K kn fi) (tG K is g) (tT K t) (tP K f) vs σ H Q := by
  obtain ⟨M, ρ, fo, fv, o, R, l, e, k⟩ := h
  unfold lcO at e
  by_cases hw : okW ρ vs = true
  · rw [if_pos hw] at e
    cases q : fi ρ with
    | none => rw [q] at e; cases e
    | some ds =>
      rw [q, Option.bind_some] at e
      cases q2 : comp g t f (wipeO ρ vs) ds with
      | none => rw [q2] at e; cases e
      | some ys =>
        rw [q2, Option.bind_some] at e
        by_cases hz : ys.length ≤ sizeLine
        · rw [if_pos hz] at e
          cases e
          refine ⟨M, ρ, fo, fv, ds, R, l, q, fun M0 H0 J s0 R0 y DD hD => ?_⟩
          have lw : (L2.wipe σ vs).length = (wipeO ρ vs).length := by rw [wipe_length, wipeO_length]; exact l
          refine ⟨fun i m H => m = ds.length - i ∧ i ≤ ds.length ∧ ∃ M1 acc rest, Same M0 M1 ∧ Rep K M1 H (wipeO ρ vs ++ .lst (acc.map .dat) :: fo) (L2.wipe σ vs ++ some (.ref DD) :: fv) ∧ comp g t f (wipeO ρ vs) (ds.drop i) = some rest ∧ ys = acc ++ rest,
            ⟨ds.length, by omega, Nat.zero_le _, M0, [], ys, Same.refl _, (R0.newL l hD .nil).wipe l vs, by simpa using q2, rfl⟩, ?_⟩
          rintro i m H ⟨rfl, hi, M1, acc, rest, s1, R1, e1, ey⟩
          obtain ⟨go, stop, yl⟩ := y i M1 H _ _ s1 R1 (fun r hr => by
            obtain ⟨k, hk, rfl⟩ := List.mem_map.mp hr
            have h1 := hkn ρ ds q k hk
            have h2 := hkv k hk
            refine List.mem_of_getElem? (i := k) ?_
            have a1 : (wipeO ρ vs)[k]? = some (ρ.getD k .unk) := by rw [wipeO_out h2, List.getElem?_eq_getElem h1, List.getD_eq_getElem?_getD, List.getElem?_eq_getElem h1]; rfl
            have a2 : (L2.wipe σ vs)[k]? = some (σ.getD k none) := by rw [wipe_out h2, List.getElem?_eq_getElem (by omega), List.getD_eq_getElem?_getD, List.getElem?_eq_getElem (by omega)]; rfl
            rw [List.getElem?_zip_eq_some]
            exact ⟨by rw [List.getElem?_append_left (by rw [wipeO_length]; exact h1)]; exact a1, by rw [List.getElem?_append_left (by rw [wipe_length]; omega)]; exact a2⟩)
          by_cases hlt : i < ds.length
          · have ed : ds.drop i = ds[i] :: ds.drop (i + 1) := List.drop_eq_getElem_cons hlt
            rw [ed] at e1
            unfold comp at e1
            cases q3 : g ds[i] (wipeO ρ vs) with
            | none => rw [q3] at e1; cases e1
            | some ρ2 =>
              rw [q3, Option.bind_some] at e1
              cases q4 : t ρ2 with
              | none => rw [q4] at e1; cases e1
              | some b =>
                rw [q4, Option.bind_some] at e1
                refine .inr ⟨go hlt, fun H' => ∃ M1 acc rest, Same M0 M1 ∧ Rep K M1 H' (wipeO ρ vs ++ .lst (acc.map .dat) :: fo) (L2.wipe σ vs ++ some (.ref DD) :: fv) ∧ comp g t f (wipeO ρ vs) (ds.drop (i + 1)) = some rest ∧ ys = acc ++ rest,
                  fun H' h => ⟨ds.length - (i + 1), by omega, rfl, hlt, h⟩, fun x H' hy => ?_⟩
                obtain ⟨M2, s2, R2, d2⟩ := yl ds[i] (List.getElem?_eq_getElem hlt) x H' hy
                refine ⟨M2, wipeO ρ vs, .lst (acc.map .dat) :: fo, some (.ref DD) :: fv, ds[i], ρ2, R2, lw, d2, q3, fun σ3 a3 l3 r3 R3 => ?_⟩
                have ew : L2.wipe σ3 vs = L2.wipe σ vs := by
                  refine wipe_ext (by rw [l3, wipe_length]) fun j hj => ?_
                  rw [a3 j fun z => hj (hv j z), wipe_out hj]
                have er : wipeO ρ2 vs = wipeO ρ vs := by
                  refine wipeO_ext (by rw [r3, wipeO_length]) fun j hj => ?_
                  rw [ok.out _ _ _ q3 j fun z => hj (hv j z), wipeO_out hj]
                have l23 : σ3.length = ρ2.length := by omega
                refine ⟨ew, M2, ρ2, .lst (acc.map .dat) :: fo, some (.ref DD) :: fv, b, R3, l23, q4, fun M4 H4 s4 R4 => ?_⟩
                cases b with
                | false =>
                  refine iteF ⟨M4, acc, rest, s1.trans (s2.trans s4), ?_, e1, ey⟩
                  have := R4.wipe l23 vs
                  rw [ew, er] at this
                  exact this
                | true =>
                  rw [if_pos rfl] at e1
                  cases q5 : f ρ2 with
                  | none => rw [q5] at e1; cases e1
                  | some z =>
                    rw [q5, Option.bind_some] at e1
                    cases q6 : comp g t f (wipeO ρ vs) (ds.drop (i + 1)) with
                    | none => rw [q6] at e1; cases e1
                    | some rest2 =>
                      rw [q6] at e1
                      cases e1
                      refine iteT ⟨M4, ρ2, .lst (acc.map .dat) :: fo, some (.ref DD) :: fv, z, R4, l23, q5, fun M5 H5 v5 s5 R5 d5 => ?_⟩
                      have R5' : Rep K M5 H5 ((ρ2 ++ [.lst (acc.map .dat)]) ++ fo) ((σ3 ++ [some (.ref DD)]) ++ fv) := by simpa using R5
                      obtain ⟨a, xs, ea, ha, hl, up⟩ := R5'.ownL (by simp [l23]) (i := ρ2.length) (os := acc.map .dat) (by simp)
                      have : a = DD := by rw [List.getElem?_append_right (by omega)] at ea; simp [l23] at ea; exact ea.symm
                      subst this
                      refine ⟨xs, ha, by rw [hl, List.length_map]; rw [ey] at hz; simp at hz; omega, M5, acc ++ [z], rest2, s1.trans (s2.trans (s4.trans s5)), ?_, rfl, by rw [ey]; simp⟩
                      have R6 := up v5 z d5
                      rw [List.set_append_right _ _ (by omega)] at R6
                      simp only [Nat.sub_self, List.set_cons_zero, List.append_assoc, List.cons_append, List.nil_append] at R6
                      have R7 := R6.wipe l23 vs
                      rw [ew, er] at R7
                      simpa using R7
          · have ei : i = ds.length := by omega
            rw [ei, List.drop_length] at e1
            cases e1
            rw [List.append_nil] at ey
            subst ey
            exact .inl ⟨stop ei, k M1 H _ (s0.trans s1) (R0.unwipe l hw s1 R1)⟩
        · rw [if_neg hz] at e; cases e
  · rw [if_neg hw] at e; cases e
theorem oLc (own : List (Str × Nat)) (hc : X.calm = true) (hN : X.N.Nodup) (hi : PI X tg iter (tI X.K kn fi)) (bo : BlkOk X.N X.env.scope scope own)
    (hg : ∀ (s : Shared) (H : Hp) (C : Addr) (cl : List (Str × Addr)) (fp : List Addr), PG (X.blk s H scope (compEnvC scope cl C X.env) fp) tg (tG X.K is g)) (ht : ∀ (s : Shared) (H : Hp) (C : Addr) (cl : List (Str × Addr)) (fp : List Addr), PTs (X.blk s H scope (compEnvC scope cl C X.env) fp) ifs (tT X.K t))
    (he : ∀ (s : Shared) (H : Hp) (C : Addr) (cl : List (Str × Addr)) (fp : List Addr), PE (X.blk s H scope (compEnvC scope cl C X.env) fp) elt (tP X.K f)) (ok : TgOk is g) (hv : ∀ i ∈ is, i ∈ own.map (·.2) := by decide) (hkn : ∀ ρ ds, fi ρ = some ds → ∀ k ∈ kn, k < ρ.length := by intro _ _ _ _ hk; cases hk) (hkv : ∀ k ∈ kn, k ∉ own.map (·.2) := by decide) (hs : ∀ x, foldedSetIterable iter X.env x = pure x := by intro _; rfl) :
    PE X (.ListComp elt [⟨tg, iter, ifs, 0⟩] scope pos) (tO X.K (lcO fi g t f (own.map (·.2)))) := PE.imp (pe_lc hc hN hi bo hg ht he hs) fun _ _ _ h => lc_of ok hv hkn hkv h
theorem lcD_eq (ρ : Ev) (vs : List Nat) : frz (lcO fi g t f vs) ρ = lcD fi g t f vs ρ := by
  unfold frz lcO lcD
  by_cases hw : okW ρ vs = true
  · rw [if_pos hw, if_pos hw]
    cases q : fi ρ with
    | none => rfl
    | some ds =>
      rw [Option.bind_some, Option.bind_some]
      cases q2 : comp g t f (wipeO ρ vs) ds with
      | none => rfl
      | some ys =>
        rw [Option.bind_some, Option.bind_some]
        by_cases hz : ys.length ≤ sizeLine
        · rw [if_pos hz, if_pos hz]
          show (O.toDs (ys.map .dat)).map D.lst = _
          rw [toDs_dat]
          rfl
        · rw [if_neg hz, if_neg hz]; rfl
  · rw [if_neg hw, if_neg hw]; rfl
theorem pLc (own : List (Str × Nat)) (hc : X.calm = true) (hN : X.N.Nodup) (hi : PI X tg iter (tI X.K kn fi)) (bo : BlkOk X.N X.env.scope scope own)
    (hg : ∀ (s : Shared) (H : Hp) (C : Addr) (cl : List (Str × Addr)) (fp : List Addr), PG (X.blk s H scope (compEnvC scope cl C X.env) fp) tg (tG X.K is g)) (ht : ∀ (s : Shared) (H : Hp) (C : Addr) (cl : List (Str × Addr)) (fp : List Addr), PTs (X.blk s H scope (compEnvC scope cl C X.env) fp) ifs (tT X.K t))
    (he : ∀ (s : Shared) (H : Hp) (C : Addr) (cl : List (Str × Addr)) (fp : List Addr), PE (X.blk s H scope (compEnvC scope cl C X.env) fp) elt (tP X.K f)) (ok : TgOk is g) (hv : ∀ i ∈ is, i ∈ own.map (·.2) := by decide) (hkn : ∀ ρ ds, fi ρ = some ds → ∀ k ∈ kn, k < ρ.length := by intro _ _ _ _ hk; cases hk) (hkv : ∀ k ∈ kn, k ∉ own.map (·.2) := by decide) (hs : ∀ x, foldedSetIterable iter X.env x = pure x := by intro _; rfl) :
    PE X (.ListComp elt [⟨tg, iter, ifs, 0⟩] scope pos) (tP X.K (lcD fi g t f (own.map (·.2)))) := by
  have h := pO (oLc (pos := pos) own hc hN hi bo hg ht he ok hv hkn hkv hs)
  rw [show frz (lcO fi g t f (own.map (·.2))) = lcD fi g t f (own.map (·.2)) from funext fun ρ => lcD_eq ρ _] at h
  exact h
/-- y = [..] on one line -/
theorem sLc {i : Nat} {y : Str} {py spos : Pos} (own : List (Str × Nat)) (hc : X.calm = true) (hN : X.N.Nodup) (hi : PI X tg iter (tI X.K kn fi)) (bo : BlkOk X.N X.env.scope scope own)
    (hg : ∀ (s : Shared) (H : Hp) (C : Addr) (cl : List (Str × Addr)) (fp : List Addr), PG (X.blk s H scope (compEnvC scope cl C X.env) fp) tg (tG X.K is g)) (ht : ∀ (s : Shared) (H : Hp) (C : Addr) (cl : List (Str × Addr)) (fp : List Addr), PTs (X.blk s H scope (compEnvC scope cl C X.env) fp) ifs (tT X.K t))
    (he : ∀ (s : Shared) (H : Hp) (C : Addr) (cl : List (Str × Addr)) (fp : List Addr), PE (X.blk s H scope (compEnvC scope cl C X.env) fp) elt (tP X.K f)) (ok : TgOk is g) (hJ : i ∉ J := by decide) (hy : X.N[i]? = some y := by rfl) (hyl : X.env.scope.names.lookup y = some .local := by rfl)
    (hsw : swapsWith (.ListComp elt [⟨tg, iter, ifs, 0⟩] scope pos) (some (.Name y py)) spos.line X.env = pure true := by exact sw_true rfl rfl rfl (by decide +kernel)) (hv : ∀ i ∈ is, i ∈ own.map (·.2) := by decide) (hkn : ∀ ρ ds, fi ρ = some ds → ∀ k ∈ kn, k < ρ.length := by intro _ _ _ _ hk; cases hk) (hkv : ∀ k ∈ kn, k ∉ own.map (·.2) := by decide) (hs : ∀ x, foldedSetIterable iter X.env x = pure x := by intro _; rfl) :
    PS X (.Assign [.Name y py] (.ListComp elt [⟨tg, iter, ifs, 0⟩] scope pos) spos) (tS X.K W J (stO i (lcO fi g t f (own.map (·.2))))) :=
  sAsgO (PS.imp (ps_setLc (i := i) hc hN hy hyl hsw hi bo hg ht he hs) fun E σ H h => lc_of ok hv hkn hkv h) hJ
end

/-! ### defs -/
inductive Rz where
  | ok (o : O) | ex (x : Exn)
/-- the promise of a def that changes nothing -/
def spX (K : PySem.W.Frag) (n : Nat) (m : List D → Option Rz) : Sp := fun vs H Q E => ∃ M fo fv ds r, vs.length = n ∧ Rep K M H fo fv ∧ Dvs K M vs ds ∧ m ds = some r ∧ match r with
  | .ok o => ∀ M' H' v, Same M M' → Rep K M' H' (o :: fo) (some v :: fv) → Q v H'
  | .ex x => ∀ M' H' cls d, Same M M' → Rep K M' H' fo fv → ExR K M' x cls d → E cls d H'
/-- .. that raises nothing and gives a frozen thing -/
def spP (K : PySem.W.Frag) (n : Nat) (m : List D → Option D) : Sp := fun vs H Q _ => vs.length = n ∧ rDs K m vs H Q
/-- .. that raises nothing and gives a new thing -/
def spO (K : PySem.W.Frag) (n : Nat) (m : List D → Option O) : Sp := fun vs H Q _ => vs.length = n ∧ rOs K m vs H Q
def env0 (n : Nat) (ds : List D) : Ev := ds.map .dat ++ List.replicate (n - ds.length) .unk
def outO (r : Fl) : Option O := match r with
  | .nx _ => some (.dat .non)
  | .rt o _ => some o
  | _ => none
def outX (r : Fl) : Option Rz := match r with
  | .nx _ => some (.ok (.dat .non))
  | .rt o _ => some (.ok o)
  | .ex x _ => some (.ex x)
  | _ => none
def runO (n : Nat) (b : Ev → Option Fl) (ds : List D) : Option O := (b (env0 n ds)).bind outO
def runP (n : Nat) (b : Ev → Option Fl) (ds : List D) : Option D := (runO n b ds).bind O.toD
def runX (n : Nat) (b : Ev → Option Fl) (ds : List D) : Option Rz := (b (env0 n ds)).bind outX
section
variable {K : PySem.W.Frag} {M H : Hp}
theorem Rep.dropL {l r : List O} {lv rv : List (Option V)} (R : Rep K M H (l ++ r) (lv ++ rv)) (e : lv.length = l.length) : Rep K M H r rv := by
  obtain ⟨s, fp, w, nd, nm⟩ := R
  obtain ⟨fa, fb, e1, w1, w2⟩ := w.split e
  subst e1
  exact ⟨s, fb, w2, nd.sublist (List.sublist_append_right _ _), fun a ha => nm a (List.mem_append_right _ ha)⟩
theorem ows_unk : ∀ n : Nat, Ows K M H (List.replicate n O.unk) (List.replicate n none) []
  | 0 => .nil
  | n + 1 => by
    have := Ows.cons (Ow.unk (K := K) (M := M) (H := H) (v := none)) (ows_unk n)
    exact this
theorem Rep.enter {fo : List O} {fv : List (Option V)} {vs : List V} {ds : List D} {N : List Str} (R : Rep K M H fo fv) (d : Dvs K M vs ds) : Rep K M H (env0 N.length ds ++ fo) (L2.start N vs ++ fv) ∧ (L2.start N vs).length = (env0 N.length ds).length := by
  have hl := d.length
  refine ⟨?_, by simp [L2.start, env0, hl]⟩
  obtain ⟨s, fp, w, nd, nm⟩ := R
  refine ⟨s, ([] ++ []) ++ fp, ?_, by simpa using nd, fun a ha => nm a (by simpa using ha)⟩
  unfold env0 L2.start
  rw [hl]
  exact ((ows_dat d).append (ows_unk _)).append w
end
section
variable {P : Program} {w : World} {K : PySem.W.Frag} {mg : Str → Option Value} {base : Heap}
abbrev W0 : WX := fun _ _ _ _ => False
theorem fnO {x qual : Str} {st : Stmt} {f : Addr} {fd : FuncData} {N ps : List Str} {k : Nat} {b : Ev → Option Fl} (F : Fun K x qual st f fd) (S : FnScope N ps (defScope st))
    (hb : ∀ (cdv : Value) (A : Around) (outer : List Env) (s : Shared) (H : Hp) (E : XK), Room k (A.deeper (PyProof.Rows.envOfC qual (defScope st) s.heap.objs.size f cdv)) →
      PSs (cxOf CX0 P w K mg base N qual (defScope st) f cdv A outer s H E).nox (defBody st) (tS K W0 [] b)) : FnOk P w K mg base CX0 (k + 1) f fd ps (spO K ps.length (runO N.length b)) := by
  refine F.ok S (fun vs H Q E h => h.1) fun cdv A outer s H vs Q E hr h => ⟨_, hb cdv A outer s H E hr, ?_⟩
  obtain ⟨hl, M, fo, fv, ds, o, R, dv, e, k⟩ := h
  obtain ⟨R1, l1⟩ := R.enter (N := N) dv
  unfold runO at e
  cases q : b (env0 N.length ds) with
  | none => rw [q] at e; cases e
  | some r =>
    rw [q, Option.bind_some] at e
    refine ⟨M, _, fo, fv, r, L2.start N vs, R1, ⟨l1, fun _ z => nomatch z⟩, q, ?_⟩
    cases r with
    | nx ρ =>
      cases e
      exact fun M1 H1 σ1 s1 R1 l1 => k M1 H1 _ s1 ((R1.push l1.1 .non).dropL l1.1)
    | rt o' ρ =>
      cases e
      exact fun M1 H1 σ1 v s1 R1 l1 => k M1 H1 v s1 (R1.dropL l1.1)
    | bk ρ => cases e
    | ct ρ => cases e
    | ex x ρ => cases e
theorem spO_P {n : Nat} {b : Ev → Option Fl} {ps : List Str} {vs : List V} {H : Hp} {Q : VK} {E : XK} (h : spP K ps.length (runP n b) vs H Q E) : spO K ps.length (runO n b) vs H Q E := by
  obtain ⟨hl, M, fo, fv, ds, d, R, dv, e, k⟩ := h
  unfold runP at e
  cases q : runO n b ds with
  | none => rw [q] at e; cases e
  | some o =>
    rw [q, Option.bind_some] at e
    refine ⟨hl, M, fo, fv, ds, o, R, dv, q, fun M1 H1 v s1 R1 => ?_⟩
    obtain ⟨M2, s2, R2, d2⟩ := Rep.frz (l := []) (lv := []) R1 rfl rfl e
    exact k M2 H1 v (s1.trans s2) (Rep.drop (l := []) (lv := []) R2 rfl) d2
theorem fnP {x qual : Str} {st : Stmt} {f : Addr} {fd : FuncData} {N ps : List Str} {k : Nat} {b : Ev → Option Fl} (F : Fun K x qual st f fd) (S : FnScope N ps (defScope st))
    (hb : ∀ (cdv : Value) (A : Around) (outer : List Env) (s : Shared) (H : Hp) (E : XK), Room k (A.deeper (PyProof.Rows.envOfC qual (defScope st) s.heap.objs.size f cdv)) →
      PSs (cxOf CX0 P w K mg base N qual (defScope st) f cdv A outer s H E).nox (defBody st) (tS K W0 [] b)) : FnOk P w K mg base CX0 (k + 1) f fd ps (spP K ps.length (runP N.length b)) :=
  (fnO F S hb).imp fun vs H Q E h => spO_P h
end
end PD

namespace PD
open PySem PySem.Spec L2

/-! ### calls of defs -/
section
variable {X : Cx} {W : WX} {J : List Nat} {pos p : Pos} {a b : Expr} {e : Expr} {es : List Expr} {ga : Ev → Option (List D)} {k : Nat} {f : Addr} {fd : FuncData} {ps : List Str} {x : Str} {n : Nat}
theorem tCall_P {K : PySem.W.Frag} {m : List D → Option D} {ga : Ev → Option (List D)} {σ : L2.St} {H : Hp} {Q : VK} (h : tP K (cB ga fun ds => if ds.length = n then m ds else none) σ H Q) : tCall (spP K n m) [] E0 (tAr K ga) σ H Q := by
  obtain ⟨M, ρ, fo, fv, d, R, l, e, kk⟩ := h
  obtain ⟨ds, eg, ef⟩ := cB_some e
  refine ⟨M, ρ, fo, fv, ds, R, l, eg, fun M1 H1 vs s1 R1 d1 => ?_⟩
  split at ef
  · rename_i hl
    exact ⟨by rw [List.append_nil, d1.length]; exact hl, M1, ρ ++ fo, σ ++ fv, ds, d, R1, by rw [List.append_nil]; exact d1, ef, fun M2 H2 v s2 R2 d2 => kk M2 H2 v (s1.trans s2) R2 d2⟩
  · cases ef
def len? (n : Nat) (m : List D → Option D) (ds : List D) : Option D := if ds.length = n then m ds else none
/-- f(e, ..) -/
theorem pCall {m : List D → Option D} (F : FnOk X.prog X.w X.K X.mg X.base CX0 k f fd ps (spP X.K n m)) (hr : Room k X.A) (hm : X.mg x = some (.ref f)) (hk : PySem.W.keepIn X.K (.ref f) = true) (hb : Binds X.K fd ps []) (ha : PA X (e :: es) (tAr X.K ga)) (hg : Gl X x := by rfl)
    (hdb : (x == ("__debug__" : Str)) = false := by decide) (he : starEach (e :: es) X.env = (false, eval e X.env) :: starEach es X.env := by rfl) (hpl : (backTo pos (starEach es X.env)).any (·.1) = false := by rfl) : PE X (.Call (.Name x p) (e :: es) [] pos) (tP X.K (cB ga (len? n m))) :=
  PE.imp (pe_call F hr hg hm hk hb .nil pass0 ha hdb he hpl) fun _ _ _ h => tCall_P h
/-- f(k=v, ..) -/
def tCallN0 (m : Nat) (sp : Sp) (gV : List V → List V) (E : XK) (tk : TA) : TE := fun σ H Q => tk σ H fun zs H2 => zs.length = m ∧ sp (gV zs) H2 Q E
theorem pe_callN0 {CX : CXT} {E : XK} {sp : Sp} {ks : List Str} {kws : List Keyword} {tk : TA} {g : List Value → List Value → List Value} {gV : List V → List V → List V} (F : FnOk X.prog X.w X.K X.mg X.base CX k f fd ps sp) (hr : Room k X.A) (hg : Gl X x) (hm : X.mg x = some (.ref f)) (hk : PySem.W.keepIn X.K (.ref f) = true) (hb : KBn X.K fd ps 0 ks g gV) (hx : Passes CX X E)
    (hkw : PK X kws tk) (hall : (backToKw pos (keywordEach kws X.env)).all (·.1.isSome) = true := by rfl) (hks : (backToKw pos (keywordEach kws X.env)).filterMap (·.1) = ks := by rfl)
    (hdb : (x == ("__debug__" : Str)) = false := by decide)
    (hpl : ((backTo pos (starEach [] X.env)).any (·.1) || (backToKw pos (keywordEach kws X.env)).any (·.1.isNone)) = false := by rfl) :
    PE X (.Call (.Name x p) [] kws pos) (tCallN0 ks.length sp (gV []) E tk) := by
  refine ⟨fun pins s σ H Q I h => ?_⟩
  refine wpAny_Call_Name_kw (ld_glob I hg hm ?_ hdb)
  refine PySem.W.callWith_KW0 (h₀ := X.base) I.ok.mod.kin hk hall ?_ hpl
  refine thn (hkw.run pos pins s σ H _ I h) fun ws s2 ⟨zs, H2, I2, rz, l2, q2⟩ => ⟨I2.kIn, ?_⟩
  rw [hks]
  exact run_fnN F hr hb hx I2 .nil rz rfl l2 q2
theorem pCallK {m : List D → Option D} {ks : List Str} {kws : List Keyword} {g : List Value → List Value → List Value} (F : FnOk X.prog X.w X.K X.mg X.base CX0 k f fd ps (spP X.K n m)) (hr : Room k X.A) (hm : X.mg x = some (.ref f)) (hk : PySem.W.keepIn X.K (.ref f) = true) (hb : KBn X.K fd ps 0 ks g (fun vs zs => vs ++ zs)) (hn : ks.length = n)
    (hkw : PK X kws (tAr X.K ga)) (hg : Gl X x := by rfl) (hall : (backToKw pos (keywordEach kws X.env)).all (·.1.isSome) = true := by rfl) (hks : (backToKw pos (keywordEach kws X.env)).filterMap (·.1) = ks := by rfl)
    (hdb : (x == ("__debug__" : Str)) = false := by decide)
    (hpl : ((backTo pos (starEach [] X.env)).any (·.1) || (backToKw pos (keywordEach kws X.env)).any (·.1.isNone)) = false := by rfl) :
    PE X (.Call (.Name x p) [] kws pos) (tP X.K (cB ga (len? n m))) := PE.imp (pe_callN0 F hr hg hm hk hb pass0 hkw hall hks hdb hpl) fun σ H Q h => by
  obtain ⟨M, ρ, fo, fv, d, R, l, e, kk⟩ := h
  obtain ⟨ds, eg, ef⟩ := cB_some e
  refine ⟨M, ρ, fo, fv, ds, R, l, eg, fun M1 H1 vs s1 R1 d1 => ?_⟩
  unfold len? at ef
  split at ef
  · rename_i hl
    have hv : vs.length = n := by rw [d1.length]; exact hl
    exact ⟨by omega, hv, M1, ρ ++ fo, σ ++ fv, ds, d, R1, d1, ef, fun M2 H2 v s2 R2 d2 => kk M2 H2 v (s1.trans s2) R2 d2⟩
  · cases ef
end

section
variable {X : Cx}
theorem OpR.imp {f : Value → Value → Sem Value} {r r' : R2} (h : OpR X f r) (i : ∀ x y H Q, r' x y H Q → r x y H Q) : OpR X f r' := fun p s σ H x y v u Q I rx ry w => h p s σ H x y v u Q I rx ry (i x y H Q w)
theorem UnR.imp {f : Value → Sem Value} {r r' : V → Hp → VK → Prop} (h : UnR X f r) (i : ∀ x H Q, r' x H Q → r x H Q) : UnR X f r' := fun p s σ H x v Q I rx w => h p s σ H x v Q I rx (i x H Q w)
theorem CallR.imp {f : Value} {r r' : List V → Hp → VK → Prop} (h : CallR X f r) (i : ∀ x H Q, r' x H Q → r x H Q) : CallR X f r' := fun p s σ H x v Q I rx w => h p s σ H x v Q I rx (i x H Q w)
theorem CallR.or {f : Value} {r r' : List V → Hp → VK → Prop} (h : CallR X f r) (h' : CallR X f r') : CallR X f (fun x H Q => r x H Q ∨ r' x H Q) := fun p s σ H x v Q I rx w => w.elim (h p s σ H x v Q I rx) (h' p s σ H x v Q I rx)
theorem IxR.imp {r r' : R2} (h : IxR X r) (i : ∀ x y H Q, r' x y H Q → r x y H Q) : IxR X r' := fun v sl p s σ H x y a b Q I rx ry w hs => h v sl p s σ H x y a b Q I rx ry (i x y H Q w) hs
theorem MtR.imp {id : String} {r r' : V → List V → Hp → VK → Prop} (h : MtR X id r) (i : ∀ x xs H Q, r' x xs H Q → r x xs H Q) : MtR X id r' := fun p s σ H x xs v us Q I rx rs w => h p s σ H x xs v us Q I rx rs (i x xs H Q w)
theorem SlR.imp {r r' : V → Option Int → Option Int → Hp → VK → Prop} (h : SlR X r) (i : ∀ x lo hi H Q, r' x lo hi H Q → r x lo hi H Q) : SlR X r' := fun p s σ H x v vl vu lo hi sl Q I rx hs pl pu w => h p s σ H x v vl vu lo hi sl Q I rx hs pl pu (i x lo hi H Q w)

/-! ### operators -/
/-- two ints -/
def i2 (C : Int → Int → Bool) (g : Int → Int → D) (x y : D) : Option D := match x, y with
  | .int i, .int j => if C i j = true then some (g i j) else none
  | _, _ => none
theorem i2_some {C : Int → Int → Bool} {g : Int → Int → D} {x y d : D} (h : i2 C g x y = some d) : ∃ i j, x = .int i ∧ y = .int j ∧ C i j = true ∧ d = g i j := by
  unfold i2 at h
  split at h
  · rename_i i j
    split at h
    · cases h; exact ⟨i, j, rfl, rfl, by assumption, rfl⟩
    · cases h
  · cases h
theorem op_i2 {f : Value → Value → Sem Value} {C : Int → Int → Prop} {Cb : Int → Int → Bool} {g : Int → Int → V} {gd : Int → Int → D} (h : OpR X f (rI C g)) (hC : ∀ i j, Cb i j = true → C i j) (hd : ∀ i j M, Dv X.K M (g i j) (gd i j)) : OpR X f (rD X.K (i2 Cb gd)) :=
  OpR.imp h fun x y H Q ⟨M, fo, fv, dx, dy, d, R, d1, d2, e, k⟩ => by
    obtain ⟨i, j, rfl, rfl, hc, rfl⟩ := i2_some e
    cases d1; cases d2
    exact ⟨i, j, rfl, rfl, hC i j hc, k M H _ (Same.refl _) R (hd i j M)⟩
theorem op_i20 {f : Value → Value → Sem Value} {g : Int → Int → V} {gd : Int → Int → D} (h : OpR X f (rI0 g)) (hd : ∀ i j M, Dv X.K M (g i j) (gd i j)) : OpR X f (rD X.K (i2 (fun _ _ => true) gd)) :=
  OpR.imp h fun x y H Q ⟨M, fo, fv, dx, dy, d, R, d1, d2, e, k⟩ => by
    obtain ⟨i, j, rfl, rfl, hc, rfl⟩ := i2_some e
    cases d1; cases d2
    exact ⟨i, j, rfl, rfl, k M H _ (Same.refl _) R (hd i j M)⟩
def s2 (C : Str → Str → Bool) (g : Str → Str → D) (x y : D) : Option D := match x, y with
  | .str i, .str j => if C i j = true then some (g i j) else none
  | _, _ => none
theorem s2_some {C : Str → Str → Bool} {g : Str → Str → D} {x y d : D} (h : s2 C g x y = some d) : ∃ i j, x = .str i ∧ y = .str j ∧ C i j = true ∧ d = g i j := by
  unfold s2 at h
  split at h
  · rename_i i j
    split at h
    · cases h; exact ⟨i, j, rfl, rfl, by assumption, rfl⟩
    · cases h
  · cases h
def orD (f g : D → D → Option D) (x y : D) : Option D := match f x y with
  | some d => some d
  | none => g x y
theorem op_orD {f : Value → Value → Sem Value} {g g' : D → D → Option D} (h : OpR X f (rD X.K g)) (h' : OpR X f (rD X.K g')) : OpR X f (rD X.K (orD g g')) := OpR.imp (h.or h') fun x y H Q ⟨M, fo, fv, dx, dy, d, R, d1, d2, e, k⟩ => by
  unfold orD at e
  split at e
  · rename_i q; cases e; exact .inl ⟨M, fo, fv, dx, dy, d, R, d1, d2, q, k⟩
  · exact .inr ⟨M, fo, fv, dx, dy, d, R, d1, d2, e, k⟩
abbrev addI : D → D → Option D := i2 (fun _ _ => true) fun i j => .int (i + j)
abbrev addS : D → D → Option D := s2 (fun i j => decide (i.length + j.length ≤ sizeLine)) fun i j => .str (i ++ j)
abbrev subI : D → D → Option D := i2 (fun _ _ => true) fun i j => .int (i - j)
def okMul (i j : Int) : Bool := decide ((-(2 ^ 64) < i ∧ i < 2 ^ 64) ∨ (-(2 ^ 64) < j ∧ j < 2 ^ 64))
abbrev mulI : D → D → Option D := i2 okMul fun i j => .int (i * j)
abbrev modI : D → D → Option D := i2 (fun _ j => decide (0 < j)) fun i j => .int (i % j)
abbrev divI : D → D → Option D := i2 (fun _ j => decide (0 < j ∧ j < 1073741824)) fun i j => .int (i / j)
abbrev powI : D → D → Option D := i2 (fun i j => decide (0 ≤ j ∧ j ≤ 1000000 ∧ i.natAbs < 2 ^ 64)) fun i j => .int (i ^ j.toNat)
theorem oAddI : OpR X (binaryOp .Add) (rD X.K addI) := op_i20 op_add fun _ _ _ => .int _
theorem oSub : OpR X (binaryOp .Sub) (rD X.K subI) := op_i20 op_sub fun _ _ _ => .int _
theorem oMul : OpR X (binaryOp .Mult) (rD X.K mulI) := op_i2 op_mul (fun i j h => by simpa [okMul, CMul] using h) fun _ _ _ => .int _
theorem oMod : OpR X (binaryOp .Mod) (rD X.K modI) := op_i2 op_mod (fun i j h => of_decide_eq_true h) fun _ _ _ => .int _
theorem oDiv : OpR X (binaryOp .FloorDiv) (rD X.K divI) := op_i2 op_fdiv (fun i j h => by simpa [CDiv] using h) fun _ _ _ => .int _
theorem oPow : OpR X (binaryOp .Pow) (rD X.K powI) := op_i2 op_pow (fun i j h => by simpa [CPow] using h) fun _ _ _ => .int _
theorem oAddS : OpR X (binaryOp .Add) (rD X.K addS) := OpR.imp op_add_str fun x y H Q ⟨M, fo, fv, dx, dy, d, R, d1, d2, e, k⟩ => by
  obtain ⟨i, j, rfl, rfl, hc, rfl⟩ := s2_some e
  cases d1; cases d2
  exact ⟨i, j, rfl, rfl, of_decide_eq_true hc, k M H _ (Same.refl _) R (.str _)⟩
abbrev addD : D → D → Option D := orD addI addS
theorem oAdd : OpR X (binaryOp .Add) (rD X.K addD) := op_orD oAddI oAddS
abbrev ltI : D → D → Option D := i2 (fun _ _ => true) fun i j => .bl (decide (i < j))
abbrev leI : D → D → Option D := i2 (fun _ _ => true) fun i j => .bl (decide (i ≤ j))
abbrev gtI : D → D → Option D := i2 (fun _ _ => true) fun i j => .bl (decide (j < i))
abbrev geI : D → D → Option D := i2 (fun _ _ => true) fun i j => .bl (decide (j ≤ i))
theorem oLt : OpR X (compareOp .Lt) (rD X.K ltI) := op_i20 op_lt fun _ _ _ => .bl _
theorem oLe : OpR X (compareOp .LtE) (rD X.K leI) := op_i20 op_le fun _ _ _ => .bl _
theorem oGt : OpR X (compareOp .Gt) (rD X.K gtI) := op_i20 op_gt fun _ _ _ => .bl _
theorem oGe : OpR X (compareOp .GtE) (rD X.K geI) := op_i20 op_ge fun _ _ _ => .bl _
/-- a < b < c -/
def chn (fa fb fc : Ev → Option D) (g h : D → D → Option D) (ρ : Ev) : Option D := (fa ρ).bind fun x => (fb ρ).bind fun y => (g x y).bind fun r => match r with
  | .bl true => (fc ρ).bind fun z => h y z
  | .bl false => some (.bl false)
  | _ => none
theorem chain_of {K : PySem.W.Frag} {fa fb fc : Ev → Option D} {g h : D → D → Option D} {σ : L2.St} {H : Hp} {Q : VK} (hh : tP K (chn fa fb fc g h) σ H Q) : tChain (rD K g) (rD K h) (tP K fa) (tP K fb) (tP K fc) σ H Q := by
  obtain ⟨M, ρ, fo, fv, d, R, l, e, k⟩ := hh
  unfold chn at e
  cases q1 : fa ρ with
  | none => rw [q1] at e; cases e
  | some x =>
    cases q2 : fb ρ with
    | none => rw [q1, Option.bind_some, q2] at e; cases e
    | some y =>
      rw [q1, Option.bind_some, q2, Option.bind_some] at e
      cases q3 : g x y with
      | none => rw [q3] at e; cases e
      | some r =>
        rw [q3, Option.bind_some] at e
        refine ⟨M, ρ, fo, fv, x, R, l, q1, fun M1 H1 v1 s1 R1 d1 => ⟨M1, ρ, fo, fv, y, R1, l, q2, fun M2 H2 v2 s2 R2 d2 => ⟨M2, ρ ++ fo, σ ++ fv, x, y, r, R2, d1.mono s2, d2, q3, fun M3 H3 v3 s3 R3 d3 => ?_⟩⟩⟩
        split at e
        · cases d3
          refine ⟨true, rfl, iteT ?_⟩
          cases q4 : fc ρ with
          | none => rw [q4] at e; cases e
          | some z =>
            rw [q4, Option.bind_some] at e
            exact ⟨M3, ρ, fo, fv, z, R3, l, q4, fun M4 H4 v4 s4 R4 d4 => ⟨M4, ρ ++ fo, σ ++ fv, y, z, d, R4, d2.mono (s3.trans s4), d4, e, fun M5 H5 v5 s5 R5 d5 => k M5 H5 v5 (s1.trans (s2.trans (s3.trans (s4.trans s5)))) R5 d5⟩⟩
        · cases d3
          cases e
          exact ⟨false, rfl, iteF (k M3 H3 _ (s1.trans (s2.trans s3)) R3 (.bl _))⟩
        · cases e
theorem pChain {op op' : CmpOp} {a b c : Expr} {pos : Pos} {fa fb fc : Ev → Option D} {g h : D → D → Option D} (ho : OpR X (compareOp op) (rD X.K g)) (ho' : OpR X (compareOp op') (rD X.K h)) (ha : PE X a (tP X.K fa)) (hb : PE X b (tP X.K fb)) (hc : PE X c (tP X.K fc)) (hm : lastMarks [op, op'] [b, c] = false := by with_unfolding_all rfl) :
    PE X (.Compare a [op, op'] [b, c] pos) (tP X.K (chn fa fb fc g h)) := PE.imp (pe_chain ho ho' ha hb hc hm) fun _ _ _ h => chain_of h
theorem tChain' {op op' : CmpOp} {a b c : Expr} {pos : Pos} {fa fb fc : Ev → Option D} {g h : D → D → Option D} (ho : OpR X (compareOp op) (rD X.K g)) (ho' : OpR X (compareOp op') (rD X.K h)) (ha : PE X a (tP X.K fa)) (hb : PE X b (tP X.K fb)) (hc : PE X c (tP X.K fc)) (hm : lastMarks [op, op'] [b, c] = false := by with_unfolding_all rfl) :
    PT X (.Compare a [op, op'] [b, c] pos) (tT X.K (asB (chn fa fb fc g h))) := PT.imp (pt_chain ho ho' ha hb hc hm) fun σ H Q ⟨M, ρ, fo, fv, b, R, l, e, k⟩ =>
  chain_of (K := X.K) (Q := fun x H' => ∃ k, x = .bl k ∧ Q k H') ⟨M, ρ, fo, fv, .bl b, R, l, asB_some e, fun M' H' v s R' dv => by cases dv; exact ⟨b, rfl, k M' H' s R'⟩⟩
end
end PD

namespace PD
open PySem PySem.Spec L2

abbrev kI (i : Int) : Ev → Option D := fun _ => some (.int i)
abbrev kS (x : Str) : Ev → Option D := fun _ => some (.str x)
abbrev kB (b : Bool) : Ev → Option D := fun _ => some (.bl b)
abbrev kN : Ev → Option D := fun _ => some .non
/-! ### data as PyData -/
mutual
def D.py : D → Option PyData
  | .non => some .none
  | .bl b => some (.bool b)
  | .int i => some (.int i)
  | .str x => some (.str x)
  | .lst xs => (D.pys xs).map .list
  | .tup xs => (D.pys xs).map .tuple
  | .dic _ _ => none
  | .obj _ _ _ => none
def D.pys : List D → Option (List PyData)
  | [] => some []
  | d :: ds => match D.py d, D.pys ds with
    | some p, some ps => some (p :: ps)
    | _, _ => none
end
section
variable {K : PySem.W.Frag} {M : Hp}
mutual
theorem Dv.dp : ∀ {v : V} {d : D} {p : PyData}, Dv K M v d → d.py = some p → Dp K M v p
  | _, _, _, .non, e => by cases e; exact .non
  | _, _, _, .bl b, e => by cases e; exact .bl b
  | _, _, _, .int b, e => by cases e; exact .int b
  | _, _, _, .str b, e => by cases e; exact .str b
  | _, .lst ds, p, .lst h hs, e => by
    unfold D.py at e
    cases q : D.pys ds with
    | none => rw [q] at e; cases e
    | some ps => rw [q] at e; cases e; exact .lst h.toL (Dvs.dp hs q)
  | _, .tup ds, p, .tup h hs, e => by
    unfold D.py at e
    cases q : D.pys ds with
    | none => rw [q] at e; cases e
    | some ps => rw [q] at e; cases e; exact .tup h (Dvs.dp hs q)
  | _, .dic _ _, _, .dic _ _ _, e => by unfold D.py at e; cases e
  | _, .obj _ _ _, _, .obj _ _ _ _, e => by unfold D.py at e; cases e
theorem Dvs.dp : ∀ {vs : List V} {ds : List D} {ps : List PyData}, Dvs K M vs ds → D.pys ds = some ps → DpAll K M vs ps
  | _, _, _, .nil, e => by cases e; exact .nil
  | _, d :: ds, ps, .cons h hs, e => by
    unfold D.pys at e
    cases q : D.py d with
    | none => rw [q] at e; cases e
    | some p =>
      cases q2 : D.pys ds with
      | none => rw [q, q2] at e; cases e
      | some ps' => rw [q, q2] at e; cases e; exact .cons (Dv.dp h q) (Dvs.dp hs q2)
end
mutual
theorem dp_mono {M' : Hp} (s : Same M M') : ∀ {v : V} {p : PyData}, Dp K M v p → Dp K M' v p
  | _, _, .non => .non
  | _, _, .bl b => .bl b
  | _, _, .int i => .int i
  | _, _, .str x => .str x
  | _, _, .lst h hs => .lst (s.seq h) (dps_mono s hs)
  | _, _, .tup h hs => .tup (sqT_same s h) (dps_mono s hs)
theorem dps_mono {M' : Hp} (s : Same M M') : ∀ {vs : List V} {ps : List PyData}, DpAll K M vs ps → DpAll K M' vs ps
  | _, _, .nil => .nil
  | _, _, .cons h hs => .cons (dp_mono s h) (dps_mono s hs)
end
end
def eqvD (x y : D) : Option Bool := match x.py, y.py with
  | some p, some q => if SeqAt.shaped p = true ∧ SeqAt.shaped q = true then some (PyData.eqv p q) else none
  | _, _ => none
/-- == of two ints, two bools, two texts -/
def eqS : D → D → Option Bool
  | .int i, .int j => some (decide (i = j))
  | .bl i, .bl j => some (decide (i = j))
  | .str i, .str j => some (decide (i = j))
  | _, _ => none
def eqB (x y : D) : Option Bool := match eqS x y with
  | some b => some b
  | none => eqvD x y
def eqD (x y : D) : Option D := (eqB x y).map .bl
def neD (x y : D) : Option D := (eqB x y).map fun b => .bl (!b)
theorem eqS_some {K : PySem.W.Frag} {M : Hp} {v w : V} {x y : D} {b : Bool} (h : eqS x y = some b) (d1 : Dv K M v x) (d2 : Dv K M w y) : scal v w = true ∧ b = decide (v = w) := by
  unfold eqS at h
  split at h
  · cases h; cases d1; cases d2; exact ⟨rfl, by rw [dec_int, Bool.beq_eq_decide_eq]⟩
  · cases h; cases d1; cases d2; exact ⟨rfl, by rw [dec_bl, Bool.beq_eq_decide_eq]⟩
  · cases h; cases d1; cases d2; exact ⟨rfl, by rw [dec_str, Bool.beq_eq_decide_eq]⟩
  · cases h
theorem eqvD_some {x y : D} {b : Bool} (h : eqvD x y = some b) : ∃ p q, x.py = some p ∧ y.py = some q ∧ SeqAt.shaped p = true ∧ SeqAt.shaped q = true ∧ b = PyData.eqv p q := by
  unfold eqvD at h
  split at h
  · split at h
    · rename_i hs
      cases h
      exact ⟨_, _, by assumption, by assumption, hs.1, hs.2, rfl⟩
    · cases h
  · cases h
section
variable {X : Cx}
theorem oEq (hu : X.A.units + 64 < cLine) : OpR X (compareOp .Eq) (rD X.K eqD) := OpR.imp (op_eq.or (op_eqD hu)) fun x y H Q ⟨M, fo, fv, dx, dy, d, R, d1, d2, e, k⟩ => by
  unfold eqD eqB at e
  cases q0 : eqS dx dy with
  | some b =>
    rw [q0] at e
    cases e
    obtain ⟨s1, rfl⟩ := eqS_some q0 d1 d2
    exact .inl ⟨s1, k M H _ (Same.refl _) R (.bl _)⟩
  | none =>
    rw [q0] at e
    have e : (eqvD dx dy).map D.bl = some d := e
    cases q : eqvD dx dy with
    | none => rw [q] at e; cases e
    | some b =>
      rw [q] at e
      cases e
      obtain ⟨p, r, e1, e2, s1, s2, rfl⟩ := eqvD_some q
      exact .inr ⟨p, r, dp_mono R.same (d1.dp e1), dp_mono R.same (d2.dp e2), s1, s2, k M H _ (Same.refl _) R (.bl _)⟩
theorem oNe (hu : X.A.units + 64 < cLine) : OpR X (compareOp .NotEq) (rD X.K neD) := OpR.imp (op_ne.or (op_neD hu)) fun x y H Q ⟨M, fo, fv, dx, dy, d, R, d1, d2, e, k⟩ => by
  unfold neD eqB at e
  cases q0 : eqS dx dy with
  | some b =>
    rw [q0] at e
    cases e
    obtain ⟨s1, rfl⟩ := eqS_some q0 d1 d2
    exact .inl ⟨s1, k M H _ (Same.refl _) R (.bl _)⟩
  | none =>
    rw [q0] at e
    have e : (eqvD dx dy).map (fun b => D.bl (!b)) = some d := e
    cases q : eqvD dx dy with
    | none => rw [q] at e; cases e
    | some b =>
      rw [q] at e
      cases e
      obtain ⟨p, r, e1, e2, s1, s2, rfl⟩ := eqvD_some q
      exact .inr ⟨p, r, dp_mono R.same (d1.dp e1), dp_mono R.same (d2.dp e2), s1, s2, k M H _ (Same.refl _) R (.bl _)⟩
/-! ### in -/
def D.flat : D → Bool
  | .non => true
  | .bl _ => true
  | .int _ => true
  | .str _ => true
  | _ => false
/-- == of flat things -/
def D.same : D → D → Bool
  | .non, .non => true
  | .bl a, .bl b => a == b
  | .bl a, .int j => (if a then 1 else 0) == j
  | .int i, .bl b => i == (if b then 1 else 0)
  | .int i, .int j => i == j
  | .str x, .str y => x == y
  | _, _ => false
/-- the text i stands in j -/
def Txt.has (j i : Str) : Bool := !(Builtin.Str.occurrences j i 0 j.length 1).isEmpty
def inB (x y : D) : Option Bool := match y with
  | .str j => (match x with
    | .str i => some (Txt.has j i)
    | _ => none)
  | .lst ds => if x.flat && ds.all D.flat then some (ds.any fun z => z.same x) else none
  | .tup ds => if x.flat && ds.all D.flat then some (ds.any fun z => z.same x) else none
  | _ => none
def inD (x y : D) : Option D := (inB x y).map .bl
def ninD (x y : D) : Option D := (inB x y).map fun b => .bl (!b)
theorem flat_of {K : PySem.W.Frag} {M : Hp} {v : V} {d : D} (h : Dv K M v d) (f : d.flat = true) : flatV v = true := by
  cases h <;> first | rfl | cases f
theorem same_of {K : PySem.W.Frag} {M : Hp} {v w : V} {d e : D} (h : Dv K M v d) (h' : Dv K M w e) (f : d.flat = true) (f' : e.flat = true) : eqV v w = d.same e := by
  cases h <;> first | (cases f; done) | (cases h' <;> first | (cases f'; done) | rfl)
theorem flats_of {K : PySem.W.Frag} {M : Hp} : ∀ {vs : List V} {ds : List D}, Dvs K M vs ds → ds.all D.flat = true → vs.all flatV = true
  | _, _, .nil, _ => rfl
  | _, _, .cons h t, f => by
    rw [List.all_cons, Bool.and_eq_true] at f ⊢
    exact ⟨flat_of h f.1, flats_of t f.2⟩
theorem any_of {K : PySem.W.Frag} {M : Hp} {w : V} {e : D} (h' : Dv K M w e) (f' : e.flat = true) : ∀ {vs : List V} {ds : List D}, Dvs K M vs ds → ds.all D.flat = true → inV w vs = ds.any fun z => z.same e
  | _, _, .nil, _ => rfl
  | _, _, .cons h t, f => by
    rw [List.all_cons, Bool.and_eq_true] at f
    unfold inV
    rw [List.any_cons, List.any_cons, same_of h h' f.1 f']
    have := any_of h' f' t f.2
    unfold inV at this
    rw [this]
theorem in_of {neg : Bool} {x y : V} {H : Hp} {Q : VK} {M : Hp} {fo : List O} {fv : List (Option V)} {dx dy : D} {b : Bool} (R : Rep X.K M H fo fv) (d1 : Dv X.K M x dx) (d2 : Dv X.K M y dy) (e : inB dx dy = some b) (k : Q (.bl (if neg then !b else b)) H) :
    rIn X.K neg x y H Q ∨ (∃ i j, x = .str i ∧ y = .str j ∧ Q (.bl (if neg then !(!(Builtin.Str.occurrences j i 0 j.length 1).isEmpty) else (!(Builtin.Str.occurrences j i 0 j.length 1).isEmpty))) H) := by
  unfold inB at e
  cases d2 with
  | str j =>
    cases d1 with
    | str i => cases e; exact .inr ⟨i, j, rfl, rfl, k⟩
    | _ => cases e
  | lst h hs =>
    simp only at e
    split at e
    · rename_i hf
      rw [Bool.and_eq_true] at hf
      cases e
      refine .inl ⟨_, _, rfl, .inl (seqX R.same h), flat_of d1 hf.1, flats_of hs hf.2, ?_⟩
      rw [any_of d1 hf.1 hs hf.2]
      exact k
    · cases e
  | tup h hs =>
    simp only at e
    split at e
    · rename_i hf
      rw [Bool.and_eq_true] at hf
      cases e
      refine .inl ⟨_, _, rfl, .inr (sqT_same R.same h), flat_of d1 hf.1, flats_of hs hf.2, ?_⟩
      rw [any_of d1 hf.1 hs hf.2]
      exact k
    · cases e
  | _ => cases e
theorem oIn : OpR X (compareOp .In) (rD X.K inD) := OpR.imp (op_in_seq.or op_in_str) fun x y H Q ⟨M, fo, fv, dx, dy, d, R, d1, d2, e, k⟩ => by
  unfold inD at e
  cases q : inB dx dy with
  | none => rw [q] at e; cases e
  | some b =>
    rw [q] at e
    cases e
    exact in_of (neg := false) R d1 d2 q (k M H _ (Same.refl _) R (.bl _))
theorem oNotIn : OpR X (compareOp .NotIn) (rD X.K ninD) := OpR.imp (op_notIn_seq.or op_notin_str) fun x y H Q ⟨M, fo, fv, dx, dy, d, R, d1, d2, e, k⟩ => by
  unfold ninD at e
  cases q : inB dx dy with
  | none => rw [q] at e; cases e
  | some b =>
    rw [q] at e
    cases e
    exact in_of (neg := true) R d1 d2 q (k M H _ (Same.refl _) R (.bl _))
/-! ### is None -/
def D.isN : D → Bool
  | .non => true
  | _ => false
def isN (x y : D) : Option D := match y with
  | .non => some (.bl x.isN)
  | _ => none
def notN (x y : D) : Option D := match y with
  | .non => some (.bl (!x.isN))
  | _ => none
theorem isN_of {K : PySem.W.Frag} {M : Hp} {v : V} {d : D} (h : Dv K M v d) : decide (v = .non) = d.isN := by
  cases h <;> first | rfl | exact decide_eq_false (fun z => nomatch z)
theorem oIs : OpR X (compareOp .Is) (rD X.K isN) := OpR.imp op_isN fun x y H Q ⟨M, fo, fv, dx, dy, d, R, d1, d2, e, k⟩ => by
  unfold isN at e
  split at e
  · cases e
    cases d2
    refine ⟨rfl, ?_⟩
    rw [isN_of d1]
    exact k M H _ (Same.refl _) R (.bl _)
  · cases e
theorem oIsNot : OpR X (compareOp .IsNot) (rD X.K notN) := OpR.imp op_notN fun x y H Q ⟨M, fo, fv, dx, dy, d, R, d1, d2, e, k⟩ => by
  unfold notN at e
  split at e
  · cases e
    cases d2
    refine ⟨rfl, ?_⟩
    rw [isN_of d1]
    exact k M H _ (Same.refl _) R (.bl _)
  · cases e
/-! ### -x -/
def negI : D → Option D
  | .int i => some (.int (-i))
  | _ => none
theorem oNeg : UnR X (unaryOp .USub) (rD1 X.K negI) := UnR.imp un_neg fun x H Q ⟨M, fo, fv, dx, d, R, d1, e, k⟩ => by
  unfold negI at e
  split at e
  · cases e; cases d1; exact ⟨_, rfl, k M H _ (Same.refl _) R (.int _)⟩
  · cases e
/-! ### built-ins -/
def lenD : List D → Option D
  | [.lst ds] => some (.int ds.length)
  | [.tup ds] => some (.int ds.length)
  | [.str z] => if z.length ≤ sizeLine then some (.int z.length) else none
  | [.dic ks _] => some (.int ks.length)
  | _ => none
theorem one_of {K : PySem.W.Frag} {M : Hp} {vs : List V} {d : D} (h : Dvs K M vs [d]) : ∃ v, vs = [v] ∧ Dv K M v d := by
  cases h with
  | cons h t => cases t; exact ⟨_, rfl, h⟩
theorem two_of {K : PySem.W.Frag} {M : Hp} {vs : List V} {d e : D} (h : Dvs K M vs [d, e]) : ∃ v w, vs = [v, w] ∧ Dv K M v d ∧ Dv K M w e := by
  cases h with
  | cons h t =>
    obtain ⟨w, rfl, h'⟩ := one_of t
    exact ⟨_, _, rfl, h, h'⟩
theorem cLen : CallR X (.builtin "len") (rDs X.K lenD) := CallR.imp ((call_len_seq.or call_len_str).or call_lenD) fun xs H Q ⟨M, fo, fv, ds, d, R, dv, e, k⟩ => by
  unfold lenD at e
  split at e
  · obtain ⟨v, rfl, dw⟩ := one_of dv; clear dv
    cases e
    cases dw with
    | lst h hs => exact .inl (.inl ⟨_, _, rfl, .inl (seqX R.same h), by rw [hs.length]; exact k M H _ (Same.refl _) R (.int _)⟩)
  · obtain ⟨v, rfl, dw⟩ := one_of dv; clear dv
    cases e
    cases dw with
    | tup h hs => exact .inl (.inl ⟨_, _, rfl, .inr (sqT_same R.same h), by rw [hs.length]; exact k M H _ (Same.refl _) R (.int _)⟩)
  · obtain ⟨v, rfl, dw⟩ := one_of dv; clear dv
    split at e
    · cases e
      cases dw
      exact .inl (.inr ⟨_, rfl, by assumption, k M H _ (Same.refl _) R (.int _)⟩)
    · cases e
  · obtain ⟨v, rfl, dw⟩ := one_of dv; clear dv
    cases e
    cases dw with
    | dic h hk hs =>
      refine .inr ⟨_, _, rfl, R.same _ _ h, ?_⟩
      have := k M H _ (Same.refl _) R (.int _)
      rw [← hk, List.length_map] at this
      exact this
  · cases e
def intD : List D → Option D
  | [.int i] => some (.int i)
  | [.bl b] => some (.int (if b then 1 else 0))
  | _ => none
theorem cInt : CallR X (.type "int") (rDs X.K intD) := CallR.imp call_int1 fun xs H Q ⟨M, fo, fv, ds, d, R, dv, e, k⟩ => by
  unfold intD at e
  split at e
  · obtain ⟨v, rfl, dw⟩ := one_of dv; clear dv
    cases e; cases dw
    exact .inl ⟨_, rfl, k M H _ (Same.refl _) R (.int _)⟩
  · obtain ⟨v, rfl, dw⟩ := one_of dv; clear dv
    cases e; cases dw
    exact .inr ⟨_, rfl, k M H _ (Same.refl _) R (.int _)⟩
  · cases e
def max2 : List D → Option D
  | [.int i, .int j] => some (.int (if j > i then j else i))
  | _ => none
def min2 : List D → Option D
  | [.int i, .int j] => some (.int (if j < i then j else i))
  | _ => none
theorem cMax2 (hc : X.calm = true) : CallR X (.builtin "max") (rDs X.K max2) := CallR.imp (call_max2 hc) fun xs H Q ⟨M, fo, fv, ds, d, R, dv, e, k⟩ => by
  unfold max2 at e
  split at e
  · obtain ⟨v, w, rfl, d1, d2⟩ := two_of dv
    cases e; cases d1; cases d2
    exact ⟨_, _, rfl, k M H _ (Same.refl _) R (.int _)⟩
  · cases e
theorem cMin2 (hc : X.calm = true) : CallR X (.builtin "min") (rDs X.K min2) := CallR.imp (call_min2 hc) fun xs H Q ⟨M, fo, fv, ds, d, R, dv, e, k⟩ => by
  unfold min2 at e
  split at e
  · obtain ⟨v, w, rfl, d1, d2⟩ := two_of dv
    cases e; cases d1; cases d2
    exact ⟨_, _, rfl, k M H _ (Same.refl _) R (.int _)⟩
  · cases e
/-- a list of bools -/
def bls : List D → Option (List Bool)
  | [] => some []
  | .bl b :: r => (bls r).map (b :: ·)
  | _ => none
theorem bls_some : ∀ {ds : List D} {bs : List Bool}, bls ds = some bs → ds = bs.map .bl
  | [], _, e => by cases e; rfl
  | .bl b :: r, bs, e => by
    unfold bls at e
    cases q : bls r with
    | none => rw [q] at e; cases e
    | some cs => rw [q] at e; cases e; rw [bls_some q]; rfl
  | .non :: _, _, e => by cases e
  | .int _ :: _, _, e => by cases e
  | .str _ :: _, _, e => by cases e
  | .lst _ :: _, _, e => by cases e
  | .tup _ :: _, _, e => by cases e
  | .dic _ _ :: _, _, e => by cases e
  | .obj _ _ _ :: _, _, e => by cases e
theorem bls_map : ∀ bs : List Bool, bls (bs.map .bl) = some bs
  | [] => rfl
  | b :: r => by
    show (bls (r.map .bl)).map (b :: ·) = _
    rw [bls_map r]; rfl
def allD : List D → Option D
  | [.lst ds] => (bls ds).map fun bs => .bl (bs.all id)
  | _ => none
def anyD : List D → Option D
  | [.lst ds] => (bls ds).map fun bs => .bl (bs.any id)
  | _ => none
theorem dvs_bls {K : PySem.W.Frag} {M : Hp} : ∀ {vs : List V} {bs : List Bool}, Dvs K M vs (bs.map .bl) → vs = bs.map .bl
  | _, [], .nil => rfl
  | _, b :: r, .cons h t => by cases h; rw [dvs_bls t]; rfl
theorem dvs_ints {K : PySem.W.Frag} {M : Hp} : ∀ {vs : List V} {ns : List Int}, Dvs K M vs (ns.map .int) → vs = ns.map .int
  | _, [], .nil => rfl
  | _, b :: r, .cons h t => by cases h; rw [dvs_ints t]; rfl
theorem dvs_strs {K : PySem.W.Frag} {M : Hp} : ∀ {vs : List V} {ns : List Str}, Dvs K M vs (ns.map .str) → vs = ns.map .str
  | _, [], .nil => rfl
  | _, b :: r, .cons h t => by cases h; rw [dvs_strs t]; rfl
theorem strs_dvs {K : PySem.W.Frag} {M : Hp} : ∀ ns : List Str, Dvs K M (ns.map .str) (ns.map .str)
  | [] => .nil
  | _ :: r => .cons (.str _) (strs_dvs r)
theorem ints_dvs {K : PySem.W.Frag} {M : Hp} : ∀ ns : List Int, Dvs K M (ns.map .int) (ns.map .int)
  | [] => .nil
  | _ :: r => .cons (.int _) (ints_dvs r)
theorem cAll (hc : X.calm = true) : CallR X (.builtin "all") (rDs X.K allD) := CallR.imp (cr_all hc) fun xs H Q ⟨M, fo, fv, ds, d, R, dv, e, k⟩ => by
  unfold allD at e
  split at e
  · rename_i ds'
    obtain ⟨v, rfl, dw⟩ := one_of dv; clear dv
    cases q : bls ds' with
    | none => rw [q] at e; cases e
    | some bs =>
      rw [q] at e
      cases e
      have := bls_some q
      subst this
      cases dw with
      | lst h hs =>
        have := dvs_bls hs
        subst this
        exact ⟨_, bs, rfl, seqX R.same h, k M H _ (Same.refl _) R (.bl _)⟩
  · cases e
theorem cAny (hc : X.calm = true) : CallR X (.builtin "any") (rDs X.K anyD) := CallR.imp (cr_any hc) fun xs H Q ⟨M, fo, fv, ds, d, R, dv, e, k⟩ => by
  unfold anyD at e
  split at e
  · rename_i ds'
    obtain ⟨v, rfl, dw⟩ := one_of dv; clear dv
    cases q : bls ds' with
    | none => rw [q] at e; cases e
    | some bs =>
      rw [q] at e
      cases e
      have := bls_some q
      subst this
      cases dw with
      | lst h hs =>
        have := dvs_bls hs
        subst this
        exact ⟨_, bs, rfl, seqX R.same h, k M H _ (Same.refl _) R (.bl _)⟩
  · cases e
/-! ### items and slices -/
def ixD (x y : D) : Option D := match x, y with
  | .lst ds, .int i => atI ds i
  | .tup ds, .int i => atI ds i
  | .str z, .int i => if z.length ≤ sizeLine then (atI z.cps.toList i).map fun c => .str ⟨#[c]⟩ else none
  | _, _ => none
theorem atI_dvs {K : PySem.W.Frag} {M : Hp} {vs : List V} {ds : List D} {i : Int} {d : D} (h : Dvs K M vs ds) (e : atI ds i = some d) : ∃ v, atI vs i = some v ∧ Dv K M v d := by
  unfold atI at e ⊢
  rw [h.length]
  cases q : ixN ds.length i with
  | none => rw [q] at e; cases e
  | some j => rw [q, Option.bind_some] at e; obtain ⟨v, e1, e2⟩ := h.get e; exact ⟨v, by rw [Option.bind_some]; exact e1, e2⟩
theorem oIx : IxR X (rD X.K ixD) := IxR.imp ix_seq fun x y H Q ⟨M, fo, fv, dx, dy, d, R, d1, d2, e, k⟩ => by
  unfold ixD at e
  split at e
  · cases d2
    cases d1 with
    | lst h hs =>
      obtain ⟨v, e1, e2⟩ := atI_dvs hs e
      exact .inl ⟨_, _, _, v, rfl, rfl, seqX R.same h, e1, k M H _ (Same.refl _) R e2⟩
  · cases d2
    cases d1 with
    | tup h hs =>
      obtain ⟨v, e1, e2⟩ := atI_dvs hs e
      exact .inr (.inl ⟨_, _, _, v, rfl, rfl, sqT_same R.same h, e1, k M H _ (Same.refl _) R e2⟩)
  · rename_i z i
    cases d2
    cases d1
    split at e
    · cases q : atI z.cps.toList i with
      | none => rw [q] at e; cases e
      | some c =>
        rw [q] at e
        cases e
        exact .inr (.inr ⟨z, i, c, rfl, rfl, by assumption, q, k M H _ (Same.refl _) R (.str _)⟩)
    · cases e
  · cases e
/-- the items of xs[lo:hi] -/
def cutD {α : Type} (xs : List α) (lo hi : Option Int) : List α := (xs.drop (HT.sIx xs.length 0 lo)).take (HT.sIx xs.length xs.length hi - HT.sIx xs.length 0 lo)
def slD (x : D) (lo hi : Option Int) : Option D := match x with
  | .lst ds => some (.lst (cutD ds lo hi))
  | .str z => if z.length ≤ sizeLine then some (.str (cutS z lo hi)) else none
  | .tup ds => if HT.sIx ds.length 0 lo = 0 ∧ HT.sIx ds.length ds.length hi = ds.length then none else some (.tup (cutD ds lo hi))
  | _ => none
theorem cut_dvs {K : PySem.W.Frag} {M : Hp} {vs : List V} {ds : List D} {lo hi : Option Int} (h : Dvs K M vs ds) : Dvs K M (cutV vs lo hi) (cutD ds lo hi) := by
  unfold cutV cutD
  rw [h.length]
  exact (h.drop _).take _
def rDsl (K : PySem.W.Frag) (g : D → Option Int → Option Int → Option D) : V → Option Int → Option Int → Hp → VK → Prop := fun x lo hi H Q => ∃ M fo fv dx d, Rep K M H fo fv ∧ Dv K M x dx ∧ g dx lo hi = some d ∧
  ∀ M' H' v, Same M M' → Rep K M' H' fo fv → Dv K M' v d → Q v H'
theorem oSl : SlR X (rDsl X.K slD) := SlR.imp (sl_list.or (sl_str.or sl_tup)) fun x lo hi H Q ⟨M, fo, fv, dx, d, R, d1, e, k⟩ => by
  unfold slD at e
  split at e
  · cases e
    cases d1 with
    | lst h hs =>
      refine .inl ⟨_, _, rfl, seqX R.same h, fun p hp => ?_⟩
      have s := fun u => same_updM (u := u) (R.same.free hp)
      exact k _ _ _ (s _) (R.growM hp) (.lst (.inl (.inl upd_same)) ((cut_dvs hs).mono (s _)))
  · split at e
    · cases e
      cases d1
      exact .inr (.inl ⟨_, rfl, by assumption, k M H _ (Same.refl _) R (.str _)⟩)
    · cases e
  · split at e
    · cases e
    · rename_i hw
      cases e
      cases d1 with
      | tup h hs =>
        refine .inr (.inr ⟨_, _, rfl, sqT_same R.same h, by rw [hs.length]; exact hw, fun p hp => ?_⟩)
        have s := fun u => same_updM (u := u) (R.same.free hp)
        exact k _ _ _ (s _) (R.growM hp) (.tup (.inl (.inl upd_same)) ((cut_dvs hs).mono (s _)))
  · cases e
/-- a slice's part -/
def tPo (K : PySem.W.Frag) (f : Ev → Option (Option Int)) : TO := fun σ H Q => ∃ M ρ fo fv d, Rep K M H (ρ ++ fo) (σ ++ fv) ∧ σ.length = ρ.length ∧ f ρ = some d ∧ ∀ M' H', Same M M' → Rep K M' H' (ρ ++ fo) (σ ++ fv) → Q d H'
def noPart (_ : Ev) : Option (Option Int) := some none
def part (f : Ev → Option D) (ρ : Ev) : Option (Option Int) := match f ρ with
  | some (.int i) => some (some i)
  | _ => none
theorem poNone : PO X none (tPo X.K noPart) := ⟨fun p s σ H Q I ⟨M, ρ, fo, fv, d, R, l, e, k⟩ => by
  cases e
  exact po_none.run p s σ H Q I (k M H (Same.refl _) R)⟩
theorem poSome {e : Expr} {f : Ev → Option D} (h : PE X e (tP X.K f)) : PO X (some e) (tPo X.K (part f)) := ⟨fun p s σ H Q I ⟨M, ρ, fo, fv, d, R, l, e, k⟩ => by
  unfold part at e
  split at e
  · rename_i i q
    cases e
    exact (po_some h).run p s σ H Q I ⟨M, ρ, fo, fv, _, R, l, q, fun M1 H1 v s1 R1 d1 => by cases d1; exact ⟨i, rfl, k M1 H1 s1 R1⟩⟩
  · cases e⟩
def slc (f : Ev → Option D) (lo hi : Ev → Option (Option Int)) (ρ : Ev) : Option D := (f ρ).bind fun x => (lo ρ).bind fun a => (hi ρ).bind fun b => slD x a b
theorem pSl {e : Expr} {lo hi : Option Expr} {p2 pos : Pos} {f : Ev → Option D} {fl fh : Ev → Option (Option Int)} (he : PE X e (tP X.K f)) (hl : PO X lo (tPo X.K fl)) (hh : PO X hi (tPo X.K fh)) : PE X (.Subscript e (.Slice lo hi none p2) pos) (tP X.K (slc f fl fh)) :=
  PE.imp (pe_slice oSl he hl hh) fun σ H Q ⟨M, ρ, fo, fv, d, R, l, e, k⟩ => by
    unfold slc at e
    cases q1 : f ρ with
    | none => rw [q1] at e; cases e
    | some x =>
      cases q2 : fl ρ with
      | none => rw [q1, Option.bind_some, q2] at e; cases e
      | some a =>
        cases q3 : fh ρ with
        | none => rw [q1, Option.bind_some, q2, Option.bind_some, q3] at e; cases e
        | some b =>
          rw [q1, Option.bind_some, q2, Option.bind_some, q3, Option.bind_some] at e
          exact ⟨M, ρ, fo, fv, x, R, l, q1, fun M1 H1 v1 s1 R1 d1 => ⟨M1, ρ, fo, fv, a, R1, l, q2, fun M2 H2 s2 R2 => ⟨M2, ρ, fo, fv, b, R2, l, q3, fun M3 H3 s3 R3 =>
            ⟨M3, ρ ++ fo, σ ++ fv, x, d, R3, d1.mono (s2.trans s3), e, fun M4 H4 v s4 R4 d4 => k M4 H4 v (s1.trans (s2.trans (s3.trans s4))) R4 d4⟩⟩⟩⟩
/-! ### methods of texts -/
def rDm (K : PySem.W.Frag) (g : D → List D → Option D) : V → List V → Hp → VK → Prop := fun x xs H Q => ∃ M fo fv dx ds d, Rep K M H fo fv ∧ Dv K M x dx ∧ Dvs K M xs ds ∧ g dx ds = some d ∧
  ∀ M' H' v, Same M M' → Rep K M' H' fo fv → Dv K M' v d → Q v H'
def m1 (f g : Ev → Option D) (h : D → List D → Option D) (ρ : Ev) : Option D := match f ρ with
  | some (.str z) => (g ρ).bind fun y => h (.str z) [y]
  | _ => none
theorem tM1_of {K : PySem.W.Frag} {f g : Ev → Option D} {h : D → List D → Option D} {σ : L2.St} {H : Hp} {Q : VK} (hh : tP K (m1 f g h) σ H Q) : tM1 (rDm K h) (tP K f) (tP K g) σ H Q := by
  obtain ⟨M, ρ, fo, fv, d, R, l, e, k⟩ := hh
  unfold m1 at e
  split at e
  · rename_i z q
    cases q2 : g ρ with
    | none => rw [q2] at e; cases e
    | some y =>
      rw [q2, Option.bind_some] at e
      exact ⟨M, ρ, fo, fv, _, R, l, q, fun M1 H1 v1 s1 R1 d1 => by
        cases d1
        exact ⟨⟨z, rfl⟩, M1, ρ, fo, fv, y, R1, l, q2, fun M2 H2 v2 s2 R2 d2 => ⟨M2, ρ ++ fo, σ ++ fv, _, _, d, R2, .str z, .cons d2 .nil, e, fun M3 H3 v s3 R3 d3 => k M3 H3 v (s1.trans (s2.trans s3)) R3 d3⟩⟩⟩
  · cases e
def splitD (x : D) (ys : List D) : Option D := match x, ys with
  | .str a, [.str b] => if (b.length == 0) = false ∧ a.length + 2 ≤ sizeLine then some (.lst ((Txt.split a b).map .str)) else none
  | _, _ => none
theorem mSplit : MtR X "str.split" (rDm X.K splitD) := MtR.imp mt_split fun x xs H Q ⟨M, fo, fv, dx, ds, d, R, d1, d2, e, k⟩ => by
  unfold splitD at e
  split at e
  · rename_i a b
    split at e
    · rename_i hc
      cases e
      cases d1
      obtain ⟨w, rfl, dw⟩ := one_of d2; clear d2
      cases dw
      refine ⟨a, b, rfl, rfl, hc.1, hc.2, fun p hp => ?_⟩
      have s := same_updM (u := .lst ((Txt.split a b).map V.str)) (R.same.free hp)
      exact k _ _ _ s (R.growM hp) (.lst (.inl (.inl upd_same)) (strs_dvs _))
    · cases e
  · cases e
/-- a list of texts -/
def strsD : List D → Option (List Str)
  | [] => some []
  | .str b :: r => (strsD r).map (b :: ·)
  | _ => none
theorem strs_some : ∀ {ds : List D} {bs : List Str}, strsD ds = some bs → ds = bs.map .str
  | [], _, e => by cases e; rfl
  | .str b :: r, bs, e => by
    unfold strsD at e
    cases q : strsD r with
    | none => rw [q] at e; cases e
    | some cs => rw [q] at e; cases e; rw [strs_some q]; rfl
  | .non :: _, _, e => by cases e
  | .int _ :: _, _, e => by cases e
  | .bl _ :: _, _, e => by cases e
  | .lst _ :: _, _, e => by cases e
  | .tup _ :: _, _, e => by cases e
  | .dic _ _ :: _, _, e => by cases e
  | .obj _ _ _ :: _, _, e => by cases e
theorem strs_map : ∀ bs : List Str, strsD (bs.map .str) = some bs
  | [] => rfl
  | b :: r => by
    show (strsD (r.map .str)).map (b :: ·) = _
    rw [strs_map r]; rfl
def joinD (x : D) (ys : List D) : Option D := match x, ys with
  | .str a, [.lst ds] => (strsD ds).bind fun zs => if (zs.map (·.length)).sum + zs.length * a.length ≤ 16777216 then some (.str (Txt.join a zs)) else none
  | .str a, [.tup ds] => (strsD ds).bind fun zs => if (zs.map (·.length)).sum + zs.length * a.length ≤ 16777216 then some (.str (Txt.join a zs)) else none
  | _, _ => none
theorem mJoin : MtR X "str.join" (rDm X.K joinD) := MtR.imp mt_join fun x xs H Q ⟨M, fo, fv, dx, ds, d, R, d1, d2, e, k⟩ => by
  unfold joinD at e
  split at e
  · rename_i a ds'
    cases q : strsD ds' with
    | none => rw [q] at e; cases e
    | some zs =>
      rw [q, Option.bind_some] at e
      split at e
      · cases e
        have := strs_some q
        subst this
        cases d1
        obtain ⟨w, rfl, dw⟩ := one_of d2; clear d2
        cases dw with
        | lst h hs =>
          have := dvs_strs hs
          subst this
          exact ⟨a, _, zs, rfl, rfl, .inl (seqX R.same h), by assumption, k M H _ (Same.refl _) R (.str _)⟩
      · cases e
  · rename_i a ds'
    cases q : strsD ds' with
    | none => rw [q] at e; cases e
    | some zs =>
      rw [q, Option.bind_some] at e
      split at e
      · cases e
        have := strs_some q
        subst this
        cases d1
        obtain ⟨w, rfl, dw⟩ := one_of d2; clear d2
        cases dw with
        | tup h hs =>
          have := dvs_strs hs
          subst this
          exact ⟨a, _, zs, rfl, rfl, .inr (sqT_same R.same h), by assumption, k M H _ (Same.refl _) R (.str _)⟩
      · cases e
  · cases e
theorem pM1 {id : String} {name : Str} {o e : Expr} {apos pos : Pos} {f g : Ev → Option D} {h : D → List D → Option D} (slot : Slot "str" name id) (ty : typeOf (.builtin id) = pure (.type "method_descriptor")) (rule : MtR X id (rDm X.K h)) (ho : PE X o (tP X.K f)) (he : PE X e (tP X.K g))
    (hs : starEach [e] X.env = [(false, eval e X.env)] := by rfl) (hbase : attributeBase o name X.env (eval o X.env) = eval o X.env := by rfl) (hline : (apos.endLine == pos.line) = true := by rfl) : PE X (.Call (.Attribute o name apos) [e] [] pos) (tP X.K (m1 f g h)) :=
  PE.imp (pe_m1 slot ty rule ho he hs hbase hline) fun _ _ _ h => tM1_of h
theorem pSplit {o e : Expr} {apos pos : Pos} {f g : Ev → Option D} (ho : PE X o (tP X.K f)) (he : PE X e (tP X.K g)) (hs : starEach [e] X.env = [(false, eval e X.env)] := by rfl) (hbase : attributeBase o "split" X.env (eval o X.env) = eval o X.env := by rfl) (hline : (apos.endLine == pos.line) = true := by rfl) :
    PE X (.Call (.Attribute o "split" apos) [e] [] pos) (tP X.K (m1 f g splitD)) := pM1 F.slot_str_split F.type_str_split mSplit ho he hs hbase hline
theorem pJoin {o e : Expr} {apos pos : Pos} {f g : Ev → Option D} (ho : PE X o (tP X.K f)) (he : PE X e (tP X.K g)) (hs : starEach [e] X.env = [(false, eval e X.env)] := by rfl) (hbase : attributeBase o "join" X.env (eval o X.env) = eval o X.env := by rfl) (hline : (apos.endLine == pos.line) = true := by rfl) :
    PE X (.Call (.Attribute o "join" apos) [e] [] pos) (tP X.K (m1 f g joinD)) := pM1 F.slot_str_join F.type_str_join mJoin ho he hs hbase hline
/-! ### isinstance(x, T), T a built-in type -/
def tyD : D → Option String
  | .non => some "NoneType"
  | .bl _ => some "bool"
  | .int _ => some "int"
  | .str _ => some "str"
  | .lst _ => some "list"
  | .tup _ => some "tuple"
  | .dic _ _ => some "dict"
  | _ => none
def isiD (T : String) (x : D) : Option D := (tyD x).bind fun t => (kitB t T).map .bl
theorem tyX_of {K : PySem.W.Frag} {M : Hp} {v : V} {d : D} {t : String} (h : Dv K M v d) (e : tyD d = some t) : TyX K M v (.type t) := by
  cases h with
  | non => cases e; exact .base .non
  | bl b => cases e; exact .base (.bl b)
  | int b => cases e; exact .base (.int b)
  | str b => cases e; exact .base (.str b)
  | lst h hs =>
    cases e
    rcases h with (h | ⟨o, h⟩) | ⟨its, n, lk, _⟩
    · exact .base (.lst h)
    · exact .base (.frz h)
    · exact .kList lk rfl
  | tup h hs =>
    cases e
    rcases h with (h | ⟨o, h⟩) | ⟨o, its, n, lk, c, _⟩
    · exact .base (.tup h)
    · exact .fTuple h
    · exact .kTuple lk c
  | dic h _ _ => cases e; exact .base (.dK h)
  | obj _ _ _ _ => cases e
theorem tyX_mono {K : PySem.W.Frag} {M H : Hp} {v : V} {t : Value} (s : Same M H) (h : TyX K M v t) : TyX K H v t := by
  cases h with
  | base b =>
    cases b with
    | non => exact .base .non
    | bl b => exact .base (.bl b)
    | int b => exact .base (.int b)
    | str b => exact .base (.str b)
    | flt b => exact .base (.flt b)
    | lst e => exact .base (.lst (s _ _ e))
    | frz e => exact .base (.frz (s _ _ e))
    | tup e => exact .base (.tup (s _ _ e))
    | dK e => exact .base (.dK (s _ _ e))
    | dT e => exact .base (.dT (s _ _ e))
    | ins e cl ha hn htk hm => exact .base (.ins (s _ _ e) cl ha hn htk hm)
  | byt b => exact .byt b
  | set e => exact .set (s _ _ e)
  | kList e c => exact .kList e c
  | kTuple e c => exact .kTuple e c
  | kDict e c => exact .kDict e c
  | fTuple e => exact .fTuple (s _ _ e)
  | fDict e => exact .fDict (s _ _ e)
theorem pIsi {a : Expr} {p q pos : Pos} {fa : Ev → Option D} {T : String} {y : Str} (ha : PE X a (tP X.K fa)) (hm : X.mg "isinstance" = none) (hmT : X.mg y = none) (hv : bootBuiltins y = some (.type T) := by decide +kernel) (hg : Gl X "isinstance" := by rfl) (hgT : Gl X y := by rfl)
    (hn : y ≠ "__name__" := by decide) (hd : (y == ("__debug__" : Str)) = false := by decide)
    (hs : starEach [a, .Name y q] X.env = (false, eval a X.env) :: starEach [.Name y q] X.env := by rfl) (hs2 : starEach [.Name y q] X.env = (false, eval (.Name y q) X.env) :: starEach [] X.env := by rfl) (hpl : (backTo pos (starEach [.Name y q] X.env)).any (·.1) = false := by rfl) :
    PE X (.Call (.Name "isinstance" p) [a, .Name y q] [] pos) (tP X.K (b1 fa (isiD T))) :=
  PE.imp (pe_callB call_isi hg hm (by decide +kernel) (pa_cons ha (pa_cons (pe_bltn (v := .ty T) hgT hmT hv rfl hn hd) pa_nil hs2) hs) (by decide) (by decide) hs hpl) fun σ H Q ⟨M, ρ, fo, fv, d, R, l, e, k⟩ => by
    obtain ⟨x, ea, eg⟩ := b1_some e
    unfold isiD at eg
    cases q1 : tyD x with
    | none => rw [q1] at eg; cases eg
    | some t =>
      rw [q1, Option.bind_some] at eg
      cases q2 : kitB t T with
      | none => rw [q2] at eg; cases eg
      | some b =>
        rw [q2] at eg
        cases eg
        exact ⟨M, ρ, fo, fv, x, R, l, ea, fun M1 H1 v1 s1 R1 d1 => ⟨v1, .ty T, .type t, .type T, b, rfl, .ty T, tyX_mono R1.same (tyX_of d1 q1), kit_ty q2, k M1 H1 _ s1 R1 (.bl _)⟩⟩
/-- y = [..] on one line, y is not changed later -/
theorem setD_of {K : PySem.W.Frag} {W : WX} {J : List Nat} {i : Nat} {f : Ev → Option O} {E : Ends} {σ : L2.St} {H : Hp} (hJ : i ∉ J) (h : tS K W J (stV i (frz f)) E σ H) : tAsg (tO K f) (gName i) E σ H := by
  obtain ⟨M, ρ, fo, fv, r, σ0, R, l, e, k⟩ := h
  unfold stV frz at e
  cases q : f ρ with
  | none => rw [q] at e; cases e
  | some o =>
    rw [q, Option.bind_some] at e
    cases q2 : o.toD with
    | none => rw [q2] at e; cases e
    | some d =>
      rw [q2] at e
      cases e
      refine ⟨M, ρ, fo, fv, o, R, l.1, q, fun M1 H1 v s1 R1 => ?_⟩
      obtain ⟨M2, s2, R2, d2⟩ := R1.frz l.1 rfl q2
      exact k M2 H1 _ (s1.trans s2) ((R2.drop l.1).setD l.1 d2) (l.set hJ _ _)
theorem sLcD {W : WX} {J : List Nat} {i : Nat} {y : Str} {py spos pos : Pos} {tg iter elt : Expr} {ifs : List Expr} {scope : Scope} {fi : Ev → Option (List D)} {is kn : List Nat} {g : D → Ev → Option Ev} {t : Ev → Option Bool} {f : Ev → Option D} (own : List (Str × Nat)) (hc : X.calm = true) (hN : X.N.Nodup) (hi : PI X tg iter (tI X.K kn fi)) (bo : BlkOk X.N X.env.scope scope own)
    (hg : ∀ (s : Shared) (H : Hp) (C : Addr) (cl : List (Str × Addr)) (fp : List Addr), PG (X.blk s H scope (compEnvC scope cl C X.env) fp) tg (tG X.K is g)) (ht : ∀ (s : Shared) (H : Hp) (C : Addr) (cl : List (Str × Addr)) (fp : List Addr), PTs (X.blk s H scope (compEnvC scope cl C X.env) fp) ifs (tT X.K t))
    (he : ∀ (s : Shared) (H : Hp) (C : Addr) (cl : List (Str × Addr)) (fp : List Addr), PE (X.blk s H scope (compEnvC scope cl C X.env) fp) elt (tP X.K f)) (ok : TgOk is g) (hJ : i ∉ J := by decide) (hy : X.N[i]? = some y := by rfl) (hyl : X.env.scope.names.lookup y = some .local := by rfl)
    (hsw : swapsWith (.ListComp elt [⟨tg, iter, ifs, 0⟩] scope pos) (some (.Name y py)) spos.line X.env = pure true := by exact sw_true rfl rfl rfl (by decide +kernel)) (hv : ∀ i ∈ is, i ∈ own.map (·.2) := by decide) (hkn : ∀ ρ ds, fi ρ = some ds → ∀ k ∈ kn, k < ρ.length := by intro _ _ _ _ hk; cases hk) (hkv : ∀ k ∈ kn, k ∉ own.map (·.2) := by decide) (hs : ∀ x, foldedSetIterable iter X.env x = pure x := by intro _; rfl) :
    PS X (.Assign [.Name y py] (.ListComp elt [⟨tg, iter, ifs, 0⟩] scope pos) spos) (tS X.K W J (stV i (lcD fi g t f (own.map (·.2))))) := by
  have h := PS.imp (PS.imp (ps_setLc (i := i) (py := py) (pos := pos) (spos := spos) hc hN hy hyl hsw hi bo hg ht he hs) fun E σ H h => lc_of (f := f) (Q := fun x H1 => gName i x σ H1 E.nx) ok hv hkn hkv h) fun E σ H (h : tS X.K W J (stV i (frz (lcO fi g t f (own.map (·.2))))) E σ H) => setD_of hJ h
  rw [show frz (lcO fi g t f (own.map (·.2))) = lcD fi g t f (own.map (·.2)) from funext fun ρ => lcD_eq ρ _] at h
  exact h
end
/-- how a def binds when all its arguments come by name, in order -/
theorem kbn_of {K : PySem.W.Frag} {x qual : Str} {st : Stmt} {f : Addr} {fd : FuncData} {ps : List Str} (F : Fun K x qual st f fd)
    (h : ∀ (kV doc pm : Value) (an : Option Addr) (cdv ct : Value) (ws : List Value), ws.length = ps.length → bindArgs (PySem.W.fnOf x qual (defArgs st) (defBody st) (defScope st) .none kV doc pm an cdv ct) ⟨[], ps.zip ws⟩ = pure (ps.zip ws)) :
    KBn K fd ps 0 ps (fun us ws => us ++ ws) (fun vs zs => vs ++ zs) := by
  obtain ⟨oc, od, kV, doc, pm, an, cdv, ct, osl, rfl, lk, hcd⟩ := F.ex
  refine ⟨fun s us ws X h1 h2 => ?_, fun r1 r2 => r1.append r2⟩
  obtain rfl := List.length_eq_zero_iff.mp h1
  exact .of_eq (h kV doc pm an cdv ct ws h2)
end PD

namespace PD
open PySem PySem.Spec L2

/-! ### reckoning with mirrors -/
theorem loop_inv {g : D → Ev → Option Ev} {b : Ev → Option Fl} (I : Nat → Ev → Prop) : ∀ (ds : List D) (ρ : Ev) (n : Nat), I n ρ →
    (∀ i d ρ, ds[i]? = some d → I (n + i) ρ → ∃ ρ1 ρ2, g d ρ = some ρ1 ∧ (b ρ1 = some (.nx ρ2) ∨ b ρ1 = some (.ct ρ2)) ∧ I (n + i + 1) ρ2) → ∃ ρ', loop g b ds ρ = some (.nx ρ') ∧ I (n + ds.length) ρ'
  | [], ρ, n, h0, _ => ⟨ρ, rfl, h0⟩
  | d :: ds, ρ, n, h0, hs => by
    obtain ⟨ρ1, ρ2, e1, e2, h2⟩ := hs 0 d ρ rfl h0
    obtain ⟨ρ', e3, h3⟩ := loop_inv I ds ρ2 (n + 1) h2 (fun i d' ρ' e h => by
      have := hs (i + 1) d' ρ' (by simpa using e) (by rw [show n + (i + 1) = n + 1 + i by omega]; exact h)
      rw [show n + (i + 1) + 1 = n + 1 + i + 1 by omega] at this
      exact this)
    refine ⟨ρ', ?_, by rw [List.length_cons, show n + (ds.length + 1) = n + 1 + ds.length by omega]; exact h3⟩
    unfold loop
    rw [e1, Option.bind_some]
    rcases e2 with e2 | e2 <;> (rw [e2, Option.bind_some]; exact e3)
/-- a loop from the start -/
theorem loop_inv0 {g : D → Ev → Option Ev} {b : Ev → Option Fl} (I : Nat → Ev → Prop) (ds : List D) (ρ : Ev) (h0 : I 0 ρ)
    (hs : ∀ i d ρ, ds[i]? = some d → I i ρ → ∃ ρ1 ρ2, g d ρ = some ρ1 ∧ (b ρ1 = some (.nx ρ2) ∨ b ρ1 = some (.ct ρ2)) ∧ I (i + 1) ρ2) : ∃ ρ', loop g b ds ρ = some (.nx ρ') ∧ I ds.length ρ' := by
  obtain ⟨ρ', e, h⟩ := loop_inv I ds ρ 0 h0 (fun i d ρ e h => by rw [Nat.zero_add] at h ⊢; exact hs i d ρ e h)
  exact ⟨ρ', e, by rw [Nat.zero_add] at h; exact h⟩
/-- a loop that may leave by a return -/
theorem loop_ret {g : D → Ev → Option Ev} {b : Ev → Option Fl} (I : Nat → Ev → Prop) (R : O → Prop) : ∀ (ds : List D) (ρ : Ev) (n : Nat), I n ρ →
    (∀ i d ρ, ds[i]? = some d → I (n + i) ρ → ∃ ρ1, g d ρ = some ρ1 ∧ ((∃ ρ2, (b ρ1 = some (.nx ρ2) ∨ b ρ1 = some (.ct ρ2)) ∧ I (n + i + 1) ρ2) ∨ ∃ o ρ2, b ρ1 = some (.rt o ρ2) ∧ R o)) →
    (∃ ρ', loop g b ds ρ = some (.nx ρ') ∧ I (n + ds.length) ρ') ∨ ∃ o ρ', loop g b ds ρ = some (.rt o ρ') ∧ R o
  | [], ρ, n, h0, _ => .inl ⟨ρ, rfl, h0⟩
  | d :: ds, ρ, n, h0, hs => by
    obtain ⟨ρ1, e1, h⟩ := hs 0 d ρ rfl h0
    rcases h with ⟨ρ2, e2, h2⟩ | ⟨o, ρ2, e2, h2⟩
    · have ih := loop_ret I R ds ρ2 (n + 1) h2 (fun i d' ρ' e h => by
        have := hs (i + 1) d' ρ' (by simpa using e) (by rw [show n + (i + 1) = n + 1 + i by omega]; exact h)
        rw [show n + (i + 1) + 1 = n + 1 + i + 1 by omega] at this
        exact this)
      have el : loop g b (d :: ds) ρ = loop g b ds ρ2 := by
        conv => lhs; unfold loop
        rw [e1, Option.bind_some]
        rcases e2 with e2 | e2 <;> (rw [e2, Option.bind_some])
      rw [el, List.length_cons, show n + (ds.length + 1) = n + 1 + ds.length by omega]
      exact ih
    · refine .inr ⟨o, ρ2, ?_, h2⟩
      unfold loop
      rw [e1, Option.bind_some, e2, Option.bind_some]
theorem comp_map {g : D → Ev → Option Ev} {f : Ev → Option D} {ρ : Ev} {e : D → Ev} {h : D → D} : ∀ (ds : List D), (∀ d ∈ ds, g d ρ = some (e d) ∧ f (e d) = some (h d)) → comp g yes f ρ ds = some (ds.map h)
  | [], _ => rfl
  | d :: ds, H => by
    obtain ⟨e1, e2⟩ := H d List.mem_cons_self
    unfold comp
    rw [e1, Option.bind_some, show yes (e d) = some true from rfl, Option.bind_some, if_pos rfl, e2, Option.bind_some, comp_map ds fun d' hd => H d' (List.mem_cons_of_mem _ hd)]
    rfl
theorem comp_filter {g : D → Ev → Option Ev} {t : Ev → Option Bool} {f : Ev → Option D} {ρ : Ev} {e : D → Ev} {p : D → Bool} {h : D → D} : ∀ (ds : List D), (∀ d ∈ ds, g d ρ = some (e d) ∧ t (e d) = some (p d) ∧ (p d = true → f (e d) = some (h d))) → comp g t f ρ ds = some ((ds.filter p).map h)
  | [], _ => rfl
  | d :: ds, H => by
    obtain ⟨e1, e2, e3⟩ := H d List.mem_cons_self
    have ih := comp_filter ds fun d' hd => H d' (List.mem_cons_of_mem _ hd)
    unfold comp
    rw [e1, Option.bind_some, e2, Option.bind_some]
    cases q : p d with
    | true => rw [if_pos rfl, e3 q, Option.bind_some, ih, List.filter_cons_of_pos q]; rfl
    | false => rw [if_neg Bool.false_ne_true, ih, List.filter_cons_of_neg (by rw [q]; exact Bool.false_ne_true)]
/-- a comprehension with what each item gives, by place -/
theorem comp_ex {g : D → Ev → Option Ev} {f : Ev → Option D} {ρ : Ev} (R : Nat → D → Prop) : ∀ (ds : List D) (n : Nat), (∀ i d, ds[i]? = some d → ∃ ρ1 y, g d ρ = some ρ1 ∧ f ρ1 = some y ∧ R (n + i) y) → ∃ ys, comp g yes f ρ ds = some ys ∧ ys.length = ds.length ∧ ∀ i y, ys[i]? = some y → R (n + i) y
  | [], _, _ => ⟨[], rfl, rfl, fun i y h => by simp at h⟩
  | d :: ds, n, H => by
    obtain ⟨ρ1, y, e1, e2, r⟩ := H 0 d rfl
    obtain ⟨ys, e3, l, a⟩ := comp_ex R ds (n + 1) fun i d' h => by
      have := H (i + 1) d' (by simpa using h)
      rw [show n + (i + 1) = n + 1 + i by omega] at this
      exact this
    refine ⟨y :: ys, ?_, by simp [l], fun i z h => ?_⟩
    · unfold comp
      rw [e1, Option.bind_some, show yes ρ1 = some true from rfl, Option.bind_some, if_pos rfl, e2, Option.bind_some, e3]
      rfl
    · cases i with
      | zero => simp at h; subst h; exact r
      | succ i =>
        rw [show n + (i + 1) = n + 1 + i by omega]
        exact a i z (by simpa using h)

theorem line_big : (1000000 : Nat) ≤ sizeLine := by decide
theorem has_sign (z : Str) (c : Nat) : Txt.has z ⟨#[c]⟩ = decide (c ∈ z.cps.toList) := StrLaws.found_one z c
theorem signs_length (z : Str) : (signs z).length = z.length := by simp [signs, Str.length]
theorem str_len (z : Str) : z.cps.toList.length = z.length := by simp [Str.length]
theorem eq_str (x y : Str) : eqD (.str x) (.str y) = some (.bl (decide (x = y))) := rfl
theorem eq_int (x y : Int) : eqD (.int x) (.int y) = some (.bl (decide (x = y))) := rfl
theorem eq_bl (x y : Bool) : eqD (.bl x) (.bl y) = some (.bl (decide (x = y))) := rfl
theorem ne_str (x y : Str) : neD (.str x) (.str y) = some (.bl (!decide (x = y))) := rfl
theorem ne_int (x y : Int) : neD (.int x) (.int y) = some (.bl (!decide (x = y))) := rfl
theorem ne_bl (x y : Bool) : neD (.bl x) (.bl y) = some (.bl (!decide (x = y))) := rfl
/-! ### a text split at a sign -/
def sp (c : Nat) : List Nat → List (List Nat)
  | [] => [[]]
  | x :: xs => if x = c then [] :: sp c xs else match sp c xs with
    | p :: ps => (x :: p) :: ps
    | [] => [[x]]
theorem sp_ne (c : Nat) : ∀ l : List Nat, ∃ p ps, sp c l = p :: ps
  | [] => ⟨[], [], rfl⟩
  | x :: xs => by
    unfold sp
    by_cases h : x = c
    · rw [if_pos h]; exact ⟨_, _, rfl⟩
    · rw [if_neg h]
      obtain ⟨p, ps, e⟩ := sp_ne c xs
      rw [e]
      exact ⟨_, _, rfl⟩
theorem sp_free {c : Nat} : ∀ {l : List Nat}, c ∉ l → sp c l = [l]
  | [], _ => rfl
  | x :: xs, h => by
    unfold sp
    rw [if_neg fun z => h (by rw [z]; exact List.mem_cons_self), sp_free fun z => h (List.mem_cons_of_mem _ z)]
theorem sp_cut {c : Nat} (r : List Nat) : ∀ {p : List Nat}, c ∉ p → sp c (p ++ c :: r) = p :: sp c r
  | [], _ => by
    show (if c = c then [] :: sp c r else _) = _
    rw [if_pos rfl]
  | x :: p, h => by
    show (if x = c then [] :: sp c (p ++ c :: r) else match sp c (p ++ c :: r) with | q :: qs => (x :: q) :: qs | [] => [[x]]) = _
    rw [if_neg fun z => h (by rw [z]; exact List.mem_cons_self), sp_cut r fun z => h (List.mem_cons_of_mem _ z)]
theorem sub_at (x : Str) (a b : Nat) : (Builtin.Str.strSub x a b).cps.toList = (x.cps.toList.drop a).take (b - a) := StrLaws.strSub_toList x a b
theorem parts_sp (x : Str) (c : Nat) : ∀ (cuts : List Nat) (a f : Nat), StrLaws.ChainG x ⟨#[c]⟩ x.length a cuts f → (∀ k, f ≤ k → ¬ StrLaws.At x ⟨#[c]⟩ x.length k) →
    (StrLaws.partsFrom x 1 a cuts).map (·.cps.toList) = sp c (x.cps.toList.drop a)
  | [], a, f, h, hn => by
    have e : f = a := h
    subst e
    have hf := StrLaws.part_free x c f x.length (Nat.le_refl _) fun k h1 _ => hn k h1
    show [(Builtin.Str.strSub x f x.length).cps.toList] = _
    rw [← sp_free hf, sub_at, List.take_of_length_le (by rw [List.length_drop, str_len]; omega)]
  | d :: r, a, f, h, hn => by
    obtain ⟨h1, h2, h3, h4⟩ := h
    have hd : x.cps.toList[d]? = some c := (StrLaws.subAt_one x c d).mp h2
    have hdl : d < x.cps.toList.length := (List.getElem?_eq_some_iff.mp hd).1
    have hf := StrLaws.part_free x c a d (by rw [str_len] at hdl; omega) h3
    have ih := parts_sp x c r (d + 1) f h4 hn
    show (Builtin.Str.strSub x a d).cps.toList :: (StrLaws.partsFrom x 1 (d + 1) r).map (·.cps.toList) = _
    rw [ih]
    have e : x.cps.toList.drop a = (Builtin.Str.strSub x a d).cps.toList ++ c :: x.cps.toList.drop (d + 1) := by
      rw [sub_at]
      have e1 : x.cps.toList.drop d = c :: x.cps.toList.drop (d + 1) := by
        rw [List.drop_eq_getElem_cons hdl, (List.getElem?_eq_some_iff.mp hd).2]
      have e2 : x.cps.toList.drop d = (x.cps.toList.drop a).drop (d - a) := by rw [List.drop_drop]; congr 1; omega
      rw [← e1, e2, List.take_append_drop]
    rw [e, sp_cut _ hf]
theorem split_sp (t : Str) (c : Nat) : (Txt.split t ⟨#[c]⟩).map (·.cps.toList) = sp c t.cps.toList := by
  have free : c ∉ t.cps.toList → [t.cps.toList] = sp c t.cps.toList := fun h => (sp_free h).symm
  unfold Txt.split
  split
  · rename_i h
    rw [Bool.or_eq_true, decide_eq_true_eq, decide_eq_true_eq] at h
    refine free ?_
    rcases h with h | h
    · have : t.length = 0 := by
        have : (⟨#[c]⟩ : Str).length = 1 := rfl
        omega
      rw [← str_len] at this
      rw [List.length_eq_zero_iff.mp this]
      exact List.not_mem_nil
    · exact StrLaws.kind_free t c h
  · split
    · rename_i h
      refine free ?_
      obtain ⟨f, ch, hn⟩ := StrLaws.occ_tight t ⟨#[c]⟩ (Nat.le_refl 1)
      rw [List.isEmpty_iff.mp h] at ch
      have e : f = 0 := ch
      intro hm
      obtain ⟨j, hj⟩ := List.getElem?_of_mem hm
      exact hn j (by omega) ((StrLaws.subAt_one t c j).mpr hj)
    · obtain ⟨f, ch, hn⟩ := StrLaws.occ_tight t ⟨#[c]⟩ (Nat.le_refl 1)
      rw [StrLaws.partsBetween_eq]
      have := parts_sp t c _ 0 f ch hn
      rw [List.drop_zero] at this
      exact this
def toS (l : List Nat) : Str := ⟨l.toArray⟩
theorem toS_codes (l : List Nat) : (toS l).cps.toList = l := by simp [toS]
theorem codes_toS (t : Str) : toS t.cps.toList = t := by simp [toS]
theorem toS_len (l : List Nat) : (toS l).length = l.length := by simp [toS, Str.length]
theorem split_eq (t : Str) (c : Nat) : Txt.split t ⟨#[c]⟩ = (sp c t.cps.toList).map toS := by
  rw [← split_sp, List.map_map]
  conv => lhs; rw [← List.map_id (Txt.split t ⟨#[c]⟩)]
  apply List.map_congr_left
  intro x _
  exact (codes_toS x).symm
theorem sp_mem_len {c : Nat} : ∀ {l p : List Nat}, p ∈ sp c l → p.length ≤ l.length
  | [], p, h => by
    have : p = [] := by simpa [sp] using h
    subst this
    exact Nat.le_refl _
  | x :: xs, p, h => by
    unfold sp at h
    by_cases e : x = c
    · rw [if_pos e] at h
      rcases List.mem_cons.mp h with rfl | h
      · exact Nat.zero_le _
      · exact Nat.le_succ_of_le (sp_mem_len h)
    · rw [if_neg e] at h
      obtain ⟨q, qs, eq⟩ := sp_ne c xs
      rw [eq] at h
      rcases List.mem_cons.mp h with rfl | h
      · exact Nat.succ_le_succ (sp_mem_len (c := c) (by rw [eq]; exact List.mem_cons_self))
      · exact Nat.le_succ_of_le (sp_mem_len (c := c) (by rw [eq]; exact List.mem_cons_of_mem _ h))
theorem sp_length (c : Nat) : ∀ l : List Nat, (sp c l).length ≤ l.length + 1
  | [] => Nat.le_refl _
  | x :: xs => by
    unfold sp
    have ih := sp_length c xs
    by_cases e : x = c
    · rw [if_pos e]; simp; omega
    · rw [if_neg e]
      obtain ⟨q, qs, eq⟩ := sp_ne c xs
      rw [eq] at ih ⊢
      simp at ih ⊢
      omega
/-- the first c in l -/
theorem first_of {c : Nat} : ∀ {l : List Nat}, c ∈ l → ∃ p r, l = p ++ c :: r ∧ c ∉ p
  | x :: xs, h => by
    by_cases e : x = c
    · subst e; exact ⟨[], xs, rfl, List.not_mem_nil⟩
    · rcases List.mem_cons.mp h with h | h
      · exact absurd h.symm e
      · obtain ⟨p, r, e1, e2⟩ := first_of h
        exact ⟨x :: p, r, by rw [e1]; rfl, fun z => (List.mem_cons.mp z).elim (fun q => e q.symm) e2⟩
/-! ### running a mirror, by what holds at its end -/
def Rn (g : Ev → Option Fl) (ρ : Ev) (Q : Fl → Prop) : Prop := ∃ r, g ρ = some r ∧ Q r
def Nx (P : Ev → Prop) : Fl → Prop
  | .nx ρ => P ρ
  | _ => False
section
variable {f g b : Ev → Option Fl} {ρ : Ev} {Q : Fl → Prop} {P : Ev → Prop}
theorem Rn.mono {Q' : Fl → Prop} (h : Rn g ρ Q) (i : ∀ r, Q r → Q' r) : Rn g ρ Q' := let ⟨r, e, q⟩ := h; ⟨r, e, i r q⟩
theorem Rn.sq (h : Rn f ρ fun r => match r with | .nx ρ' => Rn g ρ' Q | r => Q r) : Rn (sq f g) ρ Q := by
  obtain ⟨r, e, h⟩ := h
  unfold Rn PD.sq
  rw [e, Option.bind_some]
  cases r with
  | nx ρ' => exact h
  | rt o ρ' => exact ⟨_, rfl, h⟩
  | bk ρ' => exact ⟨_, rfl, h⟩
  | ct ρ' => exact ⟨_, rfl, h⟩
  | ex x ρ' => exact ⟨_, rfl, h⟩
theorem Rn.sqN (h : Rn f ρ (Nx P)) (k : ∀ ρ', P ρ' → Rn g ρ' Q) : Rn (PD.sq f g) ρ Q := Rn.sq (h.mono fun r q => by
  cases r with
  | nx ρ' => exact k ρ' q
  | _ => exact q.elim)
theorem Rn.st {i : Nat} {e : Ev → Option D} {d : D} (h : e ρ = some d) (k : Q (.nx (ρ.set i (.dat d)))) : Rn (stV i e) ρ Q := ⟨_, by unfold stV; rw [h]; rfl, k⟩
theorem Rn.stO {i : Nat} {e : Ev → Option O} {o : O} (h : e ρ = some o) (k : Q (.nx (ρ.set i o))) : Rn (PD.stO i e) ρ Q := ⟨_, by unfold PD.stO; rw [h]; rfl, k⟩
theorem Rn.skip (k : Q (.nx ρ)) : Rn PD.skip ρ Q := ⟨_, rfl, k⟩
theorem Rn.ret {e : Ev → Option D} {d : D} (h : e ρ = some d) (k : Q (.rt (.dat d) ρ)) : Rn (rtV e) ρ Q := ⟨_, by unfold rtV; rw [h]; rfl, k⟩
theorem Rn.ite {c : Ev → Option Bool} {t : Bool} (h : c ρ = some t) (h1 : t = true → Rn f ρ Q) (h2 : t = false → Rn g ρ Q) : Rn (ifS c f g) ρ Q := by
  unfold Rn ifS
  rw [h]
  cases t with
  | true => exact h1 rfl
  | false => exact h2 rfl
theorem Rn.app {i : Nat} {e : Ev → Option D} {d : D} {os : List O} (h : e ρ = some d) (ho : ρ[i]? = some (.lst os)) (hl : os.length < sizeLine) (k : Q (.nx (ρ.set i (.lst (os ++ [.dat d]))))) : Rn (PD.app i e) ρ Q := by
  refine ⟨_, ?_, k⟩
  unfold PD.app
  rw [h, Option.bind_some, ho]
  simp only []
  rw [if_pos hl]
theorem Rn.fz {i : Nat} {o : O} {d : D} (ho : ρ[i]? = some o) (hd : o.toD = some d) (k : Rn g (ρ.set i (.dat d)) Q) : Rn (PD.fz i g) ρ Q := by
  unfold Rn PD.fz
  rw [ho]
  simp only [hd, Option.bind_some]
  exact k
/-- a for by an invariant -/
theorem Rn.for {fi : Ev → Option (List D)} {gt : D → Ev → Option Ev} {ds : List D} (h : fi ρ = some ds) (I : Nat → Ev → Prop) (h0 : I 0 ρ)
    (hs : ∀ i d ρ, ds[i]? = some d → I i ρ → ∃ ρ1, gt d ρ = some ρ1 ∧ Rn b ρ1 fun r => match r with | .nx ρ2 => I (i + 1) ρ2 | .ct ρ2 => I (i + 1) ρ2 | .bk ρ2 => Q (.nx ρ2) | r => Q r) (k : ∀ ρ', I ds.length ρ' → Q (.nx ρ')) : Rn (forS fi gt b) ρ Q := by
  unfold Rn forS
  rw [h, Option.bind_some]
  clear h
  have key : ∀ (es : List D) (n : Nat) (ρ : Ev), n + es.length = ds.length → (∀ i d, es[i]? = some d → ds[n + i]? = some d) → I n ρ → ∃ r, loop gt b es ρ = some r ∧ Q r := by
    intro es
    induction es with
    | nil => intro n ρ hn _ hi; exact ⟨_, rfl, k ρ (by rw [← hn]; exact hi)⟩
    | cons d es ih =>
      intro n ρ hn hd hi
      obtain ⟨ρ1, e1, r, e2, q⟩ := hs n d ρ (by have := hd 0 d rfl; simpa using this) hi
      unfold loop
      rw [e1, Option.bind_some, e2, Option.bind_some]
      have nxt : ∀ ρ2, I (n + 1) ρ2 → ∃ r, loop gt b es ρ2 = some r ∧ Q r := fun ρ2 h2 => ih (n + 1) ρ2 (by rw [← hn, List.length_cons]; omega) (fun i d' h' => by
        have := hd (i + 1) d' (by simpa using h')
        rw [show n + 1 + i = n + (i + 1) by omega]; exact this) h2
      cases r with
      | nx ρ2 => exact nxt ρ2 q
      | ct ρ2 => exact nxt ρ2 q
      | bk ρ2 => exact ⟨_, rfl, q⟩
      | rt o ρ2 => exact ⟨_, rfl, q⟩
      | ex x ρ2 => exact ⟨_, rfl, q⟩
  exact key ds 0 ρ (by simp) (fun i d h => by simpa using h) h0
theorem Rn.while {c : Ev → Option Bool} (μ : Ev → Nat) (I : Ev → Prop) (h0 : I ρ) (hs : ∀ ρ, I ρ → ∃ t, c ρ = some t ∧ (t = true → Rn b ρ fun r => match r with | .nx ρ2 => I ρ2 ∧ μ ρ2 < μ ρ | .ct ρ2 => I ρ2 ∧ μ ρ2 < μ ρ | .bk ρ2 => Q (.nx ρ2) | r => Q r) ∧ (t = false → Q (.nx ρ))) :
    Rn (whileS c b) ρ Q := by
  have key : ∀ (n : Nat) (ρ : Ev), μ ρ < n → I ρ → ∃ r, wl c b n ρ = some r ∧ Q r := by
    intro n
    induction n with
    | zero => intro ρ h _; omega
    | succ n ih =>
      intro ρ hm hi
      obtain ⟨t, ht, h1, h2⟩ := hs ρ hi
      unfold wl
      rw [ht, Option.bind_some]
      cases t with
      | false => exact ⟨_, rfl, h2 rfl⟩
      | true =>
        obtain ⟨r, e, q⟩ := h1 rfl
        rw [if_pos rfl, e, Option.bind_some]
        cases r with
        | nx ρ2 => exact ih ρ2 (by have := q.2; omega) q.1
        | ct ρ2 => exact ih ρ2 (by have := q.2; omega) q.1
        | bk ρ2 => exact ⟨_, rfl, q⟩
        | rt o ρ2 => exact ⟨_, rfl, q⟩
        | ex x ρ2 => exact ⟨_, rfl, q⟩
  obtain ⟨r, e, q⟩ := key _ ρ (Nat.lt_succ_self _) h0
  exact ⟨r, whileS_of e, q⟩
theorem runP_of {n : Nat} {ds : List D} {R : D → Prop} (h : Rn b (env0 n ds) fun r => ∃ o d, outO r = some o ∧ o.toD = some d ∧ R d) : ∃ d, runP n b ds = some d ∧ R d := by
  obtain ⟨r, e, o, d, e2, e3, hr⟩ := h
  exact ⟨d, by unfold runP runO; rw [e, Option.bind_some, e2, Option.bind_some, e3], hr⟩
theorem runP_eq {n : Nat} {ds : List D} {d : D} (h : Rn b (env0 n ds) fun r => ∃ o, outO r = some o ∧ o.toD = some d) : runP n b ds = some d := by
  obtain ⟨r, e, o, e2, e3⟩ := h
  unfold runP runO
  rw [e, Option.bind_some, e2, Option.bind_some, e3]
end
theorem lcD_of {fi : Ev → Option (List D)} {g : D → Ev → Option Ev} {t : Ev → Option Bool} {f : Ev → Option D} {vs : List Nat} {ρ ρw : Ev} {ds ys : List D} (hw : okW ρ vs = true) (hi : fi ρ = some ds) (hρ : wipeO ρ vs = ρw) (hc : comp g t f ρw ds = some ys) (hl : ys.length ≤ sizeLine) : lcD fi g t f vs ρ = some (.lst ys) := by
  unfold lcD
  rw [if_pos hw, hi, Option.bind_some, hρ, hc, Option.bind_some, if_pos hl]
theorem lcO_of {fi : Ev → Option (List D)} {g : D → Ev → Option Ev} {t : Ev → Option Bool} {f : Ev → Option D} {vs : List Nat} {ρ ρw : Ev} {ds ys : List D} (hw : okW ρ vs = true) (hi : fi ρ = some ds) (hρ : wipeO ρ vs = ρw) (hc : comp g t f ρw ds = some ys) (hl : ys.length ≤ sizeLine) : lcO fi g t f vs ρ = some (.lst (ys.map .dat)) := by
  unfold lcO
  rw [if_pos hw, hi, Option.bind_some, hρ, hc, Option.bind_some, if_pos hl]
theorem len_le {n : Nat} (h : n ≤ 1000000) : n ≤ sizeLine := Nat.le_trans h (by decide)
/-! ### values of mirrors, part by part -/
section
variable {ρ : Ev} {fa fb : Ev → Option D} {x y d : D}
theorem b2_of {g : D → D → Option D} (h1 : fa ρ = some x) (h2 : fb ρ = some y) : b2 fa fb g ρ = g x y := by unfold b2; rw [h1, h2]; rfl
theorem b1_of {g : D → Option D} (h1 : fa ρ = some x) : b1 fa g ρ = g x := by unfold b1; rw [h1]; rfl
theorem aC {g : Ev → Option (List D)} {ds : List D} (h1 : fa ρ = some x) (h2 : g ρ = some ds) : aCons fa g ρ = some (x :: ds) := by unfold aCons; rw [h1, h2]; rfl
theorem aC1 (h1 : fa ρ = some x) : aCons fa aNil ρ = some [x] := aC h1 rfl
theorem aC2 (h1 : fa ρ = some x) (h2 : fb ρ = some y) : aCons fa (aCons fb aNil) ρ = some [x, y] := aC h1 (aC1 h2)
theorem cB_of' {g : Ev → Option (List D)} {f : List D → Option D} {ds : List D} (h : g ρ = some ds) : cB g f ρ = f ds := by unfold cB; rw [h]; rfl
theorem len_of {n : Nat} {m : List D → Option D} {ds : List D} (h : ds.length = n) : len? n m ds = m ds := by unfold len?; rw [if_pos h]
theorem call_of {g : Ev → Option (List D)} {n : Nat} {m : List D → Option D} {ds : List D} (h : g ρ = some ds) (hl : ds.length = n) : cB g (len? n m) ρ = m ds := (cB_of' h).trans (len_of hl)
theorem int_of {i : Int} (h : fa ρ = some (.int i)) : cB (aCons fa aNil) intD ρ = some (.int i) := cB_of' (aC1 h)
theorem lenS_of {z : Str} (h : fa ρ = some (.str z)) (hl : z.length ≤ 1000000) : cB (aCons fa aNil) lenD ρ = some (.int z.length) := by
  rw [cB_of' (aC1 h)]
  show (if z.length ≤ sizeLine then _ else _) = _
  rw [if_pos (len_le hl)]
theorem lenL_of {ds : List D} (h : fa ρ = some (.lst ds)) : cB (aCons fa aNil) lenD ρ = some (.int ds.length) := cB_of' (aC1 h)
theorem add_of {i j : Int} (h1 : fa ρ = some (.int i)) (h2 : fb ρ = some (.int j)) : b2 fa fb addD ρ = some (.int (i + j)) := b2_of h1 h2
theorem sub_of {i j : Int} (h1 : fa ρ = some (.int i)) (h2 : fb ρ = some (.int j)) : b2 fa fb subI ρ = some (.int (i - j)) := b2_of h1 h2
theorem mul_of {i j : Int} (h1 : fa ρ = some (.int i)) (h2 : fb ρ = some (.int j)) (hc : okMul i j = true) : b2 fa fb mulI ρ = some (.int (i * j)) := by
  rw [b2_of h1 h2]
  show (if okMul i j = true then _ else _) = _
  rw [if_pos hc]
theorem mod_of {i j : Int} (h1 : fa ρ = some (.int i)) (h2 : fb ρ = some (.int j)) (hc : 0 < j) : b2 fa fb modI ρ = some (.int (i % j)) := by
  rw [b2_of h1 h2]
  show (if decide (0 < j) = true then _ else _) = _
  rw [if_pos (decide_eq_true hc)]
theorem div_of {i j : Int} (h1 : fa ρ = some (.int i)) (h2 : fb ρ = some (.int j)) (hc : 0 < j ∧ j < 1073741824) : b2 fa fb divI ρ = some (.int (i / j)) := by
  rw [b2_of h1 h2]
  show (if decide (0 < j ∧ j < 1073741824) = true then _ else _) = _
  rw [if_pos (decide_eq_true hc)]
theorem cat_of {i j : Str} (h1 : fa ρ = some (.str i)) (h2 : fb ρ = some (.str j)) (hc : i.length + j.length ≤ 1000000) : b2 fa fb addD ρ = some (.str (i ++ j)) := by
  rw [b2_of h1 h2]
  show (match addI (.str i) (.str j) with | some d => some d | none => addS (.str i) (.str j)) = _
  show (if decide (i.length + j.length ≤ sizeLine) = true then some (D.str (i ++ j)) else none) = _
  rw [if_pos (decide_eq_true (len_le hc))]
theorem ixL_of {ds : List D} {i : Int} (h1 : fa ρ = some (.lst ds)) (h2 : fb ρ = some (.int i)) : b2 fa fb ixD ρ = atI ds i := b2_of h1 h2
theorem ixS_of {z : Str} {i : Int} {c : Nat} (h1 : fa ρ = some (.str z)) (h2 : fb ρ = some (.int i)) (hl : z.length ≤ 1000000) (hc : atI z.cps.toList i = some c) : b2 fa fb ixD ρ = some (.str ⟨#[c]⟩) := by
  rw [b2_of h1 h2]
  show (if z.length ≤ sizeLine then (atI z.cps.toList i).map _ else none) = _
  rw [if_pos (len_le hl), hc]
  rfl
theorem slc_of {lo hi : Ev → Option (Option Int)} {a b : Option Int} (h : fa ρ = some x) (h1 : lo ρ = some a) (h2 : hi ρ = some b) : slc fa lo hi ρ = slD x a b := by unfold slc; rw [h, h1, h2]; rfl
theorem part_of {i : Int} (h : fa ρ = some (.int i)) : part fa ρ = some (some i) := by unfold part; rw [h]
theorem slS_of {lo hi : Ev → Option (Option Int)} {a b : Option Int} {z : Str} (h : fa ρ = some (.str z)) (h1 : lo ρ = some a) (h2 : hi ρ = some b) (hl : z.length ≤ 1000000) : slc fa lo hi ρ = some (.str (cutS z a b)) := by
  rw [slc_of h h1 h2]
  show (if z.length ≤ sizeLine then _ else _) = _
  rw [if_pos (len_le hl)]
theorem slL_of {lo hi : Ev → Option (Option Int)} {a b : Option Int} {ds : List D} (h : fa ρ = some (.lst ds)) (h1 : lo ρ = some a) (h2 : hi ρ = some b) : slc fa lo hi ρ = some (.lst (cutD ds a b)) := slc_of h h1 h2
theorem asB_of {b : Bool} (h : fa ρ = some (.bl b)) : asB fa ρ = some b := by unfold asB; rw [h]
theorem eqI_of {i j : Int} (h1 : fa ρ = some (.int i)) (h2 : fb ρ = some (.int j)) : b2 fa fb eqD ρ = some (.bl (decide (i = j))) := b2_of h1 h2
theorem neI_of {i j : Int} (h1 : fa ρ = some (.int i)) (h2 : fb ρ = some (.int j)) : b2 fa fb neD ρ = some (.bl (!decide (i = j))) := b2_of h1 h2
theorem eqS_of {i j : Str} (h1 : fa ρ = some (.str i)) (h2 : fb ρ = some (.str j)) : b2 fa fb eqD ρ = some (.bl (decide (i = j))) := b2_of h1 h2
theorem neS_of {i j : Str} (h1 : fa ρ = some (.str i)) (h2 : fb ρ = some (.str j)) : b2 fa fb neD ρ = some (.bl (!decide (i = j))) := b2_of h1 h2
theorem lt_of {i j : Int} (h1 : fa ρ = some (.int i)) (h2 : fb ρ = some (.int j)) : b2 fa fb ltI ρ = some (.bl (decide (i < j))) := b2_of h1 h2
theorem le_of {i j : Int} (h1 : fa ρ = some (.int i)) (h2 : fb ρ = some (.int j)) : b2 fa fb leI ρ = some (.bl (decide (i ≤ j))) := b2_of h1 h2
theorem gt_of {i j : Int} (h1 : fa ρ = some (.int i)) (h2 : fb ρ = some (.int j)) : b2 fa fb gtI ρ = some (.bl (decide (j < i))) := b2_of h1 h2
theorem ge_of {i j : Int} (h1 : fa ρ = some (.int i)) (h2 : fb ρ = some (.int j)) : b2 fa fb geI ρ = some (.bl (decide (j ≤ i))) := b2_of h1 h2
theorem andV_t (h1 : fa ρ = some (.bl true)) : andV fa fb ρ = fb ρ := by unfold andV; rw [h1]
theorem andV_f (h1 : fa ρ = some (.bl false)) : andV fa fb ρ = some (.bl false) := by unfold andV; rw [h1]
theorem orV_t (h1 : fa ρ = some (.bl true)) : orV fa fb ρ = some (.bl true) := by unfold orV; rw [h1]
theorem orV_f (h1 : fa ρ = some (.bl false)) : orV fa fb ρ = fb ρ := by unfold orV; rw [h1]
theorem andV_of {a b : Bool} (h1 : fa ρ = some (.bl a)) (h2 : a = true → fb ρ = some (.bl b)) : andV fa fb ρ = some (.bl (a && b)) := by
  cases a with
  | true => rw [andV_t h1, h2 rfl]; rfl
  | false => rw [andV_f h1]; rfl
theorem orV_of {a b : Bool} (h1 : fa ρ = some (.bl a)) (h2 : a = false → fb ρ = some (.bl b)) : orV fa fb ρ = some (.bl (a || b)) := by
  cases a with
  | true => rw [orV_t h1]; rfl
  | false => rw [orV_f h1, h2 rfl]; rfl
theorem notV_of {a : Bool} (h1 : fa ρ = some (.bl a)) : notV fa ρ = some (.bl (!a)) := by unfold notV; rw [h1]
theorem ifV_of {c : Ev → Option Bool} {b : Bool} (h : c ρ = some b) : ifV c fa fb ρ = if b = true then fa ρ else fb ρ := by
  unfold ifV; rw [h]; cases b <;> rfl
theorem andT_of {f g : Ev → Option Bool} {a b : Bool} (h1 : f ρ = some a) (h2 : a = true → g ρ = some b) : andT f g ρ = some (a && b) := by
  unfold andT; rw [h1]; cases a with
  | true => rw [Bool.true_and]; exact h2 rfl
  | false => rfl
theorem orT_of {f g : Ev → Option Bool} {a b : Bool} (h1 : f ρ = some a) (h2 : a = false → g ρ = some b) : orT f g ρ = some (a || b) := by
  unfold orT; rw [h1]; cases a with
  | true => rfl
  | false => rw [Bool.false_or]; exact h2 rfl
theorem notT_of {f : Ev → Option Bool} {a : Bool} (h1 : f ρ = some a) : notT f ρ = some (!a) := by unfold notT; rw [h1]; rfl
theorem rng1_of {n : Nat} (h : fa ρ = some (.int n)) (hn : n ≤ 1000000) : rng1 fa ρ = some (rangeD 0 n) := by
  unfold rng1
  rw [h]
  show (if _ then _ else _) = _
  rw [if_pos (by omega), Int.toNat_natCast]
theorem iOf_of {ds : List D} (h : fa ρ = some x) (hs : seqD x = some ds) : iOf fa ρ = some ds := by unfold iOf; rw [h]; exact hs
theorem mkL_of {g : Ev → Option (List D)} {ds : List D} (h : g ρ = some ds) (hl : ds.length ≤ 1000000) : mkLst g ρ = some (.lst ds) := by unfold mkLst; rw [h, Option.bind_some, if_pos (len_le hl)]
theorem mkT_of {g : Ev → Option (List D)} {ds : List D} (h : g ρ = some ds) (hl : ds.length ≤ 1000000) : mkTup g ρ = some (.tup ds) := by unfold mkTup; rw [h, Option.bind_some, if_pos (len_le hl)]
end
theorem cut_from {α : Type} (xs : List α) (k : Nat) : cutD xs (some (k : Int)) none = xs.drop k := by
  unfold cutD
  rw [HT.sIx_nat, HT.sIx_none]
  rw [List.take_of_length_le (by rw [List.length_drop]; omega)]
  by_cases h : k ≤ xs.length
  · rw [Nat.min_eq_left h]
  · rw [Nat.min_eq_right (by omega), List.drop_length, List.drop_eq_nil_of_le (by omega)]
theorem cut_to {α : Type} (xs : List α) (k : Nat) : cutD xs none (some (k : Int)) = xs.take k := by
  unfold cutD
  rw [HT.sIx_nat, HT.sIx_none, List.drop_zero, Nat.sub_zero]
  by_cases h : k ≤ xs.length
  · rw [Nat.min_eq_left h]
  · rw [Nat.min_eq_right (by omega), List.take_length, List.take_of_length_le (by omega)]
theorem cutS_codes (z : Str) (lo hi : Option Int) : (cutS z lo hi).cps.toList = cutD z.cps.toList lo hi := by
  unfold cutS cutD
  rw [str_len]
/-- the item at a place -/
theorem at_get {α : Type} {xs : List α} {j : Nat} (h : j < xs.length) : atI xs (j : Int) = some xs[j] := atI_nat (List.getElem?_eq_getElem h)
theorem at_ints {rs : List Int} {j : Nat} (h : j < rs.length) : atI (rs.map D.int) (j : Int) = some (.int rs[j]) := atI_nat (by rw [List.getElem?_map, List.getElem?_eq_getElem h]; rfl)
theorem mod_nat (x : Int) {m : Nat} (h : 0 < m) : ∃ n : Nat, x % (m : Int) = (n : Int) ∧ n < m := by
  obtain ⟨n, e⟩ := Int.eq_ofNat_of_zero_le (Int.emod_nonneg x (show (m : Int) ≠ 0 by omega))
  have := Int.emod_lt_of_pos x (show (0 : Int) < (m : Int) by omega)
  exact ⟨n, e, by omega⟩
theorem range_get {lo : Int} {n i : Nat} {d : D} (h : (rangeD lo n)[i]? = some d) : i < n ∧ d = .int (lo + i) := by
  unfold rangeD at h
  rw [List.getElem?_map] at h
  cases q : (List.range n)[i]? with
  | none => rw [q] at h; cases h
  | some j =>
    rw [q] at h
    have hl : i < n := by
      have := (List.getElem?_eq_some_iff.mp q).1
      simpa using this
    rw [List.getElem?_range hl] at q
    cases q
    exact ⟨hl, (Option.some.inj h).symm⟩
theorem rangeD_len (lo : Int) (n : Nat) : (rangeD lo n).length = n := by simp [rangeD]
theorem toDs_ints (rs : List Int) : O.toDs (rs.map fun r => .dat (.int r)) = some (rs.map .int) := by
  have := toDs_dat (rs.map D.int)
  rw [List.map_map] at this
  exact this
theorem okMulR {i j : Int} (h : -(2 ^ 64) < j ∧ j < 2 ^ 64) : okMul i j = true := by
  unfold okMul
  exact decide_eq_true (.inr h)
theorem okMulL {i j : Int} (h : -(2 ^ 64) < i ∧ i < 2 ^ 64) : okMul i j = true := by
  unfold okMul
  exact decide_eq_true (.inl h)
theorem str_eq (x y : Str) : x = y ↔ x.cps.toList = y.cps.toList := by
  constructor
  · rintro rfl; rfl
  · intro h
    cases x; cases y
    congr 1
    exact Array.toList_inj.mp h
theorem end_of {K : PySem.W.Frag} {H : Hp} {a : Addr} {m : List D → Option D} {n : Nat} {E : XK} (hm : ∀ ns : List Int, ns.length ≤ n → m [.lst (ns.map .int)] = some (.bl true)) {ns : List Int} (hl : ns.length ≤ n) (hS : SqX K H a (ns.map V.int)) : spP K 1 m [.ref a] H (fun v _ => v = .bl true) E :=
  ⟨rfl, H, [], [], [.lst (ns.map .int)], .bl true, ⟨Same.refl _, [], .nil, List.nodup_nil, fun _ h => nomatch h⟩, .cons (.lst hS (ints_dvs ns)) .nil, hm ns hl, fun _ _ v _ _ d => by cases d; rfl⟩
end PD

namespace PD
open PySem PySem.Spec L2

/-! ### own things looked at as data -/
def O.vw (o : O) : O := match o.toD with
  | some d => .dat d
  | none => .unk
def flatD : D → Bool
  | .non => true
  | .bl _ => true
  | .int _ => true
  | .str _ => true
  | _ => false
theorem Dv.flat {K : PySem.W.Frag} {M M' : Hp} {v : V} {d : D} (h : Dv K M v d) (f : flatD d = true) : Dv K M' v d := by
  cases h with
  | non => exact .non
  | bl b => exact .bl b
  | int i => exact .int i
  | str x => exact .str x
  | lst _ _ => cases f
  | tup _ _ => cases f
  | dic _ _ _ => cases f
  | obj _ _ _ _ => cases f
section
variable {K : PySem.W.Frag} {M H : Hp}
theorem Ows.view {Ma : Hp} (s : Same M Ma) : ∀ {os : List O} {vs : List (Option V)} {fp : List Addr}, Ows K M H os vs fp → (∀ a ∈ fp, Ma a = H a) → Ows K Ma H (os.map O.vw) vs []
  | _, _, _, .nil, _ => .nil
  | o :: _, _, _, .cons (v := v) (f1 := f1) h hs, k => by
    have t := Ows.view s hs fun a ha => k a (List.mem_append_right _ ha)
    have e : ([] : List Addr) = [] ++ [] := rfl
    rw [e, List.map_cons]
    refine .cons ?_ t
    unfold O.vw
    cases q : o.toD with
    | none => exact .unk
    | some d =>
      cases v with
      | none => cases h; unfold O.toD at q; cases q
      | some v => exact .dat (Ow.frz s h (fun a ha => k a (List.mem_append_left _ ha)) q)
theorem Rep.view {ρ fo : List O} {σ fv : List (Option V)} (R : Rep K M H (ρ ++ fo) (σ ++ fv)) (l : σ.length = ρ.length) :
    ∃ Ma, Same M Ma ∧ Rep K Ma H (ρ.map O.vw ++ []) (σ ++ []) ∧ ∀ M2 H', Same Ma M2 → Same M2 H' → Rep K M H' (ρ ++ fo) (σ ++ fv) := by
  obtain ⟨sm, fp, w, nd, nm⟩ := R
  obtain ⟨fa, fb, e, w1, w2⟩ := w.split l
  have s1 : Same M (fun a => if a ∈ fp then H a else M a) := fun b y q => by
    have : b ∉ fp := fun z => by rw [nm b z] at q; cases q
    show (if b ∈ fp then H b else M b) = some y
    rw [if_neg this]; exact q
  have s2 : Same (fun a => if a ∈ fp then H a else M a) H := fun b y q => by
    have q : (if b ∈ fp then H b else M b) = some y := q
    split at q
    · exact q
    · exact sm b y q
  refine ⟨_, s1, ⟨s2, [], ?_, List.nodup_nil, fun a ha => nomatch ha⟩, fun M2 H' k1 k2 => ⟨?_, fp, w.frame (Same.refl _) fun a ha => ?_, nd, nm⟩⟩
  · rw [List.append_nil, List.append_nil]
    exact Ows.view s1 w1 fun a ha => if_pos (by rw [e]; exact List.mem_append_left _ ha)
  · exact s1.trans (k1.trans k2)
  · have hd := w.dom a ha
    cases q : H a with
    | none => exact absurd q hd
    | some u => exact k2 _ _ (k1 _ _ (show (if a ∈ fp then H a else M a) = some u by rw [if_pos ha]; exact q))
end
def vwP (f : Ev → Option D) (ρ : Ev) : Option D := (f (ρ.map O.vw)).bind fun d => if flatD d = true then some d else none
def vwT (f : Ev → Option Bool) (ρ : Ev) : Option Bool := f (ρ.map O.vw)
section
variable {X : Cx} {W : WX} {pos : Pos} {e : Expr}
theorem pVw {f : Ev → Option D} (h : PE X e (tP X.K f)) : PE X e (tP X.K (vwP f)) := PE.imp h fun σ H Q ⟨M, ρ, fo, fv, d, R, l, e, k⟩ => by
  unfold vwP at e
  cases q : f (ρ.map O.vw) with
  | none => rw [q] at e; cases e
  | some d' =>
    rw [q, Option.bind_some] at e
    split at e
    · rename_i hf
      cases e
      obtain ⟨Ma, s1, R1, back⟩ := R.view l
      exact ⟨Ma, ρ.map O.vw, [], [], _, R1, by simpa using l, q, fun M2 H2 v s2 R2 d2 => k M H2 v (Same.refl _) (back M2 H2 s2 R2.same) (d2.flat hf)⟩
    · cases e
theorem tVw {f : Ev → Option Bool} (h : PT X e (tT X.K f)) : PT X e (tT X.K (vwT f)) := PT.imp h fun σ H Q ⟨M, ρ, fo, fv, d, R, l, e, k⟩ => by
  obtain ⟨Ma, s1, R1, back⟩ := R.view l
  exact ⟨Ma, ρ.map O.vw, [], [], d, R1, by simpa using l, e, fun M2 H2 s2 R2 => k M H2 (Same.refl _) (back M2 H2 s2 R2.same)⟩
end


/-! ### an own thing in a slot is changed -/
section
variable {K : PySem.W.Frag} {M H : Hp}
theorem Ows.at_ {os : List O} {vs : List (Option V)} {fp : List Addr} {k : Nat} {o : O} (w : Ows K M H os vs fp) (e : os[k]? = some o) : ∃ v fa f fb, vs[k]? = some v ∧ fp = fa ++ (f ++ fb) ∧ Ow K M H o v f ∧
    ∀ {M' H' : Hp} {o' : O} {f' : List Addr}, Same M M' → (∀ a ∈ fa ++ fb, H' a = H a) → Ow K M' H' o' v f' → Ows K M' H' (os.set k o') vs (fa ++ (f' ++ fb)) := by
  induction os generalizing k vs fp with
  | nil => simp at e
  | cons o1 os ih =>
    cases w with
    | cons h hs =>
      rename_i v f1 vs f2
      cases k with
      | zero =>
        simp at e
        subst e
        refine ⟨v, [], f1, f2, rfl, rfl, h, fun {M' H' o' f'} s k h' => ?_⟩
        show Ows K M' H' (o' :: os) (v :: vs) (f' ++ f2)
        exact .cons h' (hs.frame s fun a ha => k a ha)
      | succ k =>
        obtain ⟨v', fa, f, fb, e1, e2, h', up⟩ := ih hs (by simpa using e)
        refine ⟨v', f1 ++ fa, f, fb, by simpa using e1, by rw [e2, List.append_assoc], h', fun s kk h'' => ?_⟩
        have := Ows.cons (h.frame s fun a ha => kk a (by simp [ha])) (up s (fun a ha => kk a (by simp at ha ⊢; rcases ha with ha | ha <;> simp [ha])) h'')
        rw [List.append_assoc]
        exact this
/-- the thing in slot i, and temporaries that may go into it -/
theorem Rep.own {ρ tmp fo : List O} {σ tv fv : List (Option V)} (R : Rep K M H (ρ ++ (tmp ++ fo)) (σ ++ (tv ++ fv))) (l : σ.length = ρ.length) (lt : tv.length = tmp.length) {i : Nat} {o : O} (e : ρ[i]? = some o) :
    ∃ v f ft, σ[i]? = some v ∧ Ow K M H o v f ∧ Ows K M H tmp tv ft ∧ (f ++ ft).Nodup ∧ (∀ b ∈ f ++ ft, M b = none) ∧
      ∀ (M' H' : Hp) (o' : O) (f' : List Addr), Same M M' → Same M' H' → (∀ b, b ∉ f → H b ≠ none → H' b = H b) → Ow K M' H' o' v f' → (∀ b, f'.count b ≤ f.count b + ft.count b) → (∀ b, M b = none → H b ≠ none → M' b = none) → Rep K M' H' (ρ.set i o' ++ fo) (σ ++ fv) := by
  obtain ⟨s, fp, w, nd, nm⟩ := R
  obtain ⟨f1, f2, e1, w1, w2⟩ := w.split l
  obtain ⟨ft, f3, e2, w3, w4⟩ := w2.split lt
  obtain ⟨v, fa, f, fb, ev, e3, h, up⟩ := w1.at_ e
  subst e1; subst e2; subst e3
  rw [List.nodup_iff_count] at nd
  have cnt : ∀ b, fa.count b + f.count b + fb.count b + ft.count b + f3.count b ≤ 1 := fun b => by
    have := nd b
    simp only [List.count_append] at this
    omega
  have out : ∀ b, b ∈ fa ∨ b ∈ fb ∨ b ∈ f3 → b ∉ f := fun b hb hf => by
    have c := cnt b
    have c1 := List.count_pos_iff.mpr hf
    rcases hb with hb | hb | hb
    · have := List.count_pos_iff.mpr hb; omega
    · have := List.count_pos_iff.mpr hb; omega
    · have := List.count_pos_iff.mpr hb; omega
  refine ⟨v, f, ft, ev, h, w3, ?_, fun b hb => nm b ?_, fun M' H' o' f' sM s' kk h' hc hM => ⟨s', (fa ++ (f' ++ fb)) ++ f3, ?_, ?_, fun b hb => ?_⟩⟩
  · rw [List.nodup_iff_count]
    intro b
    have := cnt b
    rw [List.count_append]; omega
  · rcases List.mem_append.mp hb with hb | hb <;> simp [hb]
  · have d1 : ∀ b ∈ fa ++ fb, H b ≠ none := fun b hb => w1.dom b (by rcases List.mem_append.mp hb with hb | hb <;> simp [hb])
    have d3 : ∀ b ∈ f3, H b ≠ none := fun b hb => w4.dom b hb
    exact (up sM (fun b hb => kk b (out b (by rcases List.mem_append.mp hb with hb | hb <;> simp [hb])) (d1 b hb)) h').append (w4.frame sM fun b hb => kk b (out b (.inr (.inr hb))) (d3 b hb))
  · rw [List.nodup_iff_count]
    intro b
    have c1 := cnt b
    have c2 := hc b
    simp only [List.count_append]; omega
  · have hpos := List.count_pos_iff.mpr hb
    have c2 := hc b
    simp only [List.count_append] at hpos
    have : b ∈ (fa ++ (f ++ fb)) ++ (ft ++ f3) := by
      rw [← List.count_pos_iff]
      simp only [List.count_append]; omega
    exact hM b (nm b this) (w.dom b this)
end

/-! ### objects: self.f = e on an own one -/
def putO (f : Str) (y : O) : List Str → List O → List Str × List O
  | k :: ks, o :: os => if k = f then (k :: ks, y :: os) else (k :: (putO f y ks os).1, o :: (putO f y ks os).2)
  | _, _ => ([f], [y])
section
variable {K : PySem.W.Frag} {M H : Hp}
theorem putO_keys {f : Str} {v : V} {y : O} : ∀ (fs : List (Str × V)) (os : List O), os.length = fs.length → (putF f v fs).map (·.1) = (putO f y (fs.map (·.1)) os).1
  | [], [], _ => rfl
  | (g, x) :: fs, o :: os, h => by
    unfold putF putO
    simp only [List.map_cons]
    by_cases e : g = f
    · rw [if_pos e, if_pos e]; rfl
    · rw [if_neg e, if_neg e]
      simp only [List.map_cons]
      rw [putO_keys fs os (by simpa using h)]
theorem putO_ows {f : Str} {v : V} {y : O} {fy : List Addr} (hy : Ow K M H y (some v) fy) : ∀ {fs : List (Str × V)} {os : List O} {fp : List Addr}, Ows K M H os (fs.map fun p => some p.2) fp →
    ∃ fp', Ows K M H (putO f y (fs.map (·.1)) os).2 ((putF f v fs).map fun p => some p.2) fp' ∧ ∀ b, fp'.count b ≤ fp.count b + fy.count b
  | [], _, _, .nil => ⟨fy ++ [], .cons hy .nil, fun b => by simp⟩
  | (g, x) :: fs, _, _, .cons (o := o) (f1 := f1) (f2 := f2) (os := os) h hs => by
    unfold putF putO
    simp only [List.map_cons]
    by_cases e : g = f
    · rw [if_pos e, if_pos e]
      exact ⟨fy ++ f2, .cons hy hs, fun b => by simp only [List.count_append]; omega⟩
    · rw [if_neg e, if_neg e]
      obtain ⟨fp', w, c⟩ := putO_ows (f := f) hy hs
      exact ⟨f1 ++ fp', .cons h w, fun b => by have := c b; simp only [List.count_append]; omega⟩
end
def put (C : Addr) (i : Nat) (f : Str) (g : Ev → Option O) (ρ : Ev) : Option Fl := (g ρ).bind fun y => match ρ[i]? with
  | some (.obj C' ks os) => if C' = C ∧ os.length < 1000 then some (.nx (ρ.set i (.obj C (putO f y ks os).1 (putO f y ks os).2))) else none
  | _ => none
section
variable {X : Cx} {W : WX} {J : List Nat} {pos p p' : Pos} {e : Expr}
theorem sPut {C : Addr} {i : Nat} {x f : Str} {g : Ev → Option O} (c : Cls X.K C) (n : NoAttr X.K C f) (hv : PE X (.Name x p) (tVar i)) (he : PE X e (tO X.K g)) (hs : swapsWith e (some (.Attribute (.Name x p) f p')) pos.line X.env = pure false := by rfl) :
    PS X (.Assign [.Attribute (.Name x p) f p'] e pos) (tS X.K W J (put C i f g)) := PS.imp (ps_fld hv he hs) fun E σ H ⟨M, ρ, fo, fv, r, σ0, R, l, e, k⟩ => by
  unfold put at e
  cases q : g ρ with
  | none => rw [q] at e; cases e
  | some y =>
    rw [q, Option.bind_some] at e
    split at e
    · rename_i C' ks os eo
      split at e
      · rename_i hc
        obtain ⟨rfl, hlen⟩ := hc
        cases e
        refine ⟨M, ρ, fo, fv, y, R, l.1, q, fun M1 H1 v s1 R1 => ?_⟩
        have R1' : Rep X.K M1 H1 (ρ ++ ([y] ++ fo)) (σ ++ ([some v] ++ fv)) := R1
        obtain ⟨w, f1, ft, ew, h1, h2, nd, nm, up⟩ := R1'.own l.1 rfl eo
        cases h1 with
        | obj ha hdx hk ws =>
          rename_i a dx fs fp
          cases h2 with
          | cons hy hnil =>
            cases hnil
            rename_i fy
            refine ⟨.ref a, ew, a, C', dx, fs, rfl, ha, c, n, by rw [← List.length_map (f := fun p : Str × V => some p.2), ws.length]; exact hlen, ?_⟩
            have hd : ∀ b, b ∈ fp ∨ b ∈ fy → b ≠ a := fun b hb z => by
              subst z
              rw [List.nodup_iff_count] at nd
              have := nd b
              simp only [List.count_append, List.count_cons, beq_self_eq_true, if_true] at this
              rcases hb with hb | hb
              · have := List.count_pos_iff.mpr hb; omega
              · have := List.count_pos_iff.mpr hb; omega
            have hda : dx ≠ a := fun z => by
              rw [z, ha] at hdx; cases hdx
            have ma : M1 a = none := nm a (by simp)
            have sm : Same M1 (upd H1 a (.ins C' dx (putF f v fs))) := fun b u q => by
              rw [upd_ne (fun z => by subst z; rw [ma] at q; cases q)]; exact R1.same b u q
            obtain ⟨fp', w', cw⟩ := putO_ows (f := f) (hy.frame (Same.refl _) (H' := upd H1 a (.ins C' dx (putF f v fs))) fun b hb => upd_ne (hd b (.inr hb))) (ws.frame (Same.refl _) (H' := upd H1 a (.ins C' dx (putF f v fs))) fun b hb => upd_ne (hd b (.inl hb)))
            refine k M1 _ σ s1 (up M1 _ _ (a :: dx :: fp') (Same.refl _) sm (fun b hb _ => upd_ne fun z => hb (by simp [z])) (.obj upd_same (by rw [upd_ne hda]; exact hdx) ?_ ?_) (fun b => ?_) fun b hb _ => hb) (l.setR _)
            · rw [putO_keys (y := y) fs os (by rw [← ws.length]; simp), hk]
            · rw [hk] at w'; exact w'
            · have := cw b
              simp only [List.append_nil, List.count_cons, List.count_append] at this ⊢
              omega
      · cases e
    · cases e
end
end PD

namespace PD
open PySem PySem.Spec L2

section
variable {K : PySem.W.Frag} {M H : Hp}
theorem Rep.dropM {l m r : List O} {lv mv rv : List (Option V)} (R : Rep K M H (l ++ (m ++ r)) (lv ++ (mv ++ rv))) (e : lv.length = l.length) (e2 : mv.length = m.length) : Rep K M H (l ++ r) (lv ++ rv) := by
  obtain ⟨s, fp, w, nd, nm⟩ := R
  obtain ⟨fa, fb, e1, w1, w2⟩ := w.split e
  obtain ⟨fm, fr, e3, w3, w4⟩ := w2.split e2
  subst e1; subst e3
  refine ⟨s, fa ++ fr, w1.append w4, nd.sublist (List.Sublist.append (List.Sublist.refl _) (List.sublist_append_right _ _)), fun a ha => nm a ?_⟩
  rcases List.mem_append.mp ha with ha | ha <;> simp [ha]
theorem Rep.swap {l r : List O} {lv rv : List (Option V)} {o : O} {v : Option V} (R : Rep K M H (o :: (l ++ r)) (v :: (lv ++ rv))) (e : lv.length = l.length) : Rep K M H (l ++ o :: r) (lv ++ v :: rv) := by
  obtain ⟨s, fp, w, nd, nm⟩ := R
  cases w with
  | cons h hs =>
    rename_i f1 f2
    obtain ⟨fa, fb, e1, w1, w2⟩ := hs.split e
    subst e1
    have pm : (fa ++ (f1 ++ fb)).Perm (f1 ++ (fa ++ fb)) := by
      rw [← List.append_assoc, ← List.append_assoc]
      exact List.Perm.append_right fb List.perm_append_comm
    exact ⟨s, fa ++ (f1 ++ fb), w1.append (.cons h w2), pm.nodup_iff.mpr nd, fun a ha => nm a (pm.mem_iff.mp ha)⟩
/-- a new object -/
theorem Rep.newI {fo : List O} {fv : List (Option V)} (R : Rep K M H fo fv) {x dx C : Addr} (hx : H x = none) (hd : H dx = none) (ne : dx ≠ x) : Rep K M (upd (upd H dx (.own x)) x (.ins C dx [])) (.obj C [] [] :: fo) (some (.ref x) :: fv) := by
  obtain ⟨s, fp, w, nd, nm⟩ := R
  have xn : x ∉ fp := fun z => w.dom x z hx
  have dn : dx ∉ fp := fun z => w.dom dx z hd
  have ex : (upd H dx (.own x)) x = none := by rw [upd_ne ne.symm]; exact hx
  have kp : ∀ b, b ≠ x → b ≠ dx → (upd (upd H dx (.own x)) x (.ins C dx [])) b = H b := fun b h1 h2 => by rw [upd_ne h1, upd_ne h2]
  refine ⟨fun b u q => ?_, (x :: dx :: []) ++ fp, .cons (.obj upd_same (by rw [upd_ne ne]; exact upd_same) rfl .nil) (w.frame (Same.refl _) fun a ha => kp a (fun z => xn (z ▸ ha)) (fun z => dn (z ▸ ha))), ?_, fun a ha => ?_⟩
  · have q' := s b u q
    rw [kp b (ne_of_none q' hx) (ne_of_none q' hd)]; exact q'
  · show (x :: dx :: fp).Nodup
    rw [List.nodup_cons, List.nodup_cons]
    exact ⟨by simp [ne.symm, xn], dn, nd⟩
  · have ha : a ∈ x :: dx :: fp := ha
    rcases List.mem_cons.mp ha with rfl | ha
    · exact s.free hx
    · rcases List.mem_cons.mp ha with rfl | ha
      · exact s.free hd
      · exact nm a ha
end

/-! ### __init__ -/
def envI (C : Addr) (n : Nat) (ds : List D) : Ev := .obj C [] [] :: (ds.map .dat ++ List.replicate (n - (ds.length + 1)) .unk)
def outI (r : Fl) : Option O := match r with
  | .nx ρ => ρ[0]?
  | .rt (.dat .non) ρ => ρ[0]?
  | _ => none
def runI (C : Addr) (n : Nat) (b : Ev → Option Fl) (ds : List D) : Option O := (b (envI C n ds)).bind outI
def spI (K : PySem.W.Frag) (C : Addr) (n : Nat) (m : List D → Option O) : Sp := fun vs H Q _ => ∃ x ws M fo fv ds o, vs = .ref x :: ws ∧ ws.length + 1 = n ∧ Rep K M H (.obj C [] [] :: fo) (some (.ref x) :: fv) ∧ Dvs K M ws ds ∧ m ds = some o ∧
  ∀ M' H', Same M M' → Rep K M' H' (o :: fo) (some (.ref x) :: fv) → Q .non H'
section
variable {P : Program} {w : World} {K : PySem.W.Frag} {mg : Str → Option Value} {base : Heap}
theorem fnI {x qual : Str} {st : Stmt} {f C : Addr} {fd : FuncData} {N ps : List Str} {k : Nat} {b : Ev → Option Fl} (F : Fun K x qual st f fd) (S : FnScope N ps (defScope st))
    (hb : ∀ (cdv : Value) (A : Around) (outer : List Env) (s : Shared) (H : Hp) (E : XK), Room k (A.deeper (PyProof.Rows.envOfC qual (defScope st) s.heap.objs.size f cdv)) →
      PSs (cxOf CX0 P w K mg base N qual (defScope st) f cdv A outer s H E).nox (defBody st) (tS K W0 [0] b)) : FnOk P w K mg base CX0 (k + 1) f fd ps (spI K C ps.length (runI C N.length b)) := by
  refine F.ok S (fun vs H Q E h => ?_) fun cdv A outer s H vs Q E hr h => ⟨_, hb cdv A outer s H E hr, ?_⟩
  · obtain ⟨x, ws, M, fo, fv, ds, o, rfl, hl, _⟩ := h
    simpa using hl
  obtain ⟨x, ws, M, fo, fv, ds, o, rfl, hl, R, dv, e, kk⟩ := h
  have hlen := dv.length
  have R1 : Rep K M H (envI C N.length ds ++ fo) (L2.start N (.ref x :: ws) ++ fv) := by
    obtain ⟨s, fp, w, nd, nm⟩ := R
    cases w with
    | cons h1 h2 =>
      rename_i f1 f2
      refine ⟨s, f1 ++ (([] ++ []) ++ f2), ?_, by simpa using nd, fun a ha => nm a (by simpa using ha)⟩
      unfold envI L2.start
      rw [List.length_cons, hlen]
      exact .cons h1 (((ows_dat dv).append (ows_unk _)).append h2)
  have l1 : (L2.start N (.ref x :: ws)).length = (envI C N.length ds).length := by simp [L2.start, envI, hlen]
  unfold runI at e
  cases q : b (envI C N.length ds) with
  | none => rw [q] at e; cases e
  | some r =>
    rw [q, Option.bind_some] at e
    have fin : ∀ {ρ : Ev} {M1 H1 : Hp} {σ1 : L2.St} {tm : List O} {tv : List (Option V)}, ρ[0]? = some o → tv.length = tm.length → Same M M1 → Rep K M1 H1 (ρ ++ (tm ++ fo)) (σ1 ++ (tv ++ fv)) → Lk [0] (L2.start N (.ref x :: ws)) σ1 ρ → Q .non H1 := by
      intro ρ M1 H1 σ1 tm tv eo lt s1 R2 lk
      have h0 := lk.2 0 (by simp)
      have h0' : σ1[0]? = some (some (.ref x)) := h0.trans (by simp [L2.start])
      cases ρ with
      | nil => simp at eo
      | cons o' ρt =>
        cases σ1 with
        | nil => simp at h0'
        | cons v' σt =>
          simp at eo h0'
          subst eo; subst h0'
          have lt' : σt.length = ρt.length := by have := lk.1; simpa using this
          refine kk M1 H1 s1 ?_
          have R3 : Rep K M1 H1 ([o'] ++ ((ρt ++ tm) ++ fo)) ([some (.ref x)] ++ ((σt ++ tv) ++ fv)) := by simpa using R2
          exact R3.dropM rfl (by simp [lt', lt])
    refine ⟨M, _, fo, fv, r, L2.start N (.ref x :: ws), R1, ⟨l1, fun _ _ => rfl⟩, q, ?_⟩
    cases r with
    | nx ρ => exact fun M1 H1 σ1 s1 R2 lk => fin (tm := []) (tv := []) e rfl s1 R2 lk
    | rt o' ρ =>
      cases o' with
      | dat d =>
        cases d with
        | non =>
          have e : ρ[0]? = some o := e
          intro M1 H1 σ1 v s1 R2 lk
          obtain ⟨y, ey, dy⟩ := R2.datAt lk.1 rfl
          cases ey
          cases dy
          exact fin (tm := [.dat .non]) (tv := [some .non]) e rfl s1 R2 lk
        | _ => cases e
      | _ => cases e
    | bk ρ => cases e
    | ct ρ => cases e
    | ex x ρ => cases e
end
section
variable {X : Cx} {W : WX} {pos p : Pos} {e : Expr} {es : List Expr} {ga : Ev → Option (List D)} {k n : Nat} {f C : Addr} {fd : FuncData} {ps : List Str} {x : Str}
/-- what C(..) gives: from the data of the arguments -/
def cO (g : Ev → Option (List D)) (m : List D → Option O) (ρ : Ev) : Option O := (g ρ).bind m
def lenO? (n : Nat) (m : List D → Option O) (ds : List D) : Option O := if ds.length = n then m ds else none
theorem make_of {K : PySem.W.Frag} {m : List D → Option O} {ds : List D} {o : O} {M H : Hp} {fo : List O} {fv : List (Option V)} {l : List O} {lv : List (Option V)} {vs : List V} {Q : VK} {E : XK} (hl : lv.length = l.length) (R : Rep K M H (l ++ fo) (lv ++ fv)) (dv : Dvs K M vs ds) (hn : ds.length + 1 = n) (e : m ds = some o)
    (k : ∀ M' H' v, Same M M' → Rep K M' H' (l ++ o :: fo) (lv ++ some v :: fv) → Q v H') (x dx : Addr) (hx : H x = none) (hd : H dx = none) (ne : dx ≠ x) :
    spI K C n m (.ref x :: vs) (upd (upd H dx (.own x)) x (.ins C dx [])) (fun v H2 => v = .non ∧ Q (.ref x) H2) E :=
  ⟨x, vs, M, l ++ fo, lv ++ fv, ds, o, rfl, by rw [dv.length]; exact hn, R.newI hx hd ne, dv, e, fun M2 H2 s2 R2 => ⟨rfl, k M2 H2 _ s2 (R2.swap hl)⟩⟩
theorem oMake {m : List D → Option O} (Mc : Mk X.K C f) (F : FnOk X.prog X.w X.K X.mg X.base CX0 k f fd ps (spI X.K C (n + 1) m)) (hr : Room (k + 1) X.A) (hm : X.mg x = some (.ref C)) (hb : Binds X.K fd ps []) (ha : PA X (e :: es) (tAr X.K ga)) (hg : Gl X x := by rfl)
    (hdb : (x == ("__debug__" : Str)) = false := by decide) (he : starEach (e :: es) X.env = (false, eval e X.env) :: starEach es X.env := by rfl) (hpl : (backTo pos (starEach es X.env)).any (·.1) = false := by rfl) :
    PE X (.Call (.Name x p) (e :: es) [] pos) (tO X.K (cO ga (lenO? n m))) := PE.imp (pe_make Mc F hr hg hm hb .nil (E := E0) pass0 ha hdb he hpl) fun σ H Q ⟨M, ρ, fo, fv, o, R, l, e, k⟩ => by
  unfold cO lenO? at e
  cases q : ga ρ with
  | none => rw [q] at e; cases e
  | some ds =>
    rw [q, Option.bind_some] at e
    split at e
    · rename_i hn
      refine ⟨M, ρ, fo, fv, ds, R, l, q, fun M1 H1 vs s1 R1 d1 x dx hx hd ne => ?_⟩
      rw [List.append_nil]
      exact make_of l R1 d1 (by rw [hn]) e (fun M2 H2 v s2 R2 => k M2 H2 v (s1.trans s2) R2) x dx hx hd ne
    · cases e
/-! ### a field of a frozen object -/
def fldD (C : Addr) (f : Str) : D → Option D
  | .obj C' ks ds => if C' = C then (ks.zip ds).lookup f else none
  | _ => none
theorem fld_get {K : PySem.W.Frag} {M : Hp} {f : Str} {d : D} : ∀ {fs : List (Str × V)} {ds : List D}, Dvs K M (fs.map (·.2)) ds → ((fs.map (·.1)).zip ds).lookup f = some d → ∃ v, fs.lookup f = some v ∧ Dv K M v d
  | [], _, .nil, e => by cases e
  | (g, x) :: fs, _, .cons h hs, e => by
    simp only [List.map_cons, List.zip_cons_cons, List.lookup] at e ⊢
    by_cases z : f = g
    · subst z
      simp only [beq_self_eq_true] at e ⊢
      cases e
      exact ⟨x, rfl, h⟩
    · have z' : (f == g) = false := by simpa using z
      rw [z'] at e ⊢
      exact fld_get hs e
theorem pFld {fe : Ev → Option D} {f : Str} (c : Cls X.K C) (na : NoAttr X.K C f) (he : PE X e (tP X.K fe)) (hb : attributeBase e f X.env (eval e X.env) = eval e X.env := by rfl) : PE X (.Attribute e f pos) (tP X.K (b1 fe (fldD C f))) :=
  PE.imp (pe_fld he hb) fun σ H Q ⟨M, ρ, fo, fv, d, R, l, e, k⟩ => by
    obtain ⟨x, ea, eg⟩ := b1_some e
    unfold fldD at eg
    split at eg
    · rename_i C' ks ds
      split at eg
      · rename_i hC
        subst hC
        refine ⟨M, ρ, fo, fv, _, R, l, ea, fun M1 H1 v1 s1 R1 d1 => ?_⟩
        cases d1 with
        | obj ha hdx hk hs =>
          subst hk
          obtain ⟨v, ev, dv⟩ := fld_get hs eg
          exact ⟨_, _, _, _, v, rfl, R1.same _ _ ha, c, na, ev, k M1 H1 v s1 R1 dv⟩
      · cases eg
    · cases eg

/-! ### methods, properties, operators of frozen objects -/
def selfC (C : Addr) : D → Bool
  | .obj C' _ _ => decide (C' = C)
  | _ => false
/-- o.m(..): from the data of o and of the arguments -/
def mC (C : Addr) (nm : Str) (fo : Ev → Option D) (ga : Ev → Option (List D)) (n : Nat) (m : List D → Option D) (ρ : Ev) : Option D := (fo ρ).bind fun x => match x with
  | .obj C' ks ds => if C' = C ∧ (ks.zip ds).lookup nm = none then (ga ρ).bind fun as => if as.length + 1 = n then m (.obj C' ks ds :: as) else none else none
  | _ => none
theorem fld_none {K : PySem.W.Frag} {M : Hp} {f : Str} : ∀ {fs : List (Str × V)} {ds : List D}, Dvs K M (fs.map (·.2)) ds → ((fs.map (·.1)).zip ds).lookup f = none → fs.lookup f = none
  | [], _, .nil, e => rfl
  | (g, x) :: fs, _, .cons h hs, e => by
    simp only [List.map_cons, List.zip_cons_cons, List.lookup] at e ⊢
    by_cases z : f = g
    · subst z
      simp only [beq_self_eq_true] at e
      cases e
    · have z' : (f == g) = false := by simpa using z
      rw [z'] at e ⊢
      exact fld_none hs e
theorem meth_of {K : PySem.W.Frag} {C : Addr} {nm : Str} {fo : Ev → Option D} {ga : Ev → Option (List D)} {n : Nat} {m : List D → Option D} {σ : L2.St} {H : Hp} {Q : VK} (h : tP K (mC C nm fo ga n m) σ H Q) : tMeth C nm (spP K n m) [] E0 (tP K fo) (tAr K ga) σ H Q := by
  obtain ⟨M, ρ, fr, fv, d, R, l, e, k⟩ := h
  unfold mC at e
  cases q : fo ρ with
  | none => rw [q] at e; cases e
  | some x =>
    rw [q, Option.bind_some] at e
    cases x with
    | obj C' ks ds =>
      change (if C' = C ∧ (ks.zip ds).lookup nm = none then (ga ρ).bind fun as => if as.length + 1 = n then m (.obj C' ks ds :: as) else none else none) = some d at e
      split at e
      · rename_i hc
        obtain ⟨rfl, hno⟩ := hc
        refine ⟨M, ρ, fr, fv, _, R, l, q, fun M1 H1 v1 s1 R1 d1 => ?_⟩
        cases q2 : ga ρ with
        | none => rw [q2] at e; cases e
        | some as =>
          rw [q2, Option.bind_some] at e
          split at e
          · rename_i hn
            have d1' := d1
            cases d1 with
            | obj ha hdx hk hs =>
              subst hk
              refine ⟨_, _, _, rfl, R1.same _ _ ha, fld_none hs hno, M1, ρ, fr, fv, as, R1, l, q2, fun M2 H2 vs s2 R2 d2 => ⟨?_, M2, ρ ++ fr, σ ++ fv, _, d, R2, .cons (d1'.mono s2) (by rw [List.append_nil]; exact d2), e, fun M3 H3 v s3 R3 d3 => k M3 H3 v (s1.trans (s2.trans s3)) R3 d3⟩⟩
              rw [List.append_nil, List.length_cons, d2.length]; exact hn
          · cases e
      · cases e
    | _ => cases e
theorem pMeth {nm : Str} {o : Expr} {fo : Ev → Option D} {apos : Pos} {m : List D → Option D} {pl : Sem Bool} (c : Cls X.K C) (hm : Meth X.K C nm f) (F : FnOk X.prog X.w X.K X.mg X.base CX0 k f fd ps (spP X.K n m)) (hr : Room k X.A) (hb : Binds X.K fd ps []) (he : PE X o (tP X.K fo)) (ha : PA X (e :: es) (tAr X.K ga))
    (hst : starEach (e :: es) X.env = (false, eval e X.env) :: starEach es X.env := by rfl) (hpl : (backTo pos (starEach es X.env)).any (·.1) = false := by rfl)
    (ht : eval (.Call (.Attribute o nm apos) (e :: es) [] pos) X.env = (do
      let ov ← eval o X.env
      standAt apos.atName
      let (f, first) ← holding [ov] (getMethod ov nm pl)
      callWith pos f first (backTo pos (starEach (e :: es) X.env)) (backToKw pos (keywordEach [] X.env))) := by rfl) :
    PE X (.Call (.Attribute o nm apos) (e :: es) [] pos) (tP X.K (mC C nm fo ga n m)) := PE.imp (pe_meth he c hm F hr hb .nil pass0 ha hst hpl ht) fun _ _ _ h => meth_of h
theorem pMeth0 {nm : Str} {o : Expr} {fo : Ev → Option D} {apos : Pos} {m : List D → Option D} {pl : Sem Bool} (c : Cls X.K C) (hm : Meth X.K C nm f) (F : FnOk X.prog X.w X.K X.mg X.base CX0 k f fd ps (spP X.K n m)) (hr : Room k X.A) (hb : Binds X.K fd ps []) (he : PE X o (tP X.K fo))
    (ht : eval (.Call (.Attribute o nm apos) [] [] pos) X.env = (do
      let ov ← eval o X.env
      standAt apos.atName
      let (f, first) ← holding [ov] (getMethod ov nm pl)
      callWith pos f first (backTo pos (starEach [] X.env)) (backToKw pos (keywordEach [] X.env))) := by rfl) :
    PE X (.Call (.Attribute o nm apos) [] [] pos) (tP X.K (mC C nm fo aNil n m)) := PE.imp (pe_meth0 he c hm F hr hb .nil pass0 ht) fun σ H Q h => by
  obtain ⟨M, ρ, fr, fv, d, R, l, e, k⟩ := meth_of h
  refine ⟨M, ρ, fr, fv, d, R, l, e, fun M1 H1 v s1 R1 d1 => ?_⟩
  obtain ⟨a, dx, fs, ev, ea, hn, M2, ρ2, fr2, fv2, as, R2, l2, e2, k2⟩ := k M1 H1 v s1 R1 d1
  cases e2
  exact ⟨a, dx, fs, ev, ea, hn, k2 M2 H1 [] (Same.refl _) R2 .nil⟩
/-- o.f, a property -/
def prC (C : Addr) (m : List D → Option D) (x : D) : Option D := match x with
  | .obj C' ks ds => if C' = C then m [.obj C' ks ds] else none
  | _ => none
theorem pProp {nm : Str} {g pa : Addr} {fo : Ev → Option D} {m : List D → Option D} (c : Cls X.K C) (hp : PropOf X.K C nm pa g) (F : FnOk X.prog X.w X.K X.mg X.base CX0 k g fd ps (spP X.K 1 m)) (hr : Room (k + 1) X.A) (hb : Binds X.K fd ps []) (he : PE X e (tP X.K fo))
    (hab : attributeBase e nm X.env (eval e X.env) = eval e X.env := by rfl) : PE X (.Attribute e nm pos) (tP X.K (b1 fo (prC C m))) := PE.imp (pe_prop he c hp F hr hb .nil (E := E0) pass0 hab) fun σ H Q ⟨M, ρ, fr, fv, d, R, l, e, k⟩ => by
  obtain ⟨x, ea, eg⟩ := b1_some e
  unfold prC at eg
  split at eg
  · rename_i C' ks ds
    split at eg
    · rename_i hC
      subst hC
      refine ⟨M, ρ, fr, fv, _, R, l, ea, fun M1 H1 v1 s1 R1 d1 => ?_⟩
      have d1' := d1
      cases d1 with
      | obj ha hdx hk hs => exact ⟨_, _, _, rfl, R1.same _ _ ha, rfl, M1, ρ ++ fr, σ ++ fv, _, d, R1, .cons d1' .nil, eg, fun M3 H3 v s3 R3 d3 => k M3 H3 v (s1.trans s3) R3 d3⟩
    · cases eg
  · cases eg
/-- x op y, both of the class C -/
def opC (C : Addr) (m : List D → Option D) (x y : D) : Option D := if selfC C x = true ∧ selfC C y = true then (m [x, y]).bind fun d => some d else none
theorem obj_at {pins : List (Addr × Obj)} {σ : L2.St} {H : Hp} {s : Shared} (I : Inv X pins σ H s) {M : Hp} {fo : List O} {fv : List (Option V)} {v : V} {u : Value} {d : D} (R : Rep X.K M H fo fv) (dv : Dv X.K M v d) (hc : selfC C d = true) (r : RelV v u) :
    ∃ a ox od, u = .ref a ∧ v = .ref a ∧ PySem.W.InstAt s.heap a ox C (some od) := by
  cases dv with
  | obj ha hdx hk hs =>
    rename_i a C' dx fs ks ds
    have : C' = C := by simpa [selfC] using hc
    subst this
    obtain rfl : u = Value.ref a := r
    obtain ⟨mA, O, _, _, _, _⟩ := ins_get I.hok (R.same _ _ ha)
    obtain ⟨od, J, _⟩ := O.look
    exact ⟨a, _, od, rfl, rfl, J⟩
  | _ => cases hc
/-- what the number slots of the class are -/
structure OpOf (K : PySem.W.Frag) (C : Addr) (op : Operator) (f : Addr) : Prop where
  first : PySem.W.selfFirst K C = true
  at_ : PySem.W.findIn K (.ref C) (PySem.dunder op.info.2) = some (some (.ref f))
  fn : PySem.W.isFn K (.ref f) = true
theorem notImpl {v : V} {u : Value} (r : RelV v u) : u ≠ .notImplemented := fun z => by
  subst z
  cases v <;> first | (obtain ⟨_, h⟩ := r; cases h) | cases r
theorem ep_back {pins : List (Addr × Obj)} {σ : L2.St} {Q : VK} {u : Value} {s' : Shared} (h : EP X pins σ Q u s') : PySem.W.CmpBack (EP X pins σ Q) u s' := by
  obtain ⟨v, H', I', r, q⟩ := h
  have := notImpl r
  unfold PySem.W.CmpBack
  split
  · exact this rfl
  · exact ⟨v, H', I', r, q⟩
theorem oOpC {op : Operator} {m : List D → Option D} (hop : OpOf X.K C op f) (F : FnOk X.prog X.w X.K X.mg X.base CX0 k f fd ps (spP X.K 2 m)) (hr : Room k X.A) (hb : Binds X.K fd ps []) : OpR X (binaryOp op) (rD X.K (opC C m)) := by
  intro pins s σ H x y v u Q I rx ry ⟨M, fo, fv, dx, dy, d, R, d1, d2, e, kk⟩
  unfold opC at e
  split at e
  · rename_i hc
    obtain ⟨a, ox, od, ea, _, Ia⟩ := obj_at I R d1 hc.1 rx
    obtain ⟨b, oy, oe, eb, _, Ib⟩ := obj_at I R d2 hc.2 ry
    cases q : m [dx, dy] with
    | none => rw [q] at e; cases e
    | some d' =>
      rw [q] at e
      cases e
      subst ea
      obtain ⟨mm, fr⟩ := I.fr
      refine PySem.W.binop_K fr I.ok.mod.kin Ia (by rw [eb]; exact Ib.type) hop.first hop.at_ hop.fn ?_
      refine wpAny_mono (run_fn (us := [.ref a, u]) (vs := [x, y]) (ds := []) (dvs := []) (E := E0) F hr hb .nil pass0 I (.cons rx (.cons ry .nil)) ?_) (fun _ _ h => ep_back h) fun _ _ h => h
      exact ⟨rfl, M, fo, fv, [dx, dy], _, R, .cons d1 (.cons d2 .nil), q, kk⟩
  · cases e

/-- x op i, i an int -/
def opCI (C : Addr) (m : List D → Option D) (x y : D) : Option D := match y with
  | .int i => if selfC C x = true then m [x, .int i] else none
  | _ => none
structure OpOfI (K : PySem.W.Frag) (C : Addr) (op : Operator) (f : Addr) : Prop extends OpOf K C op f where
  back : ∃ rc, PySem.W.findIn K (.ref C) (dunderR op.info.2) = some rc ∧ (rc = none ∨ ∃ g : Addr, rc = some (.ref g))
  int1 : ∃ fo, PySem.W.findIn K (.type "int") (PySem.dunder op.info.2) = some fo
  int2 : ∃ ro, PySem.W.findIn K (.type "int") (dunderR op.info.2) = some ro
  sub : PySem.W.subIn K (.type "int") (.ref C) = some false
theorem oOpCI {op : Operator} {m : List D → Option D} (hop : OpOfI X.K C op f) (F : FnOk X.prog X.w X.K X.mg X.base CX0 k f fd ps (spP X.K 2 m)) (hr : Room k X.A) (hb : Binds X.K fd ps []) : OpR X (binaryOp op) (rD X.K (opCI C m)) := by
  intro pins s σ H x y v u Q I rx ry ⟨M, fo, fv, dx, dy, d, R, d1, d2, e, kk⟩
  unfold opCI at e
  split at e
  · rename_i j
    split at e
    · rename_i hc
      obtain ⟨a, ox, od, ea, _, Ia⟩ := obj_at I R d1 hc rx
      cases d2
      obtain ⟨t, rfl⟩ := ry
      subst ea
      obtain ⟨mm, fr⟩ := I.fr
      obtain ⟨rc, b1, b2⟩ := hop.back
      obtain ⟨fo', b3⟩ := hop.int1
      obtain ⟨ro', b4⟩ := hop.int2
      refine PySem.W.ksp_binT (T := "int") fr I.ok.mod.kin Ia (by rfl) hop.first hop.at_ hop.fn b1 b2 b3 b4 hop.sub ?_
      refine wpAny_mono (run_fn (us := [.ref a, .int j t]) (vs := [x, .int j]) (ds := []) (dvs := []) (E := E0) F hr hb .nil pass0 I (.cons rx (.cons ⟨t, rfl⟩ .nil)) ?_) (fun _ _ h => ep_back h) fun _ _ h => h
      exact ⟨rfl, M, fo, fv, [dx, .int j], d, R, .cons d1 (.cons (.int j) .nil), e, kk⟩
    · cases e
  · cases e
/-- ~x -/
def inC (C : Addr) (m : List D → Option D) (x : D) : Option D := if selfC C x = true then m [x] else none
theorem oInvC {m : List D → Option D} (h1 : PySem.W.findIn X.K (.ref C) "__invert__" = some (some (.ref f))) (h2 : PySem.W.isFn X.K (.ref f) = true) (F : FnOk X.prog X.w X.K X.mg X.base CX0 k f fd ps (spP X.K 1 m)) (hr : Room k X.A) (hb : Binds X.K fd ps []) : UnR X (unaryOp .Invert) (rD1 X.K (inC C m)) := by
  intro pins s σ H x v Q I rx ⟨M, fo, fv, dx, d, R, d1, e, kk⟩
  unfold inC at e
  split at e
  · rename_i hc
    obtain ⟨a, ox, od, ea, _, Ia⟩ := obj_at I R d1 hc rx
    subst ea
    obtain ⟨mm, fr⟩ := I.fr
    refine PySem.W.ksp_inv fr I.ok.mod.kin Ia h1 h2 ?_
    exact run_fn (us := [.ref a]) (vs := [x]) (ds := []) (dvs := []) (E := E0) F hr hb .nil pass0 I (.cons rx .nil) ⟨rfl, M, fo, fv, [dx], d, R, .cons d1 .nil, e, kk⟩
  · cases e
/-- what isinstance and == ask of an own class -/
structure ClsX (K : PySem.W.Frag) (C : Addr) : Prop where
  c : Cls K C
  ha : PySem.W.findIn K (.ref C) "__class__" = some (some (.builtin "object.__class__"))
  hn : PySem.W.specialIn K (.builtin "object.__class__") "__get__" = some (some (.builtin "getset_descriptor.__get__"))
  htk : PySem.W.takesIn K (.builtin "object.__class__") = some true
  hm : PySem.W.mroIn K C (.type "object") = some true
  ty : PySem.W.typeIn K (.ref C) = some (.type "type")
theorem sub_blt {K : PySem.W.Frag} {C : Addr} {d : D} {t : String} (e : tyD d = some t) : PySem.W.subIn K (.type t) (.ref C) = some false := by
  cases d <;> cases e <;> rfl

theorem ClsX.tyx {K : PySem.W.Frag} {M : Hp} {v : V} {C : Addr} {ks : List Str} {ds : List D} (c : ClsX K C) (h : Dv K M v (.obj C ks ds)) : TyX K M v (.ref C) := by
  cases h with
  | obj ha hdx hk hs => exact .base (.ins ha c.c c.ha c.hn c.htk c.hm)
/-- isinstance(x, C), C an own class: cs says what the own classes are to it -/
def isiC (cs : List (Addr × Bool)) (x : D) : Option D := match x with
  | .obj C' _ _ => (cs.lookup C').map .bl
  | x => (tyD x).map fun _ => .bl false
theorem isiC_cases {cs : List (Addr × Bool)} {x d : D} (h : isiC cs x = some d) : (∃ C' ks ds b, x = .obj C' ks ds ∧ cs.lookup C' = some b ∧ d = .bl b) ∨ ∃ t, tyD x = some t ∧ d = .bl false := by
  cases x with
  | obj C' ks ds =>
    left
    have h : (cs.lookup C').map D.bl = some d := h
    cases q : cs.lookup C' with
    | none => rw [q] at h; cases h
    | some b => rw [q] at h; cases h; exact ⟨C', ks, ds, b, rfl, q, rfl⟩
  | _ =>
    right
    cases h
    exact ⟨_, rfl, rfl⟩
structure IsC (K : PySem.W.Frag) (C : Addr) (cs : List (Addr × Bool)) : Prop where
  cl : (PySem.W.clsIn K C).isSome = true
  ty : PySem.W.typeIn K (.ref C) = some (.type "type")
  own : ∀ C' b, cs.lookup C' = some b → ClsX K C' ∧ PySem.W.kitOne K (.ref C') (.ref C) = some b
theorem pIsiC {a : Expr} {q : Pos} {fa : Ev → Option D} {y : Str} {cs : List (Addr × Bool)} (I : IsC X.K C cs) (hmC : X.mg y = some (.ref C)) (ha : PE X a (tP X.K fa)) (hm : X.mg "isinstance" = none) (hg : Gl X "isinstance" := by rfl) (hgT : Gl X y := by rfl)
    (hd : (y == ("__debug__" : Str)) = false := by decide)
    (hs : starEach [a, .Name y q] X.env = (false, eval a X.env) :: starEach [.Name y q] X.env := by rfl) (hs2 : starEach [.Name y q] X.env = (false, eval (.Name y q) X.env) :: starEach [] X.env := by rfl) (hpl : (backTo pos (starEach [.Name y q] X.env)).any (·.1) = false := by rfl) :
    PE X (.Call (.Name "isinstance" p) [a, .Name y q] [] pos) (tP X.K (b1 fa (isiC cs))) :=
  PE.imp (pe_callB call_isi hg hm (by decide +kernel) (pa_cons ha (pa_cons (pe_glob (v := .ref C) hgT hmC rfl hd) pa_nil hs2) hs) (by decide) (by decide) hs hpl) fun σ H Q ⟨M, ρ, fo, fv, d, R, l, e, k⟩ => by
    obtain ⟨x, ea, eg⟩ := b1_some e
    refine ⟨M, ρ, fo, fv, x, R, l, ea, fun M1 H1 v1 s1 R1 d1 => ?_⟩
    have blt : ∀ t, tyD x = some t → d = .bl false → ∃ (x c : V) (t u : Value) (b : Bool), [v1, V.ref C] = [x, c] ∧ ClsV c u ∧ TyX X.K H1 x t ∧ PySem.W.kitOne X.K t u = some b ∧ Q (.bl b) H1 := fun t ht hd => by
      subst hd
      refine ⟨v1, .ref C, .type t, .ref C, false, rfl, .own C, tyX_mono R1.same (tyX_of d1 ht), ?_, k M1 H1 _ s1 R1 (.bl _)⟩
      unfold PySem.W.kitOne
      rw [if_neg (by simp)]
      show (if ((PySem.W.clsIn X.K C).isSome && PySem.W.typeIn X.K (.ref C) == some (.type "type")) = true then PySem.W.subIn X.K (.type t) (.ref C) else none) = some false
      rw [I.ty, I.cl, if_pos (by simp)]
      exact sub_blt ht
    rcases isiC_cases eg with ⟨C', ks, ds, b, rfl, q, rfl⟩ | ⟨t, ht, hd⟩
    · obtain ⟨c', hk⟩ := I.own C' b q
      exact ⟨v1, .ref C, .ref C', .ref C, b, rfl, .own C, tyX_mono R1.same (c'.tyx d1), hk, k M1 H1 _ s1 R1 (.bl _)⟩
    · exact blt t ht hd
/-- x == y, x of the class C that has its own __eq__ -/
def eqC (C : Addr) (os : List Addr) (m : List D → Option D) (x y : D) : Option D := if selfC C x = true then match y with
  | .obj C' ks ds => if C' = C ∨ C' ∈ os then m [x, .obj C' ks ds] else none
  | y => (tyD y).bind fun _ => m [x, y] else none
theorem eqC_cases {C : Addr} {os : List Addr} {m : List D → Option D} {x y d : D} (h : eqC C os m x y = some d) : selfC C x = true ∧ m [x, y] = some d ∧ ((∃ C' ks ds, y = .obj C' ks ds ∧ (C' = C ∨ C' ∈ os)) ∨ ∃ t, tyD y = some t) := by
  unfold eqC at h
  split at h
  · rename_i hc
    refine ⟨hc, ?_⟩
    cases y with
    | obj C' ks ds =>
      change (if C' = C ∨ C' ∈ os then m [x, .obj C' ks ds] else none) = some d at h
      split at h
      · exact ⟨h, .inl ⟨C', ks, ds, rfl, by assumption⟩⟩
      · cases h
    | _ => exact ⟨h, .inr ⟨_, rfl⟩⟩
  · cases h
structure EqOf (K : PySem.W.Frag) (C f : Addr) (os : List Addr) : Prop where
  at_ : PySem.W.findIn K (.ref C) "__eq__" = some (some (.ref f))
  fn : PySem.W.isFn K (.ref f) = true
  cx : ClsX K C
  own : ∀ C' ∈ os, ClsX K C' ∧ PySem.W.subIn K (.ref C') (.ref C) = some false
theorem oEqC {m : List D → Option D} {os : List Addr} (hop : EqOf X.K C f os) (F : FnOk X.prog X.w X.K X.mg X.base CX0 k f fd ps (spP X.K 2 m)) (hr : Room k X.A) (hb : Binds X.K fd ps []) : OpR X (compareOp .Eq) (rD X.K (eqC C os m)) := by
  intro pins s σ H x y v u Q I rx ry ⟨M, fo, fv, dx, dy, d, R, d1, d2, e, kk⟩
  obtain ⟨hc, em, hy⟩ := eqC_cases e
  obtain ⟨a, ox, od, ea, _, Ia⟩ := obj_at I R d1 hc rx
  subst ea
  obtain ⟨mm, fr⟩ := I.fr
  have fin : ∀ tb, PySem.W.Looks (model X.prog X.w) s.heap (typeOf u) tb → PySem.W.notFirst X.K C tb = true → wpAny (model X.prog X.w) X.A (compareOp .Eq (.ref a) u) (EP X pins σ Q) X.xe s := fun tb L hn => by
    refine PySem.W.cmp_ofEq (PySem.W.cmp_K hr.units0 fr I.ok.mod.kin Ia L hn hop.at_ hop.fn ?_)
    refine wpAny_mono (run_fn (us := [.ref a, u]) (vs := [x, y]) (ds := []) (dvs := []) (E := E0) F hr hb .nil pass0 I (.cons rx (.cons ry .nil)) ?_) (fun _ _ h => ep_back h) fun _ _ h => h
    exact ⟨rfl, M, fo, fv, [dx, dy], d, R, .cons d1 (.cons d2 .nil), em, kk⟩
  have look : ∀ t, TyX X.K M y t → PySem.W.Looks (model X.prog X.w) s.heap (typeOf u) t := fun t ty => by
    obtain ⟨P, Z, p, _⟩ := kit_of I ry (tyX_mono R.same ty)
    exact Z.ty _ _ I.kIn p
  rcases hy with ⟨C', ks, ds, rfl, hC⟩ | ⟨t, ht⟩
  · by_cases z : C' = C
    · subst z
      exact fin _ (look _ (hop.cx.tyx d2)) (by unfold PySem.W.notFirst; simp)
    · obtain ⟨c', hs⟩ := hop.own C' (hC.resolve_left z)
      exact fin _ (look _ (c'.tyx d2)) (by unfold PySem.W.notFirst; rw [hs]; simp)
  · exact fin _ (look _ (tyX_of d2 ht)) (by unfold PySem.W.notFirst; rw [sub_blt ht]; simp)
end
end PD

namespace PD
open PySem PySem.Spec L2

section
variable {X : Cx} {W : WX} {J : List Nat} {pos p : Pos} {e : Expr} {es : List Expr} {ga : Ev → Option (List D)}
/-! ### calls of built-ins that give a new thing -/
theorem tCB_O {K : PySem.W.Frag} {g : Ev → Option (List D)} {f : List D → Option O} {σ : L2.St} {H : Hp} {Q : VK} (h : tO K (cO g f) σ H Q) : tCB (rOs K f) (tAr K g) σ H Q := by
  obtain ⟨M, ρ, fo, fv, o, R, l, e, k⟩ := h
  unfold cO at e
  cases q : g ρ with
  | none => rw [q] at e; cases e
  | some ds =>
    rw [q, Option.bind_some] at e
    exact ⟨M, ρ, fo, fv, ds, R, l, q, fun M1 H1 vs s1 R1 d1 => ⟨M1, ρ ++ fo, σ ++ fv, ds, o, R1, d1, e, fun M2 H2 v s2 R2 => k M2 H2 v (s1.trans s2) (R2.swap l)⟩⟩
theorem oCallB {id : String} {x : Str} {f : List D → Option O} (hc : CallR X (.builtin id) (rOs X.K f)) (hm : X.mg x = none) (hv : bootBuiltins x = some (.builtin id)) (ha : PA X (e :: es) (tAr X.K ga)) (hg : Gl X x := by rfl) (hn : x ≠ "__name__" := by decide) (hdb : (x == ("__debug__" : Str)) = false := by decide)
    (hpl : (backTo pos (starEach es X.env)).any (·.1) = false := by rfl) (hs : starEach (e :: es) X.env = (false, eval e X.env) :: starEach es X.env := by rfl) : PE X (.Call (.Name x p) (e :: es) [] pos) (tO X.K (cO ga f)) :=
  PE.imp (pe_callB hc hg hm hv ha hn hdb hs hpl) fun _ _ _ h => tCB_O h
theorem oCallT {T : String} {x : Str} {f : List D → Option O} (hc : CallR X (.type T) (rOs X.K f)) (hm : X.mg x = none) (hv : bootBuiltins x = some (.type T)) (ha : PA X (e :: es) (tAr X.K ga)) (hg : Gl X x := by rfl) (hn : x ≠ "__name__" := by decide) (hdb : (x == ("__debug__" : Str)) = false := by decide)
    (hpl : (backTo pos (starEach es X.env)).any (·.1) = false := by rfl) (hs : starEach (e :: es) X.env = (false, eval e X.env) :: starEach es X.env := by rfl) : PE X (.Call (.Name x p) (e :: es) [] pos) (tO X.K (cO ga f)) :=
  PE.imp (pe_callTy hc hg hm hv ha hn hdb hs hpl) fun _ _ _ h => tCB_O h
/-! ### list(x), tuple(x) -/
def listO : List D → Option O
  | [.lst ds] => some (.lst (ds.map .dat))
  | [.tup ds] => some (.lst (ds.map .dat))
  | _ => none
theorem cList : CallR X (.type "list") (rOs X.K listO) := CallR.imp call_list_of fun xs H Q ⟨M, fo, fv, ds, o, R, dv, e, k⟩ => by
  unfold listO at e
  split at e
  · cases e
    cases dv with
    | cons d1 dn =>
      cases dn
      cases d1 with
      | lst hs hd => exact ⟨_, _, rfl, .inl (seqX R.same hs), fun l hl => k M _ _ (Same.refl _) (Rep.newL (l := []) (lv := []) R rfl hl hd)⟩
  · cases e
    cases dv with
    | cons d1 dn =>
      cases dn
      cases d1 with
      | tup hs hd => exact ⟨_, _, rfl, .inr (sqT_same R.same hs), fun l hl => k M _ _ (Same.refl _) (Rep.newL (l := []) (lv := []) R rfl hl hd)⟩
  · cases e
def tupD : List D → Option D
  | [.lst ds] => some (.tup ds)
  | [.tup ds] => some (.tup ds)
  | _ => none
theorem cTup : CallR X (.type "tuple") (rDs X.K tupD) := CallR.imp call_tuple_of fun xs H Q ⟨M, fo, fv, ds, o, R, dv, e, k⟩ => by
  unfold tupD at e
  split at e
  · cases e
    cases dv with
    | cons d1 dn =>
      cases dn
      cases d1 with
      | @lst a xs _ hs hd =>
        refine ⟨_, _, rfl, .inl ⟨seqX R.same hs, fun l hl => ?_⟩⟩
        have s2 := same_updM (u := .tup xs) (R.same.free hl)
        exact k _ _ _ s2 (R.growM hl) (.tup (.inl (.inl upd_same)) (hd.mono s2))
  · cases e
    cases dv with
    | cons d1 dn =>
      cases dn
      have d1' := d1
      cases d1 with
      | tup hs hd => exact ⟨_, _, rfl, .inr ⟨sqT_same R.same hs, k M H _ (Same.refl _) R d1'⟩⟩
  · cases e
/-! ### sorted(x) -/
def pyT (d : D) : PyData := d.py.getD .none
def leD : D → D → Bool := PySem.W.dataLe false pyT
def SortOk (ds : List D) : Prop := (∀ d ∈ ds, d.py = some (pyT d) ∧ (pyT d).depth ≤ 60) ∧ PySem.W.AllAlike (ds.map pyT) ∧ PySem.W.Sortable (ds.map pyT) ∧ ds.length ≤ sizeLine
open Classical in
noncomputable def srtO : List D → Option O
  | [.lst ds] => if SortOk ds then some (.lst ((ds.mergeSort leD).map .dat)) else none
  | _ => none
theorem each_of {K : PySem.W.Frag} {M : Hp} : ∀ {vs : List V} {ds : List D} {us : List Value}, Dvs K M vs ds → Vals vs us → PySem.W.EachIs (fun u (d : D) => ∃ v, RelV v u ∧ Dv K M v d) us ds
  | _, _, _, .nil, .nil => .nil
  | _, _, _, .cons d ds, .cons r rs => .cons ⟨_, r, d⟩ (each_of ds rs)
theorem of_each {K : PySem.W.Frag} {M : Hp} : ∀ {us : List Value} {ds : List D}, PySem.W.EachIs (fun u (d : D) => ∃ v, RelV v u ∧ Dv K M v d) us ds → ∃ vs, Vals vs us ∧ Dvs K M vs ds
  | _, _, .nil => ⟨[], .nil, .nil⟩
  | _, _, .cons ⟨v, r, d⟩ t => by
    obtain ⟨vs, rs, ds⟩ := of_each t
    exact ⟨v :: vs, .cons r rs, .cons d ds⟩
theorem cSorted (hu : X.A.units + 64 < cLine) : CallR X (.builtin "sorted") (rOs X.K srtO) := by
  intro pins s σ H xs us Q I r ⟨M, fo, fv, ds, o, R, dv, e, k⟩
  unfold srtO at e
  split at e
  · rename_i ds
    split at e
    · rename_i ok
      cases e
      cases dv with
      | cons d1 dn =>
        cases dn
        cases d1 with
        | lst hs hd =>
          obtain ⟨its, rv, hl, _⟩ := I.list (seqX R.same hs)
          rw [Vals.ref1 r]
          obtain ⟨o1, o2, o3, o4⟩ := ok
          refine PySem.W.sorted_data (bs := ds) (enc := pyT) hl.isList (each_of hd rv) ?_ o2 o3 o4 (fun b hb => by have := (o1 b hb).2; omega) fun out hlen eo => ?_
          · have key : ∀ {vs : List V} {es : List D} {us : List Value}, (∀ d ∈ es, d.py = some (pyT d)) → Dvs X.K M vs es → Vals vs us → PySem.W.EachIs (fun u (d : D) => ∃ as, Reads s.heap u (pyT d) as) us es := by
              intro vs es
              induction es generalizing vs with
              | nil => intro us _ h2 h3; cases h2; cases h3; exact .nil
              | cons d es ih =>
                intro us h1 h2 h3
                cases h2 with
                | cons a b =>
                  cases h3 with
                  | cons c c' => exact .cons (Dp.reads I _ _ _ (dp_mono R.same (a.dp (h1 d List.mem_cons_self))) c) (ih (fun x hx => h1 x (List.mem_cons_of_mem _ hx)) b c')
            exact key (fun d hd => (o1 d hd).1) hd rv
          · obtain ⟨ep, he'⟩ := PyProof.Rows.sortedAll_at s.heap its out.toArray
            obtain ⟨vs, rs, dvs⟩ := of_each eo
            have hlen' : vs.length ≤ sizeLine := by rw [rs.length, hlen]; exact o4
            have hf := I.hok.fresh (Nat.le_succ s.heap.objs.size)
            exact ⟨.ref _, upd H (s.heap.objs.size + 1) (.lst vs), I.laid (t' := s.toks) (fun _ _ => PyProof.Rows.sortedAll_old) (Nat.le_succ _) ⟨hlen', out, ep, rs, by simpa using he'⟩, rfl, k M _ _ (Same.refl _) (Rep.newL (l := []) (lv := []) R rfl hf dvs)⟩
    · cases e
  · cases e
end
end PD

namespace PD
open PySem PySem.Spec L2

section
variable {X : Cx} {W : WX} {J : List Nat} {pos p cpos apos : Pos} {e : Expr} {es : List Expr} {ga : Ev → Option (List D)} {te : TE}
/-! ### list(d.values()) -/
def tListVals (te : TE) : TE := fun σ H Q => te σ H fun x H1 => ∃ d kvs, x = .ref d ∧ H1 d = some (.dK kvs) ∧ ∀ p, H1 p = none → Q (.ref p) (upd H1 p (.lst (kvs.map (·.2))))
theorem kv_val : ∀ {kvs : List (Key × V)} {vs : List (Key × Value)} {j : Nat} {x : V}, KV kvs vs → (kvs.map (·.2))[j]? = some x → ∃ k u, vs[j]? = some (k, u) ∧ RelV x u
  | _, _, _, _, .nil, e => by simp at e
  | (k, x) :: _, (k', u) :: _, 0, y, .cons r _, e => by
    simp at e; subst e
    exact ⟨k', u, rfl, r.2⟩
  | _ :: _, _ :: _, j + 1, y, .cons _ t, e => by
    obtain ⟨k, u, h1, h2⟩ := kv_val (j := j) t (by simpa using e)
    exact ⟨k, u, by simpa using h1, h2⟩
theorem pe_listVals (hc : X.calm = true) (he : PE X e te) (hg : Gl X "list") (hm : X.mg "list" = none) (hv : bootBuiltins "list" = some (.type "list")) (hbase : attributeBase e "values" X.env (eval e X.env) = eval e X.env := by rfl) (hline : (apos.endLine == cpos.line) = true := by rfl)
    (hs : starEach [.Call (.Attribute e "values" apos) [] [] cpos] X.env = (false, eval (.Call (.Attribute e "values" apos) [] [] cpos) X.env) :: starEach [] X.env := by rfl) :
    PE X (.Call (.Name "list" p) [.Call (.Attribute e "values" apos) [] [] cpos] [] pos) (tListVals te) := by
  refine ⟨fun pins s σ H Q I hq => ?_⟩
  refine wpAny_Call_Name_kw (ld_blt I hg hm hv ?_)
  refine PyProof.Rows.callWith_type1 ?_ hs rfl
  rw [hs]
  show wpAny _ _ (spliced ((false, eval (.Call (.Attribute e "values" apos) [] [] cpos) X.env) :: backTo pos (starEach [] X.env))) _ _ s
  refine Calls.spliced_cons ?_
  refine wpAny_Call_method (T := "dict") (id := "dict.values") hbase rfl hline F.plainAttrs_dict F.slot_dict_values F.type_dict_values (thn (he.run pins s σ H _ I hq) fun u s1 ⟨x, H1, I1, rx, d, kvs, ex, hd, q⟩ => ?_)
  subst ex
  obtain rfl : u = Value.ref d := rx
  obtain ⟨hz, hs0, vs, kv, hdo⟩ := I1.hok d _ hd
  have lk : kvs.length = vs.length := Paired.length kv
  have I2 : Inv X pins σ H1 { s1 with heap := s1.heap.push { cls := .type "dict_values", data := .fields #[.ref d] } } := I1.kept (t' := s1.toks) fun b ob q => Heap.get?_push_of_some _ q
  refine ⟨hdo.typeIs, hdo.mapOf.noDict, ?_⟩
  show wpAny _ _ (callWith cpos (.builtin "dict.values") [.ref d] [] []) _ X.xe s1
  refine method_meetsIn F.slot_dict_values F.entry_dict_values rfl (PySem.evalArgs_none ⟨rfl, hdo.typeIs, F.args_dict_values_1 _, _, meets_dict_values (mixKind X.prog X.w) d hs0, ⟨vs, hdo⟩, ?_⟩)
  refine Calls.spliced_nil ?_
  obtain ⟨es, ep, hraw, hsz, hat⟩ := hdo.raw
  refine PySem.W.kdl_call (T := "dict_values") (PySem.KdlSrc.rawValues (d := d) (es := es) (ep := ep)) (I1.ok.hd hc) ⟨⟨_, Heap.get?_push_size _ rfl, rfl, rfl⟩, hraw.at fun o z => Heap.get?_push_of_some _ z⟩ (by rw [hsz, ← lk]; exact hz) fun h' tk acc' c' hkeep hS hacc => ?_
  have J := I2.laid (t' := tk) (a := (s1.heap.push { cls := .type "dict_values", data := .fields #[.ref d] }).objs.size) (o := .lst (kvs.map (·.2))) (h' := h') hkeep (Nat.le_refl _) (show ObjOk X.prog X.w _ _ _ (.lst (kvs.map (·.2))) from ⟨by rw [List.length_map]; exact hz, acc'.toList, c', ?_, ?_⟩)
  · exact ⟨.ref _, _, J, rfl, q _ (I2.hok.fresh (Nat.le_refl _))⟩
  · have el : acc'.toList.length = acc'.size := by simp
    refine vals_of_at (by rw [List.length_map, el, hacc.1, hsz, lk]) fun j x w h1 h2 => ?_
    obtain ⟨hi, e2⟩ := hacc.2 j w (by rw [← Array.getElem?_toList]; exact h2)
    obtain ⟨k, u, e3, r3⟩ := kv_val kv h1
    obtain ⟨_, e4⟩ := hat j hi k u e3
    rw [e2, e4]; exact r3
  · rw [Array.toArray_toList]; exact hS

def keyD : D → Option Key
  | .int i => some (.inl i)
  | .str x => some (.inr x)
  | _ => none
theorem key_of {K : PySem.W.Frag} {M : Hp} {v : V} {d : D} {k : Key} (h : Dv K M v d) (e : keyD d = some k) : v = kV k := by
  cases h <;> cases e <;> rfl
/-- {} -/
def dic0 (_ : Ev) : Option O := some (.dic [] [])
theorem Rep.newD {K : PySem.W.Frag} {M H : Hp} {l r : List O} {lv rv : List (Option V)} (R : Rep K M H (l ++ r) (lv ++ rv)) (e : lv.length = l.length) {p : Addr} (hp : H p = none) : Rep K M (upd H p (.dK [])) (l ++ .dic [] [] :: r) (lv ++ some (.ref p) :: rv) := by
  obtain ⟨s, fp, w, nd, nm⟩ := R
  have pn : p ∉ fp := fun z => w.dom p z hp
  have w' : Ows K M (upd H p (.dK [])) (l ++ r) (lv ++ rv) fp := w.frame (Same.refl _) fun a ha => upd_ne fun z => pn (z ▸ ha)
  obtain ⟨fa, fb, e1, wa, wb⟩ := w'.split e
  subst e1
  refine ⟨fun b u q => ?_, fa ++ ([p] ++ fb), wa.append (.cons (.dic upd_same rfl .nil) wb), ?_, fun a ha => ?_⟩
  · have q' := s b u q
    rw [upd_ne (ne_of_none q' hp)]; exact q'
  · rw [List.nodup_append] at nd ⊢
    obtain ⟨n1, n2, n3⟩ := nd
    refine ⟨n1, List.nodup_cons.mpr ⟨fun z => pn (List.mem_append_right _ z), n2⟩, fun a ha b hb => ?_⟩
    rcases List.mem_cons.mp hb with rfl | hb
    · exact fun z => pn (z ▸ List.mem_append_left _ ha)
    · exact n3 a ha b hb
  · simp only [List.mem_append, List.mem_singleton] at ha
    rcases ha with ha | rfl | ha
    · exact nm a (List.mem_append_left _ ha)
    · exact s.free hp
    · exact nm a (List.mem_append_right _ ha)
theorem oDic0 : PE X (.Dict [] [] pos) (tO X.K dic0) := PE.imp pe_dnewK fun σ H Q ⟨M, ρ, fo, fv, o, R, l, e, k⟩ => by
  cases e
  exact fun p hp => k M _ _ (Same.refl _) (R.newD l hp)
/-- list(d.values()) -/
def valsO (f : Ev → Option D) (ρ : Ev) : Option O := (f ρ).bind fun d => match d with
  | .dic _ ds => some (.lst (ds.map .dat))
  | _ => none
theorem oVals {f : Ev → Option D} (hc : X.calm = true) (he : PE X e (tP X.K f)) (hm : X.mg "list" = none) (hg : Gl X "list" := by rfl) (hbase : attributeBase e "values" X.env (eval e X.env) = eval e X.env := by rfl) (hline : (apos.endLine == cpos.line) = true := by rfl)
    (hs : starEach [.Call (.Attribute e "values" apos) [] [] cpos] X.env = (false, eval (.Call (.Attribute e "values" apos) [] [] cpos) X.env) :: starEach [] X.env := by rfl) :
    PE X (.Call (.Name "list" p) [.Call (.Attribute e "values" apos) [] [] cpos] [] pos) (tO X.K (valsO f)) := PE.imp (pe_listVals hc he hg hm (by decide +kernel) hbase hline hs) fun σ H Q ⟨M, ρ, fo, fv, o, R, l, e, k⟩ => by
  unfold valsO at e
  cases q : f ρ with
  | none => rw [q] at e; cases e
  | some d =>
    rw [q, Option.bind_some] at e
    split at e
    · cases e
      refine ⟨M, ρ, fo, fv, _, R, l, q, fun M1 H1 v s1 R1 d1 => ?_⟩
      cases d1 with
      | dic ha hk hd => exact ⟨_, _, rfl, R1.same _ _ ha, fun p hp => k M1 _ _ s1 (R1.newL l hp hd)⟩
    · cases e
/-- d[k] of a frozen dict -/
def dlook (k : Key) : List Key → List D → Option D
  | k' :: ks, d :: ds => if k' = k then some d else dlook k ks ds
  | _, _ => none
theorem dlook_val {K : PySem.W.Frag} {M : Hp} {k : Key} : ∀ {kvs : List (Key × V)} {ds : List D}, Dvs K M (kvs.map (·.2)) ds → match dlook k (kvs.map (·.1)) ds with
    | some d => ∃ v, valV kvs k = some v ∧ Dv K M v d
    | none => valV kvs k = none
  | [], _, .nil => rfl
  | (k', v) :: kvs, _, .cons (d := d) (ds := ds) h hs => by
    simp only [List.map_cons, dlook]
    by_cases e : k' = k
    · rw [if_pos e]; exact ⟨v, valV_pos e, h⟩
    · rw [if_neg e]
      have ih := dlook_val (k := k) hs
      have ev : valV ((k', v) :: kvs) k = valV kvs k := valV_neg e
      rw [ev]
      exact ih
def dgetD (x y : D) : Option D := match x with
  | .dic ks ds => (keyD y).bind fun k => dlook k ks ds
  | _ => none
theorem pDget {a b : Expr} {fa fb : Ev → Option D} (hu : X.A.units + 64 < cLine) (ha : PE X a (tP X.K fa)) (hb : PE X b (tP X.K fb)) (hs : NoSl b := by exact fun _ _ => rfl) : PE X (.Subscript a b pos) (tP X.K (b2 fa fb dgetD)) := PE.imp (pe_dget (by omega) ha hb hs) fun σ H Q h => by
  obtain ⟨M, ρ, fo, fv, d, R, l, e, k⟩ := h
  obtain ⟨x, y, ea, eb, eg⟩ := b2_some e
  refine ⟨M, ρ, fo, fv, x, R, l, ea, fun M1 H1 v1 s1 R1 d1 => ⟨M1, ρ, fo, fv, y, R1, l, eb, fun M2 H2 v2 s2 R2 d2 => ?_⟩⟩
  unfold dgetD at eg
  split at eg
  · rename_i ks ds
    cases q : keyD y with
    | none => rw [q] at eg; cases eg
    | some kk =>
      rw [q, Option.bind_some] at eg
      have d1 := d1.mono s2
      cases d1 with
      | dic h1 hk hd =>
        subst hk
        have := dlook_val (k := kk) hd
        rw [eg] at this
        obtain ⟨v, ev, dv⟩ := this
        refine ⟨_, v, rfl, ?_, k M2 H2 v (s1.trans s2) R2 dv⟩
        rw [key_of d2 q, ← ev]
        exact DGet.k (R2.same _ _ h1)
  · cases eg
def dinD (x y : D) : Option D := match y with
  | .dic ks ds => if ds.length = ks.length then (keyD x).map fun k => .bl (dlook k ks ds).isSome else none
  | _ => none
theorem din_of {K : PySem.W.Frag} {fa fb : Ev → Option D} {σ : L2.St} {H : Hp} {Q : VK} (h : tP K (b2 fa fb dinD) σ H Q) : tDIn (tP K fa) (tP K fb) σ H Q := by
  obtain ⟨M, ρ, fo, fv, d, R, l, e, k⟩ := h
  obtain ⟨x, y, ea, eb, eg⟩ := b2_some e
  refine ⟨M, ρ, fo, fv, x, R, l, ea, fun M1 H1 v1 s1 R1 d1 => ⟨M1, ρ, fo, fv, y, R1, l, eb, fun M2 H2 v2 s2 R2 d2 => ?_⟩⟩
  unfold dinD at eg
  split at eg
  · rename_i ks ds
    split at eg
    · cases q : keyD x with
      | none => rw [q] at eg; cases eg
      | some kk =>
        rw [q] at eg
        cases eg
        cases d2 with
        | dic h1 hk hd =>
          subst hk
          have hv := dlook_val (k := kk) hd
          rw [key_of d1 q]
          refine ⟨_, _, rfl, DGet.k (R2.same _ _ h1), ?_⟩
          cases q2 : dlook kk _ ds with
          | none => rw [q2] at hv; rw [show valV _ kk = none from hv]; exact k M2 H2 _ (s1.trans s2) R2 (by simp only [q2]; exact .bl _)
          | some z => rw [q2] at hv; obtain ⟨v, ev, _⟩ := hv; rw [ev]; exact k M2 H2 _ (s1.trans s2) R2 (by simp only [q2]; exact .bl _)
    · cases eg
  · cases eg
theorem pDin {a b : Expr} {fa fb : Ev → Option D} (hu : X.A.units + 64 < cLine) (ha : PE X a (tP X.K fa)) (hb : PE X b (tP X.K fb)) (hm : behindInMarks .In b = false := by rfl) : PE X (.Compare a [.In] [b] pos) (tP X.K (b2 fa fb dinD)) := PE.imp (pe_cmp (pc_din (by omega) ha hb) hm) fun _ _ _ h => din_of h
theorem tDin' {a b : Expr} {fa fb : Ev → Option D} (hu : X.A.units + 64 < cLine) (ha : PE X a (tP X.K fa)) (hb : PE X b (tP X.K fb)) (hm : behindInMarks .In b = false := by rfl) : PT X (.Compare a [.In] [b] pos) (tT X.K (asB (b2 fa fb dinD))) :=
  PT.imp (pt_cmp (pc_din (by omega) ha hb) hm) fun σ H Q ⟨M, ρ, fo, fv, b, R, l, e, k⟩ => din_of (K := X.K) (Q := fun x H' => ∃ k, x = .bl k ∧ Q k H') ⟨M, ρ, fo, fv, .bl b, R, l, asB_some e, fun M' H' v s R' dv => by cases dv; exact ⟨b, rfl, k M' H' s R'⟩⟩

/-! ### an own dict in a slot -/
def olook (k : Key) : List Key → List O → Option O
  | k' :: ks, d :: ds => if k' = k then some d else olook k ks ds
  | _, _ => none
theorem olook_val {K : PySem.W.Frag} {M H : Hp} {k : Key} : ∀ {kvs : List (Key × V)} {os : List O} {fp : List Addr}, Ows K M H os (kvs.map fun p => some p.2) fp → match olook k (kvs.map (·.1)) os with
    | some o => ∃ v f, valV kvs k = some v ∧ Ow K M H o (some v) f
    | none => valV kvs k = none
  | [], _, _, .nil => rfl
  | (k', v) :: kvs, _, _, .cons (o := o) (os := os) h hs => by
    simp only [List.map_cons, olook]
    by_cases e : k' = k
    · rw [if_pos e]; exact ⟨v, _, valV_pos e, h⟩
    · rw [if_neg e]
      have ih := olook_val (k := k) hs
      have ev : valV ((k', v) :: kvs) k = valV kvs k := valV_neg e
      rw [ev]
      exact ih
def dgetO (i : Nat) (fk : Ev → Option D) (ρ : Ev) : Option D := (fk ρ).bind fun y => (keyD y).bind fun k => match ρ[i]? with
  | some (.dic ks os) => match olook k ks os with
    | some (.dat d) => some d
    | _ => none
  | _ => none
theorem pDgetO {i : Nat} {x : Str} {p' : Pos} {b : Expr} {fk : Ev → Option D} (hu : X.A.units + 64 < cLine) (hv : PE X (.Name x p') (tVar i)) (hb : PE X b (tP X.K fk)) (hs : NoSl b := by exact fun _ _ => rfl) : PE X (.Subscript (.Name x p') b pos) (tP X.K (dgetO i fk)) := PE.imp (pe_dget (by omega) hv hb hs) fun σ H Q h => by
  obtain ⟨M, ρ, fo, fv, d, R, l, e, k⟩ := h
  unfold dgetO at e
  cases q : fk ρ with
  | none => rw [q] at e; cases e
  | some y =>
    rw [q, Option.bind_some] at e
    cases q2 : keyD y with
    | none => rw [q2] at e; cases e
    | some kk =>
      rw [q2, Option.bind_some] at e
      split at e
      · rename_i ks os eo
        split at e
        · rename_i d' el
          cases e
          have R' : Rep X.K M H (ρ ++ ([] ++ fo)) (σ ++ ([] ++ fv)) := R
          obtain ⟨w, f1, ft, ew, h1, _, _, _, _⟩ := R'.own l rfl eo
          cases h1 with
          | @dic a kvs _ _ fp ha hk ws =>
            refine ⟨.ref a, ew, M, ρ, fo, fv, y, R, l, q, fun M1 H1 v1 s1 R1 d1 => ?_⟩
            have R1' : Rep X.K M1 H1 (ρ ++ ([] ++ fo)) (σ ++ ([] ++ fv)) := R1
            obtain ⟨w', f1', ft', ew', h1', _, _, _, _⟩ := R1'.own l rfl eo
            rw [ew] at ew'
            cases ew'
            cases h1' with
            | dic ha' hk' ws' =>
              have hv' := olook_val (k := kk) ws'
              rw [hk', el] at hv'
              obtain ⟨v, f, ev, ov⟩ := hv'
              refine ⟨a, v, rfl, ?_, ?_⟩
              · rw [key_of d1 q2, ← ev]; exact DGet.k ha'
              · cases ov with
                | dat dv => exact k M1 H1 v s1 R1 dv
        · cases e
      · cases e
def putKD (k : Key) (d : D) (ks : List Key) (os : List O) : List Key × List O := if (ks.any fun k' => decide (k' = k)) = true then (ks, List.zipWith (fun k' o => if k' = k then .dat d else o) ks os) else (ks ++ [k], os ++ [.dat d])
def dput (i : Nat) (fk fv : Ev → Option D) (ρ : Ev) : Option Fl := (fv ρ).bind fun d => (fk ρ).bind fun y => (keyD y).bind fun k => match ρ[i]? with
  | some (.dic ks os) => if os.length < sizeLine then some (.nx (ρ.set i (.dic (putKD k d ks os).1 (putKD k d ks os).2))) else none
  | _ => none
theorem putKD_keys {k : Key} {v : V} {d : D} {kvs : List (Key × V)} {os : List O} : (putK kvs k v).map (·.1) = (putKD k d (kvs.map (·.1)) os).1 := by
  unfold putK putKD
  rw [List.any_map]
  have : ((fun k' => decide (k' = k)) ∘ fun x : Key × V => x.1) = fun kv => decide (kv.1 = k) := rfl
  rw [this]
  split
  · rw [List.map_map]
    apply List.map_congr_left
    intro p _
    simp only [Function.comp]
    split <;> rfl
  · simp
theorem zip_ows {K : PySem.W.Frag} {M H : Hp} {k : Key} {v : V} {d : D} (dv : Dv K M v d) : ∀ {kvs : List (Key × V)} {os : List O} {fp : List Addr}, Ows K M H os (kvs.map fun p => some p.2) fp →
    ∃ fp', Ows K M H (List.zipWith (fun k' o => if k' = k then O.dat d else o) (kvs.map (·.1)) os) ((kvs.map fun kv => if kv.1 = k then (kv.1, v) else kv).map fun p => some p.2) fp' ∧ ∀ b, fp'.count b ≤ fp.count b
  | [], _, _, .nil => ⟨[], .nil, fun b => Nat.le_refl _⟩
  | (k', x) :: kvs, _, _, .cons (o := o) (os := os) (f1 := f1) (f2 := f2) h hs => by
    obtain ⟨fp', w, c⟩ := zip_ows dv hs
    simp only [List.map_cons, List.zipWith_cons_cons]
    by_cases e : k' = k
    · rw [if_pos e, if_pos e]
      exact ⟨[] ++ fp', .cons (.dat dv) w, fun b => by have := c b; simp only [List.nil_append, List.count_append]; omega⟩
    · rw [if_neg e, if_neg e]
      exact ⟨f1 ++ fp', .cons h w, fun b => by have := c b; simp only [List.count_append]; omega⟩
theorem putKD_ows {K : PySem.W.Frag} {M H : Hp} {k : Key} {v : V} {d : D} (dv : Dv K M v d) {kvs : List (Key × V)} {os : List O} {fp : List Addr} (w : Ows K M H os (kvs.map fun p => some p.2) fp) :
    ∃ fp', Ows K M H (putKD k d (kvs.map (·.1)) os).2 ((putK kvs k v).map fun p => some p.2) fp' ∧ ∀ b, fp'.count b ≤ fp.count b := by
  unfold putK putKD
  rw [List.any_map]
  have : ((fun k' => decide (k' = k)) ∘ fun x : Key × V => x.1) = fun kv => decide (kv.1 = k) := rfl
  rw [this]
  split
  · exact zip_ows dv w
  · refine ⟨fp ++ ([] ++ []), ?_, fun b => by simp⟩
    rw [List.map_append]
    exact w.append (.cons (.dat dv) .nil)
theorem sDput {i : Nat} {x : Str} {p' pp : Pos} {b value : Expr} {fk fvl : Ev → Option D} (hu : X.A.units + 64 < cLine) (hv : PE X (.Name x p') (tVar i)) (hb : PE X b (tP X.K fk)) (he : PE X value (tP X.K fvl)) (hs : swapsWith value (some (.Subscript (.Name x p') b pp)) pos.line X.env = pure false := by rfl) :
    PS X (.Assign [.Subscript (.Name x p') b pp] value pos) (tS X.K W J (dput i fk fvl)) := PS.imp (ps_dput (by omega) hv hb he hs) fun E σ H ⟨M, ρ, fo, fv, r, σ0, R, l, e, k⟩ => by
  unfold dput at e
  cases q : fvl ρ with
  | none => rw [q] at e; cases e
  | some d =>
    rw [q, Option.bind_some] at e
    cases q1 : fk ρ with
    | none => rw [q1] at e; cases e
    | some y =>
      rw [q1, Option.bind_some] at e
      cases q2 : keyD y with
      | none => rw [q2] at e; cases e
      | some kk =>
        rw [q2, Option.bind_some] at e
        split at e
        · rename_i ks os eo
          split at e
          · rename_i hlen
            cases e
            refine ⟨M, ρ, fo, fv, d, R, l.1, q, fun M1 H1 v s1 R1 d1 => ?_⟩
            have R1' : Rep X.K M1 H1 (ρ ++ ([] ++ fo)) (σ ++ ([] ++ fv)) := R1
            obtain ⟨w, f1, ft, ew, h1, _, _, _, _⟩ := R1'.own l.1 rfl eo
            cases h1 with
            | @dic a kvs _ _ fp ha hk ws =>
              refine ⟨.ref a, ew, M1, ρ, fo, fv, y, R1, l.1, q1, fun M2 H2 v2 s2 R2 d2 => ?_⟩
              have R2' : Rep X.K M2 H2 (ρ ++ ([] ++ fo)) (σ ++ ([] ++ fv)) := R2
              obtain ⟨w', f1', ft', ew', h1', h2', nd, nm, up⟩ := R2'.own l.1 rfl eo
              cases h2'
              rw [ew] at ew'
              cases ew'
              cases h1' with
              | @dic _ kvs' _ _ fp' ha' hk' ws' =>
                have hlk : kvs'.length = os.length := by rw [← ws'.length, List.length_map]
                refine ⟨a, upd H2 a (.dK (putK kvs' kk v)), rfl, ?_, ?_⟩
                · rw [key_of d2 q2]
                  exact DPut.k ha' (by rw [hlk]; exact hlen)
                · have hd : ∀ b ∈ fp', b ≠ a := fun b hb z => by
                    subst z
                    rw [List.nodup_iff_count] at nd
                    have := nd b
                    simp only [List.append_nil, List.count_cons, beq_self_eq_true, if_true] at this
                    have := List.count_pos_iff.mpr hb
                    omega
                  have ma : M2 a = none := nm a (by simp)
                  have sm : Same M2 (upd H2 a (.dK (putK kvs' kk v))) := fun b u z => by
                    rw [upd_ne (fun y => by subst y; rw [ma] at z; cases z)]; exact R2.same b u z
                  obtain ⟨fp2, w2, c2⟩ := putKD_ows (k := kk) (d1.mono s2) (ws'.frame (Same.refl _) (H' := upd H2 a (.dK (putK kvs' kk v))) fun b hb => upd_ne (hd b hb))
                  refine k M2 _ σ (s1.trans s2) (up M2 _ _ (a :: fp2) (Same.refl _) sm (fun b hb _ => upd_ne fun z => hb (by simp [z])) (.dic upd_same ?_ ?_) (fun b => ?_) fun b hb _ => hb) (l.setR _)
                  · rw [putKD_keys (d := d) (os := os), hk']
                  · rw [hk'] at w2; exact w2
                  · have := c2 b
                    simp only [List.count_cons, List.count_nil] at this ⊢
                    omega
          · cases e
        · cases e
end
end PD

namespace PD
open PySem PySem.Spec L2

theorem Dvs.rev {K : PySem.W.Frag} {M : Hp} : ∀ {vs : List V} {ds : List D}, Dvs K M vs ds → Dvs K M vs.reverse ds.reverse
  | _, _, .nil => .nil
  | _, _, .cons h t => by
    rw [List.reverse_cons, List.reverse_cons]
    exact (Dvs.rev t).append (.cons h .nil)
section
variable {X : Cx} {W : WX} {J : List Nat} {pos p cpos apos : Pos} {e a b : Expr} {es : List Expr} {fa fb : Ev → Option D}
theorem Inv.listX {pins : List (Addr × Obj)} {σ : L2.St} {H : Hp} {s : Shared} {l : Addr} {xs : List V} (I : Inv X pins σ H s) (h : SqX X.K H l xs) : ∃ (its : List Value) (n : Nat), Vals xs its ∧ s.heap.get? l = some ({ cls := .type "list", data := .seq its.toArray n } : Obj) := by
  rcases h with h | ⟨its, n, lk, hz, r⟩
  · obtain ⟨z, its, n, r, e⟩ := h.ok I.hok
    exact ⟨its, n, r, e⟩
  · refine ⟨its.toList, n, r, ?_⟩
    rw [Array.toArray_toList]; exact I.kIn _ _ lk
/-! ### list + list -/
def rCatX (K : PySem.W.Frag) : R2 := fun x y H Q => ∃ l b xs zs, x = .ref l ∧ y = .ref b ∧ SqX K H l xs ∧ SqX K H b zs ∧ xs.length + zs.length ≤ sizeLine ∧ ∀ p, H p = none → Q (.ref p) (upd H p (.lst (xs ++ zs)))
theorem op_catX : OpR X (binaryOp .Add) (rCatX X.K) := by
  intro pins s σ H x y v u Q I rx ry h
  obtain ⟨l, b, xs, zs, rfl, rfl, hH, hB, hz, q⟩ := h
  cases rx
  cases ry
  obtain ⟨its, n, r, e⟩ := Inv.listX I hH
  obtain ⟨its2, n2, r2, e2⟩ := Inv.listX I hB
  have l1 := r.length
  have l2 := r2.length
  refine PySem.P.add_list e e2 ?_ (by rw [List.size_toArray, List.size_toArray]; omega)
  have ea : its.toArray ++ its2.toArray = (its ++ its2).toArray := by simp
  rw [ea]
  exact ⟨.ref _, _, I.lnew (t' := s.toks) (r.append r2) (by rw [List.length_append]; omega), rfl, q _ I.fresh⟩
def catL (x y : D) : Option D := match x, y with
  | .lst xs, .lst ys => if xs.length + ys.length ≤ sizeLine then some (.lst (xs ++ ys)) else none
  | _, _ => none
theorem oCatL : OpR X (binaryOp .Add) (rD X.K catL) := OpR.imp op_catX fun x y H Q ⟨M, fo, fv, dx, dy, d, R, d1, d2, e, k⟩ => by
  unfold catL at e
  split at e
  · rename_i xs ys
    split at e
    · rename_i hz
      cases e
      cases d1 with
      | @lst l ws _ h1 g1 =>
        cases d2 with
        | @lst b zs _ h2 g2 =>
          refine ⟨l, b, ws, zs, rfl, rfl, sqX_same R.same h1, sqX_same R.same h2, by rw [g1.length, g2.length]; exact hz, fun p hp => ?_⟩
          have s2 := same_updM (u := .lst (ws ++ zs)) (R.same.free hp)
          exact k _ _ _ s2 (R.growM hp) (.lst (.inl (.inl upd_same)) ((g1.append g2).mono s2))
    · cases e
  · cases e
/-- tuple + tuple -/
def catT (x y : D) : Option D := match x, y with
  | .tup xs, .tup ys => if xs.length + ys.length ≤ sizeLine then some (.tup (xs ++ ys)) else none
  | _, _ => none
theorem oCatT : OpR X (binaryOp .Add) (rD X.K catT) := OpR.imp op_catA fun x y H Q ⟨M, fo, fv, dx, dy, d, R, d1, d2, e, k⟩ => by
  unfold catT at e
  split at e
  · rename_i xs ys
    split at e
    · rename_i hz
      cases e
      have e1 := d1
      have e2 := d2
      cases d1 with
      | @tup l ws _ h1 g1 =>
        cases d2 with
        | @tup b zs _ h2 g2 =>
          refine ⟨l, b, ws, zs, rfl, rfl, sqT_same R.same h1, sqT_same R.same h2, by rw [g1.length, g2.length]; exact hz, fun z => ?_, fun _ z => ?_, fun _ _ p hp => ?_⟩
          · subst z
            cases g1
            exact k M H _ (Same.refl _) R e2
          · subst z
            cases g2
            rw [List.append_nil] at k
            exact k M H _ (Same.refl _) R e1
          · have s2 := same_updM (u := .tup (ws ++ zs)) (R.same.free hp)
            exact k _ _ _ s2 (R.growM hp) (.tup (.inl (.inl upd_same)) ((g1.append g2).mono s2))
    · cases e
  · cases e
/-- + of ints, texts, lists, tuples -/
abbrev addA : D → D → Option D := orD addD (orD catL catT)
theorem oAddA : OpR X (binaryOp .Add) (rD X.K addA) := op_orD oAdd (op_orD oCatL oCatT)
/-! ### xs[::-1] -/
def revD : D → Option D
  | .lst xs => some (.lst xs.reverse)
  | _ => none
theorem pRev {k : Nat} {p1 p2 p3 : Pos} (he : PE X e (tP X.K fa)) : PE X (.Subscript e (.Slice none none (some (.UnaryOp .USub (.Constant (.int 1) k p1) p2)) p3) pos) (tP X.K (b1 fa revD)) := PE.imp (pe_revL he) fun σ H Q ⟨M, ρ, fo, fv, d, R, l, e, k⟩ => by
  obtain ⟨x, ea, eg⟩ := b1_some e
  unfold revD at eg
  split at eg
  · rename_i xs
    cases eg
    refine ⟨M, ρ, fo, fv, _, R, l, ea, fun M1 H1 v1 s1 R1 d1 => ?_⟩
    cases d1 with
    | @lst a ws _ h1 g1 =>
      refine ⟨a, ws, rfl, seqX R1.same h1, fun p hp => ?_⟩
      have s2 := same_updM (u := .lst ws.reverse) (R1.same.free hp)
      exact k _ _ _ (s1.trans s2) (R1.growM hp) (.lst (.inl (.inl upd_same)) ((Dvs.rev g1).mono s2))
  · cases eg
/-- C(k=v, ..) -/
theorem run_makeK {CX : CXT} {kk : Nat} {f C : Addr} {fd : FuncData} {ps ks : List Str} {sp : Sp} {x : Str} {kws : List Keyword} {tk : TA} {g : List Value → List Value → List Value} {gV : List V → List V → List V} {E : XK} (Mc : Mk X.K C f) (F : FnOk X.prog X.w X.K X.mg X.base CX kk f fd ps sp) (hr : Room (kk + 1) X.A) (hg : Gl X x) (hm : X.mg x = some (.ref C)) (hb : KBn X.K fd ps 1 ks g gV) (hx : Passes CX X E)
    (hkw : PK X kws tk) (hall : (backToKw pos (keywordEach kws X.env)).all (·.1.isSome) = true := by rfl) (hks : (backToKw pos (keywordEach kws X.env)).filterMap (·.1) = ks := by rfl)
    (hdb : (x == ("__debug__" : Str)) = false := by decide)
    (hpl : ((backTo pos (starEach [] X.env)).any (·.1) || (backToKw pos (keywordEach kws X.env)).any (·.1.isNone)) = false := by rfl) :
    PE X (.Call (.Name x p) [] kws pos) (fun σ H Q => tk σ H fun zs H2 => zs.length = ks.length ∧ ∀ x dx, H2 x = none → H2 dx = none → dx ≠ x → sp (gV [.ref x] zs) (upd (upd H2 dx (.own x)) x (.ins C dx [])) (fun v H3 => v = .non ∧ Q (.ref x) H3) E) := by
  refine ⟨fun pins s σ H Q I h => ?_⟩
  refine wpAny_Call_Name_kw (ld_glob I hg hm ?_ hdb)
  refine PySem.W.callWith_KW0 (h₀ := X.base) I.ok.mod.kin Mc.kp hall ?_ hpl
  refine thn (hkw.run pos pins s σ H _ I h) fun ws s2 ⟨zs, H2, I2, rz, l2, q2⟩ => ⟨I2.kIn, ?_⟩
  rw [hks]
  exact run_makeN (n := 0) (us := []) (vs := []) Mc F hr hb hx I2 .nil rz rfl l2 q2
theorem oMakeK {kk n : Nat} {f C : Addr} {fd : FuncData} {ps ks : List Str} {x : Str} {kws : List Keyword} {ga : Ev → Option (List D)} {m : List D → Option O} {g : List Value → List Value → List Value} (Mc : Mk X.K C f) (F : FnOk X.prog X.w X.K X.mg X.base CX0 kk f fd ps (spI X.K C (n + 1) m)) (hr : Room (kk + 1) X.A) (hm : X.mg x = some (.ref C)) (hb : KBn X.K fd ps 1 ks g (fun vs zs => vs ++ zs)) (hn : ks.length = n)
    (hkw : PK X kws (tAr X.K ga)) (hg : Gl X x := by rfl) (hall : (backToKw pos (keywordEach kws X.env)).all (·.1.isSome) = true := by rfl) (hks : (backToKw pos (keywordEach kws X.env)).filterMap (·.1) = ks := by rfl)
    (hdb : (x == ("__debug__" : Str)) = false := by decide)
    (hpl : ((backTo pos (starEach [] X.env)).any (·.1) || (backToKw pos (keywordEach kws X.env)).any (·.1.isNone)) = false := by rfl) :
    PE X (.Call (.Name x p) [] kws pos) (tO X.K (cO ga (lenO? n m))) := PE.imp (run_makeK (E := E0) Mc F hr hg hm hb pass0 hkw hall hks hdb hpl) fun σ H Q ⟨M, ρ, fo, fv, o, R, l, e, k⟩ => by
  unfold cO lenO? at e
  cases q : ga ρ with
  | none => rw [q] at e; cases e
  | some ds =>
    rw [q, Option.bind_some] at e
    split at e
    · rename_i hn'
      refine ⟨M, ρ, fo, fv, ds, R, l, q, fun M1 H1 vs s1 R1 d1 => ⟨by rw [d1.length, hn', hn], fun x dx hx hd ne => ?_⟩⟩
      exact make_of l R1 d1 (by rw [hn']) e (fun M2 H2 v s2 R2 => k M2 H2 v (s1.trans s2) R2) x dx hx hd ne
    · cases e
end

/-! ### the law's end -/
/-- the law's promise, whatever its mirror -/
def spT (K : PySem.W.Frag) : Sp := fun vs H Q _ => ∃ (a : Addr) (ns : List Int), vs = [.ref a] ∧ ns.length ≤ 63 ∧ SqX K H a (ns.map V.int) ∧ ∀ H', Q (.bl true) H'
theorem spT_of {K : PySem.W.Frag} {m : List D → Option D} (hm : ∀ ns : List Int, ns.length ≤ 63 → m [.lst (ns.map .int)] = some (.bl true)) {vs : List V} {H : Hp} {Q : VK} {E : XK} (h : spT K vs H Q E) : spP K 1 m vs H Q E := by
  obtain ⟨a, ns, rfl, hl, hS, q⟩ := h
  exact ⟨rfl, H, [], [], [.lst (ns.map .int)], .bl true, ⟨Same.refl _, [], .nil, List.nodup_nil, fun _ h => nomatch h⟩, .cons (.lst hS (ints_dvs ns)) .nil, hm ns hl, fun M' H' v _ _ d => by cases d; exact q H'⟩
theorem walk_ofD {l : PySem.W.OpenLaw} {n k : Nat} {q : Program} {loose : List Str} {XP : (Str → Option Value) → Heap → Prop} {YP : World → Heap → Prop} {d : DefRec} {K : Params → PySem.W.Frag} {CX : World → CXT} {x : Str}
    (hn : l.most = some n) (h63 : n ≤ 63) (hdf : d.params.defaults = []) (hr : Room k callerA)
    (hY : ∀ (w : World) (h : Heap), YP w h → (K w.params).In h)
    (F : ∀ (w : World) (mg : Str → Option Value) (fa : Addr) (h : Heap), (K w.params).In h → h.Ns mainGlobals mg → mg d.name = some (.ref fa) →
      ∃ fd : FuncData, (∀ (s : Shared) (u : Value), BindsTo s fd ⟨[u], []⟩ [(x, u)]) ∧
        ∀ base : Heap, (K w.params).In base → base.Ns mainGlobals mg → FnOk l.prog w (K w.params) mg base (CX w) k fa fd [x] (spT (K w.params)))
    (hCX : ∀ (w : World) (H : Hp) (s : Shared) (e : Value) (s' : Shared), CX w [] H s (fun _ _ _ => False) e s' → False) :
    PySem.W.WalkO q loose XP YP l.row.toRowW d [] (fun f vs => PySem.call f vs) := by
  refine Att.attach_callB hn hdf fun w s₀ s₁ mg mb fa o pm cd doc a vs ns G Y ho hd hcd hmg hobj hints hlen hbits hg => ?_
  have KX := hY w _ Y
  obtain ⟨fd, hb, hF⟩ := F w mg fa _ KX G.T.g hmg
  have n63 : ns.length ≤ sizeLine := by rw [sizeLine_eq]; omega
  refine law_call KX G.T.g G.T.b G.T.builtins G.T.nolimit hg hobj hints n63 hr hF hb (fun H hO hS => ?_) fun H e s' => hCX w H s₁ e s'
  refine ⟨a, ns, rfl, Nat.le_trans hlen h63, ?_, fun _ => rfl⟩
  rcases hS with hS | ⟨o', its, m, lk, hc, hdd, hdt, hz, r⟩
  · exact .inl hS
  · have e1 := KX _ _ lk
    rw [hobj] at e1
    cases e1
    cases hdt
    exact .inr ⟨_, _, lk, hz, r⟩
end PD

namespace PD
open PySem PySem.Spec L2

/-! ### roots in another order -/
section
variable {K : PySem.W.Frag} {M H : Hp}
theorem Ows.perm {l l' : List (O × Option V)} (p : l.Perm l') : ∀ {fp : List Addr}, Ows K M H (l.map (·.1)) (l.map (·.2)) fp → ∃ fp', fp.Perm fp' ∧ Ows K M H (l'.map (·.1)) (l'.map (·.2)) fp' := by
  induction p with
  | nil => exact fun w => ⟨_, .refl _, w⟩
  | cons x _ ih =>
    intro fp w
    cases w with
    | cons h hs =>
      obtain ⟨f', q, w'⟩ := ih hs
      exact ⟨_, q.append_left _, .cons h w'⟩
  | swap x y l =>
    intro fp w
    cases w with
    | cons h hs =>
      rename_i f1 f2
      cases hs with
      | cons h' hs' =>
        rename_i f3 f4
        refine ⟨f3 ++ (f1 ++ f4), ?_, .cons h' (.cons h hs')⟩
        rw [← List.append_assoc, ← List.append_assoc]
        exact List.Perm.append_right _ List.perm_append_comm
  | trans _ _ ih1 ih2 =>
    intro fp w
    obtain ⟨f1, q1, w1⟩ := ih1 w
    obtain ⟨f2, q2, w2⟩ := ih2 w1
    exact ⟨f2, q1.trans q2, w2⟩
theorem zip_fst {α β : Type} : ∀ {as : List α} {bs : List β}, bs.length = as.length → (as.zip bs).map (·.1) = as
  | [], [], _ => rfl
  | a :: as, b :: bs, h => by simp only [List.zip_cons_cons, List.map_cons]; rw [zip_fst (by simpa using h)]
theorem zip_snd {α β : Type} : ∀ {as : List α} {bs : List β}, bs.length = as.length → (as.zip bs).map (·.2) = bs
  | [], [], _ => rfl
  | a :: as, b :: bs, h => by simp only [List.zip_cons_cons, List.map_cons]; rw [zip_snd (by simpa using h)]
theorem Rep.perm {os os' : List O} {vs vs' : List (Option V)} (R : Rep K M H os vs) (l : vs.length = os.length) (l' : vs'.length = os'.length) (p : (os.zip vs).Perm (os'.zip vs')) : Rep K M H os' vs' := by
  obtain ⟨s, fp, w, nd, nm⟩ := R
  have w0 : Ows K M H ((os.zip vs).map (·.1)) ((os.zip vs).map (·.2)) fp := by rw [zip_fst l, zip_snd l]; exact w
  obtain ⟨fp', q, w'⟩ := Ows.perm p w0
  rw [zip_fst l', zip_snd l'] at w'
  exact ⟨s, fp', w', q.nodup_iff.mp nd, fun a ha => nm a (q.mem_iff.mpr ha)⟩
theorem split_at {α : Type} {xs : List α} {k : Nat} {x : α} (e : xs[k]? = some x) (y : α) : ∃ a b, xs = a ++ x :: b ∧ a.length = k ∧ xs.set k y = a ++ y :: b := by
  obtain ⟨hk, e⟩ := List.getElem?_eq_some_iff.mp e
  refine ⟨xs.take k, xs.drop (k + 1), ?_, by simp; omega, ?_⟩
  · rw [← e, ← List.drop_eq_getElem_cons hk, List.take_append_drop]
  · rw [List.set_eq_take_append_cons_drop, if_pos hk]
/-- slot k is handed over -/
theorem Rep.pull {l ρ r : List O} {lv σ rv : List (Option V)} {k : Nat} {o : O} {v : Option V} (R : Rep K M H (l ++ (ρ ++ r)) (lv ++ (σ ++ rv))) (el : lv.length = l.length) (e : σ.length = ρ.length) (er : rv.length = r.length) (eo : ρ[k]? = some o) (ev : σ[k]? = some v) :
    Rep K M H (l ++ (o :: (ρ.set k .unk ++ r))) (lv ++ (v :: (σ ++ rv))) := by
  obtain ⟨a, b, e1, e2, e3⟩ := split_at eo O.unk
  obtain ⟨c, d, f1, f2, _⟩ := split_at ev v
  have hac : c.length = a.length := by omega
  rw [e3]
  subst e1; subst f1
  have R1 : Rep K M H ((l ++ a) ++ (.unk :: (o :: b ++ r))) ((lv ++ c) ++ (v :: (v :: d ++ rv))) := by
    have R0 : Rep K M H ((l ++ a) ++ (o :: b ++ r)) ((lv ++ c) ++ (v :: d ++ rv)) := by simpa using R
    exact R0.pushU (by simp [el, hac]) v
  have hbd : d.length = b.length := by simp at e; omega
  refine R1.perm (by simp [el, hac, hbd, er]) (by simp [el, hac, hbd, er]) ?_
  have z1 : ((l ++ a) ++ (.unk :: (o :: b ++ r))).zip ((lv ++ c) ++ (v :: (v :: d ++ rv))) = l.zip lv ++ (a.zip c ++ ((O.unk, v) :: (o, v) :: (b.zip d ++ r.zip rv))) := by
    rw [List.zip_append (by simp [el, hac]), List.zip_append el.symm]
    simp only [List.zip_cons_cons, List.cons_append]
    rw [List.zip_append hbd.symm, List.append_assoc]
  have z2 : (l ++ (o :: ((a ++ .unk :: b) ++ r))).zip (lv ++ (v :: ((c ++ v :: d) ++ rv))) = l.zip lv ++ ((o, v) :: (a.zip c ++ ((O.unk, v) :: (b.zip d ++ r.zip rv)))) := by
    rw [List.zip_append el.symm]
    simp only [List.zip_cons_cons, List.cons_append, List.append_assoc]
    rw [List.zip_append hac.symm]
    simp only [List.zip_cons_cons]
    rw [List.zip_append hbd.symm]
  rw [z1, z2]
  refine List.Perm.append_left _ ?_
  refine List.Perm.trans (List.Perm.append_left _ (List.Perm.swap _ _ _)) ?_
  exact List.perm_middle
/-- .. and given back -/
theorem Rep.back {l ρ r : List O} {lv σ rv : List (Option V)} {k : Nat} {o z : O} {v : Option V} (R : Rep K M H (l ++ (o :: (ρ ++ r))) (lv ++ (v :: (σ ++ rv)))) (el : lv.length = l.length) (e : σ.length = ρ.length) (er : rv.length = r.length) (eo : ρ[k]? = some z) (ev : σ[k]? = some v) :
    Rep K M H (l ++ (ρ.set k o ++ r)) (lv ++ (σ ++ rv)) := by
  obtain ⟨a, b, e1, e2, e3⟩ := split_at eo o
  obtain ⟨c, d, f1, f2, _⟩ := split_at ev v
  have hac : c.length = a.length := by omega
  rw [e3]
  subst e1; subst f1
  have hbd : d.length = b.length := by simp at e; omega
  -- the old thing of the slot goes
  have R1 : Rep K M H (l ++ (o :: (a ++ b ++ r))) (lv ++ (v :: (c ++ d ++ rv))) := by
    have R0 : Rep K M H ((l ++ (o :: a)) ++ z :: (b ++ r)) ((lv ++ (v :: c)) ++ v :: (d ++ rv)) := by simpa using R
    have := R0.drop (by simp [el, hac])
    simpa using this
  refine R1.perm (by simp [el, hac, hbd, er]) (by simp [el, hac, hbd, er]) ?_
  have z1 : (l ++ (o :: (a ++ b ++ r))).zip (lv ++ (v :: (c ++ d ++ rv))) = l.zip lv ++ ((o, v) :: (a.zip c ++ (b.zip d ++ r.zip rv))) := by
    rw [List.zip_append el.symm]
    simp only [List.zip_cons_cons, List.append_assoc]
    rw [List.zip_append hac.symm, List.zip_append hbd.symm]
  have z2 : (l ++ ((a ++ o :: b) ++ r)).zip (lv ++ ((c ++ v :: d) ++ rv)) = l.zip lv ++ (a.zip c ++ ((o, v) :: (b.zip d ++ r.zip rv))) := by
    rw [List.zip_append el.symm]
    simp only [List.append_assoc, List.cons_append]
    rw [List.zip_append hac.symm]
    simp only [List.zip_cons_cons]
    rw [List.zip_append hbd.symm]
  rw [z1, z2]
  exact List.Perm.append_left _ List.perm_middle.symm
end

/-! ### arguments that are lent -/
inductive Arg where
  | val (f : Ev → Option D) | own (k : Nat)
def O.known : O → Bool
  | .unk => false
  | _ => true
theorem Ow.known {K : PySem.W.Frag} {M H : Hp} {o : O} {v : Option V} {f : List Addr} (h : Ow K M H o v f) (k : o.known = true) : ∃ x, v = some x := by
  cases h <;> first | exact ⟨_, rfl⟩ | cases k
def argsO : List Arg → Ev → Option (List O × Ev)
  | [], ρ => some ([], ρ)
  | .val f :: as, ρ => (f ρ).bind fun d => (argsO as ρ).map fun p => (.dat d :: p.1, p.2)
  | .own k :: as, ρ => match ρ[k]? with
    | some o => if o.known = true then (argsO as (ρ.set k .unk)).map fun p => (o :: p.1, p.2) else none
    | none => none
/-- what was lent comes back -/
def giveB : List Arg → List O → Ev → Ev
  | .val _ :: as, _ :: os, ρ => giveB as os ρ
  | .own k :: as, o :: os, ρ => (giveB as os ρ).set k o
  | _, _, ρ => ρ
inductive Bor (σ : L2.St) : List Arg → List V → Prop
  | nil : Bor σ [] []
  | val {f : Ev → Option D} {as : List Arg} {v : V} {vs : List V} : Bor σ as vs → Bor σ (.val f :: as) (v :: vs)
  | own {k : Nat} {as : List Arg} {v : V} {vs : List V} : σ[k]? = some (some v) → Bor σ as vs → Bor σ (.own k :: as) (v :: vs)
theorem argsO_val {f : Ev → Option D} {as : List Arg} {ρ ρ1 : Ev} {os : List O} (h : argsO (.val f :: as) ρ = some (os, ρ1)) : ∃ d os', f ρ = some d ∧ argsO as ρ = some (os', ρ1) ∧ os = .dat d :: os' := by
  unfold argsO at h
  cases q : f ρ with
  | none => rw [q] at h; cases h
  | some d =>
    rw [q, Option.bind_some] at h
    cases q2 : argsO as ρ with
    | none => rw [q2] at h; cases h
    | some p => rw [q2] at h; cases h; exact ⟨d, p.1, rfl, rfl, rfl⟩
theorem argsO_own {k : Nat} {as : List Arg} {ρ ρ1 : Ev} {os : List O} (h : argsO (.own k :: as) ρ = some (os, ρ1)) : ∃ o os', ρ[k]? = some o ∧ o.known = true ∧ argsO as (ρ.set k .unk) = some (os', ρ1) ∧ os = o :: os' := by
  unfold argsO at h
  cases q : ρ[k]? with
  | none => rw [q] at h; cases h
  | some o =>
    rw [q] at h
    change (if o.known = true then (argsO as (ρ.set k .unk)).map fun p => (o :: p.1, p.2) else none) = some (os, ρ1) at h
    split at h
    · rename_i hk
      cases q2 : argsO as (ρ.set k .unk) with
      | none => rw [q2] at h; cases h
      | some p => rw [q2] at h; cases h; exact ⟨o, p.1, rfl, hk, rfl, rfl⟩
    · cases h
theorem argsO_len : ∀ {as : List Arg} {ρ ρ1 : Ev} {os : List O}, argsO as ρ = some (os, ρ1) → ρ1.length = ρ.length ∧ os.length = as.length
  | [], _, _, _, h => by cases h; exact ⟨rfl, rfl⟩
  | .val f :: as, ρ, ρ1, os, h => by
    obtain ⟨d, os', _, h2, rfl⟩ := argsO_val h
    obtain ⟨a, b⟩ := argsO_len h2
    exact ⟨a, by simp [b]⟩
  | .own k :: as, ρ, ρ1, os, h => by
    obtain ⟨o, os', _, _, h2, rfl⟩ := argsO_own h
    obtain ⟨a, b⟩ := argsO_len h2
    exact ⟨by rw [a]; simp, by simp [b]⟩
theorem argsO_back : ∀ {as : List Arg} {ρ ρ1 : Ev} {os : List O}, argsO as ρ = some (os, ρ1) → giveB as os ρ1 = ρ
  | [], _, _, _, h => by cases h; rfl
  | .val f :: as, ρ, ρ1, os, h => by
    obtain ⟨d, os', _, h2, rfl⟩ := argsO_val h
    show giveB as os' ρ1 = ρ
    exact argsO_back h2
  | .own k :: as, ρ, ρ1, os, h => by
    obtain ⟨o, os', e, _, h2, rfl⟩ := argsO_own h
    show (giveB as os' ρ1).set k o = ρ
    rw [argsO_back h2, List.set_set]
    obtain ⟨hk, e⟩ := List.getElem?_eq_some_iff.mp e
    rw [← e, List.set_getElem_self]
def tAB (K : PySem.W.Frag) (as : List Arg) : TA := fun σ H Q => ∃ M ρ fo fv os ρ1, Rep K M H (ρ ++ fo) (σ ++ fv) ∧ σ.length = ρ.length ∧ argsO as ρ = some (os, ρ1) ∧
  ∀ M' H' vs, Same M M' → Rep K M' H' (os ++ (ρ1 ++ fo)) (vs.map some ++ (σ ++ fv)) → Bor σ as vs → Q vs H'
section
variable {K : PySem.W.Frag} {M H : Hp}
theorem Rep.lens {ρ fo : List O} {σ fv : List (Option V)} (R : Rep K M H (ρ ++ fo) (σ ++ fv)) (l : σ.length = ρ.length) : fv.length = fo.length := by
  have := R.length
  simp at this; omega
theorem Rep.front {a b : List O} {av bv : List (Option V)} {o : O} {v : Option V} (R : Rep K M H (a ++ o :: b) (av ++ v :: bv)) (e : av.length = a.length) (e2 : bv.length = b.length) : Rep K M H (o :: (a ++ b)) (v :: (av ++ bv)) := by
  refine R.perm (by simp [e, e2]) (by simp [e, e2]) ?_
  rw [List.zip_append e.symm]
  simp only [List.zip_cons_cons]
  rw [List.zip_append e.symm]
  exact List.perm_middle
theorem giveB_len : ∀ {as : List Arg} {os : List O} {ρ : Ev}, (giveB as os ρ).length = ρ.length
  | [], _, _ => by unfold giveB; rfl
  | .val _ :: as, [], ρ => rfl
  | .own _ :: as, [], ρ => rfl
  | .val _ :: as, _ :: os, ρ => giveB_len (as := as) (os := os)
  | .own k :: as, o :: os, ρ => by
    show ((giveB as os ρ).set k o).length = ρ.length
    rw [List.length_set]; exact giveB_len
/-- the lent things go back into their slots -/
theorem Rep.give : ∀ {as : List Arg} {os l r : List O} {vs : List V} {lv σ rv : List (Option V)} {ρ : Ev}, Rep K M H (l ++ (os ++ (ρ ++ r))) (lv ++ (vs.map some ++ (σ ++ rv))) → lv.length = l.length → σ.length = ρ.length → rv.length = r.length → os.length = as.length → Bor σ as vs →
    Rep K M H (l ++ (giveB as os ρ ++ r)) (lv ++ (σ ++ rv))
  | _, os, l, r, _, lv, σ, rv, ρ, R, _, _, _, h, .nil => by
    have : os = [] := List.length_eq_zero_iff.mp h
    subst this
    exact R
  | .val _ :: as, o :: os, l, r, v :: vs, lv, σ, rv, ρ, R, el, e, er, h, .val b => by
    have R1 : Rep K M H (l ++ (os ++ (ρ ++ r))) (lv ++ (vs.map some ++ (σ ++ rv))) := Rep.drop (l := l) (lv := lv) (by simpa using R) el
    exact Rep.give (as := as) R1 el e er (by simpa using h) b
  | .own k :: as, o :: os, l, r, v :: vs, lv, σ, rv, ρ, R, el, e, er, h, .own ek b => by
    have R0 : Rep K M H ((l ++ [o]) ++ (os ++ (ρ ++ r))) ((lv ++ [some v]) ++ (vs.map some ++ (σ ++ rv))) := by simpa using R
    have R1 := Rep.give (as := as) R0 (by simp [el]) e er (by simpa using h) b
    have hk : k < (giveB as os ρ).length := by
      rw [giveB_len, ← e]; exact (List.getElem?_eq_some_iff.mp ek).1
    have R2 : Rep K M H (l ++ (o :: (giveB as os ρ ++ r))) (lv ++ (some v :: (σ ++ rv))) := by simpa using R1
    exact R2.back el (by rw [giveB_len]; exact e) er (List.getElem?_eq_getElem hk) ek
end
section
variable {X : Cx} {e : Expr} {es : List Expr} {as : List Arg} {f : Ev → Option D}
theorem bNil : PA X [] (tAB X.K []) := PA.imp pa_nil fun σ H Q ⟨M, ρ, fo, fv, os, ρ1, R, l, e, k⟩ => by
  cases e
  exact k M H [] (Same.refl _) R .nil
theorem bVal (ha : PE X e (tP X.K f)) (hr : PA X es (tAB X.K as)) (hs : starEach (e :: es) X.env = (false, eval e X.env) :: starEach es X.env := by rfl) : PA X (e :: es) (tAB X.K (.val f :: as)) := PA.imp (pa_cons ha hr hs) fun σ H Q ⟨M, ρ, fo, fv, os, ρ1, R, l, e, k⟩ => by
  obtain ⟨d, os', ed, eo, rfl⟩ := argsO_val e
  refine ⟨M, ρ, fo, fv, d, R, l, ed, fun M1 H1 v s1 R1 d1 => ⟨M1, ρ, fo, fv, os', ρ1, R1, l, eo, fun M2 H2 vs s2 R2 b2 => k M2 H2 (v :: vs) (s1.trans s2) ?_ (.val b2)⟩⟩
  exact Rep.push (l := []) (lv := []) R2 rfl (d1.mono s2)
theorem bOwn {k : Nat} {x : Str} {p : Pos} (hv : PE X (.Name x p) (tVar k)) (hr : PA X es (tAB X.K as)) (hs : starEach (.Name x p :: es) X.env = (false, eval (.Name x p) X.env) :: starEach es X.env := by rfl) : PA X (.Name x p :: es) (tAB X.K (.own k :: as)) := PA.imp (pa_cons hv hr hs) fun σ H Q ⟨M, ρ, fo, fv, os, ρ1, R, l, e, kk⟩ => by
  obtain ⟨o, os', eo, ho, e2, rfl⟩ := argsO_own e
  have lf := R.lens l
  have R' : Rep X.K M H (ρ ++ ([] ++ fo)) (σ ++ ([] ++ fv)) := R
  obtain ⟨v, f1, ft, ev, h1, _, _, _, _⟩ := R'.own l rfl eo
  obtain ⟨x', rfl⟩ := h1.known ho
  have R1 : Rep X.K M H (ρ.set k .unk ++ (o :: fo)) (σ ++ (some x' :: fv)) := (Rep.pull (l := []) (lv := []) R rfl l lf eo ev).swap (by simp [l])
  refine ⟨x', ev, M, ρ.set k .unk, o :: fo, some x' :: fv, os', ρ1, R1, by simp [l], e2, fun M2 H2 vs s2 R2 b2 => kk M2 H2 (x' :: vs) s2 ?_ (.own ev b2)⟩
  have hlen := argsO_len e2
  have lv : (vs.map some).length = os'.length := by
    have a := R2.length
    simp only [List.length_append, List.length_cons] at a
    have b := hlen.1
    simp at b
    omega
  have R3 : Rep X.K M2 H2 ((os' ++ ρ1) ++ o :: fo) ((vs.map some ++ σ) ++ some x' :: fv) := by simpa using R2
  have := R3.front (by simp at lv ⊢; rw [hlen.1]; simp [lv, l]) lf
  simpa using this
end
/-! ### a def by things: parameters may be lent -/
def runB (n : Nat) (J : List Nat) (b : Ev → Option Fl) (os : List O) : Option (O × List O) := (b (os ++ List.replicate (n - os.length) .unk)).bind fun r => match r with
  | .nx ρ => if os.length ≤ ρ.length then some (.dat .non, (List.range os.length).map fun j => if j ∈ J then ρ.getD j .unk else match os.getD j .unk with | .dat d => .dat d | _ => .unk) else none
  | .rt o ρ => if os.length ≤ ρ.length then some (o, (List.range os.length).map fun j => if j ∈ J then ρ.getD j .unk else match os.getD j .unk with | .dat d => .dat d | _ => .unk) else none
  | _ => none
def spB (K : PySem.W.Frag) (n : Nat) (m : List O → Option (O × List O)) : Sp := fun vs H Q _ => ∃ M fo fv os o os', vs.length = n ∧ os.length = n ∧ Rep K M H (os ++ fo) (vs.map some ++ fv) ∧ m os = some (o, os') ∧
  ∀ M' H' v, Same M M' → Rep K M' H' (o :: (os' ++ fo)) (some v :: (vs.map some ++ fv)) → Q v H'

section
variable {P : Program} {w : World} {K : PySem.W.Frag} {mg : Str → Option Value} {base : Heap}
theorem Ows.take {M H : Hp} : ∀ (n : Nat) {os : List O} {vs : List (Option V)} {fp : List Addr}, Ows K M H os vs fp → ∃ f1 f2, fp = f1 ++ f2 ∧ Ows K M H (os.take n) (vs.take n) f1
  | 0, _, _, fp, _ => ⟨[], fp, rfl, .nil⟩
  | _ + 1, _, _, _, .nil => ⟨[], [], rfl, .nil⟩
  | n + 1, _, _, _, .cons (f1 := f1) h hs => by
    obtain ⟨a, b, e, w⟩ := Ows.take n hs
    exact ⟨f1 ++ a, b, by rw [e, List.append_assoc], .cons h w⟩
/-- the parameters at the end of the def -/
theorem Rep.params {M M1 H0 H1 : Hp} {J : List Nat} {os fo tm ρ : List O} {vs : List V} {fv tv σ σ0 : List (Option V)} (R0 : Rep K M H0 (os ++ fo) (vs.map some ++ fv)) (hl : vs.length = os.length) (s1 : Same M M1) (R : Rep K M1 H1 (ρ ++ (tm ++ fo)) (σ ++ (tv ++ fv))) (lt : tv.length = tm.length) (lk : Lk J σ0 σ ρ) (h0 : ∀ j < os.length, σ0[j]? = (vs.map some)[j]?) (hn : os.length ≤ ρ.length) :
    Rep K M1 H1 (tm ++ (((List.range os.length).map fun j => if j ∈ J then ρ.getD j .unk else match os.getD j .unk with | .dat d => .dat d | _ => .unk) ++ fo)) (tv ++ (vs.map some ++ fv)) := by
  obtain ⟨s, fp, w, nd, nm⟩ := R
  obtain ⟨fa, fb, e1, w1, w2⟩ := w.split lk.1
  obtain ⟨ft, fr, e2, w3, w4⟩ := w2.split lt
  obtain ⟨f1, f2, e3, w5⟩ := Ows.take os.length w1
  obtain ⟨f', sb, w6⟩ := w5.restore (ρ := (List.range os.length).map fun j => if j ∈ J then ρ.getD j .unk else match os.getD j .unk with | .dat d => .dat d | _ => .unk) (σ := vs.map some) (by simp; omega) (by simp [hl]) fun j => by
    by_cases hj : j < os.length
    · rw [List.getElem?_map, List.getElem?_range hj]
      simp only [Option.map_some]
      by_cases hJ : j ∈ J
      · left
        rw [if_pos hJ]
        constructor
        · rw [List.getElem?_take_of_lt hj, List.getElem?_eq_getElem (by omega), List.getD_eq_getElem?_getD, List.getElem?_eq_getElem (by omega)]
          rfl
        · rw [List.getElem?_take_of_lt hj, lk.2 j hJ, h0 j hj]
      · rw [if_neg hJ]
        right
        split
        · rename_i d hd
          left
          rw [List.getD_eq_getElem?_getD, List.getElem?_eq_getElem hj] at hd
          obtain ⟨x, ex, dx⟩ := R0.slot (by simp [hl]) (i := j) (d := d) (by rw [List.getElem?_eq_getElem hj]; simpa using hd)
          exact ⟨d, x, rfl, ex, dx.mono s1⟩
        · right; rfl
    · left
      have h1 : (List.map some vs)[j]? = none := List.getElem?_eq_none (by simp [hl]; omega)
      constructor
      · rw [List.getElem?_eq_none (by simp; omega), List.getElem?_eq_none (by simp; omega)]
      · rw [h1, List.getElem?_eq_none (by simp; omega)]
  subst e1; subst e2; subst e3
  refine ⟨s, ft ++ (f' ++ fr), w3.append (w6.append w4), ?_, fun a ha => nm a ?_⟩
  · rw [List.nodup_iff_count] at nd ⊢
    intro a
    have h1 := nd a
    have h2 := sb.count_le a
    simp only [List.count_append] at h1 ⊢
    omega
  · simp only [List.mem_append] at ha ⊢
    rcases ha with ha | ha | ha
    · exact .inr (.inl ha)
    · exact .inl (.inl (sb.subset ha))
    · exact .inr (.inr ha)
theorem fnB {x qual : Str} {st : Stmt} {f : Addr} {fd : FuncData} {N ps : List Str} {k : Nat} {J : List Nat} {b : Ev → Option Fl} (F : Fun K x qual st f fd) (S : FnScope N ps (defScope st))
    (hb : ∀ (cdv : Value) (A : Around) (outer : List Env) (s : Shared) (H : Hp) (E : XK), Room k (A.deeper (PyProof.Rows.envOfC qual (defScope st) s.heap.objs.size f cdv)) →
      PSs (cxOf CX0 P w K mg base N qual (defScope st) f cdv A outer s H E).nox (defBody st) (tS K W0 J b)) : FnOk P w K mg base CX0 (k + 1) f fd ps (spB K ps.length (runB N.length J b)) := by
  refine F.ok S (fun vs H Q E h => ?_) fun cdv A outer s H vs Q E hr h => ⟨_, hb cdv A outer s H E hr, ?_⟩
  · obtain ⟨M, fo, fv, os, o, os', hl, _⟩ := h
    exact hl
  obtain ⟨M, fo, fv, os, o, os', hl, ho, R, e, kk⟩ := h
  have hlv : vs.length = os.length := by omega
  have R1 : Rep K M H ((os ++ List.replicate (N.length - os.length) .unk) ++ fo) (L2.start N vs ++ fv) := by
    obtain ⟨sm, fp, w, nd, nm⟩ := R
    obtain ⟨fa, fb, e1, w1, w2⟩ := w.split (by simp [hlv])
    subst e1
    refine ⟨sm, (fa ++ []) ++ fb, ?_, by simpa using nd, fun a ha => nm a (by simpa using ha)⟩
    unfold L2.start
    rw [hlv]
    exact (w1.append (ows_unk _)).append w2
  have l1 : (L2.start N vs).length = (os ++ List.replicate (N.length - os.length) O.unk).length := by simp [L2.start, hlv]
  have st0 : ∀ j < os.length, (L2.start N vs)[j]? = (vs.map some)[j]? := fun j hj => by
    unfold L2.start
    rw [List.getElem?_append_left (by simp [hlv]; exact hj)]
  unfold runB at e
  cases q : b (os ++ List.replicate (N.length - os.length) .unk) with
  | none => rw [q] at e; cases e
  | some r =>
    rw [q, Option.bind_some] at e
    refine ⟨M, _, fo, fv, r, L2.start N vs, R1, ⟨l1, fun _ _ => rfl⟩, q, ?_⟩
    cases r with
    | nx ρ =>
      change (if os.length ≤ ρ.length then _ else none) = some (o, os') at e
      split at e
      case isFalse => cases e
      rename_i hle
      cases e
      intro M1 H1 σ1 s1 R2 lk
      have R3 := Rep.params (tm := [.dat .non]) (tv := [some .non]) R hlv s1 (R2.push lk.1 .non) rfl lk st0 hle
      exact kk M1 H1 _ s1 R3
    | rt o' ρ =>
      change (if os.length ≤ ρ.length then _ else none) = some (o, os') at e
      split at e
      case isFalse => cases e
      rename_i hle
      cases e
      intro M1 H1 σ1 v s1 R2 lk
      have R3 := Rep.params (tm := [o]) (tv := [some v]) R hlv s1 R2 rfl lk st0 hle
      exact kk M1 H1 v s1 R3
    | bk ρ => cases e
    | ct ρ => cases e
    | ex x ρ => cases e
end

/-! ### calls with lent arguments -/
open Classical in
/-- the call leaves what was lent as it was -/
noncomputable def cB0 (as : List Arg) (n : Nat) (m : List O → Option (O × List O)) (ρ : Ev) : Option O := (argsO as ρ).bind fun p => if p.1.length = n then (m p.1).bind fun r => if r.2 = p.1 then some r.1 else none else none
theorem cB0_some {as : List Arg} {n : Nat} {m : List O → Option (O × List O)} {ρ : Ev} {o : O} (h : cB0 as n m ρ = some o) : ∃ os ρ1, argsO as ρ = some (os, ρ1) ∧ os.length = n ∧ m os = some (o, os) := by
  unfold cB0 at h
  cases q : argsO as ρ with
  | none => rw [q] at h; cases h
  | some p =>
    rw [q, Option.bind_some] at h
    split at h
    · rename_i hn
      cases q2 : m p.1 with
      | none => rw [q2] at h; cases h
      | some r =>
        rw [q2, Option.bind_some] at h
        split at h
        · rename_i hr
          cases h
          exact ⟨p.1, p.2, rfl, hn, by rw [q2, ← hr]⟩
        · cases h
    · cases h
section
variable {X : Cx} {W : WX} {pos p : Pos} {e : Expr} {es : List Expr} {as : List Arg} {k n : Nat} {f C : Addr} {fd : FuncData} {ps : List Str} {x : Str}
theorem oCallL {m : List O → Option (O × List O)} (F : FnOk X.prog X.w X.K X.mg X.base CX0 k f fd ps (spB X.K n m)) (hr : Room k X.A) (hm : X.mg x = some (.ref f)) (hk : PySem.W.keepIn X.K (.ref f) = true) (hb : Binds X.K fd ps []) (ha : PA X (e :: es) (tAB X.K as)) (hg : Gl X x := by rfl)
    (hdb : (x == ("__debug__" : Str)) = false := by decide) (he : starEach (e :: es) X.env = (false, eval e X.env) :: starEach es X.env := by rfl) (hpl : (backTo pos (starEach es X.env)).any (·.1) = false := by rfl) : PE X (.Call (.Name x p) (e :: es) [] pos) (tO X.K (cB0 as n m)) :=
  PE.imp (pe_call (E := E0) F hr hg hm hk hb .nil pass0 ha hdb he hpl) fun σ H Q ⟨M, ρ, fo, fv, o, R, l, e, kk⟩ => by
    obtain ⟨os, ρ1, e1, hn, e2⟩ := cB0_some e
    have lf := R.lens l
    have hlen := argsO_len e1
    refine ⟨M, ρ, fo, fv, os, ρ1, R, l, e1, fun M1 H1 vs s1 R1 b1 => ?_⟩
    have lv : vs.length = os.length := by
      have a := R1.length
      simp only [List.length_append, List.length_map] at a
      have := hlen.1
      omega
    refine ⟨M1, ρ1 ++ fo, σ ++ fv, os, o, os, by rw [List.append_nil]; omega, hn, by rw [List.append_nil]; exact R1, e2, fun M2 H2 v s2 R2 => kk M2 H2 v (s1.trans s2) ?_⟩
    rw [List.append_nil] at R2
    have R3 := Rep.give (as := as) (l := [o]) (lv := [some v]) R2 rfl (by rw [hlen.1]; exact l) lf hlen.2 b1
    rw [argsO_back e1] at R3
    have R4 : Rep X.K M2 H2 (o :: (ρ ++ fo)) (some v :: (σ ++ fv)) := R3
    exact R4.swap l
/-- C(..) with lent arguments -/
noncomputable def cI0 (C : Addr) (as : List Arg) (n : Nat) (m : List O → Option (O × List O)) (ρ : Ev) : Option O := (argsO as ρ).bind fun p => if p.1.length + 1 = n then (m (.obj C [] [] :: p.1)).bind fun r => match r.2 with
  | o :: os => open Classical in if r.1 = .dat .non ∧ os = p.1 then some o else none
  | [] => none else none
theorem cI0_some {as : List Arg} {n : Nat} {m : List O → Option (O × List O)} {ρ : Ev} {o : O} (h : cI0 C as n m ρ = some o) : ∃ os ρ1, argsO as ρ = some (os, ρ1) ∧ os.length + 1 = n ∧ m (.obj C [] [] :: os) = some (.dat .non, o :: os) := by
  unfold cI0 at h
  cases q : argsO as ρ with
  | none => rw [q] at h; cases h
  | some p =>
    rw [q, Option.bind_some] at h
    split at h
    · rename_i hn
      cases q2 : m (.obj C [] [] :: p.1) with
      | none => rw [q2] at h; cases h
      | some r =>
        rw [q2, Option.bind_some] at h
        split at h
        · rename_i o' os hr
          split at h
          · rename_i hc
            cases h
            exact ⟨p.1, p.2, rfl, hn, by rw [q2, ← hc.1, ← hc.2, ← hr]⟩
          · cases h
        · cases h
    · cases h
theorem oMakeL {m : List O → Option (O × List O)} (Mc : Mk X.K C f) (F : FnOk X.prog X.w X.K X.mg X.base CX0 k f fd ps (spB X.K n m)) (hr : Room (k + 1) X.A) (hm : X.mg x = some (.ref C)) (hb : Binds X.K fd ps []) (ha : PA X (e :: es) (tAB X.K as)) (hg : Gl X x := by rfl)
    (hdb : (x == ("__debug__" : Str)) = false := by decide) (he : starEach (e :: es) X.env = (false, eval e X.env) :: starEach es X.env := by rfl) (hpl : (backTo pos (starEach es X.env)).any (·.1) = false := by rfl) :
    PE X (.Call (.Name x p) (e :: es) [] pos) (tO X.K (cI0 C as n m)) := PE.imp (pe_make Mc F hr hg hm hb .nil (E := E0) pass0 ha hdb he hpl) fun σ H Q ⟨M, ρ, fo, fv, o, R, l, e, kk⟩ => by
  obtain ⟨os, ρ1, e1, hn, e2⟩ := cI0_some e
  have lf := R.lens l
  have hlen := argsO_len e1
  refine ⟨M, ρ, fo, fv, os, ρ1, R, l, e1, fun M1 H1 vs s1 R1 b1 x dx hx hd ne => ?_⟩
  have lv : vs.length = os.length := by
    have a := R1.length
    simp only [List.length_append, List.length_map] at a
    have := hlen.1
    omega
  refine ⟨M1, ρ1 ++ fo, σ ++ fv, .obj C [] [] :: os, _, _, by simp; omega, by simpa using hn, ?_, e2, fun M2 H2 v s2 R2 => ?_⟩
  · have := R1.newI (C := C) hx hd ne
    simpa using this
  · have R2' : Rep X.K M2 H2 ([] ++ O.dat .non :: (o :: (os ++ (ρ1 ++ fo)))) ([] ++ some v :: (some (.ref x) :: (vs.map some ++ (σ ++ fv)))) := by simpa using R2
    obtain ⟨y, ey, dy⟩ := R2'.datAt rfl rfl
    cases ey
    cases dy
    have R3 := R2'.drop rfl
    have R4 := Rep.give (as := as) (l := [o]) (lv := [some (.ref x)]) (os := os) (ρ := ρ1) (r := fo) (vs := vs) (σ := σ) (rv := fv) (by simpa using R3) rfl (by rw [hlen.1]; exact l) lf hlen.2 b1
    rw [argsO_back e1] at R4
    have R5 : Rep X.K M2 H2 (o :: (ρ ++ fo)) (some (.ref x) :: (σ ++ fv)) := R4
    exact ⟨rfl, kk M2 H2 _ (s1.trans s2) (R5.swap l)⟩
end
end PD

namespace PD
open PySem PySem.Spec L2

section
variable {X : Cx} {W : WX} {J : List Nat} {pos p : Pos} {tg e : Expr}
/-! ### an own list in a slot is walked -/
def ownL (k : Nat) (ρ : Ev) : Option (List D) := match ρ[k]? with
  | some (.lst os) => O.toDs os
  | _ => none
theorem toDs_all : ∀ {os : List O} {ds : List D}, O.toDs os = some ds → ds.length = os.length
  | [], ds, h => by cases h; rfl
  | o :: os, ds, h => by
    unfold O.toDs at h
    cases q : O.toD o with
    | none => rw [q] at h; cases h
    | some d =>
      cases q2 : O.toDs os with
      | none => rw [q, q2] at h; cases h
      | some ds' => rw [q, q2] at h; cases h; simp [toDs_all q2]
/-- all items are frozen -/
def datsO : List O → Option (List D)
  | [] => some []
  | .dat d :: os => (datsO os).map (d :: ·)
  | _ => none
theorem dats_of {K : PySem.W.Frag} {M H : Hp} : ∀ {os : List O} {ds : List D} {xs : List V} {fp : List Addr}, datsO os = some ds → Ows K M H os (xs.map some) fp → Dvs K M xs ds
  | [], _, [], _, h, .nil => by cases h; exact .nil
  | .dat d :: os, ds, x :: xs, _, h, .cons w ws => by
    unfold datsO at h
    cases q : datsO os with
    | none => rw [q] at h; cases h
    | some ds' =>
      rw [q] at h
      cases h
      cases w with
      | dat dv => exact .cons dv (dats_of q ws)
def ownI (k : Nat) (ρ : Ev) : Option (List D) := match ρ[k]? with
  | some (.lst os) => datsO os
  | _ => none
theorem ownI_some {k : Nat} {ρ : Ev} {ds : List D} (h : ownI k ρ = some ds) : ∃ os, ρ[k]? = some (.lst os) ∧ datsO os = some ds := by
  unfold ownI at h
  split at h
  · rename_i os e; exact ⟨os, e, h⟩
  · cases h
theorem ownI_lt {k : Nat} (ρ : Ev) (ds : List D) (h : ownI k ρ = some ds) : ∀ j ∈ [k], j < ρ.length := by
  obtain ⟨os, e, _⟩ := ownI_some h
  intro j hj
  simp at hj; subst hj
  exact (List.getElem?_eq_some_iff.mp e).1
theorem mem_split {α : Type} {x : α} {xs : List α} (h : x ∈ xs) : ∃ a b, xs = a ++ x :: b := List.append_of_mem h
theorem ows_at {K : PySem.W.Frag} {M H : Hp} {o : O} {v : Option V} : ∀ {os : List O} {vs : List (Option V)} {fp : List Addr}, Ows K M H os vs fp → (o, v) ∈ os.zip vs → ∃ f, Ow K M H o v f
  | _, _, _, .nil, h => by simp at h
  | _, _, _, .cons h1 hs, h => by
    simp only [List.zip_cons_cons, List.mem_cons] at h
    rcases h with h | h
    · cases h; exact ⟨_, h1⟩
    · exact ows_at hs h
theorem rep_at {K : PySem.W.Frag} {M H : Hp} {os : List O} {vs : List (Option V)} {o : O} {v : Option V} (R : Rep K M H os vs) (h : (o, v) ∈ os.zip vs) : ∃ f, Ow K M H o v f := by
  obtain ⟨s, fp, w, nd, nm⟩ := R
  exact ows_at w h
theorem iOwn {k : Nat} {x : Str} (hv : PE X (.Name x p) (tVar k)) : PI X tg (.Name x p) (tI X.K [k] (ownI k)) := PI.imp (pi_list hv) fun σ H R ⟨M, ρ, fo, fv, ds, R0, l, e, kk⟩ => by
  obtain ⟨os, eo, ed⟩ := ownI_some e
  have R' : Rep X.K M H (ρ ++ ([] ++ fo)) (σ ++ ([] ++ fv)) := R0
  obtain ⟨v, f1, ft, ev, h1, _, _, _, _⟩ := R'.own l rfl eo
  cases h1 with
  | @lst a xs _ fp ha ws =>
    refine ⟨.ref a, ev, a, rfl, ⟨xs, .inl (.inl ha)⟩, kk M H _ (Same.refl _) R0 ?_⟩
    have z1 : ρ.getD k .unk = .lst os := by rw [List.getD_eq_getElem?_getD, eo]; rfl
    have z2 : σ.getD k none = some (.ref a) := by rw [List.getD_eq_getElem?_getD, ev]; rfl
    intro i M1 H1 os1 vs1 s1 R1 hn
    have hm := hn (.lst os, some (.ref a)) (by simp only [List.map_cons, List.map_nil, List.mem_singleton, z1, z2])
    obtain ⟨f, hw⟩ := rep_at R1 hm
    cases hw with
    | @lst _ xs1 _ fp1 ha1 ws1 =>
      have dv := dats_of ed ws1
      have w := walk_list (K := X.K) (a := a) (xs := xs1)
      have q : SqL X.K H1 a xs1 := .inl (.inl ha1)
      have hl := dv.length
      refine ⟨fun hi => w.goes i H1 (by omega) q, fun hi => by subst hi; rw [← hl]; exact w.stops H1 q, fun d hd y H' hy => ?_⟩
      have hi : i < xs1.length := by rw [hl]; exact (List.getElem?_eq_some_iff.mp hd).1
      obtain ⟨rfl, ex⟩ := w.yields i H1 y H' hi q hy
      obtain ⟨e', he', dd⟩ := dv.getV ex
      rw [hd] at he'; cases he'
      exact ⟨M1, Same.refl _, R1, dd⟩
/-! ### for over an own list that the body leaves as it is -/
open Classical in
noncomputable def loopO (k : Nat) (z : Option O) (g : D → Ev → Option Ev) (body : Ev → Option Fl) : List D → Ev → Option Fl
  | [], ρ => some (.nx ρ)
  | d :: ds, ρ => (g d ρ).bind fun ρ1 => (body ρ1).bind fun r => match r with
    | .nx ρ' => if ρ'[k]? = z then loopO k z g body ds ρ' else none
    | .ct ρ' => if ρ'[k]? = z then loopO k z g body ds ρ' else none
    | .bk ρ' => some (.nx ρ')
    | r => some r
noncomputable def forO (k : Nat) (g : D → Ev → Option Ev) (body : Ev → Option Fl) (ρ : Ev) : Option Fl := (ownI k ρ).bind fun ds => loopO k ρ[k]? g body ds ρ
theorem sForO {k : Nat} {x : Str} {body : List Stmt} {is : List Nat} {g : D → Ev → Option Ev} {b : Ev → Option Fl} (hp : PassesOwn (model X.prog X.w) X.A X.env X.xe) (hc : X.calm = true) (hv : PE X (.Name x p) (tVar k)) (hg : PG X tg (tG X.K is g)) (ok : TgOk is g) (hb : PSs X body (tS X.K W J b)) (hk : k ∈ J := by decide) (hJ : ∀ i ∈ is, i ∉ J := by decide)
    (hs : ∀ y, foldedSetIterable (.Name x p) X.env y = pure y := by intro _; rfl) : PS X (.For tg (.Name x p) body [] pos) (tS X.K W J (forO k g b)) := PS.imp (ps_for hp hc (iOwn hv) hg hb hs) fun E σ H ⟨M, ρ, fo, fv, r, σ0, R, l, e, kk⟩ => by
  unfold forO at e
  cases q : ownI k ρ with
  | none => rw [q] at e; cases e
  | some ds =>
    rw [q, Option.bind_some] at e
    have kl : k < ρ.length := ownI_lt ρ ds q k (by simp)
    refine ⟨M, ρ, fo, fv, ds, R, l.1, q, fun M0 H0 JJ s0 R0 y => ?_⟩
    refine ⟨fun i m σ1 H => m = ds.length - i ∧ i ≤ ds.length ∧ ∃ M1 ρ1, Same M0 M1 ∧ Rep X.K M1 H (ρ1 ++ fo) (σ1 ++ fv) ∧ Lk J σ0 σ1 ρ1 ∧ ρ1[k]? = ρ[k]? ∧ loopO k ρ[k]? g b (ds.drop i) ρ1 = some r, ⟨ds.length, by omega, Nat.zero_le _, M0, ρ, Same.refl _, R0, l, rfl, by simpa using e⟩, ?_⟩
    rintro i m σ1 H ⟨rfl, hi, M1, ρ1, s1, R1, l1, z1, e1⟩
    have need : ∀ rr ∈ [k].map (fun k => (ρ.getD k .unk, σ.getD k none)), rr ∈ (ρ1 ++ fo).zip (σ1 ++ fv) := by
      intro rr hr
      simp only [List.map_cons, List.map_nil, List.mem_singleton] at hr
      subst hr
      refine List.mem_of_getElem? (i := k) ?_
      have kl1 : k < ρ1.length := by
        rw [List.getElem?_eq_getElem kl] at z1
        exact (List.getElem?_eq_some_iff.mp z1).1
      have kls : k < σ.length := by rw [l.1]; exact kl
      rw [List.getElem?_zip_eq_some]
      refine ⟨?_, ?_⟩
      · rw [List.getElem?_append_left kl1, z1, List.getD_eq_getElem?_getD, List.getElem?_eq_getElem kl]; rfl
      · rw [List.getElem?_append_left (by rw [l1.1]; exact kl1), l1.2 k hk, ← l.2 k hk, List.getElem?_eq_getElem kls]
        show some σ[k] = some (σ.getD k none)
        rw [List.getD_eq_getElem?_getD, List.getElem?_eq_getElem kls]; rfl
    obtain ⟨go, stop, yl⟩ := y i M1 H _ _ s1 R1 need
    by_cases hlt : i < ds.length
    · have ed : ds.drop i = ds[i] :: ds.drop (i + 1) := List.drop_eq_getElem_cons hlt
      rw [ed] at e1
      unfold loopO at e1
      cases q1 : g ds[i] ρ1 with
      | none => rw [q1] at e1; cases e1
      | some ρ2 =>
        rw [q1, Option.bind_some] at e1
        cases q2 : b ρ2 with
        | none => rw [q2] at e1; cases e1
        | some r2 =>
          rw [q2, Option.bind_some] at e1
          refine .inr ⟨go hlt, fun σ' H' => ∃ M1 ρ1, Same M0 M1 ∧ Rep X.K M1 H' (ρ1 ++ fo) (σ' ++ fv) ∧ Lk J σ0 σ' ρ1 ∧ ρ1[k]? = ρ[k]? ∧ loopO k ρ[k]? g b (ds.drop (i + 1)) ρ1 = some r, fun σ' H' h => ⟨ds.length - (i + 1), by omega, rfl, hlt, h⟩, fun x H' hy => ?_⟩
          obtain ⟨M2, s2, R2, d2⟩ := yl ds[i] (List.getElem?_eq_getElem hlt) x H' hy
          refine ⟨M2, ρ1, fo, fv, ds[i], ρ2, R2, l1.1, d2, q1, fun σ3 a3 l3 r3 R3 => ?_⟩
          have s02 : Same M M2 := s0.trans (s1.trans s2)
          refine ⟨M2, ρ2, fo, fv, r2, σ0, R3, l1.to l3 r3 a3 hJ, q2, ?_⟩
          cases r2 with
          | nx ρ4 =>
            change (open Classical in if ρ4[k]? = ρ[k]? then loopO k ρ[k]? g b (ds.drop (i + 1)) ρ4 else none) = some r at e1
            split at e1
            · rename_i hz; exact fun M4 H4 σ4 s4 R4 l4 => ⟨M4, ρ4, s1.trans (s2.trans s4), R4, l4, hz, e1⟩
            · cases e1
          | ct ρ4 =>
            change (open Classical in if ρ4[k]? = ρ[k]? then loopO k ρ[k]? g b (ds.drop (i + 1)) ρ4 else none) = some r at e1
            split at e1
            · rename_i hz; exact fun M4 H4 σ4 s4 R4 l4 => ⟨M4, ρ4, s1.trans (s2.trans s4), R4, l4, hz, e1⟩
            · cases e1
          | bk ρ4 => cases e1; exact fun M4 H4 σ4 s4 R4 l4 => kk M4 H4 σ4 (s02.trans s4) R4 l4
          | rt o ρ4 => cases e1; exact fun M4 H4 σ4 v s4 R4 l4 => kk M4 H4 σ4 v (s02.trans s4) R4 l4
          | ex x ρ4 => cases e1; exact fun M4 H4 σ4 cls d s4 R4 l4 => kk M4 H4 σ4 cls d (s02.trans s4) R4 l4
    · have ei : i = ds.length := by omega
      rw [ei, List.drop_length] at e1
      cases e1
      exact .inl ⟨stop ei, kk M1 H σ1 (s0.trans s1) R1 l1⟩
end

/-! ### what is never reached; recursion's ground -/
theorem sStuck {X : Cx} {W : WX} {J : List Nat} {st : Stmt} : PS X st (tS X.K W J fun _ => none) := ⟨fun p s σ H D I ⟨M, ρ, fo, fv, r, σ0, R, l, e, k⟩ => by cases e⟩
theorem fnNone {P : Program} {w : World} {K : PySem.W.Frag} {mg : Str → Option Value} {base : Heap} {CX : CXT} {k n : Nat} {f : Addr} {fd : FuncData} {ps : List Str} (hn : n = ps.length := by rfl) : FnOk P w K mg base CX k f fd ps (spP K n fun _ => none) :=
  ⟨fun vs H Q E h => hn ▸ h.1, fun A outer s H args us vs Q E _ _ _ _ h => by
    obtain ⟨_, M, fo, fv, ds, d, _, _, e, _⟩ := h
    cases e⟩
theorem isC_one {K : PySem.W.Frag} {C : Addr} (cx : ClsX K C) (h : (PySem.W.clsIn K C).isSome = true) : IsC K C [(C, true)] := ⟨h, cx.ty, fun C' b e => by
  simp only [List.lookup] at e
  split at e
  · rename_i z
    cases e
    have : C' = C := by simpa using z
    subst this
    exact ⟨cx, by unfold PySem.W.kitOne; rw [if_pos (by simp)]⟩
  · cases e⟩
/-- how a method binds when the arguments behind self come by name, in order -/
theorem kbn_of1 {K : PySem.W.Frag} {x qual : Str} {st : Stmt} {f : Addr} {fd : FuncData} {ps ks : List Str} (F : Fun K x qual st f fd)
    (h : ∀ (kV doc pm : Value) (an : Option Addr) (cdv ct : Value) (us ws : List Value), us.length = 1 → ws.length = ks.length → bindArgs (PySem.W.fnOf x qual (defArgs st) (defBody st) (defScope st) .none kV doc pm an cdv ct) ⟨us, ks.zip ws⟩ = pure (ps.zip (us ++ ws))) :
    KBn K fd ps 1 ks (fun us ws => us ++ ws) (fun vs zs => vs ++ zs) := by
  obtain ⟨oc, od, kV, doc, pm, an, cdv, ct, osl, rfl, lk, hcd⟩ := F.ex
  exact ⟨fun s us ws X h1 h2 => .of_eq (h kV doc pm an cdv ct us ws h1 h2), fun r1 r2 => r1.append r2⟩
end PD

namespace PD
open PySem PySem.Spec L2

/-! ### the evaluator: a simp set (word_snoc) that runs mirrors upon a written environment -/
/-- no rfl-lemma: the kernel must not run what stands behind it -/
theorem nrfl {α : Type} {a b : α} (h : a = b) : a = b := h
def toB : D → Option Bool
  | .bl b => some b
  | _ => none
def toI : D → Option Int
  | .int b => some b
  | _ => none
def andO (x y : Option Bool) : Option Bool := x.bind fun b => if b = true then y else some false
def orO (x y : Option Bool) : Option Bool := x.bind fun b => if b = true then some true else y
def iteO {α : Type} (c : Option Bool) (x y : Option α) : Option α := c.bind fun b => if b = true then x else y
def andW (y : Option D) : D → Option D
  | .bl true => y
  | .bl false => some (.bl false)
  | _ => none
def orW (y : Option D) : D → Option D
  | .bl true => some (.bl true)
  | .bl false => y
  | _ => none
def notW : D → Option D
  | .bl b => some (.bl (!b))
  | _ => none
def O.dats (ds : List D) : O := .lst (ds.map .dat)
theorem toD_dats (ds : List D) : (O.dats ds).toD = some (.lst ds) := by
  unfold O.dats O.toD
  rw [toDs_dat]; rfl
theorem line_of {n : Nat} (h : n ≤ 1000000) : n ≤ sizeLine := Nat.le_trans h (by decide)
section
variable {ρ r : Ev} {fa fb : Ev → Option D} {c c2 : Ev → Option Bool} {g : D → D → Option D} {h : D → Option D} {x y : D} {i : Nat} {o : O}
theorem ev_bind {α β : Type} (a : α) (f : α → Option β) : (some a).bind f = f a := nrfl rfl
theorem ev_map {α β : Type} (a : α) (f : α → β) : (some a).map f = some (f a) := nrfl rfl
theorem ev_gv0 : gv 0 (.dat x :: r) = some x := nrfl rfl
theorem ev_gvS : gv (i + 1) (o :: r) = gv i r := nrfl rfl
theorem ev_b2 : b2 fa fb g ρ = (fa ρ).bind fun x => (fb ρ).bind fun y => g x y := nrfl rfl
theorem ev_b1 : b1 fa h ρ = (fa ρ).bind h := nrfl rfl
theorem ev_kI (k : Int) : kI k ρ = some (.int k) := nrfl rfl
theorem ev_kS (k : Str) : kS k ρ = some (.str k) := nrfl rfl
theorem ev_kB (k : Bool) : kB k ρ = some (.bl k) := nrfl rfl
theorem ev_kN : kN ρ = some .non := nrfl rfl
theorem ev_aCons {f : Ev → Option (List D)} : aCons fa f ρ = (fa ρ).bind fun d => (f ρ).bind fun ds => some (d :: ds) := nrfl rfl
theorem ev_aNil : aNil ρ = some [] := nrfl rfl
theorem ev_cB {f : Ev → Option (List D)} {m : List D → Option D} : cB f m ρ = (f ρ).bind m := nrfl rfl
theorem ev_cO {f : Ev → Option (List D)} {m : List D → Option O} : cO f m ρ = (f ρ).bind m := nrfl rfl
theorem ev_asB : asB fa ρ = (fa ρ).bind toB := by
  unfold asB
  cases fa ρ with
  | none => rfl
  | some d => cases d <;> rfl
theorem ev_toB (b : Bool) : toB (.bl b) = some b := nrfl rfl
theorem ev_andT : andT c c2 ρ = andO (c ρ) (c2 ρ) := by
  unfold andT andO
  cases c ρ with
  | none => rfl
  | some b => cases b <;> rfl
theorem ev_orT : orT c c2 ρ = orO (c ρ) (c2 ρ) := by
  unfold orT orO
  cases c ρ with
  | none => rfl
  | some b => cases b <;> rfl
theorem ev_notT : notT c ρ = (c ρ).map (!·) := nrfl rfl
theorem ev_andO_t (y : Option Bool) : andO (some true) y = y := nrfl rfl
theorem ev_andO_f (y : Option Bool) : andO (some false) y = some false := nrfl rfl
theorem ev_andO (a b : Bool) : andO (some a) (some b) = some (a && b) := by cases a <;> rfl
theorem ev_orO_t (y : Option Bool) : orO (some true) y = some true := nrfl rfl
theorem ev_orO_f (y : Option Bool) : orO (some false) y = y := nrfl rfl
theorem ev_orO (a b : Bool) : orO (some a) (some b) = some (a || b) := by cases a <;> rfl
theorem ev_andV : andV fa fb ρ = (fa ρ).bind (andW (fb ρ)) := by
  unfold andV
  cases fa ρ with
  | none => rfl
  | some d => cases d with
    | bl b => cases b <;> rfl
    | _ => rfl
theorem ev_orV : orV fa fb ρ = (fa ρ).bind (orW (fb ρ)) := by
  unfold orV
  cases fa ρ with
  | none => rfl
  | some d => cases d with
    | bl b => cases b <;> rfl
    | _ => rfl
theorem ev_notV : notV fa ρ = (fa ρ).bind notW := by
  unfold notV
  cases fa ρ with
  | none => rfl
  | some d => cases d <;> rfl
theorem ev_andW_t (y : Option D) : andW y (.bl true) = y := nrfl rfl
theorem ev_andW_f (y : Option D) : andW y (.bl false) = some (.bl false) := nrfl rfl
theorem ev_andW (a b : Bool) : andW (some (.bl b)) (.bl a) = some (.bl (a && b)) := by cases a <;> rfl
theorem ev_orW_t (y : Option D) : orW y (.bl true) = some (.bl true) := nrfl rfl
theorem ev_orW_f (y : Option D) : orW y (.bl false) = y := nrfl rfl
theorem ev_orW (a b : Bool) : orW (some (.bl b)) (.bl a) = some (.bl (a || b)) := by cases a <;> rfl
theorem ev_notW (b : Bool) : notW (.bl b) = some (.bl (!b)) := nrfl rfl
theorem ev_ifV : ifV c fa fb ρ = iteO (c ρ) (fa ρ) (fb ρ) := by
  unfold ifV iteO
  cases c ρ with
  | none => rfl
  | some b => cases b <;> rfl
theorem ev_iteO {α : Type} (b : Bool) (x y : Option α) : iteO (some b) x y = if b = true then x else y := nrfl rfl
theorem ev_ite_some {α : Type} {p : Prop} [Decidable p] (x y : α) : (if p then some x else some y) = some (if p then x else y) := by split <;> rfl
theorem ev_ite_int {p : Prop} [Decidable p] (x y : Int) : (if p then D.int x else D.int y) = .int (if p then x else y) := by split <;> rfl
theorem ev_ite_str {p : Prop} [Decidable p] (x y : Str) : (if p then D.str x else D.str y) = .str (if p then x else y) := by split <;> rfl
theorem ev_dec {p : Prop} [Decidable p] : (decide p = true) = p := by simp
theorem ev_true {α : Type} (x y : α) : (if True then x else y) = x := nrfl rfl
theorem ev_false {α : Type} (x y : α) : (if False then x else y) = y := nrfl rfl
theorem ev_ft : (false = true) = False := by simp
theorem ev_tt : (true = true) = True := by simp
theorem ev_not {p : Prop} [Decidable p] : (!decide p) = decide (¬ p) := by simp
theorem ev_and {p q : Prop} [Decidable p] [Decidable q] : (decide p && decide q) = decide (p ∧ q) := by simp
theorem ev_or {p q : Prop} [Decidable p] [Decidable q] : (decide p || decide q) = decide (p ∨ q) := by simp
theorem ev_nt : (!true) = false := nrfl rfl
theorem ev_nf : (!false) = true := nrfl rfl
/-! things made -/
theorem ev_ba1 (b : Bool) : (b && true) = b := by cases b <;> rfl
theorem ev_ba2 (b : Bool) : (b && false) = false := by cases b <;> rfl
theorem ev_ba3 (b : Bool) : (true && b) = b := nrfl rfl
theorem ev_ba4 (b : Bool) : (false && b) = false := nrfl rfl
theorem ev_bo1 (b : Bool) : (b || true) = true := by cases b <;> rfl
theorem ev_bo2 (b : Bool) : (b || false) = b := by cases b <;> rfl
theorem ev_bo3 (b : Bool) : (true || b) = true := nrfl rfl
theorem ev_bo4 (b : Bool) : (false || b) = b := nrfl rfl
theorem ev_len?1 (m : List D → Option D) (a : D) : len? 1 m [a] = m [a] := nrfl rfl
theorem ev_lenO?1 (m : List D → Option O) (a : D) : lenO? 1 m [a] = m [a] := nrfl rfl
theorem ev_len?2 (m : List D → Option D) (a b : D) : len? 2 m [a, b] = m [a, b] := nrfl rfl
theorem ev_lenO?2 (m : List D → Option O) (a b : D) : lenO? 2 m [a, b] = m [a, b] := nrfl rfl
theorem ev_gT2 (h : List D → Ev → Option Ev) (a b : D) (ρ : Ev) : gT 2 h (.tup [a, b]) ρ = h [a, b] ρ := nrfl rfl
theorem ev_len?3 (m : List D → Option D) (a b c : D) : len? 3 m [a, b, c] = m [a, b, c] := nrfl rfl
theorem ev_lenO?3 (m : List D → Option O) (a b c : D) : lenO? 3 m [a, b, c] = m [a, b, c] := nrfl rfl
theorem ev_gT3 (h : List D → Ev → Option Ev) (a b c : D) (ρ : Ev) : gT 3 h (.tup [a, b, c]) ρ = h [a, b, c] ρ := nrfl rfl
theorem ev_len?4 (m : List D → Option D) (a b c d : D) : len? 4 m [a, b, c, d] = m [a, b, c, d] := nrfl rfl
theorem ev_lenO?4 (m : List D → Option O) (a b c d : D) : lenO? 4 m [a, b, c, d] = m [a, b, c, d] := nrfl rfl
theorem ev_gT4 (h : List D → Ev → Option Ev) (a b c d : D) (ρ : Ev) : gT 4 h (.tup [a, b, c, d]) ρ = h [a, b, c, d] ρ := nrfl rfl
theorem ev_len?5 (m : List D → Option D) (a b c d e : D) : len? 5 m [a, b, c, d, e] = m [a, b, c, d, e] := nrfl rfl
theorem ev_lenO?5 (m : List D → Option O) (a b c d e : D) : lenO? 5 m [a, b, c, d, e] = m [a, b, c, d, e] := nrfl rfl
theorem ev_gT5 (h : List D → Ev → Option Ev) (a b c d e : D) (ρ : Ev) : gT 5 h (.tup [a, b, c, d, e]) ρ = h [a, b, c, d, e] ρ := nrfl rfl
theorem ev_len?6 (m : List D → Option D) (a b c d e f : D) : len? 6 m [a, b, c, d, e, f] = m [a, b, c, d, e, f] := nrfl rfl
theorem ev_lenO?6 (m : List D → Option O) (a b c d e f : D) : lenO? 6 m [a, b, c, d, e, f] = m [a, b, c, d, e, f] := nrfl rfl
theorem ev_gT6 (h : List D → Ev → Option Ev) (a b c d e f : D) (ρ : Ev) : gT 6 h (.tup [a, b, c, d, e, f]) ρ = h [a, b, c, d, e, f] ρ := nrfl rfl
theorem ev_len?7 (m : List D → Option D) (a b c d e f g : D) : len? 7 m [a, b, c, d, e, f, g] = m [a, b, c, d, e, f, g] := nrfl rfl
theorem ev_lenO?7 (m : List D → Option O) (a b c d e f g : D) : lenO? 7 m [a, b, c, d, e, f, g] = m [a, b, c, d, e, f, g] := nrfl rfl
theorem ev_gT7 (h : List D → Ev → Option Ev) (a b c d e f g : D) (ρ : Ev) : gT 7 h (.tup [a, b, c, d, e, f, g]) ρ = h [a, b, c, d, e, f, g] ρ := nrfl rfl
theorem ev_len?8 (m : List D → Option D) (a b c d e f g h : D) : len? 8 m [a, b, c, d, e, f, g, h] = m [a, b, c, d, e, f, g, h] := nrfl rfl
theorem ev_lenO?8 (m : List D → Option O) (a b c d e f g h : D) : lenO? 8 m [a, b, c, d, e, f, g, h] = m [a, b, c, d, e, f, g, h] := nrfl rfl
theorem ev_gT8 (hh : List D → Ev → Option Ev) (a b c d e f g h : D) (ρ : Ev) : gT 8 hh (.tup [a, b, c, d, e, f, g, h]) ρ = hh [a, b, c, d, e, f, g, h] ρ := nrfl rfl
theorem ev_len?0 (m : List D → Option D) : len? 0 m [] = m [] := nrfl rfl
theorem ev_mkTup {f : Ev → Option (List D)} : mkTup f ρ = (f ρ).bind fun ds => if ds.length ≤ sizeLine then some (.tup ds) else none := nrfl rfl
theorem ev_mkLst {f : Ev → Option (List D)} : mkLst f ρ = (f ρ).bind fun ds => if ds.length ≤ sizeLine then some (.lst ds) else none := nrfl rfl
theorem ev_mkLstO {f : Ev → Option (List D)} : mkLstO f ρ = (f ρ).bind fun ds => if ds.length ≤ sizeLine then some (O.dats ds) else none := nrfl rfl
theorem ev_line {n : Nat} {α : Type} {x y : α} (h : n ≤ 1000000) : (if n ≤ sizeLine then x else y) = x := if_pos (line_of h)
theorem ev_isi_bool_non : isiD "bool" .non = some (.bl false) := nrfl rfl
theorem ev_isi_bool_bl (b : Bool) : isiD "bool" (.bl b) = some (.bl true) := nrfl rfl
theorem ev_isi_bool_int (k : Int) : isiD "bool" (.int k) = some (.bl false) := nrfl rfl
theorem ev_isi_bool_str (z : Str) : isiD "bool" (.str z) = some (.bl false) := nrfl rfl
theorem ev_isi_bool_lst (l : List D) : isiD "bool" (.lst l) = some (.bl false) := nrfl rfl
theorem ev_isi_bool_tup (l : List D) : isiD "bool" (.tup l) = some (.bl false) := nrfl rfl
theorem ev_isi_bool_dic (ks : List Key) (l : List D) : isiD "bool" (.dic ks l) = some (.bl false) := nrfl rfl
theorem ev_isi_int_non : isiD "int" .non = some (.bl false) := nrfl rfl
theorem ev_isi_int_bl (b : Bool) : isiD "int" (.bl b) = some (.bl true) := nrfl rfl
theorem ev_isi_int_int (k : Int) : isiD "int" (.int k) = some (.bl true) := nrfl rfl
theorem ev_isi_int_str (z : Str) : isiD "int" (.str z) = some (.bl false) := nrfl rfl
theorem ev_isi_int_lst (l : List D) : isiD "int" (.lst l) = some (.bl false) := nrfl rfl
theorem ev_isi_int_tup (l : List D) : isiD "int" (.tup l) = some (.bl false) := nrfl rfl
theorem ev_isi_int_dic (ks : List Key) (l : List D) : isiD "int" (.dic ks l) = some (.bl false) := nrfl rfl
theorem ev_isi_str_non : isiD "str" .non = some (.bl false) := nrfl rfl
theorem ev_isi_str_bl (b : Bool) : isiD "str" (.bl b) = some (.bl false) := nrfl rfl
theorem ev_isi_str_int (k : Int) : isiD "str" (.int k) = some (.bl false) := nrfl rfl
theorem ev_isi_str_str (z : Str) : isiD "str" (.str z) = some (.bl true) := nrfl rfl
theorem ev_isi_str_lst (l : List D) : isiD "str" (.lst l) = some (.bl false) := nrfl rfl
theorem ev_isi_str_tup (l : List D) : isiD "str" (.tup l) = some (.bl false) := nrfl rfl
theorem ev_isi_str_dic (ks : List Key) (l : List D) : isiD "str" (.dic ks l) = some (.bl false) := nrfl rfl
theorem ev_isi_tuple_non : isiD "tuple" .non = some (.bl false) := nrfl rfl
theorem ev_isi_tuple_bl (b : Bool) : isiD "tuple" (.bl b) = some (.bl false) := nrfl rfl
theorem ev_isi_tuple_int (k : Int) : isiD "tuple" (.int k) = some (.bl false) := nrfl rfl
theorem ev_isi_tuple_str (z : Str) : isiD "tuple" (.str z) = some (.bl false) := nrfl rfl
theorem ev_isi_tuple_lst (l : List D) : isiD "tuple" (.lst l) = some (.bl false) := nrfl rfl
theorem ev_isi_tuple_tup (l : List D) : isiD "tuple" (.tup l) = some (.bl true) := nrfl rfl
theorem ev_isi_tuple_dic (ks : List Key) (l : List D) : isiD "tuple" (.dic ks l) = some (.bl false) := nrfl rfl
theorem ev_isi_list_non : isiD "list" .non = some (.bl false) := nrfl rfl
theorem ev_isi_list_bl (b : Bool) : isiD "list" (.bl b) = some (.bl false) := nrfl rfl
theorem ev_isi_list_int (k : Int) : isiD "list" (.int k) = some (.bl false) := nrfl rfl
theorem ev_isi_list_str (z : Str) : isiD "list" (.str z) = some (.bl false) := nrfl rfl
theorem ev_isi_list_lst (l : List D) : isiD "list" (.lst l) = some (.bl true) := nrfl rfl
theorem ev_isi_list_tup (l : List D) : isiD "list" (.tup l) = some (.bl false) := nrfl rfl
theorem ev_isi_list_dic (ks : List Key) (l : List D) : isiD "list" (.dic ks l) = some (.bl false) := nrfl rfl
theorem ev_isi_dict_non : isiD "dict" .non = some (.bl false) := nrfl rfl
theorem ev_isi_dict_bl (b : Bool) : isiD "dict" (.bl b) = some (.bl false) := nrfl rfl
theorem ev_isi_dict_int (k : Int) : isiD "dict" (.int k) = some (.bl false) := nrfl rfl
theorem ev_isi_dict_str (z : Str) : isiD "dict" (.str z) = some (.bl false) := nrfl rfl
theorem ev_isi_dict_lst (l : List D) : isiD "dict" (.lst l) = some (.bl false) := nrfl rfl
theorem ev_isi_dict_tup (l : List D) : isiD "dict" (.tup l) = some (.bl false) := nrfl rfl
theorem ev_isi_dict_dic (ks : List Key) (l : List D) : isiD "dict" (.dic ks l) = some (.bl true) := nrfl rfl
/-! numbers -/
theorem ev_addA (i j : Int) : addA (.int i) (.int j) = some (.int (i + j)) := nrfl rfl
theorem ev_addD (i j : Int) : addD (.int i) (.int j) = some (.int (i + j)) := nrfl rfl
theorem ev_subI (i j : Int) : subI (.int i) (.int j) = some (.int (i - j)) := nrfl rfl
theorem ev_mulL {i j : Int} (h : -18446744073709551616 < i ∧ i < 18446744073709551616) : mulI (.int i) (.int j) = some (.int (i * j)) := by
  show (if okMul i j = true then _ else _) = _
  rw [if_pos]
  unfold okMul
  rw [decide_eq_true]
  exact .inl (by simpa using h)
theorem ev_mulR {i j : Int} (h : -18446744073709551616 < j ∧ j < 18446744073709551616) : mulI (.int i) (.int j) = some (.int (i * j)) := by
  show (if okMul i j = true then _ else _) = _
  rw [if_pos]
  unfold okMul
  rw [decide_eq_true]
  exact .inr (by simpa using h)
theorem ev_modI {i j : Int} (h : 0 < j) : modI (.int i) (.int j) = some (.int (i % j)) := by
  show (if decide (0 < j) = true then _ else _) = _
  rw [if_pos (decide_eq_true h)]
theorem ev_divI {i j : Int} (h : 0 < j ∧ j < 1073741824) : divI (.int i) (.int j) = some (.int (i / j)) := by
  show (if decide (0 < j ∧ j < 1073741824) = true then _ else _) = _
  rw [if_pos (decide_eq_true h)]
theorem ev_neg (i : Int) : negI (.int i) = some (.int (-i)) := nrfl rfl
theorem ev_intD (i : Int) : intD [.int i] = some (.int i) := nrfl rfl
theorem ev_max2 (i j : Int) : max2 [.int i, .int j] = some (.int (max i j)) := by
  show some (D.int (if j > i then j else i)) = _
  congr 2
  split <;> omega
theorem ev_min2 (i j : Int) : min2 [.int i, .int j] = some (.int (min i j)) := by
  show some (D.int (if j < i then j else i)) = _
  congr 2
  split <;> omega
theorem ev_eqI (i j : Int) : eqD (.int i) (.int j) = some (.bl (decide (i = j))) := nrfl rfl
theorem ev_eqB (i j : Bool) : eqD (.bl i) (.bl j) = some (.bl (decide (i = j))) := nrfl rfl
theorem ev_eqS (i j : Str) : eqD (.str i) (.str j) = some (.bl (decide (i = j))) := nrfl rfl
theorem ev_neI (i j : Int) : neD (.int i) (.int j) = some (.bl (decide (i ≠ j))) := by
  show some (D.bl (!decide (i = j))) = _
  simp
theorem ev_neS (i j : Str) : neD (.str i) (.str j) = some (.bl (decide (i ≠ j))) := by
  show some (D.bl (!decide (i = j))) = _
  simp
theorem ev_lt (i j : Int) : ltI (.int i) (.int j) = some (.bl (decide (i < j))) := nrfl rfl
theorem ev_le (i j : Int) : leI (.int i) (.int j) = some (.bl (decide (i ≤ j))) := nrfl rfl
theorem ev_gt (i j : Int) : gtI (.int i) (.int j) = some (.bl (decide (j < i))) := nrfl rfl
theorem ev_ge (i j : Int) : geI (.int i) (.int j) = some (.bl (decide (j ≤ i))) := nrfl rfl
theorem ev_isN_non : isN .non .non = some (.bl true) := nrfl rfl
theorem ev_isN_bl (b : Bool) : isN (.bl b) .non = some (.bl false) := nrfl rfl
theorem ev_isN_int (k : Int) : isN (.int k) .non = some (.bl false) := nrfl rfl
theorem ev_isN_str (k : Str) : isN (.str k) .non = some (.bl false) := nrfl rfl
theorem ev_isN_lst (k : List D) : isN (.lst k) .non = some (.bl false) := nrfl rfl
theorem ev_isN_tup (k : List D) : isN (.tup k) .non = some (.bl false) := nrfl rfl
theorem ev_isN_obj (C : Addr) (ks : List Str) (k : List D) : isN (.obj C ks k) .non = some (.bl false) := nrfl rfl
theorem ev_notN_non : notN .non .non = some (.bl false) := nrfl rfl
theorem ev_notN_int (k : Int) : notN (.int k) .non = some (.bl true) := nrfl rfl
theorem ev_notN_str (k : Str) : notN (.str k) .non = some (.bl true) := nrfl rfl
theorem ev_notN_lst (k : List D) : notN (.lst k) .non = some (.bl true) := nrfl rfl
theorem ev_notN_tup (k : List D) : notN (.tup k) .non = some (.bl true) := nrfl rfl
theorem ev_notN_obj (C : Addr) (ks : List Str) (k : List D) : notN (.obj C ks k) .non = some (.bl true) := nrfl rfl
/-! lists -/
theorem ev_lenC {α : Type} (a : α) (l : List α) : (a :: l).length = l.length + 1 := nrfl rfl
theorem ev_lenN {α : Type} : ([] : List α).length = 0 := nrfl rfl
theorem ev_lenM {α β : Type} (f : α → β) (l : List α) : (l.map f).length = l.length := List.length_map f
theorem ev_lenL (l : List D) : lenD [.lst l] = some (.int l.length) := nrfl rfl
theorem ev_lenT (l : List D) : lenD [.tup l] = some (.int l.length) := nrfl rfl
theorem ev_lenS {z : Str} (h : z.length ≤ 1000000) : lenD [.str z] = some (.int z.length) := if_pos (line_of h)
theorem ev_tupL (l : List D) : tupD [.lst l] = some (.tup l) := nrfl rfl
theorem ev_tupT (l : List D) : tupD [.tup l] = some (.tup l) := nrfl rfl
theorem ev_listL (l : List D) : listO [.lst l] = some (.dats l) := nrfl rfl
theorem ev_listT (l : List D) : listO [.tup l] = some (.dats l) := nrfl rfl
theorem ev_frz {f : Ev → Option O} : frz f ρ = (f ρ).bind O.toD := nrfl rfl
theorem ev_thaw : thaw fa ρ = (fa ρ).map .dat := nrfl rfl
theorem ev_toD (ds : List D) : (O.dats ds).toD = some (.lst ds) := toD_dats ds
theorem ev_toDd (d : D) : (O.dat d).toD = some d := nrfl rfl
theorem ev_iOf : iOf fa ρ = (fa ρ).bind seqD := nrfl rfl
theorem ev_seqL (l : List D) : seqD (.lst l) = some l := nrfl rfl
theorem ev_seqT (l : List D) : seqD (.tup l) = some l := nrfl rfl
theorem ev_seqS (z : Str) : seqD (.str z) = some (signs z) := nrfl rfl
def rngI (n : D) : Option (List D) := match n with
  | .int n => if n < 2 ^ 62 ∧ -(2 ^ 62) ≤ n then some (rangeD 0 n.toNat) else none
  | _ => none
def rngJ (m n : D) : Option (List D) := match m, n with
  | .int m, .int n => if (n < 2 ^ 62 ∧ -(2 ^ 62) ≤ n) ∧ m < 2 ^ 62 ∧ -(2 ^ 62) ≤ m then some (rangeD m (n - m).toNat) else none
  | _, _ => none
theorem ev_rng1 : rng1 fa ρ = (fa ρ).bind rngI := by
  unfold rng1
  cases fa ρ with
  | none => rfl
  | some d => cases d <;> rfl
theorem ev_rng2 : rng2 fa fb ρ = (fa ρ).bind fun m => (fb ρ).bind fun n => rngJ m n := by
  unfold rng2
  cases fa ρ with
  | none => rfl
  | some d => cases fb ρ with
    | none => cases d <;> rfl
    | some e => cases d <;> cases e <;> rfl
theorem ev_rngI {n : Int} (h : n < 4611686018427387904 ∧ -4611686018427387904 ≤ n) : rngI (.int n) = some (rangeD 0 n.toNat) := if_pos (by simpa using h)
theorem ev_rngJ {m n : Int} (h : (n < 4611686018427387904 ∧ -4611686018427387904 ≤ n) ∧ m < 4611686018427387904 ∧ -4611686018427387904 ≤ m) : rngJ (.int m) (.int n) = some (rangeD m (n - m).toNat) := if_pos (by simpa using h)
theorem ev_slc {lo hi : Ev → Option (Option Int)} : slc fa lo hi ρ = (fa ρ).bind fun x => (lo ρ).bind fun a => (hi ρ).bind fun b => slD x a b := nrfl rfl
theorem ev_noPart : noPart ρ = some none := nrfl rfl
theorem ev_part : part fa ρ = ((fa ρ).bind toI).map some := by
  unfold part
  cases fa ρ with
  | none => rfl
  | some d => cases d <;> rfl
theorem ev_toI (b : Int) : toI (.int b) = some b := nrfl rfl
theorem ev_slL (l : List D) (a b : Option Int) : slD (.lst l) a b = some (.lst (cutD l a b)) := nrfl rfl
theorem ev_slS {z : Str} (h : z.length ≤ 1000000) (a b : Option Int) : slD (.str z) a b = some (.str (cutS z a b)) := if_pos (line_of h)
theorem ev_catL {l m : List D} (h : l.length + m.length ≤ 1000000) : addA (.lst l) (.lst m) = some (.lst (l ++ m)) := by
  have : catL (.lst l) (.lst m) = some (.lst (l ++ m)) := if_pos (line_of h)
  show orD addD (orD catL catT) (.lst l) (.lst m) = _
  simp only [orD, addD, addI, addS, i2, s2, this]
theorem ev_catT {l m : List D} (h : l.length + m.length ≤ 1000000) : addA (.tup l) (.tup m) = some (.tup (l ++ m)) := by
  have : catT (.tup l) (.tup m) = some (.tup (l ++ m)) := if_pos (line_of h)
  have h0 : catL (.tup l) (.tup m) = none := rfl
  show orD addD (orD catL catT) (.tup l) (.tup m) = _
  simp only [orD, addD, addI, addS, i2, s2, this, h0]
theorem ev_catS {a b : Str} (h : a.length + b.length ≤ 1000000) : addA (.str a) (.str b) = some (.str (a ++ b)) := by
  have hz : a.length + b.length ≤ sizeLine := line_of h
  show orD addD (orD catL catT) (.str a) (.str b) = _
  simp only [orD, addD, addI, addS, i2, s2, decide_eq_true hz, if_true]
theorem ev_catSD {a b : Str} (h : a.length + b.length ≤ 1000000) : addD (.str a) (.str b) = some (.str (a ++ b)) := by
  have hz : a.length + b.length ≤ sizeLine := line_of h
  simp only [orD, addD, addI, addS, i2, s2, decide_eq_true hz, if_true]
theorem ev_strlen (a b : Str) : (a ++ b).length = a.length + b.length := by
  show (a.cps ++ b.cps).size = _
  rw [Array.size_append]; rfl
theorem ev_rev (l : List D) : revD (.lst l) = some (.lst l.reverse) := nrfl rfl
/-! by place -/
instance : Inhabited D := ⟨.non⟩
def nth {α : Type} [Inhabited α] (xs : List α) (k : Int) : α := xs.getD k.toNat default
theorem nth_eq {α : Type} [Inhabited α] {xs : List α} {k : Int} (h0 : 0 ≤ k) (h1 : k < xs.length) : nth xs k = xs[k.toNat]'(by omega) := by
  unfold nth
  rw [List.getD_eq_getElem?_getD, List.getElem?_eq_getElem (by omega)]; rfl
theorem nth_nat {α : Type} [Inhabited α] {xs : List α} {k : Nat} (h1 : k < xs.length) : nth xs (k : Int) = xs[k] := nth_eq (by omega) (by omega)
theorem nth_mem {α : Type} [Inhabited α] {xs : List α} {k : Int} (h0 : 0 ≤ k) (h1 : k < xs.length) : nth xs k ∈ xs := by
  rw [nth_eq h0 h1]; exact List.getElem_mem _
theorem nth_map {α β : Type} [Inhabited α] [Inhabited β] {f : α → β} {xs : List α} {k : Int} (h0 : 0 ≤ k) (h1 : k < xs.length) : nth (xs.map f) k = f (nth xs k) := by
  rw [nth_eq h0 (by rw [List.length_map]; exact h1), nth_eq h0 h1, List.getElem_map]
/-- each item of a list of bounded ints, in or out of the list -/
theorem nth_rng {rs : List Int} (hr : ∀ r ∈ rs, 0 ≤ r ∧ r < 1000) (k : Int) : 0 ≤ nth rs k ∧ nth rs k < 1000 := by
  unfold nth
  rw [List.getD_eq_getElem?_getD]
  by_cases h : k.toNat < rs.length
  · rw [List.getElem?_eq_getElem h]; exact hr _ (List.getElem_mem h)
  · rw [List.getElem?_eq_none (by omega)]; exact ⟨by decide, by decide⟩
theorem at_nth {α : Type} [Inhabited α] {xs : List α} {k : Int} (h0 : 0 ≤ k) (h1 : k < xs.length) : atI xs k = some (nth xs k) := by
  obtain ⟨j, rfl⟩ := Int.eq_ofNat_of_zero_le h0
  rw [nth_nat (by omega)]
  exact atI_nat (List.getElem?_eq_getElem _)
theorem ev_ix0L (a : D) (l : List D) : ixD (.lst (a :: l)) (.int 0) = some a := by
  show atI (a :: l) 0 = _
  exact atI_nat (j := 0) rfl
theorem ev_ix1L (a b : D) (l : List D) : ixD (.lst (a :: b :: l)) (.int 1) = some b := by
  show atI (a :: b :: l) 1 = _
  exact atI_nat (j := 1) rfl
theorem ev_ix0T (a : D) (l : List D) : ixD (.tup (a :: l)) (.int 0) = some a := by
  show atI (a :: l) 0 = _
  exact atI_nat (j := 0) rfl
theorem ev_ix1T (a b : D) (l : List D) : ixD (.tup (a :: b :: l)) (.int 1) = some b := by
  show atI (a :: b :: l) 1 = _
  exact atI_nat (j := 1) rfl
theorem ev_ix2T (a b c : D) (l : List D) : ixD (.tup (a :: b :: c :: l)) (.int 2) = some c := by
  show atI (a :: b :: c :: l) 2 = _
  exact atI_nat (j := 2) rfl
theorem ev_ix3T (a b c d : D) (l : List D) : ixD (.tup (a :: b :: c :: d :: l)) (.int 3) = some d := by
  show atI (a :: b :: c :: d :: l) 3 = _
  exact atI_nat (j := 3) rfl
theorem ev_ix4T (a b c d e : D) (l : List D) : ixD (.tup (a :: b :: c :: d :: e :: l)) (.int 4) = some e := by
  show atI (a :: b :: c :: d :: e :: l) 4 = _
  exact atI_nat (j := 4) rfl
theorem ev_ixML {α : Type} [Inhabited α] {f : α → D} {xs : List α} {k : Int} (h0 : 0 ≤ k) (h1 : k < xs.length) : ixD (.lst (xs.map f)) (.int k) = some (f (nth xs k)) := by
  show atI (xs.map f) k = _
  rw [at_nth h0 (by rw [List.length_map]; exact h1), nth_map h0 h1]
theorem ev_ixMT {α : Type} [Inhabited α] {f : α → D} {xs : List α} {k : Int} (h0 : 0 ≤ k) (h1 : k < xs.length) : ixD (.tup (xs.map f)) (.int k) = some (f (nth xs k)) := by
  show atI (xs.map f) k = _
  rw [at_nth h0 (by rw [List.length_map]; exact h1), nth_map h0 h1]
theorem cut_map {α β : Type} (f : α → β) (xs : List α) (a b : Option Int) : cutD (xs.map f) a b = (cutD xs a b).map f := by
  unfold cutD
  rw [List.length_map, List.map_take, List.map_drop]
theorem cut_mid {α : Type} (xs : List α) (a b : Nat) (hb : b ≤ xs.length) (hab : a ≤ b) : cutD xs (some (a : Int)) (some (b : Int)) = (xs.drop a).take (b - a) := by
  unfold cutD
  rw [HT.sIx_nat, HT.sIx_nat, Nat.min_eq_left (show a ≤ xs.length by omega), Nat.min_eq_left hb]
theorem cut_sub {α : Type} {xs : List α} {a b : Option Int} {x : α} (h : x ∈ cutD xs a b) : x ∈ xs := List.mem_of_mem_drop (List.mem_of_mem_take h)
theorem cut_len {α : Type} {xs : List α} {a b : Int} (h0 : 0 ≤ a) (h1 : a ≤ b) (h2 : b ≤ xs.length) : ((cutD xs (some a) (some b)).length : Int) = b - a := by
  obtain ⟨m, rfl⟩ := Int.eq_ofNat_of_zero_le h0
  obtain ⟨n, rfl⟩ := Int.eq_ofNat_of_zero_le (show 0 ≤ b by omega)
  rw [cut_mid xs m n (by omega) (by omega), List.length_take, List.length_drop]
  omega
/-! targets -/
theorem ev_wipe0 : wipeO ρ [] = ρ := nrfl rfl
theorem ev_wipeS (v : Nat) (vs : List Nat) : wipeO ρ (v :: vs) = (wipeO ρ vs).set v .unk := nrfl rfl
theorem ev_gN (d : D) : gN i d ρ = some (ρ.set i (.dat d)) := nrfl rfl
theorem ev_gsN : gsN [] ρ = some ρ := nrfl rfl
theorem ev_gsC {g : D → Ev → Option Ev} {h : List D → Ev → Option Ev} (d : D) (r : List D) : gsC g h (d :: r) ρ = (g d ρ).bind (h r) := nrfl rfl
theorem ev_set0 (a b : O) (l : Ev) : (a :: l).set 0 b = b :: l := nrfl rfl
theorem ev_setS (a b : O) (l : Ev) (n : Nat) : (a :: l).set (n + 1) b = a :: l.set n b := nrfl rfl
end
/-! ### running a body, statement by statement -/
section
variable {f g b : Ev → Option Fl} {ρ : Ev} {Q : Fl → Prop} {P : Ev → Prop}
theorem Rn.assoc {f1 f2 : Ev → Option Fl} (h : Rn (PD.sq f1 (PD.sq f2 g)) ρ Q) : Rn (PD.sq (PD.sq f1 f2) g) ρ Q := by
  obtain ⟨r, e, q⟩ := h
  refine ⟨r, ?_, q⟩
  rw [← e]
  unfold PD.sq
  cases f1 ρ with
  | none => rfl
  | some r1 => cases r1 <;> rfl
theorem Rn.sqst {i : Nat} {e : Ev → Option D} {d : D} (h : e ρ = some d) (k : Rn g (ρ.set i (.dat d)) Q) : Rn (PD.sq (stV i e) g) ρ Q := Rn.sq (Rn.st h k)
theorem Rn.sqstO {i : Nat} {e : Ev → Option O} {o : O} (h : e ρ = some o) (k : Rn g (ρ.set i o) Q) : Rn (PD.sq (PD.stO i e) g) ρ Q := Rn.sq (Rn.stO h k)
theorem Rn.sqskip (k : Rn g ρ Q) : Rn (PD.sq PD.skip g) ρ Q := Rn.sq (Rn.skip k)
theorem Rn.sqret {e : Ev → Option D} {d : D} (h : e ρ = some d) (k : Q (.rt (.dat d) ρ)) : Rn (PD.sq (rtV e) g) ρ Q := Rn.sq (Rn.ret h k)
theorem Rn.appD {i : Nat} {e : Ev → Option D} {d : D} {ds : List D} (h : e ρ = some d) (ho : ρ[i]? = some (O.dats ds)) (hl : ds.length < 1000000) (k : Q (.nx (ρ.set i (O.dats (ds ++ [d]))))) : Rn (PD.app i e) ρ Q := by
  refine Rn.app h ho (by rw [List.length_map]; exact Nat.lt_of_lt_of_le hl (by decide)) ?_
  have : O.dats (ds ++ [d]) = .lst (ds.map .dat ++ [.dat d]) := by unfold O.dats; rw [List.map_append]; rfl
  rw [← this]; exact k
theorem Rn.sqapp {i : Nat} {e : Ev → Option D} {d : D} {ds : List D} (h : e ρ = some d) (ho : ρ[i]? = some (O.dats ds)) (hl : ds.length < 1000000) (k : Rn g (ρ.set i (O.dats (ds ++ [d]))) Q) : Rn (PD.sq (PD.app i e) g) ρ Q := Rn.sq (Rn.appD h ho hl k)
theorem Rn.asg {e : Ev → Option D} {t : D → Ev → Option Ev} {d : D} {ρ' : Ev} (h : e ρ = some d) (ht : t d ρ = some ρ') (k : Q (.nx ρ')) : Rn (PD.asg e t) ρ Q := ⟨_, by unfold PD.asg; rw [h, Option.bind_some, ht]; rfl, k⟩
theorem Rn.sqasg {e : Ev → Option D} {t : D → Ev → Option Ev} {d : D} {ρ' : Ev} (h : e ρ = some d) (ht : t d ρ = some ρ') (k : Rn g ρ' Q) : Rn (PD.sq (PD.asg e t) g) ρ Q := Rn.sq (Rn.asg h ht k)
/-- an if whose test is a proposition -/
theorem Rn.iteP {c : Ev → Option Bool} {p : Prop} [Decidable p] (h : c ρ = some (decide p)) (h1 : p → Rn f ρ Q) (h2 : ¬ p → Rn b ρ Q) : Rn (ifS c f b) ρ Q := Rn.ite h (fun q => h1 (of_decide_eq_true q)) fun q => h2 (of_decide_eq_false q)
theorem sq_ifS {c : Ev → Option Bool} : PD.sq (ifS c f b) g = ifS c (PD.sq f g) (PD.sq b g) := by
  funext ρ
  unfold PD.sq ifS
  cases c ρ with
  | none => rfl
  | some t => cases t <;> rfl
theorem Rn.sqif {c : Ev → Option Bool} {p : Prop} [Decidable p] (h : c ρ = some (decide p)) (h1 : p → Rn (PD.sq f g) ρ Q) (h2 : ¬ p → Rn (PD.sq b g) ρ Q) : Rn (PD.sq (ifS c f b) g) ρ Q := by
  rw [sq_ifS]
  exact Rn.iteP h h1 h2
/-- an if whose way is known -/
theorem Rn.sqifT {c : Ev → Option Bool} (h : c ρ = some true) (h1 : Rn (PD.sq f g) ρ Q) : Rn (PD.sq (ifS c f b) g) ρ Q := by
  rw [sq_ifS]
  exact Rn.ite h (fun _ => h1) fun z => nomatch z
theorem Rn.sqifF {c : Ev → Option Bool} (h : c ρ = some false) (h1 : Rn (PD.sq b g) ρ Q) : Rn (PD.sq (ifS c f b) g) ρ Q := by
  rw [sq_ifS]
  exact Rn.ite h (fun z => nomatch z) fun _ => h1
/-- if not good: return False -/
theorem Rn.chk {c : Ev → Option Bool} (h : c ρ = some false) (h1 : Rn g ρ Q) : Rn (PD.sq (ifS c f PD.skip) g) ρ Q := Rn.sqifF h (Rn.sqskip h1)
/-- a for by an invariant; its items are those of a typed list -/
theorem Rn.forT {α : Type} {fi : Ev → Option (List D)} {gt : D → Ev → Option Ev} {xs : List α} {φ : α → D} (h : fi ρ = some (xs.map φ)) (I : Nat → Ev → Prop) (h0 : I 0 ρ)
    (hs : ∀ (i : Nat) (hi : i < xs.length) ρ, I i ρ → ∃ ρ1, gt (φ xs[i]) ρ = some ρ1 ∧ Rn b ρ1 fun r => match r with | .nx ρ2 => I (i + 1) ρ2 | .ct ρ2 => I (i + 1) ρ2 | .bk ρ2 => Q (.nx ρ2) | r => Q r) (k : ∀ ρ', I xs.length ρ' → Q (.nx ρ')) : Rn (forS fi gt b) ρ Q := by
  refine Rn.for h I h0 (fun i d ρ hd hI => ?_) (fun ρ' hI => k ρ' (by rw [List.length_map] at hI; exact hI))
  rw [List.getElem?_map] at hd
  obtain ⟨x, hx, rfl⟩ := Option.map_eq_some_iff.mp hd
  obtain ⟨hi, rfl⟩ := List.getElem?_eq_some_iff.mp hx
  exact hs i hi ρ hI
/-- the same, with what follows -/
theorem Rn.sqfor {α : Type} {fi : Ev → Option (List D)} {gt : D → Ev → Option Ev} {xs : List α} {φ : α → D} (h : fi ρ = some (xs.map φ)) (I : Nat → Ev → Prop) (h0 : I 0 ρ)
    (hs : ∀ (i : Nat) (hi : i < xs.length) ρ, I i ρ → ∃ ρ1, gt (φ xs[i]) ρ = some ρ1 ∧ Rn b ρ1 fun r => match r with | .nx ρ2 => I (i + 1) ρ2 | .ct ρ2 => I (i + 1) ρ2 | .bk ρ2 => Rn g ρ2 Q | r => Q r) (k : ∀ ρ', I xs.length ρ' → Rn g ρ' Q) : Rn (PD.sq (forS fi gt b) g) ρ Q := by
  refine Rn.sq (Rn.forT h I h0 (fun i hi ρ hI => ?_) k)
  obtain ⟨ρ1, e, r, er, q⟩ := hs i hi ρ hI
  refine ⟨ρ1, e, r, er, ?_⟩
  cases r <;> exact q
/-- over range(n) -/
theorem rangeD_map (lo : Int) (n : Nat) : rangeD lo n = (List.range n).map fun i : Nat => .int (lo + (i : Int)) := rfl
theorem Rn.sqforR {fi : Ev → Option (List D)} {gt : D → Ev → Option Ev} {lo : Int} {n : Nat} (h : fi ρ = some (rangeD lo n)) (I : Nat → Ev → Prop) (h0 : I 0 ρ)
    (hs : ∀ (i : Nat) (hi : i < n) ρ, I i ρ → ∃ ρ1, gt (.int (lo + (i : Int))) ρ = some ρ1 ∧ Rn b ρ1 fun r => match r with | .nx ρ2 => I (i + 1) ρ2 | .ct ρ2 => I (i + 1) ρ2 | .bk ρ2 => Rn g ρ2 Q | r => Q r) (k : ∀ ρ', I n ρ' → Rn g ρ' Q) : Rn (PD.sq (forS fi gt b) g) ρ Q := by
  refine Rn.sqfor (xs := List.range n) (φ := fun i : Nat => .int (lo + (i : Int))) h I h0 (fun i hi ρ hI => ?_) (fun ρ' hI => k ρ' (by rw [List.length_range] at hI; exact hI))
  rw [List.getElem_range]
  exact hs i (by simpa using hi) ρ hI
theorem Rn.fzD {i : Nat} {ds : List D} (ho : ρ[i]? = some (O.dats ds)) (k : Rn g (ρ.set i (.dat (.lst ds))) Q) : Rn (PD.fz i g) ρ Q := Rn.fz ho (toD_dats ds) k
/-- a join: what holds behind a part, whichever way was taken -/
theorem Rn.join (h : Rn f ρ (Nx P)) (k : ∀ ρ', P ρ' → Rn g ρ' Q) : Rn (PD.sq f g) ρ Q := Rn.sqN h k
end
/-! ### comprehensions over typed lists -/
section
variable {ρ : Ev} {fi : Ev → Option (List D)} {gt : D → Ev → Option Ev} {t : Ev → Option Bool} {f : Ev → Option D} {vs : List Nat}
theorem comp_mapT {α : Type} {φ ψ : α → D} {ρw : Ev} : ∀ {xs : List α}, (∀ x ∈ xs, ∃ ρ1, gt (φ x) ρw = some ρ1 ∧ f ρ1 = some (ψ x)) → comp gt yes f ρw (xs.map φ) = some (xs.map ψ)
  | [], _ => rfl
  | x :: xs, H => by
    obtain ⟨ρ1, e1, e2⟩ := H x List.mem_cons_self
    rw [List.map_cons, List.map_cons]
    unfold comp
    rw [e1, Option.bind_some, show yes ρ1 = some true from rfl, Option.bind_some, if_pos rfl, e2, Option.bind_some, comp_mapT fun x' hx => H x' (List.mem_cons_of_mem _ hx)]
    rfl
theorem comp_filT {α : Type} {φ ψ : α → D} {p : α → Bool} {ρw : Ev} : ∀ {xs : List α}, (∀ x ∈ xs, ∃ ρ1, gt (φ x) ρw = some ρ1 ∧ t ρ1 = some (p x) ∧ (p x = true → f ρ1 = some (ψ x))) → comp gt t f ρw (xs.map φ) = some ((xs.filter p).map ψ)
  | [], _ => rfl
  | x :: xs, H => by
    obtain ⟨ρ1, e1, e2, e3⟩ := H x List.mem_cons_self
    have ih := comp_filT (xs := xs) fun x' hx => H x' (List.mem_cons_of_mem _ hx)
    rw [List.map_cons]
    unfold comp
    rw [e1, Option.bind_some, e2, Option.bind_some]
    cases q : p x with
    | true => rw [if_pos rfl, e3 q, Option.bind_some, ih, List.filter_cons_of_pos q]; rfl
    | false => rw [if_neg Bool.false_ne_true, ih, List.filter_cons_of_neg (by rw [q]; exact Bool.false_ne_true)]
/-- [e for x in xs] -/
theorem lc_map {α : Type} {φ : α → D} (ψ : α → D) {xs : List α} (hw : okW ρ vs = true) (hi : fi ρ = some (xs.map φ)) (hl : xs.length ≤ 1000000) (H : ∀ x ∈ xs, ∃ ρ1, gt (φ x) (wipeO ρ vs) = some ρ1 ∧ f ρ1 = some (ψ x)) : lcD fi gt yes f vs ρ = some (.lst (xs.map ψ)) :=
  lcD_of hw hi rfl (comp_mapT H) (by rw [List.length_map]; exact line_of hl)
theorem lc_fil {α : Type} {φ : α → D} (ψ : α → D) (p : α → Bool) {xs : List α} (hw : okW ρ vs = true) (hi : fi ρ = some (xs.map φ)) (hl : xs.length ≤ 1000000) (H : ∀ x ∈ xs, ∃ ρ1, gt (φ x) (wipeO ρ vs) = some ρ1 ∧ t ρ1 = some (p x) ∧ (p x = true → f ρ1 = some (ψ x))) : lcD fi gt t f vs ρ = some (.lst ((xs.filter p).map ψ)) :=
  lcD_of hw hi rfl (comp_filT H) (by rw [List.length_map]; exact Nat.le_trans (List.length_filter_le _ _) (line_of hl))
theorem lcO_map {α : Type} {φ : α → D} (ψ : α → D) {xs : List α} (hw : okW ρ vs = true) (hi : fi ρ = some (xs.map φ)) (hl : xs.length ≤ 1000000) (H : ∀ x ∈ xs, ∃ ρ1, gt (φ x) (wipeO ρ vs) = some ρ1 ∧ f ρ1 = some (ψ x)) : lcO fi gt yes f vs ρ = some (.dats (xs.map ψ)) :=
  lcO_of hw hi rfl (comp_mapT H) (by rw [List.length_map]; exact line_of hl)
theorem lcO_fil {α : Type} {φ : α → D} (ψ : α → D) (p : α → Bool) {xs : List α} (hw : okW ρ vs = true) (hi : fi ρ = some (xs.map φ)) (hl : xs.length ≤ 1000000) (H : ∀ x ∈ xs, ∃ ρ1, gt (φ x) (wipeO ρ vs) = some ρ1 ∧ t ρ1 = some (p x) ∧ (p x = true → f ρ1 = some (ψ x))) : lcO fi gt t f vs ρ = some (.dats ((xs.filter p).map ψ)) :=
  lcO_of hw hi rfl (comp_filT H) (by rw [List.length_map]; exact Nat.le_trans (List.length_filter_le _ _) (line_of hl))
end
theorem mp_lenA {α : Type} (a b : List α) : (a ++ b).length = a.length + b.length := List.length_append
theorem mp_mapC {α β : Type} (f : α → β) (a : α) (l : List α) : (a :: l).map f = f a :: l.map f := rfl
theorem mp_mapN {α β : Type} (f : α → β) : ([] : List α).map f = [] := rfl
theorem mp_mapA {α β : Type} (f : α → β) (a b : List α) : (a ++ b).map f = a.map f ++ b.map f := List.map_append
/-- all of them, for simp -/
def MV := And.intro (And.intro (And.intro (And.intro (And.intro (And.intro (And.intro (@ev_bind) (And.intro (@ev_map) (@ev_gv0))) (And.intro (@ev_gvS) (And.intro (@ev_b2) (@ev_b1)))) (And.intro (And.intro (@ev_kI) (And.intro (@ev_kS) (@ev_kB))) (And.intro (And.intro (@ev_kN) (@ev_aCons)) (And.intro (@ev_aNil) (@ev_cB))))) (And.intro (And.intro (And.intro (@ev_cO) (And.intro (@ev_asB) (@ev_toB))) (And.intro (@ev_andT) (And.intro (@ev_orT) (@ev_notT)))) (And.intro (And.intro (@ev_andO_t) (And.intro (@ev_andO_f) (@ev_andO))) (And.intro (And.intro (@ev_orO_t) (@ev_orO_f)) (And.intro (@ev_orO) (@ev_andV)))))) (And.intro (And.intro (And.intro (And.intro (@ev_orV) (And.intro (@ev_notV) (@ev_andW_t))) (And.intro (@ev_andW_f) (And.intro (@ev_andW) (@ev_orW_t)))) (And.intro (And.intro (@ev_orW_f) (And.intro (@ev_orW) (@ev_notW))) (And.intro (And.intro (@ev_ifV) (@ev_iteO)) (And.intro (@ev_ite_some) (@ev_ite_int))))) (And.intro (And.intro (And.intro (@ev_ite_str) (And.intro (@ev_dec) (@ev_true))) (And.intro (And.intro (@ev_false) (@ev_ft)) (And.intro (@ev_tt) (@ev_not)))) (And.intro (And.intro (@ev_and) (And.intro (@ev_or) (@ev_nt))) (And.intro (And.intro (@ev_nf) (@ev_ba1)) (And.intro (@ev_ba2) (@ev_ba3))))))) (And.intro (And.intro (And.intro (And.intro (And.intro (@ev_ba4) (And.intro (@ev_bo1) (@ev_bo2))) (And.intro (@ev_bo3) (And.intro (@ev_bo4) (@ev_len?1)))) (And.intro (And.intro (@ev_lenO?1) (And.intro (@ev_len?2) (@ev_lenO?2))) (And.intro (And.intro (@ev_gT2) (@ev_len?3)) (And.intro (@ev_lenO?3) (@ev_gT3))))) (And.intro (And.intro (And.intro (@ev_len?4) (And.intro (@ev_lenO?4) (@ev_gT4))) (And.intro (And.intro (@ev_len?5) (@ev_lenO?5)) (And.intro (@ev_gT5) (@ev_len?6)))) (And.intro (And.intro (@ev_lenO?6) (And.intro (@ev_gT6) (@ev_len?7))) (And.intro (And.intro (@ev_lenO?7) (@ev_gT7)) (And.intro (@ev_len?8) (@ev_lenO?8)))))) (And.intro (And.intro (And.intro (And.intro (@ev_gT8) (And.intro (@ev_len?0) (@ev_mkTup))) (And.intro (@ev_mkLst) (And.intro (@ev_mkLstO) (@ev_line)))) (And.intro (And.intro (@ev_isi_bool_non) (And.intro (@ev_isi_bool_bl) (@ev_isi_bool_int))) (And.intro (And.intro (@ev_isi_bool_str) (@ev_isi_bool_lst)) (And.intro (@ev_isi_bool_tup) (@ev_isi_bool_dic))))) (And.intro (And.intro (And.intro (@ev_isi_int_non) (And.intro (@ev_isi_int_bl) (@ev_isi_int_int))) (And.intro (And.intro (@ev_isi_int_str) (@ev_isi_int_lst)) (And.intro (@ev_isi_int_tup) (@ev_isi_int_dic)))) (And.intro (And.intro (@ev_isi_str_non) (And.intro (@ev_isi_str_bl) (@ev_isi_str_int))) (And.intro (And.intro (@ev_isi_str_str) (@ev_isi_str_lst)) (And.intro (@ev_isi_str_tup) (@ev_isi_str_dic)))))))) (And.intro (And.intro (And.intro (And.intro (And.intro (And.intro (@ev_isi_tuple_non) (And.intro (@ev_isi_tuple_bl) (@ev_isi_tuple_int))) (And.intro (@ev_isi_tuple_str) (And.intro (@ev_isi_tuple_lst) (@ev_isi_tuple_tup)))) (And.intro (And.intro (@ev_isi_tuple_dic) (And.intro (@ev_isi_list_non) (@ev_isi_list_bl))) (And.intro (And.intro (@ev_isi_list_int) (@ev_isi_list_str)) (And.intro (@ev_isi_list_lst) (@ev_isi_list_tup))))) (And.intro (And.intro (And.intro (@ev_isi_list_dic) (And.intro (@ev_isi_dict_non) (@ev_isi_dict_bl))) (And.intro (And.intro (@ev_isi_dict_int) (@ev_isi_dict_str)) (And.intro (@ev_isi_dict_lst) (@ev_isi_dict_tup)))) (And.intro (And.intro (@ev_isi_dict_dic) (And.intro (@ev_addA) (@ev_addD))) (And.intro (And.intro (@ev_subI) (@ev_mulL)) (And.intro (@ev_mulR) (@ev_modI)))))) (And.intro (And.intro (And.intro (And.intro (@ev_divI) (And.intro (@ev_neg) (@ev_intD))) (And.intro (@ev_max2) (And.intro (@ev_min2) (@ev_eqI)))) (And.intro (And.intro (@ev_eqB) (And.intro (@ev_eqS) (@ev_neI))) (And.intro (And.intro (@ev_neS) (@ev_lt)) (And.intro (@ev_le) (@ev_gt))))) (And.intro (And.intro (And.intro (@ev_ge) (And.intro (@ev_isN_non) (@ev_isN_bl))) (And.intro (And.intro (@ev_isN_int) (@ev_isN_str)) (And.intro (@ev_isN_lst) (@ev_isN_tup)))) (And.intro (And.intro (@ev_isN_obj) (And.intro (@ev_notN_non) (@ev_notN_int))) (And.intro (And.intro (@ev_notN_str) (@ev_notN_lst)) (And.intro (@ev_notN_tup) (@ev_notN_obj))))))) (And.intro (And.intro (And.intro (And.intro (And.intro (@ev_lenC) (And.intro (@ev_lenN) (@ev_lenM))) (And.intro (@ev_lenL) (And.intro (@ev_lenT) (@ev_lenS)))) (And.intro (And.intro (@ev_tupL) (And.intro (@ev_tupT) (@ev_listL))) (And.intro (And.intro (@ev_listT) (@ev_frz)) (And.intro (@ev_thaw) (@ev_toD))))) (And.intro (And.intro (And.intro (@ev_toDd) (And.intro (@ev_iOf) (@ev_seqL))) (And.intro (And.intro (@ev_seqT) (@ev_seqS)) (And.intro (@ev_rng1) (@ev_rng2)))) (And.intro (And.intro (@ev_rngI) (And.intro (@ev_rngJ) (@ev_slc))) (And.intro (And.intro (@ev_noPart) (@ev_part)) (And.intro (@ev_toI) (@ev_slL)))))) (And.intro (And.intro (And.intro (And.intro (@ev_slS) (And.intro (@ev_catL) (@ev_catT))) (And.intro (@ev_catS) (And.intro (@ev_catSD) (@ev_strlen)))) (And.intro (And.intro (@ev_rev) (And.intro (@ev_ix0L) (@ev_ix1L))) (And.intro (And.intro (@ev_ix0T) (@ev_ix1T)) (And.intro (@ev_ix2T) (@ev_ix3T))))) (And.intro (And.intro (And.intro (@ev_ix4T) (And.intro (@ev_ixML) (@ev_ixMT))) (And.intro (And.intro (@ev_wipe0) (@ev_wipeS)) (And.intro (@ev_gN) (@ev_gsN)))) (And.intro (And.intro (@ev_gsC) (And.intro (@ev_set0) (@ev_setS))) (And.intro (And.intro (@mp_lenA) (@mp_mapC)) (And.intro (@mp_mapN) (@mp_mapA))))))))
end PD

namespace K01
open PySem PySem.Spec L2 PD
def topS (i : Nat) : Stmt := PySem.Challenge.pw_playhall_k01_shift_operators.main.body.getD i (.Pass ⟨0, 0, 0, 0⟩)
def clsS (i j : Nat) : Stmt := match topS i with
  | .ClassDef (body := b) .. => b.getD j (.Pass ⟨0, 0, 0, 0⟩)
  | _ => .Pass ⟨0, 0, 0, 0⟩
/-- where the classes stand -/
structure Cs where
  Shift : Addr
abbrev s_law_same : Stmt := topS 8
theorem sc_law_same : FnScope ["_law_actual", "_law_expected", "_law_k"] ["_law_actual", "_law_expected"] (defScope s_law_same) := ⟨rfl, rfl, rfl, by decide +kernel, rfl, by decide +kernel, by decide +kernel⟩
abbrev sShift_never : Stmt := clsS 3 1
theorem scShift_never : FnScope ["self", "counter", "low", "high", "amount"] ["self"] (defScope sShift_never) := ⟨rfl, rfl, rfl, by decide +kernel, rfl, by decide +kernel, by decide +kernel⟩
abbrev s_law_shown : Stmt := topS 17
theorem sc_law_shown : FnScope ["_law_shift", "_law_own_rows", "_law_row_here"] ["_law_shift", "_law_own_rows"] (defScope s_law_shown) := ⟨rfl, rfl, rfl, by decide +kernel, rfl, by decide +kernel, by decide +kernel⟩
abbrev sShift_eq : Stmt := clsS 3 5
theorem scShift_eq : FnScope ["self", "other"] ["self", "other"] (defScope sShift_eq) := ⟨rfl, rfl, rfl, by decide +kernel, rfl, by decide +kernel, by decide +kernel⟩
abbrev s_law_near : Stmt := topS 16
theorem sc_law_near : FnScope ["_law_own_rows", "_law_result", "_law_k", "_law_label", "_law_low", "_law_high", "_law_amount", "_law_place"] ["_law_own_rows"] (defScope s_law_near) := ⟨rfl, rfl, rfl, by decide +kernel, rfl, by decide +kernel, by decide +kernel⟩
abbrev sShift_init : Stmt := clsS 3 0
theorem scShift_init : FnScope ["self", "rows", "row"] ["self", "rows"] (defScope sShift_init) := ⟨rfl, rfl, rfl, by decide +kernel, rfl, by decide +kernel, by decide +kernel⟩
abbrev s_law_compared : Stmt := topS 18
theorem sc_law_compared : FnScope ["_law_shift", "_law_own_rows", "_law_near_here", "_law_thing"] ["_law_shift", "_law_own_rows"] (defScope s_law_compared) := ⟨rfl, rfl, rfl, by decide +kernel, rfl, by decide +kernel, by decide +kernel⟩
abbrev s_law_times : Stmt := topS 14
theorem sc_law_times : FnScope ["_law_own_rows", "_law_times_here", "_law_result", "_law_label", "_law_low", "_law_high", "_law_amount", "_law_rest"] ["_law_own_rows", "_law_times_here"] (defScope s_law_times) := ⟨rfl, rfl, rfl, by decide +kernel, rfl, by decide +kernel, by decide +kernel⟩
abbrev sShift_mul : Stmt := clsS 3 4
theorem scShift_mul : FnScope ["self", "other", "rows", "counter", "low", "high", "amount", "before_last"] ["self", "other"] (defScope sShift_mul) := ⟨rfl, rfl, rfl, by decide +kernel, rfl, by decide +kernel, by decide +kernel⟩
abbrev s_law_count : Stmt := topS 10
theorem sc_law_count : FnScope ["_law_numbers", "_law_kind", "_law_value", "_law_k"] ["_law_numbers"] (defScope s_law_count) := ⟨rfl, rfl, rfl, by decide +kernel, rfl, by decide +kernel, by decide +kernel⟩
abbrev s_law_plus : Stmt := topS 13
theorem sc_law_plus : FnScope ["_law_first", "_law_second", "_law_result", "_law_label", "_law_low", "_law_high", "_law_amount", "_law_behind", "_law_least", "_law_most", "_law_known", "_law_row_here"] ["_law_first", "_law_second"] (defScope s_law_plus) := ⟨rfl, rfl, rfl, by decide +kernel, rfl, by decide +kernel, by decide +kernel⟩
abbrev srow_of_both : Stmt := topS 2
theorem scrow_of_both : FnScope ["first", "second", "counter", "low", "high", "amount"] ["first", "second"] (defScope srow_of_both) := ⟨rfl, rfl, rfl, by decide +kernel, rfl, by decide +kernel, by decide +kernel⟩
abbrev sShift_add : Stmt := clsS 3 2
theorem scShift_add : FnScope ["self", "other", "rows", "row"] ["self", "other"] (defScope sShift_add) := ⟨rfl, rfl, rfl, by decide +kernel, rfl, by decide +kernel, by decide +kernel⟩
abbrev s_law_back : Stmt := topS 15
theorem sc_law_back : FnScope ["_law_own_rows", "_law_label", "_law_low", "_law_high", "_law_amount"] ["_law_own_rows"] (defScope s_law_back) := ⟨rfl, rfl, rfl, by decide +kernel, rfl, by decide +kernel, by decide +kernel⟩
abbrev sShift_invert : Stmt := clsS 3 3
theorem scShift_invert : FnScope ["self", "counter", "low", "high", "amount"] ["self"] (defScope sShift_invert) := ⟨rfl, rfl, rfl, by decide +kernel, rfl, by decide +kernel, by decide +kernel⟩
abbrev s_law_row : Stmt := topS 6
theorem sc_law_row : FnScope ["_law_cell_here", "_law_many", "_law_row_here", "_law_seed", "_law_rest", "_law_k", "_law_mixed"] ["_law_cell_here", "_law_many"] (defScope s_law_row) := ⟨rfl, rfl, rfl, by decide +kernel, rfl, by decide +kernel, by decide +kernel⟩
abbrev s_law_cell : Stmt := topS 5
theorem sc_law_cell : FnScope ["_law_script", "_law_k"] ["_law_script", "_law_k"] (defScope s_law_cell) := ⟨rfl, rfl, rfl, by decide +kernel, rfl, by decide +kernel, by decide +kernel⟩
abbrev s_law_number : Stmt := topS 9
theorem sc_law_number : FnScope ["_law_numbers", "_law_most", "_law_sign", "_law_kind", "_law_value", "_law_k"] ["_law_numbers", "_law_most"] (defScope s_law_number) := ⟨rfl, rfl, rfl, by decide +kernel, rfl, by decide +kernel, by decide +kernel⟩
abbrev s_law_rows : Stmt := topS 12
theorem sc_law_rows : FnScope ["_law_row_here", "_law_pool_here", "_law_most", "_law_own_rows", "_law_key", "_law_k", "_law_at", "_law_low", "_law_high", "_law_amount"] ["_law_row_here", "_law_pool_here", "_law_most"] (defScope s_law_rows) := ⟨rfl, rfl, rfl, by decide +kernel, rfl, by decide +kernel, by decide +kernel⟩
abbrev s_law_word : Stmt := topS 7
theorem sc_law_word : FnScope ["_law_number_here", "_law_rest", "_law_word_here", "_law_k"] ["_law_number_here"] (defScope s_law_word) := ⟨rfl, rfl, rfl, by decide +kernel, rfl, by decide +kernel, by decide +kernel⟩
abbrev s_law_pool : Stmt := topS 11
theorem sc_law_pool : FnScope ["_law_row_here", "_law_first", "_law_second", "_law_pool_here", "_law_label", "_law_k"] ["_law_row_here"] (defScope s_law_pool) := ⟨rfl, rfl, rfl, by decide +kernel, rfl, by decide +kernel, by decide +kernel⟩
abbrev slaw : Stmt := topS 19
theorem sclaw : FnScope ["_law_script", "_law_pool_here", "_law_first", "_law_second", "_law_third", "_law_numbers", "_law_passed", "_law_one", "_law_other", "_law_times_here", "_law_count_here"] ["_law_script"] (defScope slaw) := ⟨rfl, rfl, rfl, by decide +kernel, rfl, by decide +kernel, by decide +kernel⟩
/-- _law_same: 0 _law_actual, 1 _law_expected, 2 _law_k -/
noncomputable abbrev b_law_same (c : Cs) (self_ : List D → Option D) : Ev → Option Fl :=
    (sq (ifS (asB (b2 (gv 1) kN isN)) (rtV (b2 (gv 0) kN isN)) skip)
    (sq (ifS (asB (b1 (gv 1) (isiD "bool"))) (rtV (andV (b1 (gv 0) (isiD "bool")) (b2 (gv 0) (gv 1) eqD))) skip)
    (sq (ifS (asB (b1 (gv 1) (isiD "int"))) (rtV (andV (b1 (gv 0) (isiD "int")) (andV (notV (b1 (gv 0) (isiD "bool"))) (b2 (gv 0) (gv 1) eqD)))) skip)
    (sq (ifS (asB (b1 (gv 1) (isiD "str"))) (rtV (andV (b1 (gv 0) (isiD "str")) (b2 (gv 0) (gv 1) eqD))) skip)
    (sq (ifS (andT (asB (b1 (gv 1) (isiD "tuple"))) (notT (asB (b1 (gv 0) (isiD "tuple"))))) (rtV (kB false)) skip)
    (sq (ifS (orT (andT (asB (b1 (gv 1) (isiD "list"))) (notT (asB (b1 (gv 0) (isiD "list"))))) (asB (b2 (cB (aCons (gv 0) aNil) lenD) (cB (aCons (gv 1) aNil) lenD) neD))) (rtV (kB false)) skip)
    (sq (forS (rng1 (cB (aCons (gv 1) aNil) lenD)) (gN 2) (ifS (notT (asB (cB (aCons (b2 (gv 0) (gv 2) ixD) (aCons (b2 (gv 1) (gv 2) ixD) aNil)) (len? 2 (self_))))) (rtV (kB false)) skip))
    (rtV (kB true)))))))))
noncomputable def m_law_same (c : Cs) : Nat → List D → Option D
  | 0 => fun _ => none
  | n + 1 => runP 3 (b_law_same c (m_law_same c n))
/-- Shift_never: 0 self, 1 counter, 2 low, 3 high, 4 amount -/
noncomputable abbrev bShift_never (c : Cs) : Ev → Option Fl :=
    (rtV (cB (aCons (lcD (iOf (b1 (gv 0) (fldD c.Shift "rows"))) (gT 4 (gsC (gN 1) (gsC (gN 2) (gsC (gN 3) (gsC (gN 4) gsN))))) yes (b2 (gv 2) (gv 3) gtI) [1, 2, 3, 4]) aNil) anyD))
noncomputable def mShift_never (c : Cs) : List D → Option D := runP 5 (bShift_never c)
/-- _law_shown: 0 _law_shift, 1 _law_own_rows, 2 _law_row_here -/
noncomputable abbrev b_law_shown (c : Cs) : Ev → Option Fl :=
    (sq (ifS (orT (notT (asB (b1 (gv 0) (isiC [(c.Shift, true)])))) (notT (asB (cB (aCons (b1 (gv 0) (fldD c.Shift "rows")) (aCons (cB (aCons (frz (cO (aCons (gv 1) aNil) srtO)) aNil) tupD) aNil)) (len? 2 (m_law_same c 5)))))) (rtV (kB false)) skip)
    (rtV (cB (aCons (b1 (gv 0) (prC c.Shift (mShift_never c))) (aCons (b2 (cB (aCons (lcD (iOf (gv 1)) (gN 2) (asB (b2 (b2 (gv 2) (kI 1) ixD) (b2 (gv 2) (kI 2) ixD) gtI)) (gv 2) [2]) aNil) lenD) (kI 0) gtI) aNil)) (len? 2 (m_law_same c 5)))))
noncomputable def m_law_shown (c : Cs) : List D → Option D := runP 3 (b_law_shown c)
/-- Shift_eq: 0 self, 1 other -/
noncomputable abbrev bShift_eq (c : Cs) : Ev → Option Fl :=
    (rtV (andV (b1 (gv 1) (isiC [(c.Shift, true)])) (b2 (b1 (gv 0) (fldD c.Shift "rows")) (b1 (gv 1) (fldD c.Shift "rows")) eqD)))
noncomputable def mShift_eq (c : Cs) : List D → Option D := runP 2 (bShift_eq c)
/-- _law_near: 0 _law_own_rows, 1 _law_result, 2 _law_k, 3 _law_label, 4 _law_low, 5 _law_high, 6 _law_amount, 7 _law_place -/
noncomputable abbrev b_law_near (c : Cs) : Ev → Option Fl :=
    (sq (stO 1 (mkLstO (aCons (b2 (gv 0) (mkLst (aCons (mkTup (aCons (kS "zzzzzzzzzzzz") (aCons (kI 0) (aCons (kI 0) (aCons (kI 0) aNil))))) aNil)) addA) aNil)))
    (sq (forS (iOf (lcD (rng1 (cB (aCons (gv 0) aNil) lenD)) (gN 7) (orT (asB (b2 (gv 7) (kI 5) ltI)) (asB (b2 (gv 7) (b2 (cB (aCons (gv 0) aNil) lenD) (kI 1) subI) eqD))) (gv 7) [7])) (gN 2) (sq (asg (b2 (gv 0) (gv 2) ixD) (gT 4 (gsC (gN 3) (gsC (gN 4) (gsC (gN 5) (gsC (gN 6) gsN))))))
    (sq (app 1 (b2 (slc (gv 0) noPart (part (gv 2))) (slc (gv 0) (part (b2 (gv 2) (kI 1) addA)) noPart) addA))
    (sq (app 1 (b2 (b2 (slc (gv 0) noPart (part (gv 2))) (mkLst (aCons (mkTup (aCons (kS "zzzzzzzzzzzz") (aCons (gv 4) (aCons (gv 5) (aCons (gv 6) aNil))))) aNil)) addA) (slc (gv 0) (part (b2 (gv 2) (kI 1) addA)) noPart) addA))
    (sq (app 1 (b2 (b2 (slc (gv 0) noPart (part (gv 2))) (mkLst (aCons (mkTup (aCons (gv 3) (aCons (b2 (gv 4) (kI 1) addA) (aCons (gv 5) (aCons (gv 6) aNil))))) aNil)) addA) (slc (gv 0) (part (b2 (gv 2) (kI 1) addA)) noPart) addA))
    (sq (app 1 (b2 (b2 (slc (gv 0) noPart (part (gv 2))) (mkLst (aCons (mkTup (aCons (gv 3) (aCons (gv 4) (aCons (b2 (gv 5) (kI 1) addA) (aCons (gv 6) aNil))))) aNil)) addA) (slc (gv 0) (part (b2 (gv 2) (kI 1) addA)) noPart) addA))
    (app 1 (b2 (b2 (slc (gv 0) noPart (part (gv 2))) (mkLst (aCons (mkTup (aCons (gv 3) (aCons (gv 4) (aCons (gv 5) (aCons (b2 (gv 6) (kI 1) addA) aNil))))) aNil)) addA) (slc (gv 0) (part (b2 (gv 2) (kI 1) addA)) noPart) addA))))))))
    (fz 1 (rtV (gv 1)))))
noncomputable def m_law_near (c : Cs) : List D → Option D := runP 8 (b_law_near c)
/-- Shift_init: 0 self, 1 rows, 2 row -/
noncomputable abbrev bShift_init (c : Cs) : Ev → Option Fl :=
    (put c.Shift 0 "rows" (thaw (cB (aCons (frz (cO (aCons (lcD (iOf (gv 1)) (gN 2) yes (cB (aCons (gv 2) aNil) tupD) [2]) aNil) srtO)) aNil) tupD)))
noncomputable def mShift_init (c : Cs) : List D → Option O := runI c.Shift 3 (bShift_init c)
/-- _law_compared: 0 _law_shift, 1 _law_own_rows, 2 _law_near_here, 3 _law_thing -/
noncomputable abbrev b_law_compared (c : Cs) : Ev → Option Fl :=
    (sq (ifS (orT (notT (asB (cB (aCons (b2 (gv 0) (frz (cO (aCons (b1 (gv 1) revD) aNil) (lenO? 1 (mShift_init c)))) (orD eqD (eqC c.Shift [] (mShift_eq c)))) (aCons (kB true) aNil)) (len? 2 (m_law_same c 5))))) (notT (asB (cB (aCons (b2 (gv 0) (gv 0) (orD eqD (eqC c.Shift [] (mShift_eq c)))) (aCons (kB true) aNil)) (len? 2 (m_law_same c 5)))))) (rtV (kB false)) skip)
    (sq (forS (iOf (cB (aCons (gv 1) aNil) (len? 1 (m_law_near c)))) (gN 2) (ifS (orT (notT (asB (cB (aCons (b2 (gv 0) (frz (cO (aCons (gv 2) aNil) (lenO? 1 (mShift_init c)))) (orD eqD (eqC c.Shift [] (mShift_eq c)))) (aCons (kB false) aNil)) (len? 2 (m_law_same c 5))))) (notT (asB (cB (aCons (b2 (frz (cO (aCons (gv 2) aNil) (lenO? 1 (mShift_init c)))) (gv 0) (orD eqD (eqC c.Shift [] (mShift_eq c)))) (aCons (kB false) aNil)) (len? 2 (m_law_same c 5)))))) (rtV (kB false)) skip))
    (sq (forS (iOf (mkLst (aCons kN (aCons (cB (aCons (frz (cO (aCons (gv 1) aNil) srtO)) aNil) tupD) (aCons (frz (cO (aCons (gv 1) aNil) listO)) (aCons (kS "shift") (aCons (kI 0) aNil))))))) (gN 3) (ifS (notT (asB (cB (aCons (b2 (gv 0) (gv 3) (orD eqD (eqC c.Shift [] (mShift_eq c)))) (aCons (kB false) aNil)) (len? 2 (m_law_same c 5))))) (rtV (kB false)) skip))
    (rtV (kB true)))))
noncomputable def m_law_compared (c : Cs) : List D → Option D := runP 4 (b_law_compared c)
/-- _law_times: 0 _law_own_rows, 1 _law_times_here, 2 _law_result, 3 _law_label, 4 _law_low, 5 _law_high, 6 _law_amount, 7 _law_rest -/
noncomputable abbrev b_law_times (c : Cs) : Ev → Option Fl :=
    (sq (ifS (asB (b2 (gv 1) (kI 0) eqD)) (rtV (mkLst aNil)) skip)
    (sq (stO 2 (mkLstO aNil))
    (sq (forS (iOf (gv 0)) (gT 4 (gsC (gN 3) (gsC (gN 4) (gsC (gN 5) (gsC (gN 6) gsN))))) (sq (stV 7 (b2 (b2 (gv 1) (kI 1) subI) (gv 6) mulI))
    (app 2 (mkTup (aCons (gv 3) (aCons (b2 (gv 4) (cB (aCons (kI 0) (aCons (gv 7) aNil)) min2) subI) (aCons (b2 (gv 5) (cB (aCons (kI 0) (aCons (gv 7) aNil)) max2) subI) (aCons (b2 (gv 1) (gv 6) mulI) aNil))))))))
    (fz 2 (rtV (gv 2))))))
noncomputable def m_law_times (c : Cs) : List D → Option D := runP 8 (b_law_times c)
/-- Shift_mul: 0 self, 1 other, 2 rows, 3 counter, 4 low, 5 high, 6 amount, 7 before_last -/
noncomputable abbrev bShift_mul (c : Cs) : Ev → Option Fl :=
    (sq (ifS (asB (b2 (gv 1) (kI 0) eqD)) (rtV (frz (cO (aCons (mkLst aNil) aNil) (lenO? 1 (mShift_init c))))) skip)
    (sq (stO 2 (mkLstO aNil))
    (sq (forS (iOf (b1 (gv 0) (fldD c.Shift "rows"))) (gT 4 (gsC (gN 3) (gsC (gN 4) (gsC (gN 5) (gsC (gN 6) gsN))))) (sq (stV 7 (b2 (b2 (gv 1) (kI 1) subI) (gv 6) mulI))
    (app 2 (mkTup (aCons (gv 3) (aCons (b2 (gv 4) (cB (aCons (kI 0) (aCons (gv 7) aNil)) min2) subI) (aCons (b2 (gv 5) (cB (aCons (kI 0) (aCons (gv 7) aNil)) max2) subI) (aCons (b2 (gv 1) (gv 6) mulI) aNil))))))))
    (fz 2 (rtV (frz (cO (aCons (gv 2) aNil) (lenO? 1 (mShift_init c)))))))))
noncomputable def mShift_mul (c : Cs) : List D → Option D := runP 8 (bShift_mul c)
/-- _law_count: 0 _law_numbers, 1 _law_kind, 2 _law_value, 3 _law_k -/
noncomputable abbrev b_law_count (c : Cs) : Ev → Option Fl :=
    (sq (stV 1 (b2 (cB (aCons (b2 (gv 0) (kI 0) ixD) aNil) intD) (kI 3) modI))
    (sq (ifS (asB (b2 (gv 1) (kI 0) eqD)) (rtV (b2 (cB (aCons (b2 (gv 0) (kI 1) ixD) aNil) intD) (kI 5) modI)) skip)
    (sq (ifS (asB (b2 (gv 1) (kI 1) eqD)) (rtV (cB (aCons (b2 (gv 0) (kI 1) ixD) aNil) intD)) skip)
    (sq (stV 2 (kI 0))
    (sq (forS (rng1 (kI 7)) (gN 3) (stV 2 (b2 (b2 (gv 2) (kI 1000) mulI) (cB (aCons (b2 (gv 0) (b2 (kI 1) (gv 3) addA) ixD) aNil) intD) addA)))
    (rtV (b2 (cB (aCons (gv 2) aNil) intD) (b2 (b2 (kI 10) (kI 20) powI) (kI 1) addA) modI)))))))
noncomputable def m_law_count (c : Cs) : List D → Option D := runP 4 (b_law_count c)
/-- _law_plus: 0 _law_first, 1 _law_second, 2 _law_result, 3 _law_label, 4 _law_low, 5 _law_high, 6 _law_amount, 7 _law_behind, 8 _law_least, 9 _law_most, 10 _law_known, 11 _law_row_here -/
noncomputable abbrev b_law_plus (c : Cs) : Ev → Option Fl :=
    (sq (stO 2 (mkLstO aNil))
    (sq (forS (iOf (gv 0)) (gT 4 (gsC (gN 3) (gsC (gN 4) (gsC (gN 5) (gsC (gN 6) gsN))))) (sq (stV 7 (lcD (iOf (gv 1)) (gN 11) (asB (b2 (b2 (gv 11) (kI 0) ixD) (gv 3) eqD)) (gv 11) [11]))
    (ifS (asB (b2 (cB (aCons (gv 7) aNil) lenD) (kI 0) eqD)) (app 2 (mkTup (aCons (gv 3) (aCons (gv 4) (aCons (gv 5) (aCons (gv 6) aNil)))))) (sq (stV 8 (cB (aCons (gv 4) (aCons (b2 (b2 (b2 (gv 7) (kI 0) ixD) (kI 1) ixD) (gv 6) subI) aNil)) max2))
    (sq (stV 9 (cB (aCons (gv 5) (aCons (b2 (b2 (b2 (gv 7) (kI 0) ixD) (kI 2) ixD) (gv 6) subI) aNil)) min2))
    (app 2 (mkTup (aCons (gv 3) (aCons (gv 8) (aCons (gv 9) (aCons (b2 (gv 6) (b2 (b2 (gv 7) (kI 0) ixD) (kI 3) ixD) addA) aNil)))))))))))
    (sq (stV 10 (lcD (iOf (gv 0)) (gN 11) yes (b2 (gv 11) (kI 0) ixD) [11]))
    (fz 2 (rtV (b2 (gv 2) (lcD (iOf (gv 1)) (gN 11) (asB (b2 (b2 (gv 11) (kI 0) ixD) (gv 10) ninD)) (gv 11) [11]) addA))))))
noncomputable def m_law_plus (c : Cs) : List D → Option D := runP 12 (b_law_plus c)
/-- row_of_both: 0 first, 1 second, 2 counter, 3 low, 4 high, 5 amount -/
noncomputable abbrev brow_of_both (c : Cs) : Ev → Option Fl :=
    (sq (asg (gv 0) (gT 4 (gsC (gN 2) (gsC (gN 3) (gsC (gN 4) (gsC (gN 5) gsN))))))
    (rtV (mkTup (aCons (gv 2) (aCons (cB (aCons (gv 3) (aCons (b2 (b2 (gv 1) (kI 1) ixD) (gv 5) subI) aNil)) max2) (aCons (cB (aCons (gv 4) (aCons (b2 (b2 (gv 1) (kI 2) ixD) (gv 5) subI) aNil)) min2) (aCons (b2 (gv 5) (b2 (gv 1) (kI 3) ixD) addA) aNil)))))))
noncomputable def mrow_of_both (c : Cs) : List D → Option D := runP 6 (brow_of_both c)
/-- Shift_add: 0 self, 1 other, 2 rows, 3 row -/
noncomputable abbrev bShift_add (c : Cs) : Ev → Option Fl :=
    (sq (stO 2 dic0)
    (sq (forS (iOf (b1 (gv 0) (fldD c.Shift "rows"))) (gN 3) (dput 2 (b2 (gv 3) (kI 0) ixD) (gv 3)))
    (sq (forS (iOf (b1 (gv 1) (fldD c.Shift "rows"))) (gN 3) (ifS (vwT (asB (b2 (b2 (gv 3) (kI 0) ixD) (gv 2) dinD))) (dput 2 (b2 (gv 3) (kI 0) ixD) (cB (aCons (dgetO 2 (b2 (gv 3) (kI 0) ixD)) (aCons (gv 3) aNil)) (len? 2 (mrow_of_both c)))) (dput 2 (b2 (gv 3) (kI 0) ixD) (gv 3))))
    (fz 2 (rtV (frz (cO (aCons (frz (valsO (gv 2))) aNil) (lenO? 1 (mShift_init c)))))))))
noncomputable def mShift_add (c : Cs) : List D → Option D := runP 4 (bShift_add c)
/-- _law_back: 0 _law_own_rows, 1 _law_label, 2 _law_low, 3 _law_high, 4 _law_amount -/
noncomputable abbrev b_law_back (c : Cs) : Ev → Option Fl :=
    (rtV (lcD (iOf (gv 0)) (gT 4 (gsC (gN 1) (gsC (gN 2) (gsC (gN 3) (gsC (gN 4) gsN))))) yes (mkTup (aCons (gv 1) (aCons (b2 (gv 2) (gv 4) addA) (aCons (b2 (gv 3) (gv 4) addA) (aCons (b2 (kI 0) (gv 4) subI) aNil))))) [1, 2, 3, 4]))
noncomputable def m_law_back (c : Cs) : List D → Option D := runP 5 (b_law_back c)
/-- Shift_invert: 0 self, 1 counter, 2 low, 3 high, 4 amount -/
noncomputable abbrev bShift_invert (c : Cs) : Ev → Option Fl :=
    (rtV (frz (cO (aCons (lcD (iOf (b1 (gv 0) (fldD c.Shift "rows"))) (gT 4 (gsC (gN 1) (gsC (gN 2) (gsC (gN 3) (gsC (gN 4) gsN))))) yes (mkTup (aCons (gv 1) (aCons (b2 (gv 2) (gv 4) addA) (aCons (b2 (gv 3) (gv 4) addA) (aCons (b1 (gv 4) negI) aNil))))) [1, 2, 3, 4]) aNil) (lenO? 1 (mShift_init c)))))
noncomputable def mShift_invert (c : Cs) : List D → Option D := runP 5 (bShift_invert c)
/-- Shift_init__L1: 0 self, 1 rows, 2 row -/
noncomputable abbrev bShift_init__L1 (c : Cs) : Ev → Option Fl :=
    (put c.Shift 0 "rows" (thaw (cB (aCons (frz (cO (aCons (lcD (ownI 1) (gN 2) yes (cB (aCons (gv 2) aNil) tupD) [2]) aNil) srtO)) aNil) tupD)))
noncomputable def mShift_init__L1 (c : Cs) : List O → Option (O × List O) := runB 3 [0, 1] (bShift_init__L1 c)
/-- _law_row: 0 _law_cell_here, 1 _law_many, 2 _law_row_here, 3 _law_seed, 4 _law_rest, 5 _law_k, 6 _law_mixed -/
noncomputable abbrev b_law_row (c : Cs) : Ev → Option Fl :=
    (sq (stO 2 (mkLstO aNil))
    (sq (stV 3 (b2 (cB (aCons (gv 0) aNil) intD) (kI 2147483629) modI))
    (sq (stV 4 (b2 (gv 0) (b2 (kI 10) (kI 18) powI) subI))
    (sq (forS (rng1 (gv 1)) (gN 5) (sq (stV 3 (b2 (cB (aCons (b2 (b2 (b2 (gv 3) (kI 48271) mulI) (b2 (kI 977) (gv 5) mulI) addA) (kI 12345) addA) aNil) intD) (kI 2147483647) modI))
    (sq (stV 6 (b2 (cB (aCons (b2 (b2 (b2 (gv 3) (kI 69621) mulI) (b2 (kI 31) (gv 5) mulI) addA) (kI 7) addA) aNil) intD) (kI 2147483629) modI))
    (sq (app 2 (ifV (asB (b2 (gv 0) (b2 (kI 10) (kI 18) powI) geI)) (b2 (cB (aCons (gv 4) aNil) intD) (kI 1000) modI) (b2 (cB (aCons (b2 (gv 6) (kI 4099) divI) aNil) intD) (kI 1000) modI)))
    (stV 4 (b2 (gv 4) (kI 1000) divI))))))
    (fz 2 (rtV (gv 2)))))))
noncomputable def m_law_row (c : Cs) : List D → Option D := runP 7 (b_law_row c)
/-- _law_cell: 0 _law_script, 1 _law_k -/
noncomputable abbrev b_law_cell (c : Cs) : Ev → Option Fl :=
    (rtV (ifV (asB (b2 (gv 1) (cB (aCons (gv 0) aNil) lenD) ltI)) (cB (aCons (b2 (gv 0) (gv 1) ixD) aNil) intD) (kI 0)))
noncomputable def m_law_cell (c : Cs) : List D → Option D := runP 2 (b_law_cell c)
/-- _law_number: 0 _law_numbers, 1 _law_most, 2 _law_sign, 3 _law_kind, 4 _law_value, 5 _law_k -/
noncomputable abbrev b_law_number (c : Cs) : Ev → Option Fl :=
    (sq (stV 2 (b2 (kI 1) (b2 (kI 2) (b2 (cB (aCons (b2 (b2 (gv 0) (kI 0) ixD) (kI 4) divI) aNil) intD) (kI 2) modI) mulI) subI))
    (sq (stV 3 (b2 (cB (aCons (b2 (gv 0) (kI 0) ixD) aNil) intD) (kI 4) modI))
    (sq (ifS (orT (asB (b2 (gv 1) (kI 0) eqD)) (asB (b2 (gv 3) (kI 0) eqD))) (rtV (b2 (b2 (cB (aCons (b2 (gv 0) (kI 1) ixD) aNil) intD) (kI 11) modI) (kI 5) subI)) skip)
    (sq (ifS (asB (b2 (gv 3) (kI 1) eqD)) (rtV (b2 (gv 2) (cB (aCons (b2 (gv 0) (kI 1) ixD) aNil) intD) mulI)) skip)
    (sq (stV 4 (kI 0))
    (sq (forS (rng1 (kI 13)) (gN 5) (stV 4 (b2 (b2 (gv 4) (kI 1000) mulI) (cB (aCons (b2 (gv 0) (b2 (kI 1) (gv 5) addA) ixD) aNil) intD) addA)))
    (sq (ifS (orT (asB (b2 (gv 1) (kI 1) eqD)) (asB (b2 (gv 3) (kI 2) eqD))) (stV 4 (b2 (cB (aCons (gv 4) aNil) intD) (b2 (kI 10) (kI 18) powI) modI)) skip)
    (rtV (b2 (gv 2) (gv 4) mulI)))))))))
noncomputable def m_law_number (c : Cs) : List D → Option D := runP 6 (b_law_number c)
/-- _law_rows: 0 _law_row_here, 1 _law_pool_here, 2 _law_most, 3 _law_own_rows, 4 _law_key, 5 _law_k, 6 _law_at, 7 _law_low, 8 _law_high, 9 _law_amount -/
noncomputable abbrev b_law_rows (c : Cs) : Ev → Option Fl :=
    (sq (stO 3 (mkLstO aNil))
    (sq (ifS (asB (b2 (b2 (cB (aCons (b2 (gv 0) (kI 0) ixD) aNil) intD) (kI 3) modI) (kI 0) eqD)) (stV 2 (kI 0)) skip)
    (sq (forS (iOf (frz (cO (aCons (lcD (rng1 (cB (aCons (gv 1) aNil) lenD)) (gN 5) yes (mkTup (aCons (b2 (cB (aCons (b2 (gv 0) (b2 (kI 1) (gv 5) addA) ixD) aNil) intD) (kI 3) divI) (aCons (gv 5) aNil))) [5]) aNil) srtO))) (gN 4) (sq (stV 5 (b2 (gv 4) (kI 1) ixD))
    (sq (stV 6 (b2 (kI 6) (b2 (kI 42) (b2 (gv 5) (kI 5) modI) mulI) addA))
    (ifS (asB (b2 (b2 (cB (aCons (b2 (gv 0) (b2 (kI 1) (gv 5) addA) ixD) aNil) intD) (kI 3) modI) (kI 0) gtI)) (sq (stV 7 (b2 (cB (aCons (slc (gv 0) (part (gv 6)) (part (b2 (gv 6) (kI 14) addA))) (aCons (gv 2) aNil)) (len? 2 (m_law_number c))) (b2 (gv 5) (kI 5) divI) addA))
    (sq (stV 8 (b2 (cB (aCons (slc (gv 0) (part (b2 (gv 6) (kI 14) addA)) (part (b2 (gv 6) (kI 28) addA))) (aCons (gv 2) aNil)) (len? 2 (m_law_number c))) (b2 (gv 5) (kI 5) divI) addA))
    (sq (stV 9 (cB (aCons (slc (gv 0) (part (b2 (gv 6) (kI 28) addA)) (part (b2 (gv 6) (kI 42) addA))) (aCons (gv 2) aNil)) (len? 2 (m_law_number c))))
    (ifS (asB (b2 (b2 (cB (aCons (b2 (b2 (gv 0) (kI 0) ixD) (kI 3) divI) aNil) intD) (kI 2) modI) (kI 0) eqD)) (app 3 (mkTup (aCons (b2 (gv 1) (gv 5) ixD) (aCons (cB (aCons (gv 7) (aCons (gv 8) aNil)) min2) (aCons (cB (aCons (gv 7) (aCons (gv 8) aNil)) max2) (aCons (gv 9) aNil)))))) (app 3 (mkTup (aCons (b2 (gv 1) (gv 5) ixD) (aCons (gv 7) (aCons (gv 8) (aCons (gv 9) aNil)))))))))) skip))))
    (fz 3 (rtV (gv 3))))))
noncomputable def m_law_rows (c : Cs) : List D → Option D := runP 10 (b_law_rows c)
/-- _law_word: 0 _law_number_here, 1 _law_rest, 2 _law_word_here, 3 _law_k -/
noncomputable abbrev b_law_word (c : Cs) : Ev → Option Fl :=
    (sq (stV 1 (b2 (cB (aCons (gv 0) aNil) intD) (kI 1) addA))
    (sq (stV 2 (kS ""))
    (sq (forS (rng1 (kI 12)) (gN 3) (sq (stV 2 (b2 (ifV (asB (b2 (gv 1) (kI 0) gtI)) (b2 (kS "abcdefghijklmnopqrstuvwxyz") (b2 (cB (aCons (b2 (gv 1) (kI 1) subI) aNil) intD) (kI 26) modI) ixD) (kS "")) (gv 2) addA))
    (stV 1 (b2 (b2 (gv 1) (kI 1) subI) (kI 26) divI))))
    (rtV (gv 2)))))
noncomputable def m_law_word (c : Cs) : List D → Option D := runP 4 (b_law_word c)
/-- _law_pool: 0 _law_row_here, 1 _law_first, 2 _law_second, 3 _law_pool_here, 4 _law_label, 5 _law_k -/
noncomputable abbrev b_law_pool (c : Cs) : Ev → Option Fl :=
    (sq (stV 1 (cB (aCons (b2 (b2 (gv 0) (kI 0) ixD) (b2 (kI 1000) (b2 (cB (aCons (b2 (gv 0) (kI 1) ixD) aNil) intD) (kI 30) modI) mulI) addA) aNil) (len? 1 (m_law_word c))))
    (sq (stV 2 (cB (aCons (b2 (gv 0) (kI 2) ixD) aNil) (len? 1 (m_law_word c))))
    (sq (ifS (asB (b2 (b2 (cB (aCons (b2 (gv 0) (kI 3) ixD) aNil) intD) (kI 3) modI) (kI 1) eqD)) (stV 2 (slc (b2 (gv 2) (kS "klmnopqrstuv") addA) noPart (part (kI 12)))) skip)
    (sq (stO 3 (mkLstO aNil))
    (sq (forS (iOf (mkLst (aCons (gv 1) (aCons (b2 (b2 (gv 1) (kS ".") addA) (gv 2) addA) (aCons (gv 2) (aCons (b2 (b2 (gv 2) (kS ".") addA) (gv 1) addA) (aCons (b2 (gv 1) (kS "a") addA) aNil))))))) (gN 4) (ifS (vwT (asB (b2 (gv 4) (gv 3) ninD))) (app 3 (gv 4)) skip))
    (sq (ifS (asB (b2 (b2 (cB (aCons (b2 (b2 (gv 0) (kI 3) ixD) (kI 3) divI) aNil) intD) (kI 4) modI) (kI 1) eqD)) (forS (rng1 (kI 60)) (gN 5) (sq (stV 4 (cB (aCons (b2 (cB (aCons (b2 (gv 0) (kI 0) ixD) aNil) intD) (b2 (kI 19) (gv 5) mulI) addA) aNil) (len? 1 (m_law_word c))))
    (ifS (vwT (andT (asB (b2 (gv 4) (gv 3) ninD)) (asB (b2 (cB (aCons (gv 3) aNil) lenD) (kI 59) ltI)))) (app 3 (gv 4)) skip))) skip)
    (fz 3 (rtV (gv 3)))))))))
noncomputable def m_law_pool (c : Cs) : List D → Option D := runP 6 (b_law_pool c)
/-- law: 0 _law_script, 1 _law_pool_here, 2 _law_first, 3 _law_second, 4 _law_third, 5 _law_numbers, 6 _law_passed, 7 _law_one, 8 _law_other, 9 _law_times_here, 10 _law_count_here -/
noncomputable abbrev blaw (c : Cs) : Ev → Option Fl :=
    (sq (stV 1 (cB (aCons (cB (aCons (cB (aCons (gv 0) (aCons (kI 0) aNil)) (len? 2 (m_law_cell c))) (aCons (kI 4) aNil)) (len? 2 (m_law_row c))) aNil) (len? 1 (m_law_pool c))))
    (sq (stV 2 (cB (aCons (cB (aCons (cB (aCons (gv 0) (aCons (kI 1) aNil)) (len? 2 (m_law_cell c))) (aCons (kI 216) aNil)) (len? 2 (m_law_row c))) (aCons (gv 1) (aCons (kI 2) aNil))) (len? 3 (m_law_rows c))))
    (sq (stV 3 (cB (aCons (cB (aCons (cB (aCons (gv 0) (aCons (kI 2) aNil)) (len? 2 (m_law_cell c))) (aCons (kI 216) aNil)) (len? 2 (m_law_row c))) (aCons (gv 1) (aCons (kI 2) aNil))) (len? 3 (m_law_rows c))))
    (sq (stV 4 (cB (aCons (cB (aCons (cB (aCons (gv 0) (aCons (kI 3) aNil)) (len? 2 (m_law_cell c))) (aCons (kI 216) aNil)) (len? 2 (m_law_row c))) (aCons (gv 1) (aCons (kI 1) aNil))) (len? 3 (m_law_rows c))))
    (sq (stV 5 (cB (aCons (cB (aCons (gv 0) (aCons (kI 4) aNil)) (len? 2 (m_law_cell c))) (aCons (kI 9) aNil)) (len? 2 (m_law_row c))))
    (sq (stO 6 (cO (aCons (gv 2) aNil) listO))
    (sq (stV 7 (frz (cI0 c.Shift [.own 6] 2 (mShift_init__L1 c))))
    (sq (ifS (vwT (notT (asB (cB (aCons (gv 6) (aCons (gv 2) aNil)) (len? 2 (m_law_same c 5)))))) (rtV (kB false)) skip)
    (sq (app 6 (mkTup (aCons (kS "zzzzzzzzzzzz") (aCons (kI 0) (aCons (kI 0) (aCons (kI 0) aNil))))))
    (sq (stV 8 (frz (cO (aCons (cB (aCons (gv 3) aNil) tupD) aNil) (lenO? 1 (mShift_init c)))))
    (sq (ifS (orT (notT (asB (cB (aCons (gv 7) (aCons (gv 2) aNil)) (len? 2 (m_law_shown c))))) (notT (asB (cB (aCons (gv 8) (aCons (gv 3) aNil)) (len? 2 (m_law_shown c)))))) (rtV (kB false)) skip)
    (sq (ifS (orT (notT (asB (cB (aCons (b2 (gv 7) (gv 8) (orD addA (opC c.Shift (mShift_add c)))) (aCons (cB (aCons (gv 2) (aCons (gv 3) aNil)) (len? 2 (m_law_plus c))) aNil)) (len? 2 (m_law_shown c))))) (notT (asB (cB (aCons (b2 (gv 8) (gv 7) (orD addA (opC c.Shift (mShift_add c)))) (aCons (cB (aCons (gv 3) (aCons (gv 2) aNil)) (len? 2 (m_law_plus c))) aNil)) (len? 2 (m_law_shown c)))))) (rtV (kB false)) skip)
    (sq (ifS (orT (notT (asB (cB (aCons (b2 (gv 7) (gv 7) (orD addA (opC c.Shift (mShift_add c)))) (aCons (cB (aCons (gv 2) (aCons (gv 2) aNil)) (len? 2 (m_law_plus c))) aNil)) (len? 2 (m_law_shown c))))) (notT (asB (cB (aCons (b1 (gv 7) (inC c.Shift (mShift_invert c))) (aCons (cB (aCons (gv 2) aNil) (len? 1 (m_law_back c))) aNil)) (len? 2 (m_law_shown c)))))) (rtV (kB false)) skip)
    (sq (forS (iOf (mkLst (aCons (kI 0) (aCons (kI 1) (aCons (kI 2) (aCons (b2 (cB (aCons (b2 (gv 5) (kI 8) ixD) aNil) intD) (kI 10) modI) aNil)))))) (gN 9) (ifS (notT (asB (cB (aCons (b2 (gv 7) (gv 9) (orD mulI (opCI c.Shift (mShift_mul c)))) (aCons (cB (aCons (gv 2) (aCons (gv 9) aNil)) (len? 2 (m_law_times c))) aNil)) (len? 2 (m_law_shown c))))) (rtV (kB false)) skip))
    (sq (stV 10 (cB (aCons (gv 5) aNil) (len? 1 (m_law_count c))))
    (sq (ifS (notT (asB (cB (aCons (b2 (frz (cO (aCons (gv 4) aNil) (lenO? 1 (mShift_init c)))) (gv 10) (orD mulI (opCI c.Shift (mShift_mul c)))) (aCons (cB (aCons (gv 4) (aCons (gv 10) aNil)) (len? 2 (m_law_times c))) aNil)) (len? 2 (m_law_shown c))))) (rtV (kB false)) skip)
    (sq (ifS (orT (notT (asB (cB (aCons (b2 (gv 7) (gv 8) (orD eqD (eqC c.Shift [] (mShift_eq c)))) (aCons (b2 (frz (cO (aCons (gv 2) aNil) srtO)) (frz (cO (aCons (gv 3) aNil) srtO)) (orD eqD (eqC c.Shift [] (mShift_eq c)))) aNil)) (len? 2 (m_law_same c 5))))) (notT (asB (cB (aCons (gv 7) (aCons (gv 2) aNil)) (len? 2 (m_law_compared c)))))) (rtV (kB false)) skip)
    (rtV (andV (cB (aCons (gv 7) (aCons (gv 2) aNil)) (len? 2 (m_law_shown c))) (cB (aCons (gv 8) (aCons (gv 3) aNil)) (len? 2 (m_law_shown c))))))))))))))))))))))
noncomputable def mlaw (c : Cs) : List D → Option D := runP 11 (blaw c)
section
variable {P : Program} {w : World} {K : PySem.W.Frag} {mg : Str → Option Value} {base : Heap} {c : Cs}
/-- what the top has written -/
structure Tx (K : PySem.W.Frag) (mg : Str → Option Value) (c : Cs) where
  n_any : mg "any" = none
  n_bool : mg "bool" = none
  n_int : mg "int" = none
  n_isinstance : mg "isinstance" = none
  n_len : mg "len" = none
  n_list : mg "list" = none
  n_max : mg "max" = none
  n_min : mg "min" = none
  n_range : mg "range" = none
  n_sorted : mg "sorted" = none
  n_str : mg "str" = none
  n_tuple : mg "tuple" = none
  f_law_same : Addr
  fd_law_same : FuncData
  F_law_same : Fun K "_law_same" "_law_same" s_law_same f_law_same fd_law_same
  g_law_same : mg "_law_same" = some (.ref f_law_same)
  b_law_same : Binds K fd_law_same ["_law_actual", "_law_expected"] []
  fShift_never : Addr
  fdShift_never : FuncData
  FShift_never : Fun K "never" "Shift.never" sShift_never fShift_never fdShift_never
  bShift_never : Binds K fdShift_never ["self"] []
  f_law_shown : Addr
  fd_law_shown : FuncData
  F_law_shown : Fun K "_law_shown" "_law_shown" s_law_shown f_law_shown fd_law_shown
  g_law_shown : mg "_law_shown" = some (.ref f_law_shown)
  b_law_shown : Binds K fd_law_shown ["_law_shift", "_law_own_rows"] []
  fShift_eq : Addr
  fdShift_eq : FuncData
  FShift_eq : Fun K "__eq__" "Shift.__eq__" sShift_eq fShift_eq fdShift_eq
  bShift_eq : Binds K fdShift_eq ["self", "other"] []
  f_law_near : Addr
  fd_law_near : FuncData
  F_law_near : Fun K "_law_near" "_law_near" s_law_near f_law_near fd_law_near
  g_law_near : mg "_law_near" = some (.ref f_law_near)
  b_law_near : Binds K fd_law_near ["_law_own_rows"] []
  fShift_init : Addr
  fdShift_init : FuncData
  FShift_init : Fun K "__init__" "Shift.__init__" sShift_init fShift_init fdShift_init
  bShift_init : Binds K fdShift_init ["self", "rows"] []
  kShift_init : KBn K fdShift_init ["self", "rows"] 1 ["rows"] (fun us ws => us ++ ws) (fun vs zs => vs ++ zs)
  f_law_compared : Addr
  fd_law_compared : FuncData
  F_law_compared : Fun K "_law_compared" "_law_compared" s_law_compared f_law_compared fd_law_compared
  g_law_compared : mg "_law_compared" = some (.ref f_law_compared)
  b_law_compared : Binds K fd_law_compared ["_law_shift", "_law_own_rows"] []
  f_law_times : Addr
  fd_law_times : FuncData
  F_law_times : Fun K "_law_times" "_law_times" s_law_times f_law_times fd_law_times
  g_law_times : mg "_law_times" = some (.ref f_law_times)
  b_law_times : Binds K fd_law_times ["_law_own_rows", "_law_times_here"] []
  fShift_mul : Addr
  fdShift_mul : FuncData
  FShift_mul : Fun K "__mul__" "Shift.__mul__" sShift_mul fShift_mul fdShift_mul
  bShift_mul : Binds K fdShift_mul ["self", "other"] []
  f_law_count : Addr
  fd_law_count : FuncData
  F_law_count : Fun K "_law_count" "_law_count" s_law_count f_law_count fd_law_count
  g_law_count : mg "_law_count" = some (.ref f_law_count)
  b_law_count : Binds K fd_law_count ["_law_numbers"] []
  f_law_plus : Addr
  fd_law_plus : FuncData
  F_law_plus : Fun K "_law_plus" "_law_plus" s_law_plus f_law_plus fd_law_plus
  g_law_plus : mg "_law_plus" = some (.ref f_law_plus)
  b_law_plus : Binds K fd_law_plus ["_law_first", "_law_second"] []
  frow_of_both : Addr
  fdrow_of_both : FuncData
  Frow_of_both : Fun K "row_of_both" "row_of_both" srow_of_both frow_of_both fdrow_of_both
  grow_of_both : mg "row_of_both" = some (.ref frow_of_both)
  brow_of_both : Binds K fdrow_of_both ["first", "second"] []
  fShift_add : Addr
  fdShift_add : FuncData
  FShift_add : Fun K "__add__" "Shift.__add__" sShift_add fShift_add fdShift_add
  bShift_add : Binds K fdShift_add ["self", "other"] []
  f_law_back : Addr
  fd_law_back : FuncData
  F_law_back : Fun K "_law_back" "_law_back" s_law_back f_law_back fd_law_back
  g_law_back : mg "_law_back" = some (.ref f_law_back)
  b_law_back : Binds K fd_law_back ["_law_own_rows"] []
  fShift_invert : Addr
  fdShift_invert : FuncData
  FShift_invert : Fun K "__invert__" "Shift.__invert__" sShift_invert fShift_invert fdShift_invert
  bShift_invert : Binds K fdShift_invert ["self"] []
  f_law_row : Addr
  fd_law_row : FuncData
  F_law_row : Fun K "_law_row" "_law_row" s_law_row f_law_row fd_law_row
  g_law_row : mg "_law_row" = some (.ref f_law_row)
  b_law_row : Binds K fd_law_row ["_law_cell_here", "_law_many"] []
  f_law_cell : Addr
  fd_law_cell : FuncData
  F_law_cell : Fun K "_law_cell" "_law_cell" s_law_cell f_law_cell fd_law_cell
  g_law_cell : mg "_law_cell" = some (.ref f_law_cell)
  b_law_cell : Binds K fd_law_cell ["_law_script", "_law_k"] []
  f_law_number : Addr
  fd_law_number : FuncData
  F_law_number : Fun K "_law_number" "_law_number" s_law_number f_law_number fd_law_number
  g_law_number : mg "_law_number" = some (.ref f_law_number)
  b_law_number : Binds K fd_law_number ["_law_numbers", "_law_most"] []
  f_law_rows : Addr
  fd_law_rows : FuncData
  F_law_rows : Fun K "_law_rows" "_law_rows" s_law_rows f_law_rows fd_law_rows
  g_law_rows : mg "_law_rows" = some (.ref f_law_rows)
  b_law_rows : Binds K fd_law_rows ["_law_row_here", "_law_pool_here", "_law_most"] []
  f_law_word : Addr
  fd_law_word : FuncData
  F_law_word : Fun K "_law_word" "_law_word" s_law_word f_law_word fd_law_word
  g_law_word : mg "_law_word" = some (.ref f_law_word)
  b_law_word : Binds K fd_law_word ["_law_number_here"] []
  f_law_pool : Addr
  fd_law_pool : FuncData
  F_law_pool : Fun K "_law_pool" "_law_pool" s_law_pool f_law_pool fd_law_pool
  g_law_pool : mg "_law_pool" = some (.ref f_law_pool)
  b_law_pool : Binds K fd_law_pool ["_law_row_here"] []
  flaw : Addr
  fdlaw : FuncData
  Flaw : Fun K "law" "law" slaw flaw fdlaw
  glaw : mg "law" = some (.ref flaw)
  blaw : Binds K fdlaw ["_law_script"] []
  gShift : mg "Shift" = some (.ref c.Shift)
  cxShift : ClsX K c.Shift
  clShift : Cls K c.Shift
  naShift_rows : NoAttr K c.Shift "rows"
  paShift_never : Addr
  prShift_never : PropOf K c.Shift "never" paShift_never fShift_never
  isShift : IsC K c.Shift [(c.Shift, true)]
  eqShift : EqOf K c.Shift fShift_eq []
  mkShift : Mk K c.Shift fShift_init
  opShift_mul : OpOfI K c.Shift .Mult fShift_mul
  opShift_add : OpOf K c.Shift .Add fShift_add
  meShift_invert : Meth K c.Shift "__invert__" fShift_invert
theorem Tx.ok_law_same (T : Tx K mg c) : ∀ n : Nat, FnOk P w K mg base CX0 (1 + n) T.f_law_same T.fd_law_same ["_law_actual", "_law_expected"] (spP K 2 (m_law_same c n))
  | 0 => fnNone
  | n + 1 => by
    have ih := Tx.ok_law_same T n
    exact fnP T.F_law_same sc_law_same fun cdv A outer s H E hr =>
    (sCons (sIf (tCmp oIs (pVar 1) pNon) (sOne (sRet (pCmp oIs (pVar 0) pNon))) sNil)
      (sCons (sIf (tVal (pIsi (pVar 1) T.n_isinstance T.n_bool)) (sOne (sRet (pAnd (pIsi (pVar 0) T.n_isinstance T.n_bool) (pOne (pCmp (oEq hr.units) (pVar 0) (pVar 1)))))) sNil)
      (sCons (sIf (tVal (pIsi (pVar 1) T.n_isinstance T.n_int)) (sOne (sRet (pAnd (pIsi (pVar 0) T.n_isinstance T.n_int) (pAnd (pNot (pIsi (pVar 0) T.n_isinstance T.n_bool)) (pOne (pCmp (oEq hr.units) (pVar 0) (pVar 1))))))) sNil)
      (sCons (sIf (tVal (pIsi (pVar 1) T.n_isinstance T.n_str)) (sOne (sRet (pAnd (pIsi (pVar 0) T.n_isinstance T.n_str) (pOne (pCmp (oEq hr.units) (pVar 0) (pVar 1)))))) sNil)
      (sCons (sIf (tW (tAndW (tVal (pIsi (pVar 1) T.n_isinstance T.n_tuple)) (tAnd1 (tNotT (tVal (pIsi (pVar 0) T.n_isinstance T.n_tuple)))))) (sOne (sRet pBl)) sNil)
      (sCons (sIf (tW (tOrW (tW (tAndW (tVal (pIsi (pVar 1) T.n_isinstance T.n_list)) (tAnd1 (tNotT (tVal (pIsi (pVar 0) T.n_isinstance T.n_list)))))) (tOr1 (tCmp (oNe hr.units) (pCallB cLen T.n_len (by decide +kernel) (qCons (pVar 0) qNil)) (pCallB cLen T.n_len (by decide +kernel) (qCons (pVar 1) qNil)))))) (sOne (sRet pBl)) sNil)
      (sCons (sFor PassesOwn.never rfl (iRange1 (pCallB cLen T.n_len (by decide +kernel) (qCons (pVar 1) qNil)) T.n_range) (gName' (i := 2) sc_law_same.nd) (sOne (sIf (tNotT (tVal (pCall ih (hr.mono (by first | decide | exact Nat.le_refl _ | omega)) T.g_law_same T.F_law_same.kp T.b_law_same (qCons (pIx oIx (pVar 0) (pVar 2)) (qCons (pIx oIx (pVar 1) (pVar 2)) qNil))))) (sOne (sRet pBl)) sNil)))
      (sOne (sRet pBl)))))))))
theorem Tx.okShift_never (T : Tx K mg c) : FnOk P w K mg base CX0 1 T.fShift_never T.fdShift_never ["self"] (spP K 1 (mShift_never c)) :=
  fnP T.FShift_never scShift_never fun cdv A outer s H E hr =>
    (sOne (sRet (pCallB (cAny rfl) T.n_any (by decide +kernel) (qCons (pLc [("counter", 1), ("low", 2), ("high", 3), ("amount", 4)] rfl scShift_never.nd (iSeq (pFld T.clShift T.naShift_rows (pVar 0))) (blkOk_by (N := ["self", "counter", "low", "high", "amount"]) (sc := defScope sShift_never) (by decide +kernel)) (fun _ _ _ _ _ => (gTup' rfl (gsCons' (gName' (i := 1) scShift_never.nd) (gsCons' (gName' (i := 2) scShift_never.nd) (gsCons' (gName' (i := 3) scShift_never.nd) (gsCons' (gName' (i := 4) scShift_never.nd) gsNil')))))) (fun _ _ _ _ _ => ptsNil) (fun _ _ _ _ _ => (pCmp oGt (pVar 2) (pVar 3))) (gT_ok (gsC_ok (gN_ok 1) (gsC_ok (gN_ok 2) (gsC_ok (gN_ok 3) (gsC_ok (gN_ok 4) gsN_ok)))))) qNil))))
theorem Tx.ok_law_shown (T : Tx K mg c) : FnOk P w K mg base CX0 7 T.f_law_shown T.fd_law_shown ["_law_shift", "_law_own_rows"] (spP K 2 (m_law_shown c)) :=
  fnP T.F_law_shown sc_law_shown fun cdv A outer s H E hr =>
    (sCons (sIf (tW (tOrW (tNotT (tVal (pIsiC T.isShift T.gShift (pVar 0) T.n_isinstance))) (tOr1 (tNotT (tVal (pCall (T.ok_law_same 5) (hr.mono (by first | decide | exact Nat.le_refl _ | omega)) T.g_law_same T.F_law_same.kp T.b_law_same (qCons (pFld T.clShift T.naShift_rows (pVar 0)) (qCons (pCallT cTup T.n_tuple (by decide +kernel) (qCons (pO (oCallB (cSorted hr.units) T.n_sorted (by decide +kernel) (qCons (pVar 1) qNil))) qNil)) qNil)))))))) (sOne (sRet pBl)) sNil)
      (sOne (sRet (pCall (T.ok_law_same 5) (hr.mono (by first | decide | exact Nat.le_refl _ | omega)) T.g_law_same T.F_law_same.kp T.b_law_same (qCons (pProp T.clShift T.prShift_never T.okShift_never (hr.mono (by first | decide | exact Nat.le_refl _ | omega)) T.bShift_never (pVar 0)) (qCons (pCmp oGt (pCallB cLen T.n_len (by decide +kernel) (qCons (pLc [("_law_row_here", 2)] rfl sc_law_shown.nd (iSeq (pVar 1)) (blkOk_by (N := ["_law_shift", "_law_own_rows", "_law_row_here"]) (sc := defScope s_law_shown) (by decide +kernel)) (fun _ _ _ _ _ => (gName' (i := 2) sc_law_shown.nd)) (fun _ _ _ _ _ => (ptsOne (tCmp oGt (pIx oIx (pVar 2) pInt) (pIx oIx (pVar 2) pInt)))) (fun _ _ _ _ _ => (pVar 2)) (gN_ok 2)) qNil)) pInt) qNil))))))
theorem Tx.okShift_eq (T : Tx K mg c) : FnOk P w K mg base CX0 1 T.fShift_eq T.fdShift_eq ["self", "other"] (spP K 2 (mShift_eq c)) :=
  fnP T.FShift_eq scShift_eq fun cdv A outer s H E hr =>
    (sOne (sRet (pAnd (pIsiC T.isShift T.gShift (pVar 1) T.n_isinstance) (pOne (pCmp (oEq hr.units) (pFld T.clShift T.naShift_rows (pVar 0)) (pFld T.clShift T.naShift_rows (pVar 1)))))))
theorem Tx.ok_law_near (T : Tx K mg c) : FnOk P w K mg base CX0 1 T.f_law_near T.fd_law_near ["_law_own_rows"] (spP K 1 (m_law_near c)) :=
  fnP T.F_law_near sc_law_near fun cdv A outer s H E hr =>
    (sCons (sSetO (i := 1) sc_law_near.nd (oLst (qCons (pOp oAddA (pVar 0) (pLst (qCons (pTup (qCons pStr (qCons pInt (qCons pInt (qCons pInt qNil))))) qNil))) qNil)))
      (sCons (sFor PassesOwn.never rfl (iSeq (pLc [("_law_place", 7)] rfl sc_law_near.nd (iRange1 (pCallB cLen T.n_len (by decide +kernel) (qCons (pVar 0) qNil)) T.n_range) (blkOk_by (N := ["_law_own_rows", "_law_result", "_law_k", "_law_label", "_law_low", "_law_high", "_law_amount", "_law_place"]) (sc := defScope s_law_near) (by decide +kernel)) (fun _ _ _ _ _ => (gName' (i := 7) sc_law_near.nd)) (fun _ _ _ _ _ => (ptsOne (tW (tOrW (tCmp oLt (pVar 7) pInt) (tOr1 (tCmp (oEq hr.units) (pVar 7) (pOp oSub (pCallB cLen T.n_len (by decide +kernel) (qCons (pVar 0) qNil)) pInt))))))) (fun _ _ _ _ _ => (pVar 7)) (gN_ok 7))) (gName' (i := 2) sc_law_near.nd) (sCons (sAsg (pIx oIx (pVar 0) (pVar 2)) (gTup' rfl (gsCons' (gName' (i := 3) sc_law_near.nd) (gsCons' (gName' (i := 4) sc_law_near.nd) (gsCons' (gName' (i := 5) sc_law_near.nd) (gsCons' (gName' (i := 6) sc_law_near.nd) gsNil'))))))
      (sCons (sApp (i := 1) (pv 1) (pOp oAddA (pSl (pVar 0) poNone (poSome (pVar 2))) (pSl (pVar 0) (poSome (pOp oAddA (pVar 2) pInt)) poNone)))
      (sCons (sApp (i := 1) (pv 1) (pOp oAddA (pOp oAddA (pSl (pVar 0) poNone (poSome (pVar 2))) (pLst (qCons (pTup (qCons pStr (qCons (pVar 4) (qCons (pVar 5) (qCons (pVar 6) qNil))))) qNil))) (pSl (pVar 0) (poSome (pOp oAddA (pVar 2) pInt)) poNone)))
      (sCons (sApp (i := 1) (pv 1) (pOp oAddA (pOp oAddA (pSl (pVar 0) poNone (poSome (pVar 2))) (pLst (qCons (pTup (qCons (pVar 3) (qCons (pOp oAddA (pVar 4) pInt) (qCons (pVar 5) (qCons (pVar 6) qNil))))) qNil))) (pSl (pVar 0) (poSome (pOp oAddA (pVar 2) pInt)) poNone)))
      (sCons (sApp (i := 1) (pv 1) (pOp oAddA (pOp oAddA (pSl (pVar 0) poNone (poSome (pVar 2))) (pLst (qCons (pTup (qCons (pVar 3) (qCons (pVar 4) (qCons (pOp oAddA (pVar 5) pInt) (qCons (pVar 6) qNil))))) qNil))) (pSl (pVar 0) (poSome (pOp oAddA (pVar 2) pInt)) poNone)))
      (sOne (sApp (i := 1) (pv 1) (pOp oAddA (pOp oAddA (pSl (pVar 0) poNone (poSome (pVar 2))) (pLst (qCons (pTup (qCons (pVar 3) (qCons (pVar 4) (qCons (pVar 5) (qCons (pOp oAddA (pVar 6) pInt) qNil))))) qNil))) (pSl (pVar 0) (poSome (pOp oAddA (pVar 2) pInt)) poNone))))))))))
      (sOne (sFz (i := 1) (sRet (pVar 1))))))
theorem Tx.okShift_init (T : Tx K mg c) : FnOk P w K mg base CX0 1 T.fShift_init T.fdShift_init ["self", "rows"] (spI K c.Shift 2 (mShift_init c)) :=
  fnI T.FShift_init scShift_init fun cdv A outer s H E hr =>
    (sOne (sPut (i := 0) T.clShift T.naShift_rows (pv 0) (oP (pCallT cTup T.n_tuple (by decide +kernel) (qCons (pO (oCallB (cSorted hr.units) T.n_sorted (by decide +kernel) (qCons (pLc [("row", 2)] rfl scShift_init.nd (iSeq (pVar 1)) (blkOk_by (N := ["self", "rows", "row"]) (sc := defScope sShift_init) (by decide +kernel)) (fun _ _ _ _ _ => (gName' (i := 2) scShift_init.nd)) (fun _ _ _ _ _ => ptsNil) (fun _ _ _ _ _ => (pCallT cTup T.n_tuple (by decide +kernel) (qCons (pVar 2) qNil))) (gN_ok 2)) qNil))) qNil)))))
theorem Tx.ok_law_compared (T : Tx K mg c) : FnOk P w K mg base CX0 7 T.f_law_compared T.fd_law_compared ["_law_shift", "_law_own_rows"] (spP K 2 (m_law_compared c)) :=
  fnP T.F_law_compared sc_law_compared fun cdv A outer s H E hr =>
    (sCons (sIf (tW (tOrW (tNotT (tVal (pCall (T.ok_law_same 5) (hr.mono (by first | decide | exact Nat.le_refl _ | omega)) T.g_law_same T.F_law_same.kp T.b_law_same (qCons (pCmp (op_orD (oEq hr.units) (oEqC T.eqShift T.okShift_eq (hr.mono (by first | decide | exact Nat.le_refl _ | omega)) T.bShift_eq)) (pVar 0) (pO (oMake T.mkShift T.okShift_init (hr.mono (by first | decide | exact Nat.le_refl _ | omega)) T.gShift T.bShift_init (qCons (pRev (pVar 1)) qNil)))) (qCons pBl qNil))))) (tOr1 (tNotT (tVal (pCall (T.ok_law_same 5) (hr.mono (by first | decide | exact Nat.le_refl _ | omega)) T.g_law_same T.F_law_same.kp T.b_law_same (qCons (pCmp (op_orD (oEq hr.units) (oEqC T.eqShift T.okShift_eq (hr.mono (by first | decide | exact Nat.le_refl _ | omega)) T.bShift_eq)) (pVar 0) (pVar 0)) (qCons pBl qNil)))))))) (sOne (sRet pBl)) sNil)
      (sCons (sFor PassesOwn.never rfl (iSeq (pCall T.ok_law_near (hr.mono (by first | decide | exact Nat.le_refl _ | omega)) T.g_law_near T.F_law_near.kp T.b_law_near (qCons (pVar 1) qNil))) (gName' (i := 2) sc_law_compared.nd) (sOne (sIf (tW (tOrW (tNotT (tVal (pCall (T.ok_law_same 5) (hr.mono (by first | decide | exact Nat.le_refl _ | omega)) T.g_law_same T.F_law_same.kp T.b_law_same (qCons (pCmp (op_orD (oEq hr.units) (oEqC T.eqShift T.okShift_eq (hr.mono (by first | decide | exact Nat.le_refl _ | omega)) T.bShift_eq)) (pVar 0) (pO (oMake T.mkShift T.okShift_init (hr.mono (by first | decide | exact Nat.le_refl _ | omega)) T.gShift T.bShift_init (qCons (pVar 2) qNil)))) (qCons pBl qNil))))) (tOr1 (tNotT (tVal (pCall (T.ok_law_same 5) (hr.mono (by first | decide | exact Nat.le_refl _ | omega)) T.g_law_same T.F_law_same.kp T.b_law_same (qCons (pCmp (op_orD (oEq hr.units) (oEqC T.eqShift T.okShift_eq (hr.mono (by first | decide | exact Nat.le_refl _ | omega)) T.bShift_eq)) (pO (oMake T.mkShift T.okShift_init (hr.mono (by first | decide | exact Nat.le_refl _ | omega)) T.gShift T.bShift_init (qCons (pVar 2) qNil))) (pVar 0)) (qCons pBl qNil)))))))) (sOne (sRet pBl)) sNil)))
      (sCons (sFor PassesOwn.never rfl (iSeq (pLst (qCons pNon (qCons (pCallT cTup T.n_tuple (by decide +kernel) (qCons (pO (oCallB (cSorted hr.units) T.n_sorted (by decide +kernel) (qCons (pVar 1) qNil))) qNil)) (qCons (pO (oCallT cList T.n_list (by decide +kernel) (qCons (pVar 1) qNil))) (qCons pStr (qCons pInt qNil))))))) (gName' (i := 3) sc_law_compared.nd) (sOne (sIf (tNotT (tVal (pCall (T.ok_law_same 5) (hr.mono (by first | decide | exact Nat.le_refl _ | omega)) T.g_law_same T.F_law_same.kp T.b_law_same (qCons (pCmp (op_orD (oEq hr.units) (oEqC T.eqShift T.okShift_eq (hr.mono (by first | decide | exact Nat.le_refl _ | omega)) T.bShift_eq)) (pVar 0) (pVar 3)) (qCons pBl qNil))))) (sOne (sRet pBl)) sNil)))
      (sOne (sRet pBl)))))
theorem Tx.ok_law_times (T : Tx K mg c) : FnOk P w K mg base CX0 1 T.f_law_times T.fd_law_times ["_law_own_rows", "_law_times_here"] (spP K 2 (m_law_times c)) :=
  fnP T.F_law_times sc_law_times fun cdv A outer s H E hr =>
    (sCons (sIf (tCmp (oEq hr.units) (pVar 1) pInt) (sOne (sRet (pLst qNil))) sNil)
      (sCons (sSetO (i := 2) sc_law_times.nd (oLst qNil))
      (sCons (sFor PassesOwn.never rfl (iSeq (pVar 0)) (gTup' rfl (gsCons' (gName' (i := 3) sc_law_times.nd) (gsCons' (gName' (i := 4) sc_law_times.nd) (gsCons' (gName' (i := 5) sc_law_times.nd) (gsCons' (gName' (i := 6) sc_law_times.nd) gsNil'))))) (sCons (sSet (i := 7) sc_law_times.nd (pOp oMul (pOp oSub (pVar 1) pInt) (pVar 6)))
      (sOne (sApp (i := 2) (pv 2) (pTup (qCons (pVar 3) (qCons (pOp oSub (pVar 4) (pCallB (cMin2 rfl) T.n_min (by decide +kernel) (qCons pInt (qCons (pVar 7) qNil)))) (qCons (pOp oSub (pVar 5) (pCallB (cMax2 rfl) T.n_max (by decide +kernel) (qCons pInt (qCons (pVar 7) qNil)))) (qCons (pOp oMul (pVar 1) (pVar 6)) qNil)))))))))
      (sOne (sFz (i := 2) (sRet (pVar 2)))))))
theorem Tx.okShift_mul (T : Tx K mg c) : FnOk P w K mg base CX0 3 T.fShift_mul T.fdShift_mul ["self", "other"] (spP K 2 (mShift_mul c)) :=
  fnP T.FShift_mul scShift_mul fun cdv A outer s H E hr =>
    (sCons (sIf (tCmp (oEq hr.units) (pVar 1) pInt) (sOne (sRet (pO (oMake T.mkShift T.okShift_init (hr.mono (by first | decide | exact Nat.le_refl _ | omega)) T.gShift T.bShift_init (qCons (pLst qNil) qNil))))) sNil)
      (sCons (sSetO (i := 2) scShift_mul.nd (oLst qNil))
      (sCons (sFor PassesOwn.never rfl (iSeq (pFld T.clShift T.naShift_rows (pVar 0))) (gTup' rfl (gsCons' (gName' (i := 3) scShift_mul.nd) (gsCons' (gName' (i := 4) scShift_mul.nd) (gsCons' (gName' (i := 5) scShift_mul.nd) (gsCons' (gName' (i := 6) scShift_mul.nd) gsNil'))))) (sCons (sSet (i := 7) scShift_mul.nd (pOp oMul (pOp oSub (pVar 1) pInt) (pVar 6)))
      (sOne (sApp (i := 2) (pv 2) (pTup (qCons (pVar 3) (qCons (pOp oSub (pVar 4) (pCallB (cMin2 rfl) T.n_min (by decide +kernel) (qCons pInt (qCons (pVar 7) qNil)))) (qCons (pOp oSub (pVar 5) (pCallB (cMax2 rfl) T.n_max (by decide +kernel) (qCons pInt (qCons (pVar 7) qNil)))) (qCons (pOp oMul (pVar 1) (pVar 6)) qNil)))))))))
      (sOne (sFz (i := 2) (sRet (pO (oMake T.mkShift T.okShift_init (hr.mono (by first | decide | exact Nat.le_refl _ | omega)) T.gShift T.bShift_init (qCons (pVar 2) qNil)))))))))
theorem Tx.ok_law_count (T : Tx K mg c) : FnOk P w K mg base CX0 1 T.f_law_count T.fd_law_count ["_law_numbers"] (spP K 1 (m_law_count c)) :=
  fnP T.F_law_count sc_law_count fun cdv A outer s H E hr =>
    (sCons (sSet (i := 1) sc_law_count.nd (pOp oMod (pCallT cInt T.n_int (by decide +kernel) (qCons (pIx oIx (pVar 0) pInt) qNil)) pInt))
      (sCons (sIf (tCmp (oEq hr.units) (pVar 1) pInt) (sOne (sRet (pOp oMod (pCallT cInt T.n_int (by decide +kernel) (qCons (pIx oIx (pVar 0) pInt) qNil)) pInt))) sNil)
      (sCons (sIf (tCmp (oEq hr.units) (pVar 1) pInt) (sOne (sRet (pCallT cInt T.n_int (by decide +kernel) (qCons (pIx oIx (pVar 0) pInt) qNil)))) sNil)
      (sCons (sSet (i := 2) sc_law_count.nd pInt)
      (sCons (sFor PassesOwn.never rfl (iRange1 pInt T.n_range) (gName' (i := 3) sc_law_count.nd) (sOne (sSet (i := 2) sc_law_count.nd (pOp oAddA (pOp oMul (pVar 2) pInt) (pCallT cInt T.n_int (by decide +kernel) (qCons (pIx oIx (pVar 0) (pOp oAddA pInt (pVar 3))) qNil))))))
      (sOne (sRet (pOp oMod (pCallT cInt T.n_int (by decide +kernel) (qCons (pVar 2) qNil)) (pOp oAddA (pOp oPow pInt pInt) pInt)))))))))
theorem Tx.ok_law_plus (T : Tx K mg c) : FnOk P w K mg base CX0 1 T.f_law_plus T.fd_law_plus ["_law_first", "_law_second"] (spP K 2 (m_law_plus c)) :=
  fnP T.F_law_plus sc_law_plus fun cdv A outer s H E hr =>
    (sCons (sSetO (i := 2) sc_law_plus.nd (oLst qNil))
      (sCons (sFor PassesOwn.never rfl (iSeq (pVar 0)) (gTup' rfl (gsCons' (gName' (i := 3) sc_law_plus.nd) (gsCons' (gName' (i := 4) sc_law_plus.nd) (gsCons' (gName' (i := 5) sc_law_plus.nd) (gsCons' (gName' (i := 6) sc_law_plus.nd) gsNil'))))) (sCons (sLcD (i := 7) [("_law_row_here", 11)] rfl sc_law_plus.nd (iSeq (pVar 1)) (blkOk_by (N := ["_law_first", "_law_second", "_law_result", "_law_label", "_law_low", "_law_high", "_law_amount", "_law_behind", "_law_least", "_law_most", "_law_known", "_law_row_here"]) (sc := defScope s_law_plus) (by decide +kernel)) (fun _ _ _ _ _ => (gName' (i := 11) sc_law_plus.nd)) (fun _ _ _ _ _ => (ptsOne (tCmp (oEq hr.units) (pIx oIx (pVar 11) pInt) (pVar 3)))) (fun _ _ _ _ _ => (pVar 11)) (gN_ok 11))
      (sOne (sIf (tCmp (oEq hr.units) (pCallB cLen T.n_len (by decide +kernel) (qCons (pVar 7) qNil)) pInt) (sOne (sApp (i := 2) (pv 2) (pTup (qCons (pVar 3) (qCons (pVar 4) (qCons (pVar 5) (qCons (pVar 6) qNil))))))) (sCons (sSet (i := 8) sc_law_plus.nd (pCallB (cMax2 rfl) T.n_max (by decide +kernel) (qCons (pVar 4) (qCons (pOp oSub (pIx oIx (pIx oIx (pVar 7) pInt) pInt) (pVar 6)) qNil))))
      (sCons (sSet (i := 9) sc_law_plus.nd (pCallB (cMin2 rfl) T.n_min (by decide +kernel) (qCons (pVar 5) (qCons (pOp oSub (pIx oIx (pIx oIx (pVar 7) pInt) pInt) (pVar 6)) qNil))))
      (sOne (sApp (i := 2) (pv 2) (pTup (qCons (pVar 3) (qCons (pVar 8) (qCons (pVar 9) (qCons (pOp oAddA (pVar 6) (pIx oIx (pIx oIx (pVar 7) pInt) pInt)) qNil)))))))))))))
      (sCons (sSet (i := 10) sc_law_plus.nd (pLc [("_law_row_here", 11)] rfl sc_law_plus.nd (iSeq (pVar 0)) (blkOk_by (N := ["_law_first", "_law_second", "_law_result", "_law_label", "_law_low", "_law_high", "_law_amount", "_law_behind", "_law_least", "_law_most", "_law_known", "_law_row_here"]) (sc := defScope s_law_plus) (by decide +kernel)) (fun _ _ _ _ _ => (gName' (i := 11) sc_law_plus.nd)) (fun _ _ _ _ _ => ptsNil) (fun _ _ _ _ _ => (pIx oIx (pVar 11) pInt)) (gN_ok 11)))
      (sOne (sFz (i := 2) (sRet (pOp oAddA (pVar 2) (pLc [("_law_row_here", 11)] rfl sc_law_plus.nd (iSeq (pVar 1)) (blkOk_by (N := ["_law_first", "_law_second", "_law_result", "_law_label", "_law_low", "_law_high", "_law_amount", "_law_behind", "_law_least", "_law_most", "_law_known", "_law_row_here"]) (sc := defScope s_law_plus) (by decide +kernel)) (fun _ _ _ _ _ => (gName' (i := 11) sc_law_plus.nd)) (fun _ _ _ _ _ => (ptsOne (tCmp oNotIn (pIx oIx (pVar 11) pInt) (pVar 10)))) (fun _ _ _ _ _ => (pVar 11)) (gN_ok 11)))))))))
theorem Tx.okrow_of_both (T : Tx K mg c) : FnOk P w K mg base CX0 1 T.frow_of_both T.fdrow_of_both ["first", "second"] (spP K 2 (mrow_of_both c)) :=
  fnP T.Frow_of_both scrow_of_both fun cdv A outer s H E hr =>
    (sCons (sAsg (pVar 0) (gTup' rfl (gsCons' (gName' (i := 2) scrow_of_both.nd) (gsCons' (gName' (i := 3) scrow_of_both.nd) (gsCons' (gName' (i := 4) scrow_of_both.nd) (gsCons' (gName' (i := 5) scrow_of_both.nd) gsNil'))))))
      (sOne (sRet (pTup (qCons (pVar 2) (qCons (pCallB (cMax2 rfl) T.n_max (by decide +kernel) (qCons (pVar 3) (qCons (pOp oSub (pIx oIx (pVar 1) pInt) (pVar 5)) qNil))) (qCons (pCallB (cMin2 rfl) T.n_min (by decide +kernel) (qCons (pVar 4) (qCons (pOp oSub (pIx oIx (pVar 1) pInt) (pVar 5)) qNil))) (qCons (pOp oAddA (pVar 5) (pIx oIx (pVar 1) pInt)) qNil))))))))
theorem Tx.okShift_add (T : Tx K mg c) : FnOk P w K mg base CX0 3 T.fShift_add T.fdShift_add ["self", "other"] (spP K 2 (mShift_add c)) :=
  fnP T.FShift_add scShift_add fun cdv A outer s H E hr =>
    (sCons (sSetO (i := 2) scShift_add.nd oDic0)
      (sCons (sFor PassesOwn.never rfl (iSeq (pFld T.clShift T.naShift_rows (pVar 0))) (gName' (i := 3) scShift_add.nd) (sOne (sDput (i := 2) hr.units (pv 2) (pIx oIx (pVar 3) pInt) (pVar 3))))
      (sCons (sFor PassesOwn.never rfl (iSeq (pFld T.clShift T.naShift_rows (pVar 1))) (gName' (i := 3) scShift_add.nd) (sOne (sIf (tVw (tDin' hr.units (pIx oIx (pVar 3) pInt) (pVar 2))) (sOne (sDput (i := 2) hr.units (pv 2) (pIx oIx (pVar 3) pInt) (pCall T.okrow_of_both (hr.mono (by first | decide | exact Nat.le_refl _ | omega)) T.grow_of_both T.Frow_of_both.kp T.brow_of_both (qCons (pDgetO (i := 2) hr.units (pv 2) (pIx oIx (pVar 3) pInt)) (qCons (pVar 3) qNil))))) (sOne (sDput (i := 2) hr.units (pv 2) (pIx oIx (pVar 3) pInt) (pVar 3))))))
      (sOne (sFz (i := 2) (sRet (pO (oMake T.mkShift T.okShift_init (hr.mono (by first | decide | exact Nat.le_refl _ | omega)) T.gShift T.bShift_init (qCons (pO (oVals rfl (pVar 2) T.n_list)) qNil)))))))))
theorem Tx.ok_law_back (T : Tx K mg c) : FnOk P w K mg base CX0 1 T.f_law_back T.fd_law_back ["_law_own_rows"] (spP K 1 (m_law_back c)) :=
  fnP T.F_law_back sc_law_back fun cdv A outer s H E hr =>
    (sOne (sRet (pLc [("_law_label", 1), ("_law_low", 2), ("_law_high", 3), ("_law_amount", 4)] rfl sc_law_back.nd (iSeq (pVar 0)) (blkOk_by (N := ["_law_own_rows", "_law_label", "_law_low", "_law_high", "_law_amount"]) (sc := defScope s_law_back) (by decide +kernel)) (fun _ _ _ _ _ => (gTup' rfl (gsCons' (gName' (i := 1) sc_law_back.nd) (gsCons' (gName' (i := 2) sc_law_back.nd) (gsCons' (gName' (i := 3) sc_law_back.nd) (gsCons' (gName' (i := 4) sc_law_back.nd) gsNil')))))) (fun _ _ _ _ _ => ptsNil) (fun _ _ _ _ _ => (pTup (qCons (pVar 1) (qCons (pOp oAddA (pVar 2) (pVar 4)) (qCons (pOp oAddA (pVar 3) (pVar 4)) (qCons (pOp oSub pInt (pVar 4)) qNil)))))) (gT_ok (gsC_ok (gN_ok 1) (gsC_ok (gN_ok 2) (gsC_ok (gN_ok 3) (gsC_ok (gN_ok 4) gsN_ok))))))))
theorem Tx.okShift_invert (T : Tx K mg c) : FnOk P w K mg base CX0 3 T.fShift_invert T.fdShift_invert ["self"] (spP K 1 (mShift_invert c)) :=
  fnP T.FShift_invert scShift_invert fun cdv A outer s H E hr =>
    (sOne (sRet (pO (oMake T.mkShift T.okShift_init (hr.mono (by first | decide | exact Nat.le_refl _ | omega)) T.gShift T.bShift_init (qCons (pLc [("counter", 1), ("low", 2), ("high", 3), ("amount", 4)] rfl scShift_invert.nd (iSeq (pFld T.clShift T.naShift_rows (pVar 0))) (blkOk_by (N := ["self", "counter", "low", "high", "amount"]) (sc := defScope sShift_invert) (by decide +kernel)) (fun _ _ _ _ _ => (gTup' rfl (gsCons' (gName' (i := 1) scShift_invert.nd) (gsCons' (gName' (i := 2) scShift_invert.nd) (gsCons' (gName' (i := 3) scShift_invert.nd) (gsCons' (gName' (i := 4) scShift_invert.nd) gsNil')))))) (fun _ _ _ _ _ => ptsNil) (fun _ _ _ _ _ => (pTup (qCons (pVar 1) (qCons (pOp oAddA (pVar 2) (pVar 4)) (qCons (pOp oAddA (pVar 3) (pVar 4)) (qCons (pUn oNeg (pVar 4)) qNil)))))) (gT_ok (gsC_ok (gN_ok 1) (gsC_ok (gN_ok 2) (gsC_ok (gN_ok 3) (gsC_ok (gN_ok 4) gsN_ok)))))) qNil)))))
theorem Tx.okShift_init__L1 (T : Tx K mg c) : FnOk P w K mg base CX0 1 T.fShift_init T.fdShift_init ["self", "rows"] (spB K 2 (mShift_init__L1 c)) :=
  fnB T.FShift_init scShift_init fun cdv A outer s H E hr =>
    (sOne (sPut (i := 0) T.clShift T.naShift_rows (pv 0) (oP (pCallT cTup T.n_tuple (by decide +kernel) (qCons (pO (oCallB (cSorted hr.units) T.n_sorted (by decide +kernel) (qCons (pLc [("row", 2)] rfl scShift_init.nd (iOwn (pv 1)) (blkOk_by (N := ["self", "rows", "row"]) (sc := defScope sShift_init) (by decide +kernel)) (fun _ _ _ _ _ => (gName' (i := 2) scShift_init.nd)) (fun _ _ _ _ _ => ptsNil) (fun _ _ _ _ _ => (pCallT cTup T.n_tuple (by decide +kernel) (qCons (pVar 2) qNil))) (gN_ok 2) (hkn := ownI_lt)) qNil))) qNil)))))
theorem Tx.ok_law_row (T : Tx K mg c) : FnOk P w K mg base CX0 1 T.f_law_row T.fd_law_row ["_law_cell_here", "_law_many"] (spP K 2 (m_law_row c)) :=
  fnP T.F_law_row sc_law_row fun cdv A outer s H E hr =>
    (sCons (sSetO (i := 2) sc_law_row.nd (oLst qNil))
      (sCons (sSet (i := 3) sc_law_row.nd (pOp oMod (pCallT cInt T.n_int (by decide +kernel) (qCons (pVar 0) qNil)) pInt))
      (sCons (sSet (i := 4) sc_law_row.nd (pOp oSub (pVar 0) (pOp oPow pInt pInt)))
      (sCons (sFor PassesOwn.never rfl (iRange1 (pVar 1) T.n_range) (gName' (i := 5) sc_law_row.nd) (sCons (sSet (i := 3) sc_law_row.nd (pOp oMod (pCallT cInt T.n_int (by decide +kernel) (qCons (pOp oAddA (pOp oAddA (pOp oMul (pVar 3) pInt) (pOp oMul pInt (pVar 5))) pInt) qNil)) pInt))
      (sCons (sSet (i := 6) sc_law_row.nd (pOp oMod (pCallT cInt T.n_int (by decide +kernel) (qCons (pOp oAddA (pOp oAddA (pOp oMul (pVar 3) pInt) (pOp oMul pInt (pVar 5))) pInt) qNil)) pInt))
      (sCons (sApp (i := 2) (pv 2) (pIf (tCmp oGe (pVar 0) (pOp oPow pInt pInt)) (pOp oMod (pCallT cInt T.n_int (by decide +kernel) (qCons (pVar 4) qNil)) pInt) (pOp oMod (pCallT cInt T.n_int (by decide +kernel) (qCons (pOp oDiv (pVar 6) pInt) qNil)) pInt)))
      (sOne (sSet (i := 4) sc_law_row.nd (pOp oDiv (pVar 4) pInt)))))))
      (sOne (sFz (i := 2) (sRet (pVar 2))))))))
theorem Tx.ok_law_cell (T : Tx K mg c) : FnOk P w K mg base CX0 1 T.f_law_cell T.fd_law_cell ["_law_script", "_law_k"] (spP K 2 (m_law_cell c)) :=
  fnP T.F_law_cell sc_law_cell fun cdv A outer s H E hr =>
    (sOne (sRet (pIf (tCmp oLt (pVar 1) (pCallB cLen T.n_len (by decide +kernel) (qCons (pVar 0) qNil))) (pCallT cInt T.n_int (by decide +kernel) (qCons (pIx oIx (pVar 0) (pVar 1)) qNil)) pInt)))
theorem Tx.ok_law_number (T : Tx K mg c) : FnOk P w K mg base CX0 1 T.f_law_number T.fd_law_number ["_law_numbers", "_law_most"] (spP K 2 (m_law_number c)) :=
  fnP T.F_law_number sc_law_number fun cdv A outer s H E hr =>
    (sCons (sSet (i := 2) sc_law_number.nd (pOp oSub pInt (pOp oMul pInt (pOp oMod (pCallT cInt T.n_int (by decide +kernel) (qCons (pOp oDiv (pIx oIx (pVar 0) pInt) pInt) qNil)) pInt))))
      (sCons (sSet (i := 3) sc_law_number.nd (pOp oMod (pCallT cInt T.n_int (by decide +kernel) (qCons (pIx oIx (pVar 0) pInt) qNil)) pInt))
      (sCons (sIf (tW (tOrW (tCmp (oEq hr.units) (pVar 1) pInt) (tOr1 (tCmp (oEq hr.units) (pVar 3) pInt)))) (sOne (sRet (pOp oSub (pOp oMod (pCallT cInt T.n_int (by decide +kernel) (qCons (pIx oIx (pVar 0) pInt) qNil)) pInt) pInt))) sNil)
      (sCons (sIf (tCmp (oEq hr.units) (pVar 3) pInt) (sOne (sRet (pOp oMul (pVar 2) (pCallT cInt T.n_int (by decide +kernel) (qCons (pIx oIx (pVar 0) pInt) qNil))))) sNil)
      (sCons (sSet (i := 4) sc_law_number.nd pInt)
      (sCons (sFor PassesOwn.never rfl (iRange1 pInt T.n_range) (gName' (i := 5) sc_law_number.nd) (sOne (sSet (i := 4) sc_law_number.nd (pOp oAddA (pOp oMul (pVar 4) pInt) (pCallT cInt T.n_int (by decide +kernel) (qCons (pIx oIx (pVar 0) (pOp oAddA pInt (pVar 5))) qNil))))))
      (sCons (sIf (tW (tOrW (tCmp (oEq hr.units) (pVar 1) pInt) (tOr1 (tCmp (oEq hr.units) (pVar 3) pInt)))) (sOne (sSet (i := 4) sc_law_number.nd (pOp oMod (pCallT cInt T.n_int (by decide +kernel) (qCons (pVar 4) qNil)) (pOp oPow pInt pInt)))) sNil)
      (sOne (sRet (pOp oMul (pVar 2) (pVar 4)))))))))))
theorem Tx.ok_law_rows (T : Tx K mg c) : FnOk P w K mg base CX0 2 T.f_law_rows T.fd_law_rows ["_law_row_here", "_law_pool_here", "_law_most"] (spP K 3 (m_law_rows c)) :=
  fnP T.F_law_rows sc_law_rows fun cdv A outer s H E hr =>
    (sCons (sSetO (i := 3) sc_law_rows.nd (oLst qNil))
      (sCons (sIf (tCmp (oEq hr.units) (pOp oMod (pCallT cInt T.n_int (by decide +kernel) (qCons (pIx oIx (pVar 0) pInt) qNil)) pInt) pInt) (sOne (sSet (i := 2) sc_law_rows.nd pInt)) sNil)
      (sCons (sFor PassesOwn.never rfl (iSeq (pO (oCallB (cSorted hr.units) T.n_sorted (by decide +kernel) (qCons (pLc [("_law_k", 5)] rfl sc_law_rows.nd (iRange1 (pCallB cLen T.n_len (by decide +kernel) (qCons (pVar 1) qNil)) T.n_range) (blkOk_by (N := ["_law_row_here", "_law_pool_here", "_law_most", "_law_own_rows", "_law_key", "_law_k", "_law_at", "_law_low", "_law_high", "_law_amount"]) (sc := defScope s_law_rows) (by decide +kernel)) (fun _ _ _ _ _ => (gName' (i := 5) sc_law_rows.nd)) (fun _ _ _ _ _ => ptsNil) (fun _ _ _ _ _ => (pTup (qCons (pOp oDiv (pCallT cInt T.n_int (by decide +kernel) (qCons (pIx oIx (pVar 0) (pOp oAddA pInt (pVar 5))) qNil)) pInt) (qCons (pVar 5) qNil)))) (gN_ok 5)) qNil)))) (gName' (i := 4) sc_law_rows.nd) (sCons (sSet (i := 5) sc_law_rows.nd (pIx oIx (pVar 4) pInt))
      (sCons (sSet (i := 6) sc_law_rows.nd (pOp oAddA pInt (pOp oMul pInt (pOp oMod (pVar 5) pInt))))
      (sOne (sIf (tCmp oGt (pOp oMod (pCallT cInt T.n_int (by decide +kernel) (qCons (pIx oIx (pVar 0) (pOp oAddA pInt (pVar 5))) qNil)) pInt) pInt) (sCons (sSet (i := 7) sc_law_rows.nd (pOp oAddA (pCall T.ok_law_number (hr.mono (by first | decide | exact Nat.le_refl _ | omega)) T.g_law_number T.F_law_number.kp T.b_law_number (qCons (pSl (pVar 0) (poSome (pVar 6)) (poSome (pOp oAddA (pVar 6) pInt))) (qCons (pVar 2) qNil))) (pOp oDiv (pVar 5) pInt)))
      (sCons (sSet (i := 8) sc_law_rows.nd (pOp oAddA (pCall T.ok_law_number (hr.mono (by first | decide | exact Nat.le_refl _ | omega)) T.g_law_number T.F_law_number.kp T.b_law_number (qCons (pSl (pVar 0) (poSome (pOp oAddA (pVar 6) pInt)) (poSome (pOp oAddA (pVar 6) pInt))) (qCons (pVar 2) qNil))) (pOp oDiv (pVar 5) pInt)))
      (sCons (sSet (i := 9) sc_law_rows.nd (pCall T.ok_law_number (hr.mono (by first | decide | exact Nat.le_refl _ | omega)) T.g_law_number T.F_law_number.kp T.b_law_number (qCons (pSl (pVar 0) (poSome (pOp oAddA (pVar 6) pInt)) (poSome (pOp oAddA (pVar 6) pInt))) (qCons (pVar 2) qNil))))
      (sOne (sIf (tCmp (oEq hr.units) (pOp oMod (pCallT cInt T.n_int (by decide +kernel) (qCons (pOp oDiv (pIx oIx (pVar 0) pInt) pInt) qNil)) pInt) pInt) (sOne (sApp (i := 3) (pv 3) (pTup (qCons (pIx oIx (pVar 1) (pVar 5)) (qCons (pCallB (cMin2 rfl) T.n_min (by decide +kernel) (qCons (pVar 7) (qCons (pVar 8) qNil))) (qCons (pCallB (cMax2 rfl) T.n_max (by decide +kernel) (qCons (pVar 7) (qCons (pVar 8) qNil))) (qCons (pVar 9) qNil))))))) (sOne (sApp (i := 3) (pv 3) (pTup (qCons (pIx oIx (pVar 1) (pVar 5)) (qCons (pVar 7) (qCons (pVar 8) (qCons (pVar 9) qNil)))))))))))) sNil)))))
      (sOne (sFz (i := 3) (sRet (pVar 3)))))))
theorem Tx.ok_law_word (T : Tx K mg c) : FnOk P w K mg base CX0 1 T.f_law_word T.fd_law_word ["_law_number_here"] (spP K 1 (m_law_word c)) :=
  fnP T.F_law_word sc_law_word fun cdv A outer s H E hr =>
    (sCons (sSet (i := 1) sc_law_word.nd (pOp oAddA (pCallT cInt T.n_int (by decide +kernel) (qCons (pVar 0) qNil)) pInt))
      (sCons (sSet (i := 2) sc_law_word.nd pStr)
      (sCons (sFor PassesOwn.never rfl (iRange1 pInt T.n_range) (gName' (i := 3) sc_law_word.nd) (sCons (sSet (i := 2) sc_law_word.nd (pOp oAddA (pIf (tCmp oGt (pVar 1) pInt) (pIx oIx pStr (pOp oMod (pCallT cInt T.n_int (by decide +kernel) (qCons (pOp oSub (pVar 1) pInt) qNil)) pInt)) pStr) (pVar 2)))
      (sOne (sSet (i := 1) sc_law_word.nd (pOp oDiv (pOp oSub (pVar 1) pInt) pInt)))))
      (sOne (sRet (pVar 2))))))
theorem Tx.ok_law_pool (T : Tx K mg c) : FnOk P w K mg base CX0 2 T.f_law_pool T.fd_law_pool ["_law_row_here"] (spP K 1 (m_law_pool c)) :=
  fnP T.F_law_pool sc_law_pool fun cdv A outer s H E hr =>
    (sCons (sSet (i := 1) sc_law_pool.nd (pCall T.ok_law_word (hr.mono (by first | decide | exact Nat.le_refl _ | omega)) T.g_law_word T.F_law_word.kp T.b_law_word (qCons (pOp oAddA (pIx oIx (pVar 0) pInt) (pOp oMul pInt (pOp oMod (pCallT cInt T.n_int (by decide +kernel) (qCons (pIx oIx (pVar 0) pInt) qNil)) pInt))) qNil)))
      (sCons (sSet (i := 2) sc_law_pool.nd (pCall T.ok_law_word (hr.mono (by first | decide | exact Nat.le_refl _ | omega)) T.g_law_word T.F_law_word.kp T.b_law_word (qCons (pIx oIx (pVar 0) pInt) qNil)))
      (sCons (sIf (tCmp (oEq hr.units) (pOp oMod (pCallT cInt T.n_int (by decide +kernel) (qCons (pIx oIx (pVar 0) pInt) qNil)) pInt) pInt) (sOne (sSet (i := 2) sc_law_pool.nd (pSl (pOp oAddA (pVar 2) pStr) poNone (poSome pInt)))) sNil)
      (sCons (sSetO (i := 3) sc_law_pool.nd (oLst qNil))
      (sCons (sFor PassesOwn.never rfl (iSeq (pLst (qCons (pVar 1) (qCons (pOp oAddA (pOp oAddA (pVar 1) pStr) (pVar 2)) (qCons (pVar 2) (qCons (pOp oAddA (pOp oAddA (pVar 2) pStr) (pVar 1)) (qCons (pOp oAddA (pVar 1) pStr) qNil))))))) (gName' (i := 4) sc_law_pool.nd) (sOne (sIf (tVw (tCmp oNotIn (pVar 4) (pVar 3))) (sOne (sApp (i := 3) (pv 3) (pVar 4))) sNil)))
      (sCons (sIf (tCmp (oEq hr.units) (pOp oMod (pCallT cInt T.n_int (by decide +kernel) (qCons (pOp oDiv (pIx oIx (pVar 0) pInt) pInt) qNil)) pInt) pInt) (sOne (sFor PassesOwn.never rfl (iRange1 pInt T.n_range) (gName' (i := 5) sc_law_pool.nd) (sCons (sSet (i := 4) sc_law_pool.nd (pCall T.ok_law_word (hr.mono (by first | decide | exact Nat.le_refl _ | omega)) T.g_law_word T.F_law_word.kp T.b_law_word (qCons (pOp oAddA (pCallT cInt T.n_int (by decide +kernel) (qCons (pIx oIx (pVar 0) pInt) qNil)) (pOp oMul pInt (pVar 5))) qNil)))
      (sOne (sIf (tVw (tW (tAndW (tCmp oNotIn (pVar 4) (pVar 3)) (tAnd1 (tCmp oLt (pCallB cLen T.n_len (by decide +kernel) (qCons (pVar 3) qNil)) pInt))))) (sOne (sApp (i := 3) (pv 3) (pVar 4))) sNil))))) sNil)
      (sOne (sFz (i := 3) (sRet (pVar 3))))))))))
theorem Tx.oklaw (T : Tx K mg c) : FnOk P w K mg base CX0 8 T.flaw T.fdlaw ["_law_script"] (spP K 1 (mlaw c)) :=
  fnP T.Flaw sclaw fun cdv A outer s H E hr =>
    (sCons (sSet (i := 1) sclaw.nd (pCall T.ok_law_pool (hr.mono (by first | decide | exact Nat.le_refl _ | omega)) T.g_law_pool T.F_law_pool.kp T.b_law_pool (qCons (pCall T.ok_law_row (hr.mono (by first | decide | exact Nat.le_refl _ | omega)) T.g_law_row T.F_law_row.kp T.b_law_row (qCons (pCall T.ok_law_cell (hr.mono (by first | decide | exact Nat.le_refl _ | omega)) T.g_law_cell T.F_law_cell.kp T.b_law_cell (qCons (pVar 0) (qCons pInt qNil))) (qCons pInt qNil))) qNil)))
      (sCons (sSet (i := 2) sclaw.nd (pCall T.ok_law_rows (hr.mono (by first | decide | exact Nat.le_refl _ | omega)) T.g_law_rows T.F_law_rows.kp T.b_law_rows (qCons (pCall T.ok_law_row (hr.mono (by first | decide | exact Nat.le_refl _ | omega)) T.g_law_row T.F_law_row.kp T.b_law_row (qCons (pCall T.ok_law_cell (hr.mono (by first | decide | exact Nat.le_refl _ | omega)) T.g_law_cell T.F_law_cell.kp T.b_law_cell (qCons (pVar 0) (qCons pInt qNil))) (qCons pInt qNil))) (qCons (pVar 1) (qCons pInt qNil)))))
      (sCons (sSet (i := 3) sclaw.nd (pCall T.ok_law_rows (hr.mono (by first | decide | exact Nat.le_refl _ | omega)) T.g_law_rows T.F_law_rows.kp T.b_law_rows (qCons (pCall T.ok_law_row (hr.mono (by first | decide | exact Nat.le_refl _ | omega)) T.g_law_row T.F_law_row.kp T.b_law_row (qCons (pCall T.ok_law_cell (hr.mono (by first | decide | exact Nat.le_refl _ | omega)) T.g_law_cell T.F_law_cell.kp T.b_law_cell (qCons (pVar 0) (qCons pInt qNil))) (qCons pInt qNil))) (qCons (pVar 1) (qCons pInt qNil)))))
      (sCons (sSet (i := 4) sclaw.nd (pCall T.ok_law_rows (hr.mono (by first | decide | exact Nat.le_refl _ | omega)) T.g_law_rows T.F_law_rows.kp T.b_law_rows (qCons (pCall T.ok_law_row (hr.mono (by first | decide | exact Nat.le_refl _ | omega)) T.g_law_row T.F_law_row.kp T.b_law_row (qCons (pCall T.ok_law_cell (hr.mono (by first | decide | exact Nat.le_refl _ | omega)) T.g_law_cell T.F_law_cell.kp T.b_law_cell (qCons (pVar 0) (qCons pInt qNil))) (qCons pInt qNil))) (qCons (pVar 1) (qCons pInt qNil)))))
      (sCons (sSet (i := 5) sclaw.nd (pCall T.ok_law_row (hr.mono (by first | decide | exact Nat.le_refl _ | omega)) T.g_law_row T.F_law_row.kp T.b_law_row (qCons (pCall T.ok_law_cell (hr.mono (by first | decide | exact Nat.le_refl _ | omega)) T.g_law_cell T.F_law_cell.kp T.b_law_cell (qCons (pVar 0) (qCons pInt qNil))) (qCons pInt qNil))))
      (sCons (sSetO (i := 6) sclaw.nd (oCallT cList T.n_list (by decide +kernel) (qCons (pVar 2) qNil)))
      (sCons (sSet (i := 7) sclaw.nd (pO (oMakeL T.mkShift T.okShift_init__L1 (hr.mono (by first | decide | exact Nat.le_refl _ | omega)) T.gShift T.bShift_init (bOwn (pv 6) bNil))))
      (sCons (sIf (tVw (tNotT (tVal (pCall (T.ok_law_same 5) (hr.mono (by first | decide | exact Nat.le_refl _ | omega)) T.g_law_same T.F_law_same.kp T.b_law_same (qCons (pVar 6) (qCons (pVar 2) qNil)))))) (sOne (sRet pBl)) sNil)
      (sCons (sApp (i := 6) (pv 6) (pTup (qCons pStr (qCons pInt (qCons pInt (qCons pInt qNil))))))
      (sCons (sSet (i := 8) sclaw.nd (pO (oMakeK T.mkShift T.okShift_init (hr.mono (by first | decide | exact Nat.le_refl _ | omega)) T.gShift T.kShift_init rfl (kCons (pCallT cTup T.n_tuple (by decide +kernel) (qCons (pVar 3) qNil)) kNil))))
      (sCons (sIf (tW (tOrW (tNotT (tVal (pCall T.ok_law_shown (hr.mono (by first | decide | exact Nat.le_refl _ | omega)) T.g_law_shown T.F_law_shown.kp T.b_law_shown (qCons (pVar 7) (qCons (pVar 2) qNil))))) (tOr1 (tNotT (tVal (pCall T.ok_law_shown (hr.mono (by first | decide | exact Nat.le_refl _ | omega)) T.g_law_shown T.F_law_shown.kp T.b_law_shown (qCons (pVar 8) (qCons (pVar 3) qNil)))))))) (sOne (sRet pBl)) sNil)
      (sCons (sIf (tW (tOrW (tNotT (tVal (pCall T.ok_law_shown (hr.mono (by first | decide | exact Nat.le_refl _ | omega)) T.g_law_shown T.F_law_shown.kp T.b_law_shown (qCons (pOp (op_orD oAddA (oOpC T.opShift_add T.okShift_add (hr.mono (by first | decide | exact Nat.le_refl _ | omega)) T.bShift_add)) (pVar 7) (pVar 8)) (qCons (pCall T.ok_law_plus (hr.mono (by first | decide | exact Nat.le_refl _ | omega)) T.g_law_plus T.F_law_plus.kp T.b_law_plus (qCons (pVar 2) (qCons (pVar 3) qNil))) qNil))))) (tOr1 (tNotT (tVal (pCall T.ok_law_shown (hr.mono (by first | decide | exact Nat.le_refl _ | omega)) T.g_law_shown T.F_law_shown.kp T.b_law_shown (qCons (pOp (op_orD oAddA (oOpC T.opShift_add T.okShift_add (hr.mono (by first | decide | exact Nat.le_refl _ | omega)) T.bShift_add)) (pVar 8) (pVar 7)) (qCons (pCall T.ok_law_plus (hr.mono (by first | decide | exact Nat.le_refl _ | omega)) T.g_law_plus T.F_law_plus.kp T.b_law_plus (qCons (pVar 3) (qCons (pVar 2) qNil))) qNil)))))))) (sOne (sRet pBl)) sNil)
      (sCons (sIf (tW (tOrW (tNotT (tVal (pCall T.ok_law_shown (hr.mono (by first | decide | exact Nat.le_refl _ | omega)) T.g_law_shown T.F_law_shown.kp T.b_law_shown (qCons (pOp (op_orD oAddA (oOpC T.opShift_add T.okShift_add (hr.mono (by first | decide | exact Nat.le_refl _ | omega)) T.bShift_add)) (pVar 7) (pVar 7)) (qCons (pCall T.ok_law_plus (hr.mono (by first | decide | exact Nat.le_refl _ | omega)) T.g_law_plus T.F_law_plus.kp T.b_law_plus (qCons (pVar 2) (qCons (pVar 2) qNil))) qNil))))) (tOr1 (tNotT (tVal (pCall T.ok_law_shown (hr.mono (by first | decide | exact Nat.le_refl _ | omega)) T.g_law_shown T.F_law_shown.kp T.b_law_shown (qCons (pUn (oInvC T.meShift_invert.at_ T.meShift_invert.fn T.okShift_invert (hr.mono (by first | decide | exact Nat.le_refl _ | omega)) T.bShift_invert) (pVar 7)) (qCons (pCall T.ok_law_back (hr.mono (by first | decide | exact Nat.le_refl _ | omega)) T.g_law_back T.F_law_back.kp T.b_law_back (qCons (pVar 2) qNil)) qNil)))))))) (sOne (sRet pBl)) sNil)
      (sCons (sFor PassesOwn.never rfl (iSeq (pLst (qCons pInt (qCons pInt (qCons pInt (qCons (pOp oMod (pCallT cInt T.n_int (by decide +kernel) (qCons (pIx oIx (pVar 5) pInt) qNil)) pInt) qNil)))))) (gName' (i := 9) sclaw.nd) (sOne (sIf (tNotT (tVal (pCall T.ok_law_shown (hr.mono (by first | decide | exact Nat.le_refl _ | omega)) T.g_law_shown T.F_law_shown.kp T.b_law_shown (qCons (pOp (op_orD oMul (oOpCI T.opShift_mul T.okShift_mul (hr.mono (by first | decide | exact Nat.le_refl _ | omega)) T.bShift_mul)) (pVar 7) (pVar 9)) (qCons (pCall T.ok_law_times (hr.mono (by first | decide | exact Nat.le_refl _ | omega)) T.g_law_times T.F_law_times.kp T.b_law_times (qCons (pVar 2) (qCons (pVar 9) qNil))) qNil))))) (sOne (sRet pBl)) sNil)))
      (sCons (sSet (i := 10) sclaw.nd (pCall T.ok_law_count (hr.mono (by first | decide | exact Nat.le_refl _ | omega)) T.g_law_count T.F_law_count.kp T.b_law_count (qCons (pVar 5) qNil)))
      (sCons (sIf (tNotT (tVal (pCall T.ok_law_shown (hr.mono (by first | decide | exact Nat.le_refl _ | omega)) T.g_law_shown T.F_law_shown.kp T.b_law_shown (qCons (pOp (op_orD oMul (oOpCI T.opShift_mul T.okShift_mul (hr.mono (by first | decide | exact Nat.le_refl _ | omega)) T.bShift_mul)) (pO (oMake T.mkShift T.okShift_init (hr.mono (by first | decide | exact Nat.le_refl _ | omega)) T.gShift T.bShift_init (qCons (pVar 4) qNil))) (pVar 10)) (qCons (pCall T.ok_law_times (hr.mono (by first | decide | exact Nat.le_refl _ | omega)) T.g_law_times T.F_law_times.kp T.b_law_times (qCons (pVar 4) (qCons (pVar 10) qNil))) qNil))))) (sOne (sRet pBl)) sNil)
      (sCons (sIf (tW (tOrW (tNotT (tVal (pCall (T.ok_law_same 5) (hr.mono (by first | decide | exact Nat.le_refl _ | omega)) T.g_law_same T.F_law_same.kp T.b_law_same (qCons (pCmp (op_orD (oEq hr.units) (oEqC T.eqShift T.okShift_eq (hr.mono (by first | decide | exact Nat.le_refl _ | omega)) T.bShift_eq)) (pVar 7) (pVar 8)) (qCons (pCmp (op_orD (oEq hr.units) (oEqC T.eqShift T.okShift_eq (hr.mono (by first | decide | exact Nat.le_refl _ | omega)) T.bShift_eq)) (pO (oCallB (cSorted hr.units) T.n_sorted (by decide +kernel) (qCons (pVar 2) qNil))) (pO (oCallB (cSorted hr.units) T.n_sorted (by decide +kernel) (qCons (pVar 3) qNil)))) qNil))))) (tOr1 (tNotT (tVal (pCall T.ok_law_compared (hr.mono (by first | decide | exact Nat.le_refl _ | omega)) T.g_law_compared T.F_law_compared.kp T.b_law_compared (qCons (pVar 7) (qCons (pVar 2) qNil)))))))) (sOne (sRet pBl)) sNil)
      (sOne (sRet (pAnd (pCall T.ok_law_shown (hr.mono (by first | decide | exact Nat.le_refl _ | omega)) T.g_law_shown T.F_law_shown.kp T.b_law_shown (qCons (pVar 7) (qCons (pVar 2) qNil))) (pOne (pCall T.ok_law_shown (hr.mono (by first | decide | exact Nat.le_refl _ | omega)) T.g_law_shown T.F_law_shown.kp T.b_law_shown (qCons (pVar 8) (qCons (pVar 3) qNil))))))))))))))))))))))))
end
theorem tx_mk {K : PySem.W.Frag} {h : Heap} {mg : Str → Option Value} (X : K.In h) (G : h.Ns mainGlobals mg)
    (z0 : PySem.W.nsIn K mainGlobals "any" = some none)
    (z1 : PySem.W.nsIn K mainGlobals "bool" = some none)
    (z2 : PySem.W.nsIn K mainGlobals "int" = some none)
    (z3 : PySem.W.nsIn K mainGlobals "isinstance" = some none)
    (z4 : PySem.W.nsIn K mainGlobals "len" = some none)
    (z5 : PySem.W.nsIn K mainGlobals "list" = some none)
    (z6 : PySem.W.nsIn K mainGlobals "max" = some none)
    (z7 : PySem.W.nsIn K mainGlobals "min" = some none)
    (z8 : PySem.W.nsIn K mainGlobals "range" = some none)
    (z9 : PySem.W.nsIn K mainGlobals "sorted" = some none)
    (z10 : PySem.W.nsIn K mainGlobals "str" = some none)
    (z11 : PySem.W.nsIn K mainGlobals "tuple" = some none)
    {C0 : Addr} {cd0d : ClassData}
    (u0_g : PySem.W.nsIn K mainGlobals "Shift" = some (some (.ref C0)))
    (u0_a : PySem.W.plainGet K C0 Str.empty = true)
    (u0_b : PySem.W.hasDictIn K C0 = true)
    (u0_c : PySem.W.plainOver K C0 = true)
    (u0_d : PySem.W.findIn K (.ref C0) "__setattr__" = some (some (.builtin "object.__setattr__")))
    (u0_e : PySem.W.findIn K (.ref C0) "__class__" = some (some (.builtin "object.__class__")))
    (u0_f : PySem.W.specialIn K (.builtin "object.__class__") "__get__" = some (some (.builtin "getset_descriptor.__get__")))
    (u0_h : PySem.W.takesIn K (.builtin "object.__class__") = some true)
    (u0_i : PySem.W.mroIn K C0 (.type "object") = some true)
    (u0_j : PySem.W.typeIn K (.ref C0) = some (.type "type"))
    (u0_k : PySem.W.clsIn K C0 = some cd0d)
    (u0_l : PySem.W.keepIn K (.ref C0) = true)
    (v0_0 : PySem.W.findIn K (.ref C0) "rows" = some none)
    (v0_4 : PySem.W.makesIn K C0 = true)
    (v0_5 : PySem.W.selfFirst K C0 = true)
    {fo0_5 ro0_5 : Option Value}
    (w0_5 : PySem.W.findIn K (.ref C0) (dunderR (Operator.Mult).info.2) = some none)
    (p0_5 : PySem.W.findIn K (.type "int") (PySem.dunder (Operator.Mult).info.2) = some fo0_5)
    (q0_5 : PySem.W.findIn K (.type "int") (dunderR (Operator.Mult).info.2) = some ro0_5)
    (v0_6 : PySem.W.selfFirst K C0 = true)
    {f0 : Addr} {oc0 kV0 dc0 pm0 cd0 ct0 : Value} {od0 an0 : Option Addr} {sl0 : Array (Option Value)}
    (a0 : PySem.W.nsIn K mainGlobals "_law_same" = some (some (.ref f0)))
    (l0 : K.lookup f0 = some ⟨oc0, od0, .func (PySem.W.fnOf "_law_same" "_law_same" (defArgs s_law_same) (defBody s_law_same) (defScope s_law_same) .none kV0 dc0 pm0 an0 cd0 ct0), sl0⟩)
    (c0 : PySem.W.codeIn K cd0 "_law_same" = true)
    (k0 : PySem.W.keepIn K (.ref f0) = true)
    {f1 : Addr} {oc1 kV1 dc1 pm1 cd1 ct1 : Value} {od1 an1 : Option Addr} {sl1 : Array (Option Value)}
    {pa1 : Addr} {rs1 : List Value}
    (a1 : PySem.W.findIn K (.ref C0) "never" = some (some (.ref pa1)))
    (a1_1 : PySem.W.specialIn K (.ref pa1) "__get__" = some (some (.builtin "property.__get__")))
    (a1_2 : PySem.W.takesIn K (.ref pa1) = some true)
    (a1_3 : PySem.W.recIn K pa1 "property" = some (.ref f1 :: rs1))
    (l1 : K.lookup f1 = some ⟨oc1, od1, .func (PySem.W.fnOf "never" "Shift.never" (defArgs sShift_never) (defBody sShift_never) (defScope sShift_never) .none kV1 dc1 pm1 an1 cd1 ct1), sl1⟩)
    (c1 : PySem.W.codeIn K cd1 "Shift.never" = true)
    (k1 : PySem.W.keepIn K (.ref f1) = true)
    {f2 : Addr} {oc2 kV2 dc2 pm2 cd2 ct2 : Value} {od2 an2 : Option Addr} {sl2 : Array (Option Value)}
    (a2 : PySem.W.nsIn K mainGlobals "_law_shown" = some (some (.ref f2)))
    (l2 : K.lookup f2 = some ⟨oc2, od2, .func (PySem.W.fnOf "_law_shown" "_law_shown" (defArgs s_law_shown) (defBody s_law_shown) (defScope s_law_shown) .none kV2 dc2 pm2 an2 cd2 ct2), sl2⟩)
    (c2 : PySem.W.codeIn K cd2 "_law_shown" = true)
    (k2 : PySem.W.keepIn K (.ref f2) = true)
    {f3 : Addr} {oc3 kV3 dc3 pm3 cd3 ct3 : Value} {od3 an3 : Option Addr} {sl3 : Array (Option Value)}
    (a3 : PySem.W.findIn K (.ref C0) "__eq__" = some (some (.ref f3)))
    (a3_1 : PySem.W.isFn K (.ref f3) = true)
    (l3 : K.lookup f3 = some ⟨oc3, od3, .func (PySem.W.fnOf "__eq__" "Shift.__eq__" (defArgs sShift_eq) (defBody sShift_eq) (defScope sShift_eq) .none kV3 dc3 pm3 an3 cd3 ct3), sl3⟩)
    (c3 : PySem.W.codeIn K cd3 "Shift.__eq__" = true)
    (k3 : PySem.W.keepIn K (.ref f3) = true)
    {f4 : Addr} {oc4 kV4 dc4 pm4 cd4 ct4 : Value} {od4 an4 : Option Addr} {sl4 : Array (Option Value)}
    (a4 : PySem.W.nsIn K mainGlobals "_law_near" = some (some (.ref f4)))
    (l4 : K.lookup f4 = some ⟨oc4, od4, .func (PySem.W.fnOf "_law_near" "_law_near" (defArgs s_law_near) (defBody s_law_near) (defScope s_law_near) .none kV4 dc4 pm4 an4 cd4 ct4), sl4⟩)
    (c4 : PySem.W.codeIn K cd4 "_law_near" = true)
    (k4 : PySem.W.keepIn K (.ref f4) = true)
    {f5 : Addr} {oc5 kV5 dc5 pm5 cd5 ct5 : Value} {od5 an5 : Option Addr} {sl5 : Array (Option Value)}
    (a5 : PySem.W.findIn K (.ref C0) "__init__" = some (some (.ref f5)))
    (a5_1 : PySem.W.isFn K (.ref f5) = true)
    (l5 : K.lookup f5 = some ⟨oc5, od5, .func (PySem.W.fnOf "__init__" "Shift.__init__" (defArgs sShift_init) (defBody sShift_init) (defScope sShift_init) .none kV5 dc5 pm5 an5 cd5 ct5), sl5⟩)
    (c5 : PySem.W.codeIn K cd5 "Shift.__init__" = true)
    (k5 : PySem.W.keepIn K (.ref f5) = true)
    {f6 : Addr} {oc6 kV6 dc6 pm6 cd6 ct6 : Value} {od6 an6 : Option Addr} {sl6 : Array (Option Value)}
    (a6 : PySem.W.nsIn K mainGlobals "_law_compared" = some (some (.ref f6)))
    (l6 : K.lookup f6 = some ⟨oc6, od6, .func (PySem.W.fnOf "_law_compared" "_law_compared" (defArgs s_law_compared) (defBody s_law_compared) (defScope s_law_compared) .none kV6 dc6 pm6 an6 cd6 ct6), sl6⟩)
    (c6 : PySem.W.codeIn K cd6 "_law_compared" = true)
    (k6 : PySem.W.keepIn K (.ref f6) = true)
    {f7 : Addr} {oc7 kV7 dc7 pm7 cd7 ct7 : Value} {od7 an7 : Option Addr} {sl7 : Array (Option Value)}
    (a7 : PySem.W.nsIn K mainGlobals "_law_times" = some (some (.ref f7)))
    (l7 : K.lookup f7 = some ⟨oc7, od7, .func (PySem.W.fnOf "_law_times" "_law_times" (defArgs s_law_times) (defBody s_law_times) (defScope s_law_times) .none kV7 dc7 pm7 an7 cd7 ct7), sl7⟩)
    (c7 : PySem.W.codeIn K cd7 "_law_times" = true)
    (k7 : PySem.W.keepIn K (.ref f7) = true)
    {f8 : Addr} {oc8 kV8 dc8 pm8 cd8 ct8 : Value} {od8 an8 : Option Addr} {sl8 : Array (Option Value)}
    (a8 : PySem.W.findIn K (.ref C0) "__mul__" = some (some (.ref f8)))
    (a8_1 : PySem.W.isFn K (.ref f8) = true)
    (l8 : K.lookup f8 = some ⟨oc8, od8, .func (PySem.W.fnOf "__mul__" "Shift.__mul__" (defArgs sShift_mul) (defBody sShift_mul) (defScope sShift_mul) .none kV8 dc8 pm8 an8 cd8 ct8), sl8⟩)
    (c8 : PySem.W.codeIn K cd8 "Shift.__mul__" = true)
    (k8 : PySem.W.keepIn K (.ref f8) = true)
    {f9 : Addr} {oc9 kV9 dc9 pm9 cd9 ct9 : Value} {od9 an9 : Option Addr} {sl9 : Array (Option Value)}
    (a9 : PySem.W.nsIn K mainGlobals "_law_count" = some (some (.ref f9)))
    (l9 : K.lookup f9 = some ⟨oc9, od9, .func (PySem.W.fnOf "_law_count" "_law_count" (defArgs s_law_count) (defBody s_law_count) (defScope s_law_count) .none kV9 dc9 pm9 an9 cd9 ct9), sl9⟩)
    (c9 : PySem.W.codeIn K cd9 "_law_count" = true)
    (k9 : PySem.W.keepIn K (.ref f9) = true)
    {f10 : Addr} {oc10 kV10 dc10 pm10 cd10 ct10 : Value} {od10 an10 : Option Addr} {sl10 : Array (Option Value)}
    (a10 : PySem.W.nsIn K mainGlobals "_law_plus" = some (some (.ref f10)))
    (l10 : K.lookup f10 = some ⟨oc10, od10, .func (PySem.W.fnOf "_law_plus" "_law_plus" (defArgs s_law_plus) (defBody s_law_plus) (defScope s_law_plus) .none kV10 dc10 pm10 an10 cd10 ct10), sl10⟩)
    (c10 : PySem.W.codeIn K cd10 "_law_plus" = true)
    (k10 : PySem.W.keepIn K (.ref f10) = true)
    {f11 : Addr} {oc11 kV11 dc11 pm11 cd11 ct11 : Value} {od11 an11 : Option Addr} {sl11 : Array (Option Value)}
    (a11 : PySem.W.nsIn K mainGlobals "row_of_both" = some (some (.ref f11)))
    (l11 : K.lookup f11 = some ⟨oc11, od11, .func (PySem.W.fnOf "row_of_both" "row_of_both" (defArgs srow_of_both) (defBody srow_of_both) (defScope srow_of_both) .none kV11 dc11 pm11 an11 cd11 ct11), sl11⟩)
    (c11 : PySem.W.codeIn K cd11 "row_of_both" = true)
    (k11 : PySem.W.keepIn K (.ref f11) = true)
    {f12 : Addr} {oc12 kV12 dc12 pm12 cd12 ct12 : Value} {od12 an12 : Option Addr} {sl12 : Array (Option Value)}
    (a12 : PySem.W.findIn K (.ref C0) "__add__" = some (some (.ref f12)))
    (a12_1 : PySem.W.isFn K (.ref f12) = true)
    (l12 : K.lookup f12 = some ⟨oc12, od12, .func (PySem.W.fnOf "__add__" "Shift.__add__" (defArgs sShift_add) (defBody sShift_add) (defScope sShift_add) .none kV12 dc12 pm12 an12 cd12 ct12), sl12⟩)
    (c12 : PySem.W.codeIn K cd12 "Shift.__add__" = true)
    (k12 : PySem.W.keepIn K (.ref f12) = true)
    {f13 : Addr} {oc13 kV13 dc13 pm13 cd13 ct13 : Value} {od13 an13 : Option Addr} {sl13 : Array (Option Value)}
    (a13 : PySem.W.nsIn K mainGlobals "_law_back" = some (some (.ref f13)))
    (l13 : K.lookup f13 = some ⟨oc13, od13, .func (PySem.W.fnOf "_law_back" "_law_back" (defArgs s_law_back) (defBody s_law_back) (defScope s_law_back) .none kV13 dc13 pm13 an13 cd13 ct13), sl13⟩)
    (c13 : PySem.W.codeIn K cd13 "_law_back" = true)
    (k13 : PySem.W.keepIn K (.ref f13) = true)
    {f14 : Addr} {oc14 kV14 dc14 pm14 cd14 ct14 : Value} {od14 an14 : Option Addr} {sl14 : Array (Option Value)}
    (a14 : PySem.W.findIn K (.ref C0) "__invert__" = some (some (.ref f14)))
    (a14_1 : PySem.W.isFn K (.ref f14) = true)
    (l14 : K.lookup f14 = some ⟨oc14, od14, .func (PySem.W.fnOf "__invert__" "Shift.__invert__" (defArgs sShift_invert) (defBody sShift_invert) (defScope sShift_invert) .none kV14 dc14 pm14 an14 cd14 ct14), sl14⟩)
    (c14 : PySem.W.codeIn K cd14 "Shift.__invert__" = true)
    (k14 : PySem.W.keepIn K (.ref f14) = true)
    {f15 : Addr} {oc15 kV15 dc15 pm15 cd15 ct15 : Value} {od15 an15 : Option Addr} {sl15 : Array (Option Value)}
    (a15 : PySem.W.nsIn K mainGlobals "_law_row" = some (some (.ref f15)))
    (l15 : K.lookup f15 = some ⟨oc15, od15, .func (PySem.W.fnOf "_law_row" "_law_row" (defArgs s_law_row) (defBody s_law_row) (defScope s_law_row) .none kV15 dc15 pm15 an15 cd15 ct15), sl15⟩)
    (c15 : PySem.W.codeIn K cd15 "_law_row" = true)
    (k15 : PySem.W.keepIn K (.ref f15) = true)
    {f16 : Addr} {oc16 kV16 dc16 pm16 cd16 ct16 : Value} {od16 an16 : Option Addr} {sl16 : Array (Option Value)}
    (a16 : PySem.W.nsIn K mainGlobals "_law_cell" = some (some (.ref f16)))
    (l16 : K.lookup f16 = some ⟨oc16, od16, .func (PySem.W.fnOf "_law_cell" "_law_cell" (defArgs s_law_cell) (defBody s_law_cell) (defScope s_law_cell) .none kV16 dc16 pm16 an16 cd16 ct16), sl16⟩)
    (c16 : PySem.W.codeIn K cd16 "_law_cell" = true)
    (k16 : PySem.W.keepIn K (.ref f16) = true)
    {f17 : Addr} {oc17 kV17 dc17 pm17 cd17 ct17 : Value} {od17 an17 : Option Addr} {sl17 : Array (Option Value)}
    (a17 : PySem.W.nsIn K mainGlobals "_law_number" = some (some (.ref f17)))
    (l17 : K.lookup f17 = some ⟨oc17, od17, .func (PySem.W.fnOf "_law_number" "_law_number" (defArgs s_law_number) (defBody s_law_number) (defScope s_law_number) .none kV17 dc17 pm17 an17 cd17 ct17), sl17⟩)
    (c17 : PySem.W.codeIn K cd17 "_law_number" = true)
    (k17 : PySem.W.keepIn K (.ref f17) = true)
    {f18 : Addr} {oc18 kV18 dc18 pm18 cd18 ct18 : Value} {od18 an18 : Option Addr} {sl18 : Array (Option Value)}
    (a18 : PySem.W.nsIn K mainGlobals "_law_rows" = some (some (.ref f18)))
    (l18 : K.lookup f18 = some ⟨oc18, od18, .func (PySem.W.fnOf "_law_rows" "_law_rows" (defArgs s_law_rows) (defBody s_law_rows) (defScope s_law_rows) .none kV18 dc18 pm18 an18 cd18 ct18), sl18⟩)
    (c18 : PySem.W.codeIn K cd18 "_law_rows" = true)
    (k18 : PySem.W.keepIn K (.ref f18) = true)
    {f19 : Addr} {oc19 kV19 dc19 pm19 cd19 ct19 : Value} {od19 an19 : Option Addr} {sl19 : Array (Option Value)}
    (a19 : PySem.W.nsIn K mainGlobals "_law_word" = some (some (.ref f19)))
    (l19 : K.lookup f19 = some ⟨oc19, od19, .func (PySem.W.fnOf "_law_word" "_law_word" (defArgs s_law_word) (defBody s_law_word) (defScope s_law_word) .none kV19 dc19 pm19 an19 cd19 ct19), sl19⟩)
    (c19 : PySem.W.codeIn K cd19 "_law_word" = true)
    (k19 : PySem.W.keepIn K (.ref f19) = true)
    {f20 : Addr} {oc20 kV20 dc20 pm20 cd20 ct20 : Value} {od20 an20 : Option Addr} {sl20 : Array (Option Value)}
    (a20 : PySem.W.nsIn K mainGlobals "_law_pool" = some (some (.ref f20)))
    (l20 : K.lookup f20 = some ⟨oc20, od20, .func (PySem.W.fnOf "_law_pool" "_law_pool" (defArgs s_law_pool) (defBody s_law_pool) (defScope s_law_pool) .none kV20 dc20 pm20 an20 cd20 ct20), sl20⟩)
    (c20 : PySem.W.codeIn K cd20 "_law_pool" = true)
    (k20 : PySem.W.keepIn K (.ref f20) = true)
    {f21 : Addr} {oc21 kV21 dc21 pm21 cd21 ct21 : Value} {od21 an21 : Option Addr} {sl21 : Array (Option Value)}
    (a21 : PySem.W.nsIn K mainGlobals "law" = some (some (.ref f21)))
    (l21 : K.lookup f21 = some ⟨oc21, od21, .func (PySem.W.fnOf "law" "law" (defArgs slaw) (defBody slaw) (defScope slaw) .none kV21 dc21 pm21 an21 cd21 ct21), sl21⟩)
    (c21 : PySem.W.codeIn K cd21 "law" = true)
    (k21 : PySem.W.keepIn K (.ref f21) = true)
    : ∃ (c : Cs) (T : Tx K mg c), ∀ (s : Shared) (v : Value), BindsTo s T.fdlaw ⟨[v], []⟩ [("_law_script", v)] := by
  have F0 := fun_mk (st := s_law_same) l0 c0 k0
  have b0 := F0.binds (ps := ["_law_actual", "_law_expected"]) fun _ _ _ _ _ _ us hl => match us, hl with | [_, _], _ => rfl
  have F1 := fun_mk (st := sShift_never) l1 c1 k1
  have b1 := F1.binds (ps := ["self"]) fun _ _ _ _ _ _ us hl => match us, hl with | [_], _ => rfl
  have F2 := fun_mk (st := s_law_shown) l2 c2 k2
  have b2 := F2.binds (ps := ["_law_shift", "_law_own_rows"]) fun _ _ _ _ _ _ us hl => match us, hl with | [_, _], _ => rfl
  have F3 := fun_mk (st := sShift_eq) l3 c3 k3
  have b3 := F3.binds (ps := ["self", "other"]) fun _ _ _ _ _ _ us hl => match us, hl with | [_, _], _ => rfl
  have F4 := fun_mk (st := s_law_near) l4 c4 k4
  have b4 := F4.binds (ps := ["_law_own_rows"]) fun _ _ _ _ _ _ us hl => match us, hl with | [_], _ => rfl
  have F5 := fun_mk (st := sShift_init) l5 c5 k5
  have b5 := F5.binds (ps := ["self", "rows"]) fun _ _ _ _ _ _ us hl => match us, hl with | [_, _], _ => rfl
  have q5 := kbn_of1 (ps := ["self", "rows"]) (ks := ["rows"]) F5 fun _ _ _ _ _ _ us ws h1 hl => match us, h1, ws, hl with | [_], _, [_], _ => rfl
  have F6 := fun_mk (st := s_law_compared) l6 c6 k6
  have b6 := F6.binds (ps := ["_law_shift", "_law_own_rows"]) fun _ _ _ _ _ _ us hl => match us, hl with | [_, _], _ => rfl
  have F7 := fun_mk (st := s_law_times) l7 c7 k7
  have b7 := F7.binds (ps := ["_law_own_rows", "_law_times_here"]) fun _ _ _ _ _ _ us hl => match us, hl with | [_, _], _ => rfl
  have F8 := fun_mk (st := sShift_mul) l8 c8 k8
  have b8 := F8.binds (ps := ["self", "other"]) fun _ _ _ _ _ _ us hl => match us, hl with | [_, _], _ => rfl
  have F9 := fun_mk (st := s_law_count) l9 c9 k9
  have b9 := F9.binds (ps := ["_law_numbers"]) fun _ _ _ _ _ _ us hl => match us, hl with | [_], _ => rfl
  have F10 := fun_mk (st := s_law_plus) l10 c10 k10
  have b10 := F10.binds (ps := ["_law_first", "_law_second"]) fun _ _ _ _ _ _ us hl => match us, hl with | [_, _], _ => rfl
  have F11 := fun_mk (st := srow_of_both) l11 c11 k11
  have b11 := F11.binds (ps := ["first", "second"]) fun _ _ _ _ _ _ us hl => match us, hl with | [_, _], _ => rfl
  have F12 := fun_mk (st := sShift_add) l12 c12 k12
  have b12 := F12.binds (ps := ["self", "other"]) fun _ _ _ _ _ _ us hl => match us, hl with | [_, _], _ => rfl
  have F13 := fun_mk (st := s_law_back) l13 c13 k13
  have b13 := F13.binds (ps := ["_law_own_rows"]) fun _ _ _ _ _ _ us hl => match us, hl with | [_], _ => rfl
  have F14 := fun_mk (st := sShift_invert) l14 c14 k14
  have b14 := F14.binds (ps := ["self"]) fun _ _ _ _ _ _ us hl => match us, hl with | [_], _ => rfl
  have F15 := fun_mk (st := s_law_row) l15 c15 k15
  have b15 := F15.binds (ps := ["_law_cell_here", "_law_many"]) fun _ _ _ _ _ _ us hl => match us, hl with | [_, _], _ => rfl
  have F16 := fun_mk (st := s_law_cell) l16 c16 k16
  have b16 := F16.binds (ps := ["_law_script", "_law_k"]) fun _ _ _ _ _ _ us hl => match us, hl with | [_, _], _ => rfl
  have F17 := fun_mk (st := s_law_number) l17 c17 k17
  have b17 := F17.binds (ps := ["_law_numbers", "_law_most"]) fun _ _ _ _ _ _ us hl => match us, hl with | [_, _], _ => rfl
  have F18 := fun_mk (st := s_law_rows) l18 c18 k18
  have b18 := F18.binds (ps := ["_law_row_here", "_law_pool_here", "_law_most"]) fun _ _ _ _ _ _ us hl => match us, hl with | [_, _, _], _ => rfl
  have F19 := fun_mk (st := s_law_word) l19 c19 k19
  have b19 := F19.binds (ps := ["_law_number_here"]) fun _ _ _ _ _ _ us hl => match us, hl with | [_], _ => rfl
  have F20 := fun_mk (st := s_law_pool) l20 c20 k20
  have b20 := F20.binds (ps := ["_law_row_here"]) fun _ _ _ _ _ _ us hl => match us, hl with | [_], _ => rfl
  have F21 := fun_mk (st := slaw) l21 c21 k21
  have b21 := F21.binds (ps := ["_law_script"]) fun _ _ _ _ _ _ us hl => match us, hl with | [_], _ => rfl
  have cx0 : ClsX K C0 := ⟨⟨u0_a, u0_b, u0_c, u0_d⟩, u0_e, u0_f, u0_h, u0_i, u0_j⟩
  exact ⟨⟨C0⟩, { n_any := PySem.W.mg_none_of X G z0, n_bool := PySem.W.mg_none_of X G z1, n_int := PySem.W.mg_none_of X G z2, n_isinstance := PySem.W.mg_none_of X G z3, n_len := PySem.W.mg_none_of X G z4, n_list := PySem.W.mg_none_of X G z5, n_max := PySem.W.mg_none_of X G z6, n_min := PySem.W.mg_none_of X G z7, n_range := PySem.W.mg_none_of X G z8, n_sorted := PySem.W.mg_none_of X G z9, n_str := PySem.W.mg_none_of X G z10, n_tuple := PySem.W.mg_none_of X G z11, f_law_same := f0, fd_law_same := _, F_law_same := F0, b_law_same := b0, g_law_same := PySem.W.mg_of X G a0, fShift_never := f1, fdShift_never := _, FShift_never := F1, bShift_never := b1, f_law_shown := f2, fd_law_shown := _, F_law_shown := F2, b_law_shown := b2, g_law_shown := PySem.W.mg_of X G a2, fShift_eq := f3, fdShift_eq := _, FShift_eq := F3, bShift_eq := b3, f_law_near := f4, fd_law_near := _, F_law_near := F4, b_law_near := b4, g_law_near := PySem.W.mg_of X G a4, fShift_init := f5, fdShift_init := _, FShift_init := F5, bShift_init := b5, kShift_init := q5, f_law_compared := f6, fd_law_compared := _, F_law_compared := F6, b_law_compared := b6, g_law_compared := PySem.W.mg_of X G a6, f_law_times := f7, fd_law_times := _, F_law_times := F7, b_law_times := b7, g_law_times := PySem.W.mg_of X G a7, fShift_mul := f8, fdShift_mul := _, FShift_mul := F8, bShift_mul := b8, f_law_count := f9, fd_law_count := _, F_law_count := F9, b_law_count := b9, g_law_count := PySem.W.mg_of X G a9, f_law_plus := f10, fd_law_plus := _, F_law_plus := F10, b_law_plus := b10, g_law_plus := PySem.W.mg_of X G a10, frow_of_both := f11, fdrow_of_both := _, Frow_of_both := F11, brow_of_both := b11, grow_of_both := PySem.W.mg_of X G a11, fShift_add := f12, fdShift_add := _, FShift_add := F12, bShift_add := b12, f_law_back := f13, fd_law_back := _, F_law_back := F13, b_law_back := b13, g_law_back := PySem.W.mg_of X G a13, fShift_invert := f14, fdShift_invert := _, FShift_invert := F14, bShift_invert := b14, f_law_row := f15, fd_law_row := _, F_law_row := F15, b_law_row := b15, g_law_row := PySem.W.mg_of X G a15, f_law_cell := f16, fd_law_cell := _, F_law_cell := F16, b_law_cell := b16, g_law_cell := PySem.W.mg_of X G a16, f_law_number := f17, fd_law_number := _, F_law_number := F17, b_law_number := b17, g_law_number := PySem.W.mg_of X G a17, f_law_rows := f18, fd_law_rows := _, F_law_rows := F18, b_law_rows := b18, g_law_rows := PySem.W.mg_of X G a18, f_law_word := f19, fd_law_word := _, F_law_word := F19, b_law_word := b19, g_law_word := PySem.W.mg_of X G a19, f_law_pool := f20, fd_law_pool := _, F_law_pool := F20, b_law_pool := b20, g_law_pool := PySem.W.mg_of X G a20, flaw := f21, fdlaw := _, Flaw := F21, blaw := b21, glaw := PySem.W.mg_of X G a21, gShift := PySem.W.mg_of X G u0_g, cxShift := cx0, clShift := cx0.c, naShift_rows := v0_0, paShift_never := pa1, prShift_never := ⟨a1, a1_1, a1_2, ⟨_, a1_3⟩⟩, isShift := isC_one cx0 (by rw [u0_k]; rfl), eqShift := ⟨a3, a3_1, cx0, fun _ z => nomatch z⟩, mkShift := ⟨v0_4, a5, a5_1, u0_l⟩, opShift_mul := ⟨⟨v0_5, a8, a8_1⟩, ⟨none, w0_5, .inl rfl⟩, ⟨_, p0_5⟩, ⟨_, q0_5⟩, sub_blt (d := .int 0) rfl⟩, opShift_add := ⟨v0_6, a12, a12_1⟩, meShift_invert := ⟨a14, a14_1, k14⟩ }, fun s v => .of_eq rfl⟩
end K01

namespace K01
open PySem L2 PD
local macro_rules | `(tactic| walk_at "ev") => `(tactic| (try simp only [runP, runO, outO, O.toD, env0, List.map_cons, List.map_nil, List.length_cons, List.length_nil, List.replicate, List.cons_append, List.nil_append, rtV, andV, orV, notV, ifV, chn, kI, kS, kB, cB, aCons, gv, aNil, b2, b1,
  List.getElem?_cons_zero, List.getElem?_cons_succ, Option.bind_some, Option.map_some, lenD, leI, ltI, gtI, geI, i2, s2, addA, addD, addI, addS, catL, catT, orD, subI, mulI, modI, divI, powI, if_true, if_false, sq, stV, stO, app, fz, ifS, asB, andT, orT, notT, forS, iOf, seqD, mkLst, mkLstO, mkTup, len?, intD, max2, min2, reduceIte,
  List.set_cons_zero, List.set_cons_succ, Option.map_none, Option.bind_none, wipeO, slc, part, noPart, slD, ixD, m1, eq_str, eq_int, eq_bl, ne_str, ne_int, ne_bl, rng1, gN, Nat.reduceAdd, Nat.reduceSub, Nat.zero_le]))
theorem small_line {n : Nat} (h : n ≤ 1000) : n ≤ sizeLine := Nat.le_trans h (by decide)
theorem law_cell_eq (C : Cs) (ns : List Int) (k : Nat) : m_law_cell C [.lst (ns.map .int), .int k] = some (.int (ns.getD k 0)) := by
  unfold m_law_cell
  walk_at "ev"
  rw [List.length_map]
  by_cases h : k < ns.length
  · rw [decide_eq_true (show (k : Int) < (ns.length : Int) by omega)]
    have : atI (ns.map D.int) (k : Int) = some (.int (ns.getD k 0)) := atI_nat (by rw [List.getElem?_map, List.getElem?_eq_getElem h]; simp [h])
    simp only [this]
    walk_at "ev"
  · rw [decide_eq_false (show ¬ (k : Int) < (ns.length : Int) by omega)]
    walk_at "ev"
    rw [show ns.getD k 0 = 0 by simp [List.getD_eq_getElem?_getD, List.getElem?_eq_none (show ns.length ≤ k by omega)]]
theorem law_row_ex (C : Cs) (c : Int) (n : Nat) (hn : n ≤ 1000) : ∃ rs : List Int, m_law_row C [.int c, .int n] = some (.lst (rs.map .int)) ∧ rs.length = n ∧ ∀ r ∈ rs, 0 ≤ r ∧ r < 1000 := by
  obtain ⟨d, e, rs, rfl, hl, hr⟩ : ∃ d, m_law_row C [.int c, .int n] = some d ∧ ∃ rs : List Int, d = .lst (rs.map .int) ∧ rs.length = n ∧ ∀ r ∈ rs, 0 ≤ r ∧ r < 1000 := by
    refine runP_of ?_
    unfold b_law_row
    refine Rn.sq (Rn.stO (o := .lst []) rfl ?_)
    refine Rn.sq (Rn.st (d := .int (c % 2147483629)) rfl ?_)
    refine Rn.sq (Rn.st (d := .int (c - 10 ^ 18)) (by walk_at "ev"; rfl) ?_)
    refine Rn.sq (Rn.for (ds := rangeD 0 n) (by
        show rng1 (gv 1) [.dat (.int c), .dat (.int n), _, _, _, _, _] = _
        walk_at "ev"
        rw [if_pos (by omega)]
        rfl) (fun i ρ => ∃ (rs : List Int) (s t : Int) (x y : O), ρ = [.dat (.int c), .dat (.int n), .lst (rs.map fun r => .dat (.int r)), .dat (.int s), .dat (.int t), x, y] ∧ rs.length = i ∧ ∀ r ∈ rs, 0 ≤ r ∧ r < 1000)
      ⟨[], c % 2147483629, c - 10 ^ 18, .unk, .unk, rfl, rfl, fun r h => nomatch h⟩ (fun i d ρ hd hI => ?_) (fun ρ hI => ?_))
    · obtain ⟨hi, rfl⟩ := range_get hd
      obtain ⟨rs, s, t, x, y, rfl, hl, hr⟩ := hI
      refine ⟨_, rfl, ?_⟩
      refine Rn.sq (Rn.st (d := .int ((s * 48271 + 977 * (0 + (i : Int)) + 12345) % 2147483647)) (by
        walk_at "ev"
        rw [okMulR (by decide), okMulL (by decide)]
        rfl) ?_)
      generalize (s * 48271 + 977 * (0 + (i : Int)) + 12345) % 2147483647 = s'
      refine Rn.sq (Rn.st (d := .int ((s' * 69621 + 31 * (0 + (i : Int)) + 7) % 2147483629)) (by
        walk_at "ev"
        rw [okMulR (by decide), okMulL (by decide)]
        rfl) ?_)
      generalize (s' * 69621 + 31 * (0 + (i : Int)) + 7) % 2147483629 = m
      obtain ⟨v, hv, hv1, hv2⟩ : ∃ v : Int, ifV (asB (b2 (gv 0) (b2 (kI 10) (kI 18) powI) geI)) (b2 (cB (aCons (gv 4) aNil) intD) (kI 1000) modI) (b2 (cB (aCons (b2 (gv 6) (kI 4099) divI) aNil) intD) (kI 1000) modI)
          [.dat (.int c), .dat (.int n), .lst (rs.map fun r => .dat (.int r)), .dat (.int s'), .dat (.int t), .dat (.int (0 + (i : Int))), .dat (.int m)] = some (.int v) ∧ 0 ≤ v ∧ v < 1000 := by
        have et : asB (b2 (gv 0) (b2 (kI 10) (kI 18) powI) geI) [.dat (.int c), .dat (.int n), .lst (rs.map fun r => .dat (.int r)), .dat (.int s'), .dat (.int t), .dat (.int (0 + (i : Int))), .dat (.int m)] = some (decide ((10 : Int) ^ 18 ≤ c)) := rfl
        unfold ifV
        rw [et]
        by_cases hc : (10 : Int) ^ 18 ≤ c
        · rw [decide_eq_true hc]
          exact ⟨t % 1000, rfl, Int.emod_nonneg _ (by decide), Int.emod_lt_of_pos _ (by decide)⟩
        · rw [decide_eq_false hc]
          exact ⟨m / 4099 % 1000, rfl, Int.emod_nonneg _ (by decide), Int.emod_lt_of_pos _ (by decide)⟩
      refine Rn.sq (Rn.app hv rfl (by rw [List.length_map, hl]; exact Nat.lt_of_lt_of_le (show i < 1000 by omega) (by decide)) ?_)
      refine Rn.st (d := .int (t / 1000)) (by walk_at "ev"; rfl) ?_
      refine ⟨rs ++ [v], s', t / 1000, .dat (.int (0 + (i : Int))), .dat (.int m), ?_, by simp [hl], fun r hm => ?_⟩
      · rw [List.map_append]; rfl
      · rcases List.mem_append.mp hm with hm | hm
        · exact hr r hm
        · have : r = v := by simpa using hm
          subst this; exact ⟨hv1, hv2⟩
    · obtain ⟨rs, s, t, x, y, rfl, hl, hr⟩ := hI
      refine Rn.fz (o := .lst (rs.map fun r => .dat (.int r))) (d := .lst (rs.map .int)) rfl (by unfold O.toD; rw [toDs_ints]; rfl) ?_
      refine Rn.ret (d := .lst (rs.map .int)) rfl ?_
      exact ⟨_, _, rfl, rfl, rs, rfl, by simpa [rangeD] using hl, hr⟩
  exact ⟨rs, e, hl, hr⟩
end K01

namespace K01
open PySem L2 PD
def wb : Nat → Int
  | 0 => 30000
  | 1 => 1153
  | 2 => 44
  | 3 => 1
  | _ => 0
def wl' : Nat → Nat
  | 0 => 0
  | 1 => 1
  | 2 => 2
  | 3 => 3
  | _ => 4
theorem wb_step (i : Nat) (r : Int) (h : r ≤ wb i) : (r - 1) / 26 ≤ wb (i + 1) := by
  match i, h with
  | 0, h => simp only [wb] at h ⊢; omega
  | 1, h => simp only [wb] at h ⊢; omega
  | 2, h => simp only [wb] at h ⊢; omega
  | 3, h => simp only [wb] at h ⊢; omega
  | n + 4, h => simp only [wb] at h ⊢; omega
theorem wl_step (i : Nat) (r : Int) (h : r ≤ wb i) (hr : 0 < r) : wl' i + 1 ≤ wl' (i + 1) := by
  match i, h with
  | 0, h => decide
  | 1, h => decide
  | 2, h => decide
  | 3, h => decide
  | n + 4, h => simp only [wb] at h; omega
theorem wl_mono (i : Nat) : wl' i ≤ wl' (i + 1) := by
  match i with
  | 0 => decide
  | 1 => decide
  | 2 => decide
  | 3 => decide
  | n + 4 => exact Nat.le_refl _
theorem wl_le (i : Nat) : wl' i ≤ 4 := by
  match i with
  | 0 => decide
  | 1 => decide
  | 2 => decide
  | 3 => decide
  | n + 4 => exact Nat.le_refl _
abbrev ABC : Str := Str.ofString "abcdefghijklmnopqrstuvwxyz"
theorem cat_len (a b : Str) : (a ++ b).length = a.length + b.length := by
  show (a.cps ++ b.cps).size = _
  rw [Array.size_append]; rfl
def okS (x : Str) : Prop := ∀ c ∈ x.cps.toList, c < 1114112
theorem okS_iff (x : Str) : PyData.strOk x = true ↔ okS x := by
  unfold PyData.strOk okS
  rw [Array.all_eq_true_iff_forall_mem]
  constructor
  · intro h c hc; simpa using h c (Array.mem_toList_iff.mp hc)
  · intro h c hc; simpa using h c (Array.mem_toList_iff.mpr hc)
theorem okS_cat {a b : Str} (ha : okS a) (hb : okS b) : okS (a ++ b) := by
  intro c hc
  have : (a ++ b).cps.toList = a.cps.toList ++ b.cps.toList := by
    show (a.cps ++ b.cps).toList = _
    exact Array.toList_append
  rw [this] at hc
  rcases List.mem_append.mp hc with h | h
  · exact ha c h
  · exact hb c h
/-- a word of a small number has four letters at most -/
theorem law_word_ex (C : Cs) (n : Int) (h0 : 0 ≤ n) (h1 : n < 30000) : ∃ t : Str, m_law_word C [.int n] = some (.str t) ∧ t.length ≤ 4 ∧ okS t := by
  obtain ⟨d, e, t, rfl, ht⟩ : ∃ d, m_law_word C [.int n] = some d ∧ ∃ t : Str, d = .str t ∧ t.length ≤ 4 ∧ okS t := by
    refine runP_of ?_
    unfold b_law_word
    refine Rn.sq (Rn.st (d := .int (n + 1)) rfl ?_)
    refine Rn.sq (Rn.st (d := .str "") rfl ?_)
    refine Rn.sq (Rn.for (ds := rangeD 0 12) rfl (fun i ρ => ∃ (r : Int) (t : Str) (x : O), ρ = [.dat (.int n), .dat (.int r), .dat (.str t), x] ∧ r ≤ wb i ∧ t.length ≤ wl' i ∧ okS t)
      ⟨n + 1, "", .unk, rfl, by show n + 1 ≤ 30000; omega, Nat.le_refl _, fun _ h => nomatch h⟩ (fun i d ρ hd hI => ?_) (fun ρ hI => ?_))
    · obtain ⟨hi, rfl⟩ := range_get hd
      obtain ⟨r, t, x, rfl, hr, hl, ht⟩ := hI
      refine ⟨_, rfl, ?_⟩
      have h4 := wl_le i
      obtain ⟨p, hp, hp2, hp3⟩ : ∃ p : Str, ifV (asB (b2 (gv 1) (kI 0) gtI)) (b2 (kS "abcdefghijklmnopqrstuvwxyz") (b2 (cB (aCons (b2 (gv 1) (kI 1) subI) aNil) intD) (kI 26) modI) ixD) (kS "") [.dat (.int n), .dat (.int r), .dat (.str t), .dat (.int (0 + (i : Int)))] = some (.str p) ∧ p.length + wl' i ≤ wl' (i + 1) ∧ okS p := by
        have et : asB (b2 (gv 1) (kI 0) gtI) [.dat (.int n), .dat (.int r), .dat (.str t), .dat (.int (0 + (i : Int)))] = some (decide (0 < r)) := rfl
        unfold ifV
        rw [et]
        by_cases hc : 0 < r
        · rw [decide_eq_true hc]
          have q0 : 0 ≤ (r - 1) % 26 := Int.emod_nonneg _ (by decide)
          have q1 : (r - 1) % 26 < 26 := Int.emod_lt_of_pos _ (by decide)
          obtain ⟨j, hj⟩ := Int.eq_ofNat_of_zero_le q0
          have hj2 : j < ABC.cps.toList.length := by rw [show ABC.cps.toList.length = 26 from rfl]; omega
          have ea : atI ABC.cps.toList ((r - 1) % 26) = some ABC.cps.toList[j] := by
            rw [hj]
            exact atI_nat (List.getElem?_eq_getElem hj2)
          refine ⟨⟨#[ABC.cps.toList[j]]⟩, ixS_of (z := ABC) (i := (r - 1) % 26) rfl rfl (by decide) ea, ?_, ?_⟩
          · have := wl_step i r hr hc
            show 1 + wl' i ≤ _
            omega
          · intro c hc'
            have hc' : c ∈ [ABC.cps.toList[j]] := hc'
            rw [List.mem_singleton.mp hc']
            exact (show ∀ c ∈ ABC.cps.toList, c < 1114112 by decide) _ (List.getElem_mem hj2)
        · rw [decide_eq_false hc]
          exact ⟨"", rfl, by have := wl_mono i; show 0 + wl' i ≤ _; omega, fun _ h => nomatch h⟩
      have hcat : b2 (ifV (asB (b2 (gv 1) (kI 0) gtI)) (b2 (kS "abcdefghijklmnopqrstuvwxyz") (b2 (cB (aCons (b2 (gv 1) (kI 1) subI) aNil) intD) (kI 26) modI) ixD) (kS "")) (gv 2) addA [.dat (.int n), .dat (.int r), .dat (.str t), .dat (.int (0 + (i : Int)))] = some (.str (p ++ t)) := by
        rw [b2_of (x := .str p) (y := .str t) hp rfl]
        show orD addD (orD catL catT) (.str p) (.str t) = _
        have hz : p.length + t.length ≤ sizeLine := Nat.le_trans (show p.length + t.length ≤ 1000 by have := wl_le (i + 1); omega) (by decide)
        simp only [orD, addD, addI, addS, i2, s2, decide_eq_true hz, if_true]
      refine Rn.sq (Rn.st hcat ?_)
      refine Rn.st (d := .int ((r - 1) / 26)) rfl ?_
      exact ⟨(r - 1) / 26, p ++ t, _, rfl, wb_step i r hr, by rw [cat_len]; omega, okS_cat hp3 ht⟩
    · obtain ⟨r, t, x, rfl, _, hl⟩ := hI
      refine Rn.ret (d := .str t) rfl ?_
      exact ⟨_, _, rfl, rfl, t, rfl, hl⟩
  exact ⟨t, e, ht⟩
end K01

namespace K01
open PySem L2 PD
theorem ixI {rs : List Int} {k : Int} (h0 : 0 ≤ k) (h1 : k < rs.length) : ixD (.lst (rs.map .int)) (.int k) = some (.int (rs.getD k.toNat 0)) := by
  obtain ⟨j, rfl⟩ := Int.eq_ofNat_of_zero_le h0
  have hj : j < rs.length := by omega
  show atI (rs.map D.int) (j : Int) = _
  rw [atI_nat (v := D.int rs[j]) (by rw [List.getElem?_map, List.getElem?_eq_getElem hj]; rfl)]
  simp [hj]
theorem mulL {i j : Int} (h : -18446744073709551616 < i ∧ i < 18446744073709551616) : mulI (.int i) (.int j) = some (.int (i * j)) := by
  show (if okMul i j = true then _ else _) = _
  rw [if_pos]
  unfold okMul
  rw [decide_eq_true]
  exact .inl (by simpa using h)
theorem mulR {i j : Int} (h : -18446744073709551616 < j ∧ j < 18446744073709551616) : mulI (.int i) (.int j) = some (.int (i * j)) := by
  show (if okMul i j = true then _ else _) = _
  rw [if_pos]
  unfold okMul
  rw [decide_eq_true]
  exact .inr (by simpa using h)
theorem addII {i j : Int} : addA (.int i) (.int j) = some (.int (i + j)) := rfl
theorem subII {i j : Int} : subI (.int i) (.int j) = some (.int (i - j)) := rfl
theorem modII {i j : Int} (h : 0 < j) : modI (.int i) (.int j) = some (.int (i % j)) := by
  show (if decide (0 < j) = true then _ else _) = _
  rw [if_pos (decide_eq_true h)]
theorem divII {i j : Int} (h : 0 < j ∧ j < 1073741824) : divI (.int i) (.int j) = some (.int (i / j)) := by
  show (if decide (0 < j ∧ j < 1073741824) = true then _ else _) = _
  rw [if_pos (decide_eq_true h)]
theorem intII {i : Int} : intD [.int i] = some (.int i) := rfl
theorem eqII {i j : Int} : eqD (.int i) (.int j) = some (.bl (decide (i = j))) := by simp only [eq_int]
theorem gtII {i j : Int} : gtI (.int i) (.int j) = some (.bl (decide (j < i))) := rfl
theorem ltII {i j : Int} : ltI (.int i) (.int j) = some (.bl (decide (i < j))) := rfl

theorem sgn_small (x : Int) : -18446744073709551616 < 1 - 2 * (x / 4 % 2) ∧ 1 - 2 * (x / 4 % 2) < 18446744073709551616 ∧ (1 - 2 * (x / 4 % 2) = 1 ∨ 1 - 2 * (x / 4 % 2) = -1) := by omega
theorem law_number_ex (C : Cs) (rs : List Int) (m : Int) (hl : rs.length = 14) (hr : ∀ r ∈ rs, 0 ≤ r ∧ r < 1000) : ∃ v : Int, m_law_number C [.lst (rs.map .int), .int m] = some (.int v) ∧ (m = 0 ∨ m = 1 → -1000000000000000000 < v ∧ v < 1000000000000000000) := by
  have rg : ∀ j, 0 ≤ rs.getD j 0 ∧ rs.getD j 0 < 1000 := fun j => by
    by_cases h : j < rs.length
    · have := hr rs[j] (List.getElem_mem h)
      simpa [h] using this
    · simp [List.getD_eq_getElem?_getD, List.getElem?_eq_none (by omega : rs.length ≤ j)]
  obtain ⟨d, e, v, rfl, hv⟩ : ∃ d, m_law_number C [.lst (rs.map .int), .int m] = some d ∧ ∃ v : Int, d = .int v ∧ (m = 0 ∨ m = 1 → -1000000000000000000 < v ∧ v < 1000000000000000000) := by
    refine runP_of ?_
    unfold b_law_number
    have hs := sgn_small (rs.getD 0 0)
    refine Rn.sq (Rn.st (d := .int (1 - 2 * (rs.getD 0 0 / 4 % 2))) (by show _ = _; simp only [env0, List.map_cons, List.map_nil, List.length_cons, List.length_nil, List.replicate, List.cons_append, List.nil_append, Nat.reduceAdd, Nat.reduceSub]; (simp (disch := omega) only [b2, b1, cB, aCons, aNil, kI, kS, kB, kN, gv, asB, List.getElem?_cons_zero, List.getElem?_cons_succ, Option.bind_some, Option.map_some, List.set_cons_zero, List.set_cons_succ, ixI, mulL, mulR, addII, subII, modII, divII, intII, eqII, gtII, ltII, Int.zero_add]); rfl) ?_)
    generalize 1 - 2 * (rs.getD 0 0 / 4 % 2) = sg at hs
    show Rn _ [.dat (.lst (rs.map .int)), .dat (.int m), .dat (.int sg), .unk, .unk, .unk] _
    refine Rn.sq (Rn.st (d := .int (rs.getD 0 0 % 4)) (by (simp (disch := omega) only [b2, b1, cB, aCons, aNil, kI, kS, kB, kN, gv, asB, List.getElem?_cons_zero, List.getElem?_cons_succ, Option.bind_some, Option.map_some, List.set_cons_zero, List.set_cons_succ, ixI, mulL, mulR, addII, subII, modII, divII, intII, eqII, gtII, ltII, Int.zero_add]); rfl) ?_)
    generalize hk : rs.getD 0 0 % 4 = kd
    show Rn _ [.dat (.lst (rs.map .int)), .dat (.int m), .dat (.int sg), .dat (.int kd), .unk, .unk] _
    refine Rn.sq (Rn.ite (t := decide (m = 0) || decide (kd = 0)) (by
      have a1 : asB (b2 (gv 1) (kI 0) eqD) [.dat (.lst (rs.map .int)), .dat (.int m), .dat (.int sg), .dat (.int kd), .unk, .unk] = some (decide (m = 0)) := by (simp (disch := omega) only [b2, b1, cB, aCons, aNil, kI, kS, kB, kN, gv, asB, List.getElem?_cons_zero, List.getElem?_cons_succ, Option.bind_some, Option.map_some, List.set_cons_zero, List.set_cons_succ, ixI, mulL, mulR, addII, subII, modII, divII, intII, eqII, gtII, ltII, Int.zero_add])
      have a2 : asB (b2 (gv 3) (kI 0) eqD) [.dat (.lst (rs.map .int)), .dat (.int m), .dat (.int sg), .dat (.int kd), .unk, .unk] = some (decide (kd = 0)) := by (simp (disch := omega) only [b2, b1, cB, aCons, aNil, kI, kS, kB, kN, gv, asB, List.getElem?_cons_zero, List.getElem?_cons_succ, Option.bind_some, Option.map_some, List.set_cons_zero, List.set_cons_succ, ixI, mulL, mulR, addII, subII, modII, divII, intII, eqII, gtII, ltII, Int.zero_add])
      unfold orT; rw [a1, a2]; cases decide (m = 0) <;> rfl) (fun _ => ?_) fun h2 => Rn.skip ?_)
    · refine Rn.ret (d := .int (rs.getD 1 0 % 11 - 5)) (by (simp (disch := omega) only [b2, b1, cB, aCons, aNil, kI, kS, kB, kN, gv, asB, List.getElem?_cons_zero, List.getElem?_cons_succ, Option.bind_some, Option.map_some, List.set_cons_zero, List.set_cons_succ, ixI, mulL, mulR, addII, subII, modII, divII, intII, eqII, gtII, ltII, Int.zero_add]); rfl) ?_
      exact ⟨_, _, rfl, rfl, _, rfl, fun _ => by omega⟩
    simp only [Bool.or_eq_false_iff, decide_eq_false_iff_not] at h2
    refine Rn.sq (Rn.ite (t := decide (kd = 1)) (by (simp (disch := omega) only [b2, b1, cB, aCons, aNil, kI, kS, kB, kN, gv, asB, List.getElem?_cons_zero, List.getElem?_cons_succ, Option.bind_some, Option.map_some, List.set_cons_zero, List.set_cons_succ, ixI, mulL, mulR, addII, subII, modII, divII, intII, eqII, gtII, ltII, Int.zero_add])) (fun _ => ?_) fun h3 => Rn.skip ?_)
    · refine Rn.ret (d := .int (sg * rs.getD 1 0)) (by (simp (disch := omega) only [b2, b1, cB, aCons, aNil, kI, kS, kB, kN, gv, asB, List.getElem?_cons_zero, List.getElem?_cons_succ, Option.bind_some, Option.map_some, List.set_cons_zero, List.set_cons_succ, ixI, mulL, mulR, addII, subII, modII, divII, intII, eqII, gtII, ltII, Int.zero_add]); rfl) ?_
      refine ⟨_, _, rfl, rfl, _, rfl, fun _ => ?_⟩
      have := rg 1
      rcases hs.2.2 with h | h <;> rw [h] <;> omega
    refine Rn.sq (Rn.st (d := .int 0) rfl ?_)
    refine Rn.sq (Rn.for (ds := rangeD 0 13) rfl (fun i ρ => ∃ (v : Int) (x : O), ρ = [.dat (.lst (rs.map .int)), .dat (.int m), .dat (.int sg), .dat (.int kd), .dat (.int v), x]) ⟨0, .unk, rfl⟩ (fun i d ρ hd hI => ?_) (fun ρ hI => ?_))
    · obtain ⟨hi, rfl⟩ := range_get hd
      obtain ⟨v, x, rfl⟩ := hI
      refine ⟨_, rfl, ?_⟩
      show Rn _ [.dat (.lst (rs.map .int)), .dat (.int m), .dat (.int sg), .dat (.int kd), .dat (.int v), .dat (.int (0 + (i : Int)))] _
      refine Rn.st (d := .int (v * 1000 + rs.getD (1 + (i : Int)).toNat 0)) (by (simp (disch := omega) only [b2, b1, cB, aCons, aNil, kI, kS, kB, kN, gv, asB, List.getElem?_cons_zero, List.getElem?_cons_succ, Option.bind_some, Option.map_some, List.set_cons_zero, List.set_cons_succ, ixI, mulL, mulR, addII, subII, modII, divII, intII, eqII, gtII, ltII, Int.zero_add])) ?_
      exact ⟨_, _, rfl⟩
    · obtain ⟨v, x, rfl⟩ := hI
      by_cases h4 : m = 1 ∨ kd = 2
      · refine Rn.sq (Rn.ite (t := true) (by
          have a1 : asB (b2 (gv 1) (kI 1) eqD) [.dat (.lst (rs.map .int)), .dat (.int m), .dat (.int sg), .dat (.int kd), .dat (.int v), x] = some (decide (m = 1)) := by (simp (disch := omega) only [b2, b1, cB, aCons, aNil, kI, kS, kB, kN, gv, asB, List.getElem?_cons_zero, List.getElem?_cons_succ, Option.bind_some, Option.map_some, List.set_cons_zero, List.set_cons_succ, ixI, mulL, mulR, addII, subII, modII, divII, intII, eqII, gtII, ltII, Int.zero_add])
          have a2 : asB (b2 (gv 3) (kI 2) eqD) [.dat (.lst (rs.map .int)), .dat (.int m), .dat (.int sg), .dat (.int kd), .dat (.int v), x] = some (decide (kd = 2)) := by (simp (disch := omega) only [b2, b1, cB, aCons, aNil, kI, kS, kB, kN, gv, asB, List.getElem?_cons_zero, List.getElem?_cons_succ, Option.bind_some, Option.map_some, List.set_cons_zero, List.set_cons_succ, ixI, mulL, mulR, addII, subII, modII, divII, intII, eqII, gtII, ltII, Int.zero_add])
          unfold orT; rw [a1, a2]
          rcases h4 with h | h
          · rw [decide_eq_true h]
          · rw [decide_eq_true h]; cases decide (m = 1) <;> rfl) (fun _ => ?_) fun h => nomatch h)
        refine Rn.st (d := .int (v % 1000000000000000000)) (by
          have hp : b2 (kI 10) (kI 18) powI [.dat (.lst (rs.map .int)), .dat (.int m), .dat (.int sg), .dat (.int kd), .dat (.int v), x] = some (.int 1000000000000000000) := rfl
          rw [b2_of (x := .int v) (y := .int 1000000000000000000) rfl hp]
          exact modII (by decide)) ?_
        show Rn _ [.dat (.lst (rs.map .int)), .dat (.int m), .dat (.int sg), .dat (.int kd), .dat (.int (v % 1000000000000000000)), x] _
        refine Rn.ret (d := .int (sg * (v % 1000000000000000000))) (by (simp (disch := omega) only [b2, b1, cB, aCons, aNil, kI, kS, kB, kN, gv, asB, List.getElem?_cons_zero, List.getElem?_cons_succ, Option.bind_some, Option.map_some, List.set_cons_zero, List.set_cons_succ, ixI, mulL, mulR, addII, subII, modII, divII, intII, eqII, gtII, ltII, Int.zero_add])) ?_
        refine ⟨_, _, rfl, rfl, _, rfl, fun _ => ?_⟩
        rcases hs.2.2 with h | h <;> rw [h] <;> omega
      · refine Rn.sq (Rn.ite (t := false) (by
          have a1 : asB (b2 (gv 1) (kI 1) eqD) [.dat (.lst (rs.map .int)), .dat (.int m), .dat (.int sg), .dat (.int kd), .dat (.int v), x] = some (decide (m = 1)) := by (simp (disch := omega) only [b2, b1, cB, aCons, aNil, kI, kS, kB, kN, gv, asB, List.getElem?_cons_zero, List.getElem?_cons_succ, Option.bind_some, Option.map_some, List.set_cons_zero, List.set_cons_succ, ixI, mulL, mulR, addII, subII, modII, divII, intII, eqII, gtII, ltII, Int.zero_add])
          have a2 : asB (b2 (gv 3) (kI 2) eqD) [.dat (.lst (rs.map .int)), .dat (.int m), .dat (.int sg), .dat (.int kd), .dat (.int v), x] = some (decide (kd = 2)) := by (simp (disch := omega) only [b2, b1, cB, aCons, aNil, kI, kS, kB, kN, gv, asB, List.getElem?_cons_zero, List.getElem?_cons_succ, Option.bind_some, Option.map_some, List.set_cons_zero, List.set_cons_succ, ixI, mulL, mulR, addII, subII, modII, divII, intII, eqII, gtII, ltII, Int.zero_add])
          unfold orT; rw [a1, a2, decide_eq_false (fun h => h4 (.inl h)), decide_eq_false (fun h => h4 (.inr h))]) (fun h => nomatch h) fun _ => Rn.skip ?_)
        refine Rn.ret (d := .int (sg * v)) (by (simp (disch := omega) only [b2, b1, cB, aCons, aNil, kI, kS, kB, kN, gv, asB, List.getElem?_cons_zero, List.getElem?_cons_succ, Option.bind_some, Option.map_some, List.set_cons_zero, List.set_cons_succ, ixI, mulL, mulR, addII, subII, modII, divII, intII, eqII, gtII, ltII, Int.zero_add])) ?_
        exact ⟨_, _, rfl, rfl, _, rfl, fun h => absurd h (by omega)⟩
  exact ⟨v, e, hv⟩
end K01

namespace K01
open PySem L2 PD
theorem law_count_ex (C : Cs) (rs : List Int) (hl : rs.length = 9) (hr : ∀ r ∈ rs, 0 ≤ r ∧ r < 1000) : ∃ v : Int, m_law_count C [.lst (rs.map .int)] = some (.int v) ∧ 0 ≤ v := by
  have rg : ∀ j, 0 ≤ rs.getD j 0 ∧ rs.getD j 0 < 1000 := fun j => by
    by_cases h : j < rs.length
    · have := hr rs[j] (List.getElem_mem h)
      simpa [h] using this
    · simp [List.getD_eq_getElem?_getD, List.getElem?_eq_none (by omega : rs.length ≤ j)]
  obtain ⟨d, e, v, rfl, hv⟩ : ∃ d, m_law_count C [.lst (rs.map .int)] = some d ∧ ∃ v : Int, d = .int v ∧ 0 ≤ v := by
    refine runP_of ?_
    unfold b_law_count
    show Rn _ [.dat (.lst (rs.map .int)), .unk, .unk, .unk] _
    refine Rn.sq (Rn.st (d := .int (rs.getD 0 0 % 3)) (by (simp (disch := omega) only [b2, b1, cB, aCons, aNil, kI, kS, kB, kN, gv, asB, List.getElem?_cons_zero, List.getElem?_cons_succ, Option.bind_some, Option.map_some, List.set_cons_zero, List.set_cons_succ, ixI, mulL, mulR, addII, subII, modII, divII, intII, eqII, gtII, ltII, Int.zero_add]); rfl) ?_)
    generalize rs.getD 0 0 % 3 = kd
    show Rn _ [.dat (.lst (rs.map .int)), .dat (.int kd), .unk, .unk] _
    refine Rn.sq (Rn.ite (t := decide (kd = 0)) (by (simp (disch := omega) only [b2, b1, cB, aCons, aNil, kI, kS, kB, kN, gv, asB, List.getElem?_cons_zero, List.getElem?_cons_succ, Option.bind_some, Option.map_some, List.set_cons_zero, List.set_cons_succ, ixI, mulL, mulR, addII, subII, modII, divII, intII, eqII, gtII, ltII, Int.zero_add])) (fun _ => ?_) fun h2 => Rn.skip ?_)
    · refine Rn.ret (d := .int (rs.getD 1 0 % 5)) (by (simp (disch := omega) only [b2, b1, cB, aCons, aNil, kI, kS, kB, kN, gv, asB, List.getElem?_cons_zero, List.getElem?_cons_succ, Option.bind_some, Option.map_some, List.set_cons_zero, List.set_cons_succ, ixI, mulL, mulR, addII, subII, modII, divII, intII, eqII, gtII, ltII, Int.zero_add]); rfl) ?_
      exact ⟨_, _, rfl, rfl, _, rfl, by omega⟩
    refine Rn.sq (Rn.ite (t := decide (kd = 1)) (by (simp (disch := omega) only [b2, b1, cB, aCons, aNil, kI, kS, kB, kN, gv, asB, List.getElem?_cons_zero, List.getElem?_cons_succ, Option.bind_some, Option.map_some, List.set_cons_zero, List.set_cons_succ, ixI, mulL, mulR, addII, subII, modII, divII, intII, eqII, gtII, ltII, Int.zero_add])) (fun _ => ?_) fun h2 => Rn.skip ?_)
    · refine Rn.ret (d := .int (rs.getD 1 0)) (by (simp (disch := omega) only [b2, b1, cB, aCons, aNil, kI, kS, kB, kN, gv, asB, List.getElem?_cons_zero, List.getElem?_cons_succ, Option.bind_some, Option.map_some, List.set_cons_zero, List.set_cons_succ, ixI, mulL, mulR, addII, subII, modII, divII, intII, eqII, gtII, ltII, Int.zero_add]); rfl) ?_
      exact ⟨_, _, rfl, rfl, _, rfl, (rg 1).1⟩
    refine Rn.sq (Rn.st (d := .int 0) rfl ?_)
    refine Rn.sq (Rn.for (ds := rangeD 0 7) rfl (fun i ρ => ∃ (v : Int) (x : O), ρ = [.dat (.lst (rs.map .int)), .dat (.int kd), .dat (.int v), x]) ⟨0, .unk, rfl⟩ (fun i d ρ hd hI => ?_) (fun ρ hI => ?_))
    · obtain ⟨hi, rfl⟩ := range_get hd
      obtain ⟨v, x, rfl⟩ := hI
      refine ⟨_, rfl, ?_⟩
      show Rn _ [.dat (.lst (rs.map .int)), .dat (.int kd), .dat (.int v), .dat (.int (0 + (i : Int)))] _
      refine Rn.st (d := .int (v * 1000 + rs.getD (1 + (i : Int)).toNat 0)) (by (simp (disch := omega) only [b2, b1, cB, aCons, aNil, kI, kS, kB, kN, gv, asB, List.getElem?_cons_zero, List.getElem?_cons_succ, Option.bind_some, Option.map_some, List.set_cons_zero, List.set_cons_succ, ixI, mulL, mulR, addII, subII, modII, divII, intII, eqII, gtII, ltII, Int.zero_add])) ?_
      exact ⟨_, _, rfl⟩
    · obtain ⟨v, x, rfl⟩ := hI
      refine Rn.ret (d := .int (v % 100000000000000000001)) (by
        have hp : b2 (b2 (kI 10) (kI 20) powI) (kI 1) addA [.dat (.lst (rs.map .int)), .dat (.int kd), .dat (.int v), x] = some (.int 100000000000000000001) := rfl
        rw [b2_of (x := .int v) (y := .int 100000000000000000001) rfl hp]
        exact modII (by decide)) ?_
      exact ⟨_, _, rfl, rfl, _, rfl, by omega⟩
  exact ⟨v, e, hv⟩
end K01

namespace K01
open PySem L2 PD
theorem same_str (a b : Str) : D.same (.str a) (.str b) = decide (a = b) := by
  show (a == b) = _
  by_cases h : a = b
  · rw [decide_eq_true h]; simpa using h
  · rw [decide_eq_false h]; simpa using h
theorem flat_strs (ls : List Str) : (ls.map D.str).all D.flat = true := by
  rw [List.all_map, List.all_eq_true]; intro x _; rfl
theorem nin_strs (x : Str) (ls : List Str) : ninD (.str x) (.lst (ls.map .str)) = some (.bl (!decide (x ∈ ls))) := by
  unfold ninD inB
  simp only [flat_strs, D.flat, Bool.and_self, if_true, Option.map_some]
  congr 3
  rw [List.any_map]
  induction ls with
  | nil => rfl
  | cons l ls ih =>
    rw [List.any_cons, ih]
    simp only [Function.comp, same_str, List.mem_cons]
    by_cases h : x = l
    · subst h; simp
    · have h' : ¬ l = x := fun z => h z.symm
      simp [h, h']
theorem toDs_strs : ∀ ls : List Str, O.toDs (ls.map fun l => O.dat (.str l)) = some (ls.map .str)
  | [] => rfl
  | l :: ls => by
    show (match O.toD (.dat (.str l)), O.toDs (ls.map fun l => O.dat (.str l)) with | some d, some ds => some (d :: ds) | _, _ => none) = _
    rw [toDs_strs ls]; rfl
theorem vw_strs (ls : List Str) : O.vw (.lst (ls.map fun l => O.dat (.str l))) = .dat (.lst (ls.map .str)) := by
  unfold O.vw O.toD
  rw [toDs_strs]; rfl
theorem vw_dat (d : D) : O.vw (.dat d) = .dat d := rfl
theorem vw_unk : O.vw .unk = .unk := rfl
theorem len_strs (ls : List Str) : lenD [.lst (ls.map .str)] = some (.int ls.length) := by
  show some (D.int ((ls.map D.str).length : Int)) = _
  rw [List.length_map]
end K01

namespace K01
open PySem L2 PD
abbrev ZZZ : Str := Str.ofString "zzzzzzzzzzzz"
def Good (l : Str) : Prop := l ≠ ZZZ ∧ l.length ≤ 40 ∧ okS l
theorem codes_len (z : Str) : z.cps.toList.length = z.length := str_len z
theorem good_short {l : Str} (h : l.length ≤ 11) (ho : okS l) : Good l := ⟨fun e => by subst e; exact absurd h (by decide), by omega, ho⟩
theorem good_has {l : Str} {c : Nat} (hc : c ∈ l.cps.toList) (h : c ≠ 122) (hl : l.length ≤ 40) (ho : okS l) : Good l := ⟨fun e => by
  subst e
  have : ∀ x ∈ ZZZ.cps.toList, x = 122 := by decide
  exact h (this c hc), hl, ho⟩
theorem cat_codes (a b : Str) : (a ++ b).cps.toList = a.cps.toList ++ b.cps.toList := by
  show (a.cps ++ b.cps).toList = _
  exact Array.toList_append
theorem catA {a b : Str} (h : a.length + b.length ≤ 1000) : addA (.str a) (.str b) = some (.str (a ++ b)) := by
  have hz : a.length + b.length ≤ sizeLine := small_line h
  show orD addD (orD catL catT) (.str a) (.str b) = _
  simp only [orD, addD, addI, addS, i2, s2, decide_eq_true hz, if_true]
/-- the labels that may be drawn: distinct, and none is the one put in -/
def Pool (ls : List Str) : Prop := ls.Nodup ∧ ∀ l ∈ ls, Good l
theorem Pool.add {ls : List Str} {l : Str} (h : Pool ls) (hl : l ∉ ls) (g : Good l) : Pool (ls ++ [l]) := ⟨by
  rw [List.nodup_append]
  exact ⟨h.1, by simp, fun a ha b hb => by simp at hb; subst hb; exact fun z => hl (z ▸ ha)⟩, fun x hx => by
  rcases List.mem_append.mp hx with hx | hx
  · exact h.2 x hx
  · simp at hx; subst hx; exact g⟩
end K01

namespace K01
open PySem L2 PD
theorem call1 {fa : Ev → Option D} {ρ : Ev} {x : D} {m : List D → Option D} (h : fa ρ = some x) : cB (aCons fa aNil) (len? 1 m) ρ = m [x] := call_of (aC1 h) rfl
abbrev pl (ls : List Str) : O := .lst (ls.map fun l => O.dat (.str l))
/-- a label is put in if it is new -/
theorem pool_step {Q : Fl → Prop} (t : Ev → Option Bool) (a b c x y : O) (l : Str) (ls : List Str) (bb : Bool) (hp : Pool ls) (g : Good l) (hn : ls.length < 1000)
    (ht : t [a, b, c, pl ls, .dat (.str l), y] = some bb) (hb : bb = true → l ∉ ls)
    (k : ∀ ls', Pool ls' → ls'.length ≤ ls.length + 1 → (bb = false → ls' = ls) → Q (.nx [a, b, c, pl ls', .dat (.str l), y])) : Rn (ifS t (app 3 (gv 4)) skip) [a, b, c, pl ls, .dat (.str l), y] Q := by
  refine Rn.ite ht (fun h => ?_) fun h => Rn.skip (k ls hp (by omega) fun _ => rfl)
  refine Rn.app (d := .str l) rfl rfl (by rw [List.length_map]; exact Nat.lt_of_lt_of_le hn (by decide)) ?_
  have := k (ls ++ [l]) (hp.add (hb h) g) (by simp) (fun z => by rw [h] at z; cases z)
  simpa [pl] using this
theorem vw_env (a b c : D) (ls : List Str) (l : D) (y : O) (hy : O.vw y = y) : [O.dat a, .dat b, .dat c, pl ls, .dat l, y].map O.vw = [.dat a, .dat b, .dat c, .dat (.lst (ls.map .str)), .dat l, y] := by
  simp only [List.map_cons, List.map_nil, vw_dat, hy, pl, vw_strs]
theorem law_pool_ex (C : Cs) (rs : List Int) (hl : rs.length = 4) (hr : ∀ r ∈ rs, 0 ≤ r ∧ r < 1000) : ∃ ls : List Str, m_law_pool C [.lst (rs.map .int)] = some (.lst (ls.map .str)) ∧ Pool ls ∧ ls.length ≤ 59 := by
  have rg : ∀ j, 0 ≤ rs.getD j 0 ∧ rs.getD j 0 < 1000 := fun j => by
    by_cases h : j < rs.length
    · have := hr rs[j] (List.getElem_mem h)
      simpa [h] using this
    · simp [List.getD_eq_getElem?_getD, List.getElem?_eq_none (by omega : rs.length ≤ j)]
  obtain ⟨d, e, ls, rfl, h1, h2⟩ : ∃ d, m_law_pool C [.lst (rs.map .int)] = some d ∧ ∃ ls : List Str, d = .lst (ls.map .str) ∧ Pool ls ∧ ls.length ≤ 59 := by
    refine runP_of ?_
    unfold b_law_pool
    show Rn _ [.dat (.lst (rs.map .int)), .unk, .unk, .unk, .unk, .unk] _
    have g0 := rg 0; have g1 := rg 1; have g2 := rg 2
    obtain ⟨t1, e1, l1, o1⟩ := law_word_ex C (rs.getD 0 0 + 1000 * (rs.getD 1 0 % 30)) (by omega) (by omega)
    obtain ⟨t2, e2, l2, o2⟩ := law_word_ex C (rs.getD 2 0) (by omega) (by omega)
    refine Rn.sq (Rn.st (d := .str t1) ((call1 (x := .int (rs.getD 0 0 + 1000 * (rs.getD 1 0 % 30))) (by (simp (disch := omega) only [b2, b1, cB, aCons, aNil, kI, kS, kB, kN, gv, asB, List.getElem?_cons_zero, List.getElem?_cons_succ, Option.bind_some, Option.map_some, List.set_cons_zero, List.set_cons_succ, ixI, mulL, mulR, addII, subII, modII, divII, intII, eqII, gtII, ltII, Int.zero_add]); rfl)).trans e1) ?_)
    show Rn _ [.dat (.lst (rs.map .int)), .dat (.str t1), .unk, .unk, .unk, .unk] _
    refine Rn.sq (Rn.st (d := .str t2) ((call1 (x := .int (rs.getD 2 0)) (by (simp (disch := omega) only [b2, b1, cB, aCons, aNil, kI, kS, kB, kN, gv, asB, List.getElem?_cons_zero, List.getElem?_cons_succ, Option.bind_some, Option.map_some, List.set_cons_zero, List.set_cons_succ, ixI, mulL, mulR, addII, subII, modII, divII, intII, eqII, gtII, ltII, Int.zero_add]); rfl)).trans e2) ?_)
    show Rn _ [.dat (.lst (rs.map .int)), .dat (.str t1), .dat (.str t2), .unk, .unk, .unk] _
    refine Rn.sqN (P := fun ρ => ∃ t : Str, ρ = [.dat (.lst (rs.map .int)), .dat (.str t1), .dat (.str t), .unk, .unk, .unk] ∧ Good t ∧ t.length ≤ 12) ?_ fun ρ hρ => ?_
    · refine Rn.ite (t := decide (rs.getD 3 0 % 3 = 1)) (by (simp (disch := omega) only [b2, b1, cB, aCons, aNil, kI, kS, kB, kN, gv, asB, List.getElem?_cons_zero, List.getElem?_cons_succ, Option.bind_some, Option.map_some, List.set_cons_zero, List.set_cons_succ, ixI, mulL, mulR, addII, subII, modII, divII, intII, eqII, gtII, ltII, Int.zero_add]); rfl) (fun _ => ?_) fun _ => Rn.skip ⟨t2, rfl, good_short (by omega) o2, by omega⟩
      have hc : b2 (gv 2) (kS "klmnopqrstuv") addA [.dat (.lst (rs.map .int)), .dat (.str t1), .dat (.str t2), .unk, .unk, .unk] = some (.str (t2 ++ Str.ofString "klmnopqrstuv")) := by
        rw [b2_of (x := .str t2) (y := .str (Str.ofString "klmnopqrstuv")) rfl rfl]
        exact catA (by show t2.length + 12 ≤ 1000; omega)
      refine Rn.st (slS_of hc rfl (part_of rfl) (by rw [cat_len]; show t2.length + 12 ≤ 1000000; omega)) ?_
      have hcodes : (cutS (t2 ++ Str.ofString "klmnopqrstuv") none (some 12)).cps.toList = (t2.cps.toList ++ (Str.ofString "klmnopqrstuv").cps.toList).take 12 := by
        rw [cutS_codes, cat_codes]
        exact cut_to _ 12
      have hlen : (cutS (t2 ++ Str.ofString "klmnopqrstuv") none (some 12)).length ≤ 12 := by
        rw [← codes_len, hcodes, List.length_take]; omega
      refine ⟨_, rfl, good_has (c := 107) ?_ (by decide) (by omega) ?_, hlen⟩
      rotate_left
      · intro c hc
        rw [hcodes] at hc
        rcases List.mem_append.mp (List.mem_of_mem_take hc) with h | h
        · exact o2 c h
        · exact (show ∀ c ∈ (Str.ofString "klmnopqrstuv").cps.toList, c < 1114112 by decide) c h
      rw [hcodes]
      have hl2 := codes_len t2
      refine List.mem_of_getElem? (i := t2.cps.toList.length) ?_
      rw [List.getElem?_take_of_lt (by omega), List.getElem?_append_right (Nat.le_refl _), Nat.sub_self]
      rfl
    obtain ⟨t, rfl, gt, lt⟩ := hρ
    refine Rn.sq (Rn.stO (o := pl []) rfl ?_)
    show Rn _ [.dat (.lst (rs.map .int)), .dat (.str t1), .dat (.str t), pl [], .unk, .unk] _
    have gdot : ∀ a b : Str, a.length ≤ 12 → b.length ≤ 12 → okS a → okS b → Good (a ++ Str.ofString "." ++ b) := fun a b ha hb oa ob => good_has (c := 46) (by
      rw [cat_codes, cat_codes]; exact List.mem_append_left _ (List.mem_append_right _ (by decide))) (by decide) (by rw [cat_len, cat_len]; show a.length + 1 + b.length ≤ 40; omega) (okS_cat (okS_cat oa (show ∀ c ∈ (Str.ofString ".").cps.toList, c < 1114112 by decide)) ob)
    obtain ⟨ws, hws, gws⟩ : ∃ ws : List Str, iOf (mkLst (aCons (gv 1) (aCons (b2 (b2 (gv 1) (kS ".") addA) (gv 2) addA) (aCons (gv 2) (aCons (b2 (b2 (gv 2) (kS ".") addA) (gv 1) addA) (aCons (b2 (gv 1) (kS "a") addA) aNil)))))) [.dat (.lst (rs.map .int)), .dat (.str t1), .dat (.str t), pl [], .unk, .unk] = some (ws.map .str) ∧ ws.length = 5 ∧ ∀ w ∈ ws, Good w := by
      refine ⟨[t1, t1 ++ Str.ofString "." ++ t, t, t ++ Str.ofString "." ++ t1, t1 ++ Str.ofString "a"], ?_, rfl, fun w hw => ?_⟩
      · refine iOf_of (x := .lst ([t1, t1 ++ Str.ofString "." ++ t, t, t ++ Str.ofString "." ++ t1, t1 ++ Str.ofString "a"].map .str)) (mkL_of (aC rfl (aC ?_ (aC rfl (aC ?_ (aC ?_ rfl))))) (by simp)) rfl
        · rw [b2_of (x := .str (t1 ++ Str.ofString ".")) (y := .str t) (by rw [b2_of (x := .str t1) (y := .str (Str.ofString ".")) rfl rfl]; exact catA (by show t1.length + 1 ≤ 1000; omega)) rfl]
          exact catA (by rw [cat_len]; show t1.length + 1 + t.length ≤ 1000; omega)
        · rw [b2_of (x := .str (t ++ Str.ofString ".")) (y := .str t1) (by rw [b2_of (x := .str t) (y := .str (Str.ofString ".")) rfl rfl]; exact catA (by show t.length + 1 ≤ 1000; omega)) rfl]
          exact catA (by rw [cat_len]; show t.length + 1 + t1.length ≤ 1000; omega)
        · rw [b2_of (x := .str t1) (y := .str (Str.ofString "a")) rfl rfl]
          exact catA (by show t1.length + 1 ≤ 1000; omega)
      · simp only [List.mem_cons, List.not_mem_nil, or_false] at hw
        rcases hw with rfl | rfl | rfl | rfl | rfl
        · exact good_short (by omega) o1
        · exact gdot _ _ (by omega) lt o1 gt.2.2
        · exact gt
        · exact gdot _ _ lt (by omega) gt.2.2 o1
        · exact good_short (by rw [cat_len]; show t1.length + 1 ≤ 11; omega) (okS_cat o1 (show ∀ c ∈ (Str.ofString "a").cps.toList, c < 1114112 by decide))
    refine Rn.sqN (P := fun ρ => ∃ (ls : List Str) (x : D), ρ = [.dat (.lst (rs.map .int)), .dat (.str t1), .dat (.str t), pl ls, .dat x, .unk] ∧ Pool ls ∧ ls.length ≤ 5) ?_ fun ρ hρ => ?_
    · refine Rn.for hws (fun i ρ => ∃ (ls : List Str) (x : O), ρ = [.dat (.lst (rs.map .int)), .dat (.str t1), .dat (.str t), pl ls, x, .unk] ∧ Pool ls ∧ ls.length ≤ i ∧ (0 < i → ∃ d, x = .dat d)) ⟨[], .unk, rfl, ⟨List.nodup_nil, fun _ h => nomatch h⟩, Nat.le_refl _, fun h => absurd h (by omega)⟩ (fun i d ρ hd hI => ?_) (fun ρ hI => ?_)
      · obtain ⟨ls, x, rfl, hp, hn, _⟩ := hI
        rw [List.getElem?_map] at hd
        obtain ⟨w, hw, rfl⟩ := Option.map_eq_some_iff.mp hd
        have hi : i < 5 := by have := (List.getElem?_eq_some_iff.mp hw).1; omega
        refine ⟨_, rfl, ?_⟩
        refine pool_step (bb := !decide (w ∈ ls)) _ _ _ _ .unk .unk w ls hp (gws.2 w (List.mem_of_getElem? hw)) (by omega) ?_ (by simp) (fun ls' q1 q2 _ => ⟨ls', _, rfl, q1, by omega, fun _ => ⟨_, rfl⟩⟩)
        unfold vwT
        rw [vw_env _ _ _ _ _ _ rfl]
        exact asB_of (by rw [b2_of (x := .str w) (y := .lst (ls.map .str)) rfl rfl]; exact nin_strs w ls)
      · obtain ⟨ls, x, rfl, hp, hn, hx⟩ := hI
        rw [List.length_map, gws.1] at hn hx
        obtain ⟨d, rfl⟩ := hx (by omega)
        exact ⟨ls, d, rfl, hp, hn⟩
    obtain ⟨ls, x, rfl, hp, hn⟩ := hρ
    refine Rn.sqN (P := fun ρ => ∃ (ls : List Str) (y z : O), ρ = [.dat (.lst (rs.map .int)), .dat (.str t1), .dat (.str t), pl ls, y, z] ∧ Pool ls ∧ ls.length ≤ 59) ?_ fun ρ hρ => ?_
    · refine Rn.ite (t := decide (rs.getD 3 0 / 3 % 4 = 1)) (by (simp (disch := omega) only [b2, b1, cB, aCons, aNil, kI, kS, kB, kN, gv, asB, List.getElem?_cons_zero, List.getElem?_cons_succ, Option.bind_some, Option.map_some, List.set_cons_zero, List.set_cons_succ, ixI, mulL, mulR, addII, subII, modII, divII, intII, eqII, gtII, ltII, Int.zero_add]); rfl) (fun _ => ?_) fun _ => Rn.skip ⟨ls, _, _, rfl, hp, by omega⟩
      refine Rn.for (ds := rangeD 0 60) rfl (fun i ρ => ∃ (ls : List Str) (y : D) (z : O), ρ = [.dat (.lst (rs.map .int)), .dat (.str t1), .dat (.str t), pl ls, .dat y, z] ∧ Pool ls ∧ ls.length ≤ 59) ⟨ls, x, .unk, rfl, hp, by omega⟩ (fun i d ρ hd hI => ?_) (fun ρ hI => ?_)
      · obtain ⟨hi, rfl⟩ := range_get hd
        obtain ⟨ls, y, z, rfl, hp, hn⟩ := hI
        refine ⟨_, rfl, ?_⟩
        show Rn _ [.dat (.lst (rs.map .int)), .dat (.str t1), .dat (.str t), pl ls, .dat y, .dat (.int (0 + (i : Int)))] _
        obtain ⟨w, e3, l3, o3⟩ := law_word_ex C (rs.getD 0 0 + 19 * (0 + (i : Int))) (by omega) (by omega)
        refine Rn.sq (Rn.st (d := .str w) ((call1 (x := .int (rs.getD 0 0 + 19 * (0 + (i : Int)))) (by (simp (disch := omega) only [b2, b1, cB, aCons, aNil, kI, kS, kB, kN, gv, asB, List.getElem?_cons_zero, List.getElem?_cons_succ, Option.bind_some, Option.map_some, List.set_cons_zero, List.set_cons_succ, ixI, mulL, mulR, addII, subII, modII, divII, intII, eqII, gtII, ltII, Int.zero_add]); rfl)).trans e3) ?_)
        show Rn _ [.dat (.lst (rs.map .int)), .dat (.str t1), .dat (.str t), pl ls, .dat (.str w), .dat (.int (0 + (i : Int)))] _
        refine pool_step (bb := !decide (w ∈ ls) && decide (ls.length < 59)) _ _ _ _ .unk _ w ls hp (good_short (by omega) o3) (by omega) ?_ (by simp; intro h _; exact h) (fun ls' q1 q2 q3 => ⟨ls', _, _, rfl, q1, ?_⟩)
        · unfold vwT
          rw [vw_env _ _ _ _ _ _ rfl]
          have a1 : asB (b2 (gv 4) (gv 3) ninD) [.dat (.lst (rs.map .int)), .dat (.str t1), .dat (.str t), .dat (.lst (ls.map .str)), .dat (.str w), .dat (.int (0 + (i : Int)))] = some (!decide (w ∈ ls)) := asB_of (by rw [b2_of (x := .str w) (y := .lst (ls.map .str)) rfl rfl]; exact nin_strs w ls)
          have a2 : asB (b2 (cB (aCons (gv 3) aNil) lenD) (kI 59) ltI) [.dat (.lst (rs.map .int)), .dat (.str t1), .dat (.str t), .dat (.lst (ls.map .str)), .dat (.str w), .dat (.int (0 + (i : Int)))] = some (decide (ls.length < 59)) := asB_of (by
            rw [b2_of (x := .int ls.length) (y := .int 59) (by rw [cB_of' (aC1 rfl)]; exact len_strs ls) rfl]
            show some (D.bl (decide ((ls.length : Int) < 59))) = _
            congr 2
            rw [decide_eq_decide]; omega)
          unfold andT; rw [a1, a2]; cases decide (w ∈ ls) <;> rfl
        · by_cases hq : ls.length < 59
          · omega
          · have : ls' = ls := q3 (by rw [decide_eq_false hq]; simp)
            subst this; omega
      · obtain ⟨ls, y, z, rfl, hp, hn⟩ := hI
        exact ⟨ls, _, _, rfl, hp, hn⟩
    obtain ⟨ls, y, z, rfl, hp, hn⟩ := hρ
    refine Rn.fz (o := pl ls) (d := .lst (ls.map .str)) rfl (by show (O.toDs _).map _ = _; rw [toDs_strs]; rfl) ?_
    refine Rn.ret (d := .lst (ls.map .str)) rfl ?_
    exact ⟨_, _, rfl, rfl, ls, rfl, hp, hn⟩
  exact ⟨ls, e, h1, h2⟩
end K01

namespace K01
open PySem L2 PD
structure Row where
  l : Str
  a : Int
  b : Int
  c : Int
def rowD (r : Row) : D := .tup [.str r.l, .int r.a, .int r.b, .int r.c]
/-! ### what can be sorted -/
theorem py_pair (v k : Int) : D.py (.tup [.int v, .int k]) = some (.tuple [.int v, .int k]) := rfl
theorem py_row (r : Row) : D.py (rowD r) = some (.tuple [.str r.l, .int r.a, .int r.b, .int r.c]) := rfl
theorem sortOk_rows (rows : List Row) (h : rows.length ≤ 1000) : SortOk (rows.map rowD) := by
  refine ⟨fun d hd => ?_, fun d hd e he => ?_, .inl fun d hd => ?_, by rw [List.length_map]; exact small_line h⟩
  · obtain ⟨r, _, rfl⟩ := List.mem_map.mp hd
    exact ⟨rfl, Nat.le_of_ble_eq_true rfl⟩
  · obtain ⟨x, hx, rfl⟩ := List.mem_map.mp hd
    obtain ⟨y, hy, rfl⟩ := List.mem_map.mp he
    obtain ⟨r, _, rfl⟩ := List.mem_map.mp hx
    obtain ⟨q, _, rfl⟩ := List.mem_map.mp hy
    rfl
  · obtain ⟨x, hx, rfl⟩ := List.mem_map.mp hd
    obtain ⟨r, _, rfl⟩ := List.mem_map.mp hx
    exact ⟨_, _, rfl⟩
theorem sortOk_pairs (ps : List (Int × Int)) (h : ps.length ≤ 1000) : SortOk (ps.map fun p => .tup [.int p.1, .int p.2]) := by
  refine ⟨fun d hd => ?_, fun d hd e he => ?_, .inl fun d hd => ?_, by rw [List.length_map]; exact small_line h⟩
  · obtain ⟨r, _, rfl⟩ := List.mem_map.mp hd
    exact ⟨rfl, Nat.le_of_ble_eq_true rfl⟩
  · obtain ⟨x, hx, rfl⟩ := List.mem_map.mp hd
    obtain ⟨y, hy, rfl⟩ := List.mem_map.mp he
    obtain ⟨r, _, rfl⟩ := List.mem_map.mp hx
    obtain ⟨q, _, rfl⟩ := List.mem_map.mp hy
    rfl
  · obtain ⟨x, hx, rfl⟩ := List.mem_map.mp hd
    obtain ⟨r, _, rfl⟩ := List.mem_map.mp hx
    exact ⟨_, _, rfl⟩
end K01

namespace K01
open PySem L2 PD
theorem cut_mid {α : Type} (xs : List α) (a b : Nat) (hb : b ≤ xs.length) (hab : a ≤ b) : cutD xs (some (a : Int)) (some (b : Int)) = (xs.drop a).take (b - a) := by
  unfold cutD
  rw [HT.sIx_nat, HT.sIx_nat, Nat.min_eq_left (show a ≤ xs.length by omega), Nat.min_eq_left hb]
theorem slI {rs : List Int} {fa : Ev → Option D} {lo hi : Ev → Option (Option Int)} {ρ : Ev} {a b : Nat} (h : fa ρ = some (.lst (rs.map .int))) (h1 : lo ρ = some (some (a : Int))) (h2 : hi ρ = some (some (b : Int))) (hb : b ≤ rs.length) (hab : a ≤ b) : slc fa lo hi ρ = some (.lst (((rs.drop a).take (b - a)).map .int)) := by
  rw [slL_of h h1 h2, cut_mid _ a b (by rw [List.length_map]; exact hb) hab, ← List.map_drop, ← List.map_take]
theorem number_at (C : Cs) (rs : List Int) (m : Int) (a b : Nat) (hb : b ≤ rs.length) (hab : b = a + 14) (hr : ∀ r ∈ rs, 0 ≤ r ∧ r < 1000) : ∃ v : Int, m_law_number C [.lst (((rs.drop a).take (b - a)).map .int), .int m] = some (.int v) ∧ (m = 0 ∨ m = 1 → -1000000000000000000 < v ∧ v < 1000000000000000000) :=
  law_number_ex C _ m (by rw [List.length_take, List.length_drop]; omega) fun r h => hr r (List.mem_of_mem_drop (List.mem_of_mem_take h))
theorem call2 {fa fb : Ev → Option D} {ρ : Ev} {x y : D} {m : List D → Option D} (h : fa ρ = some x) (h2 : fb ρ = some y) : cB (aCons fa (aCons fb aNil)) (len? 2 m) ρ = m [x, y] := call_of (aC2 h h2) rfl
theorem srt_of {ds : List D} (h : SortOk ds) : srtO [.lst ds] = some (.lst ((ds.mergeSort leD).map .dat)) := by
  show (open Classical in if SortOk ds then some (O.lst ((ds.mergeSort leD).map O.dat)) else none) = _
  rw [if_pos h]
/-- the keys, sorted: in some order -/
theorem srt_pairs (ps : List (Int × Int)) (h : ps.length ≤ 1000) : ∃ qs : List (Int × Int), qs.Perm ps ∧ srtO [.lst (ps.map fun p => .tup [.int p.1, .int p.2])] = some (.lst (qs.map fun p => .dat (.tup [.int p.1, .int p.2]))) := by
  have hp := List.mergeSort_perm (ps.map fun p => D.tup [.int p.1, .int p.2]) leD
  obtain ⟨qs, hq, e⟩ : ∃ qs : List (Int × Int), qs.Perm ps ∧ (ps.map fun p => D.tup [.int p.1, .int p.2]).mergeSort leD = qs.map fun p => D.tup [.int p.1, .int p.2] :=
    ⟨ps.mergeSort (fun p q => leD (.tup [.int p.1, .int p.2]) (.tup [.int q.1, .int q.2])), List.mergeSort_perm _ _, (PySem.W.sort_maps (f := fun p : Int × Int => D.tup [.int p.1, .int p.2]) fun _ _ _ _ => rfl).symm⟩
  refine ⟨qs, hq, ?_⟩
  rw [srt_of (sortOk_pairs ps h), e, List.map_map]
  rfl
end K01

namespace K01
open PySem L2 PD
abbrev rl (rows : List Row) : O := .lst (rows.map fun r => O.dat (rowD r))
theorem toDs_rows : ∀ rows : List Row, O.toDs (rows.map fun r => O.dat (rowD r)) = some (rows.map rowD)
  | [] => rfl
  | r :: rows => by
    show (match O.toD (.dat (rowD r)), O.toDs (rows.map fun r => O.dat (rowD r)) with | some d, some ds => some (d :: ds) | _, _ => none) = _
    rw [toDs_rows rows]; rfl
theorem len_l (ls : List D) : lenD [.lst ls] = some (.int ls.length) := rfl
/-- the rows that are drawn: labels of the pool, each once -/
def Rows (ls : List Str) (m : Int) (rows : List Row) : Prop := (rows.map (·.l)).Nodup ∧ (∀ r ∈ rows, r.l ∈ ls) ∧ rows.length ≤ 59 ∧ (m = 0 ∨ m = 1 → ∀ r ∈ rows, -1000000000000000000 < r.c ∧ r.c < 1000000000000000000)
theorem ixStr {ls : List Str} {j : Nat} (h : j < ls.length) : ixD (.lst (ls.map .str)) (.int (j : Int)) = some (.str ls[j]) := by
  show atI (ls.map D.str) (j : Int) = _
  exact atI_nat (by rw [List.getElem?_map, List.getElem?_eq_getElem h]; rfl)
theorem keys_ex (rs : List Int) (hl : rs.length = 216) (ls : List Str) (hn : ls.length ≤ 59) (m : Int) (o : O) :
    ∃ qs : List (Int × Int), (qs.map (·.2)).Perm ((List.range ls.length).map fun (j : Nat) => (j : Int)) ∧
      iOf (frz (cO (aCons (lcD (rng1 (cB (aCons (gv 1) aNil) lenD)) (gN 5) yes (mkTup (aCons (b2 (cB (aCons (b2 (gv 0) (b2 (kI 1) (gv 5) addA) ixD) aNil) intD) (kI 3) divI) (aCons (gv 5) aNil))) [5]) aNil) srtO)) [.dat (.lst (rs.map .int)), .dat (.lst (ls.map .str)), .dat (.int m), o, .unk, .unk, .unk, .unk, .unk, .unk] = some (qs.map fun p => .tup [.int p.1, .int p.2]) := by
  have hc := comp_map (g := gN 5) (f := mkTup (aCons (b2 (cB (aCons (b2 (gv 0) (b2 (kI 1) (gv 5) addA) ixD) aNil) intD) (kI 3) divI) (aCons (gv 5) aNil))) (ρ := [.dat (.lst (rs.map .int)), .dat (.lst (ls.map .str)), .dat (.int m), o, .unk, .unk, .unk, .unk, .unk, .unk])
    (e := fun d => [.dat (.lst (rs.map .int)), .dat (.lst (ls.map .str)), .dat (.int m), o, .unk, .dat d, .unk, .unk, .unk, .unk]) (h := fun d => match d with | .int k => .tup [.int (rs.getD (1 + k).toNat 0 / 3), .int k] | _ => .non) (rangeD 0 ls.length) (fun d hd => by
      unfold rangeD at hd
      obtain ⟨j, hj, rfl⟩ := List.mem_map.mp hd
      have hj := List.mem_range.mp hj
      refine ⟨rfl, ?_⟩
      refine mkT_of (aC2 (x := .int (rs.getD (1 + (0 + (j : Int))).toNat 0 / 3)) (y := .int (0 + (j : Int))) (by (simp (disch := omega) only [b2, b1, cB, aCons, aNil, kI, kS, kB, kN, gv, asB, List.getElem?_cons_zero, List.getElem?_cons_succ, Option.bind_some, Option.map_some, List.set_cons_zero, List.set_cons_succ, ixI, mulL, mulR, addII, subII, modII, divII, intII, eqII, gtII, ltII, Int.zero_add])) rfl) (by simp))
  refine ?_
  have hperm := srt_pairs ((List.range ls.length).map fun (j : Nat) => (rs.getD (1 + (0 + (j : Int))).toNat 0 / 3, (0 + (j : Int)))) (by simp; omega)
  obtain ⟨qs, hq, es⟩ := hperm
  refine ⟨qs, ?_, ?_⟩
  · have := hq.map (·.2)
    rw [List.map_map] at this
    refine this.trans (List.Perm.of_eq ?_)
    apply List.map_congr_left
    intro j _
    show 0 + (j : Int) = j
    omega
  · refine iOf_of (x := .lst (qs.map fun p => .tup [.int p.1, .int p.2])) ?_ rfl
    have el : lcD (rng1 (cB (aCons (gv 1) aNil) lenD)) (gN 5) yes (mkTup (aCons (b2 (cB (aCons (b2 (gv 0) (b2 (kI 1) (gv 5) addA) ixD) aNil) intD) (kI 3) divI) (aCons (gv 5) aNil))) [5] [.dat (.lst (rs.map .int)), .dat (.lst (ls.map .str)), .dat (.int m), o, .unk, .unk, .unk, .unk, .unk, .unk] = some (.lst (((List.range ls.length).map fun (j : Nat) => (rs.getD (1 + (0 + (j : Int))).toNat 0 / 3, (0 + (j : Int)))).map fun p => .tup [.int p.1, .int p.2])) := by
      refine lcD_of (ds := rangeD 0 ls.length) rfl ?_ rfl (hc.trans ?_) (by simp; exact small_line (by omega))
      · refine rng1_of (n := ls.length) ?_ ?_
        · rw [cB_of' (aC1 rfl)]
          show some (D.int ((ls.map D.str).length : Int)) = _
          rw [List.length_map]
        · omega
      · congr 1
        unfold rangeD
        rw [List.map_map, List.map_map]
        rfl
    unfold frz cO
    rw [aC1 el, Option.bind_some, es, Option.bind_some]
    show (O.toDs _).map D.lst = _
    have : ∀ qs : List (Int × Int), O.toDs (qs.map fun p => O.dat (.tup [.int p.1, .int p.2])) = some (qs.map fun p => .tup [.int p.1, .int p.2]) := fun qs => by
      have := toDs_dat (qs.map fun p => D.tup [.int p.1, .int p.2])
      rwa [List.map_map] at this
    rw [this]; rfl
end K01

namespace K01
open PySem L2 PD
theorem law_rows_ex (C : Cs) (rs : List Int) (hl : rs.length = 216) (hr : ∀ r ∈ rs, 0 ≤ r ∧ r < 1000) (ls : List Str) (hp : Pool ls) (hn : ls.length ≤ 59) (m : Int) : ∃ rows : List Row, m_law_rows C [.lst (rs.map .int), .lst (ls.map .str), .int m] = some (.lst (rows.map rowD)) ∧ Rows ls m rows := by
  obtain ⟨d, e, rows, rfl, h⟩ : ∃ d, m_law_rows C [.lst (rs.map .int), .lst (ls.map .str), .int m] = some d ∧ ∃ rows : List Row, d = .lst (rows.map rowD) ∧ Rows ls m rows := by
    refine runP_of ?_
    unfold b_law_rows
    show Rn _ [.dat (.lst (rs.map .int)), .dat (.lst (ls.map .str)), .dat (.int m), .unk, .unk, .unk, .unk, .unk, .unk, .unk] _
    refine Rn.sq (Rn.stO (o := rl []) rfl ?_)
    show Rn _ [.dat (.lst (rs.map .int)), .dat (.lst (ls.map .str)), .dat (.int m), rl [], .unk, .unk, .unk, .unk, .unk, .unk] _
    refine Rn.sqN (P := fun ρ => ∃ m' : Int, ρ = [.dat (.lst (rs.map .int)), .dat (.lst (ls.map .str)), .dat (.int m'), rl [], .unk, .unk, .unk, .unk, .unk, .unk] ∧ (m = 0 ∨ m = 1 → m' = 0 ∨ m' = 1)) ?_ fun ρ hρ => ?_
    · refine Rn.ite (t := decide (rs.getD 0 0 % 3 = 0)) (by (simp (disch := omega) only [b2, b1, cB, aCons, aNil, kI, kS, kB, kN, gv, asB, List.getElem?_cons_zero, List.getElem?_cons_succ, Option.bind_some, Option.map_some, List.set_cons_zero, List.set_cons_succ, ixI, mulL, mulR, addII, subII, modII, divII, intII, eqII, gtII, ltII, Int.zero_add]); rfl) (fun _ => Rn.st (d := .int 0) rfl ⟨0, rfl, fun _ => .inl rfl⟩) fun _ => Rn.skip ⟨m, rfl, fun h => h⟩
    obtain ⟨m', rfl, hm⟩ := hρ
    obtain ⟨qs, hq, eq⟩ := keys_ex rs hl ls hn m' (rl [])
    have qlen : qs.length = ls.length := by have := hq.length_eq; simpa using this
    have qmem : ∀ p ∈ qs, ∃ j : Nat, p.2 = (j : Int) ∧ j < ls.length := fun p hp => by
      have : p.2 ∈ (List.range ls.length).map fun (j : Nat) => (j : Int) := hq.mem_iff.mp (List.mem_map_of_mem hp)
      obtain ⟨j, hj, e⟩ := List.mem_map.mp this
      exact ⟨j, e.symm, List.mem_range.mp hj⟩
    have qnd : (qs.map (·.2)).Nodup := hq.nodup_iff.mpr (by
      refine List.pairwise_map.mpr (List.Pairwise.imp ?_ List.nodup_range)
      intro a b h z
      exact h (Int.ofNat.inj z))
    refine Rn.sqN (P := fun ρ => ∃ (rows : List Row) (x1 x2 x3 x4 x5 x6 : O), ρ = [.dat (.lst (rs.map .int)), .dat (.lst (ls.map .str)), .dat (.int m'), rl rows, x1, x2, x3, x4, x5, x6] ∧ Rows ls m rows) ?_ fun ρ hρ => ?_
    · refine Rn.for eq (fun i ρ => ∃ (rows : List Row) (x1 x2 x3 x4 x5 x6 : O), ρ = [.dat (.lst (rs.map .int)), .dat (.lst (ls.map .str)), .dat (.int m'), rl rows, x1, x2, x3, x4, x5, x6] ∧
          (∃ js : List Nat, (js.map fun (j : Nat) => (j : Int)).Sublist ((qs.take i).map (·.2)) ∧ rows.map (·.l) = js.map fun j => ls.getD j "") ∧ rows.length ≤ i ∧ (m = 0 ∨ m = 1 → ∀ r ∈ rows, -1000000000000000000 < r.c ∧ r.c < 1000000000000000000))
        ⟨[], _, _, _, _, _, _, rfl, ⟨[], List.Sublist.refl _, rfl⟩, Nat.le_refl _, fun _ r h => nomatch h⟩ (fun i d ρ hd hI => ?_) (fun ρ hI => ?_)
      · obtain ⟨rows, x1, x2, x3, x4, x5, x6, rfl, ⟨js, hs, hj⟩, hlen, hc⟩ := hI
        rw [List.getElem?_map] at hd
        obtain ⟨p, hp', rfl⟩ := Option.map_eq_some_iff.mp hd
        have hi : i < qs.length := (List.getElem?_eq_some_iff.mp hp').1
        obtain ⟨k, ek, hk⟩ := qmem p (List.mem_of_getElem? hp')
        obtain ⟨p1, p2⟩ := p
        simp only at ek
        subst ek
        have tk : qs.take (i + 1) = qs.take i ++ [(p1, (k : Int))] := by
          rw [List.take_succ, hp']; rfl
        refine ⟨_, rfl, ?_⟩
        show Rn _ [.dat (.lst (rs.map .int)), .dat (.lst (ls.map .str)), .dat (.int m'), rl rows, .dat (.tup [.int p1, .int k]), x2, x3, x4, x5, x6] _
        refine Rn.sq (Rn.st (d := .int k) rfl ?_)
        show Rn _ [.dat (.lst (rs.map .int)), .dat (.lst (ls.map .str)), .dat (.int m'), rl rows, .dat (.tup [.int p1, .int k]), .dat (.int k), x3, x4, x5, x6] _
        refine Rn.sq (Rn.st (d := .int (6 + 42 * ((k : Int) % 5))) (by (simp (disch := omega) only [b2, b1, cB, aCons, aNil, kI, kS, kB, kN, gv, asB, List.getElem?_cons_zero, List.getElem?_cons_succ, Option.bind_some, Option.map_some, List.set_cons_zero, List.set_cons_succ, ixI, mulL, mulR, addII, subII, modII, divII, intII, eqII, gtII, ltII, Int.zero_add])) ?_)
        obtain ⟨a, ha, ha2⟩ : ∃ a : Nat, 6 + 42 * ((k : Int) % 5) = (a : Int) ∧ a + 42 ≤ 216 := ⟨6 + 42 * (k % 5), by omega, by omega⟩
        rw [ha]
        show Rn _ [.dat (.lst (rs.map .int)), .dat (.lst (ls.map .str)), .dat (.int m'), rl rows, .dat (.tup [.int p1, .int k]), .dat (.int k), .dat (.int a), x4, x5, x6] _
        refine Rn.ite (t := decide (0 < rs.getD (1 + (k : Int)).toNat 0 % 3)) (by (simp (disch := omega) only [b2, b1, cB, aCons, aNil, kI, kS, kB, kN, gv, asB, List.getElem?_cons_zero, List.getElem?_cons_succ, Option.bind_some, Option.map_some, List.set_cons_zero, List.set_cons_succ, ixI, mulL, mulR, addII, subII, modII, divII, intII, eqII, gtII, ltII, Int.zero_add])) (fun _ => ?_) fun _ => Rn.skip ⟨rows, _, _, _, _, _, _, rfl, ⟨js, hs.trans (by rw [tk, List.map_append]; exact List.sublist_append_left _ _), hj⟩, by omega, hc⟩
        obtain ⟨v1, e1, _⟩ := number_at C rs m' a (a + 14) (by omega) rfl hr
        obtain ⟨v2, e2, _⟩ := number_at C rs m' (a + 14) (a + 28) (by omega) rfl hr
        obtain ⟨v3, e3, b3⟩ := number_at C rs m' (a + 28) (a + 42) (by omega) rfl hr
        have pa : ∀ (ρ : Ev) (z : Int) (n : Nat), z = (n : Int) → gv 6 ρ = some (.int a) → part (b2 (gv 6) (kI z) addA) ρ = some (some ((a + n : Nat) : Int)) := fun ρ z n hz h => by subst hz; exact part_of (by rw [b2_of h rfl]; rfl)
        refine Rn.sq (Rn.st (d := .int (v1 + (k : Int) / 5)) (by
          rw [b2_of (x := .int v1) (y := .int ((k : Int) / 5)) ((call2 (slI (a := a) (b := a + 14) rfl (part_of rfl) (pa _ 14 14 rfl rfl) (by omega) (by omega)) rfl).trans e1) (by (simp (disch := omega) only [b2, b1, cB, aCons, aNil, kI, kS, kB, kN, gv, asB, List.getElem?_cons_zero, List.getElem?_cons_succ, Option.bind_some, Option.map_some, List.set_cons_zero, List.set_cons_succ, ixI, mulL, mulR, addII, subII, modII, divII, intII, eqII, gtII, ltII, Int.zero_add]))]
          rfl) ?_)
        show Rn _ [.dat (.lst (rs.map .int)), .dat (.lst (ls.map .str)), .dat (.int m'), rl rows, .dat (.tup [.int p1, .int k]), .dat (.int k), .dat (.int a), .dat (.int (v1 + (k : Int) / 5)), x5, x6] _
        generalize v1 + (k : Int) / 5 = lo
        refine Rn.sq (Rn.st (d := .int (v2 + (k : Int) / 5)) (by
          rw [b2_of (x := .int v2) (y := .int ((k : Int) / 5)) ((call2 (slI (a := a + 14) (b := a + 28) rfl (pa _ 14 14 rfl rfl) (pa _ 28 28 rfl rfl) (by omega) (by omega)) rfl).trans e2) (by (simp (disch := omega) only [b2, b1, cB, aCons, aNil, kI, kS, kB, kN, gv, asB, List.getElem?_cons_zero, List.getElem?_cons_succ, Option.bind_some, Option.map_some, List.set_cons_zero, List.set_cons_succ, ixI, mulL, mulR, addII, subII, modII, divII, intII, eqII, gtII, ltII, Int.zero_add]))]
          rfl) ?_)
        show Rn _ [.dat (.lst (rs.map .int)), .dat (.lst (ls.map .str)), .dat (.int m'), rl rows, .dat (.tup [.int p1, .int k]), .dat (.int k), .dat (.int a), .dat (.int lo), .dat (.int (v2 + (k : Int) / 5)), x6] _
        generalize v2 + (k : Int) / 5 = hi'
        refine Rn.sq (Rn.st (d := .int v3) ((call2 (slI (a := a + 28) (b := a + 42) rfl (pa _ 28 28 rfl rfl) (pa _ 42 42 rfl rfl) (by omega) (by omega)) rfl).trans e3) ?_)
        show Rn _ [.dat (.lst (rs.map .int)), .dat (.lst (ls.map .str)), .dat (.int m'), rl rows, .dat (.tup [.int p1, .int k]), .dat (.int k), .dat (.int a), .dat (.int lo), .dat (.int hi'), .dat (.int v3)] _
        have fin : ∀ (u w : Int) (f : Ev → Option D), f [.dat (.lst (rs.map .int)), .dat (.lst (ls.map .str)), .dat (.int m'), rl rows, .dat (.tup [.int p1, .int k]), .dat (.int k), .dat (.int a), .dat (.int lo), .dat (.int hi'), .dat (.int v3)] = some (rowD ⟨ls[k], u, w, v3⟩) →
            Rn (app 3 f) [.dat (.lst (rs.map .int)), .dat (.lst (ls.map .str)), .dat (.int m'), rl rows, .dat (.tup [.int p1, .int k]), .dat (.int k), .dat (.int a), .dat (.int lo), .dat (.int hi'), .dat (.int v3)] fun r => match r with
              | .nx ρ2 => ∃ (rows : List Row) (x1 x2 x3 x4 x5 x6 : O), ρ2 = [.dat (.lst (rs.map .int)), .dat (.lst (ls.map .str)), .dat (.int m'), rl rows, x1, x2, x3, x4, x5, x6] ∧
                (∃ js : List Nat, (js.map fun (j : Nat) => (j : Int)).Sublist ((qs.take (i + 1)).map (·.2)) ∧ rows.map (·.l) = js.map fun j => ls.getD j "") ∧ rows.length ≤ i + 1 ∧ (m = 0 ∨ m = 1 → ∀ r ∈ rows, -1000000000000000000 < r.c ∧ r.c < 1000000000000000000)
              | _ => False := fun u w f hf => by
          refine Rn.app hf rfl (by rw [List.length_map]; exact Nat.lt_of_lt_of_le (show rows.length < 1000 by omega) (by decide)) ?_
          refine ⟨rows ++ [⟨ls[k], u, w, v3⟩], .dat (.tup [.int p1, .int k]), .dat (.int k), .dat (.int a), .dat (.int lo), .dat (.int hi'), .dat (.int v3), by simp only [rl, List.map_append]; rfl, ⟨js ++ [k], ?_, ?_⟩, by simp; omega, fun hm0 r hr' => ?_⟩
          · rw [tk, List.map_append, List.map_append]
            exact List.Sublist.append hs (List.Sublist.refl _)
          · rw [List.map_append, List.map_append, hj]
            simp [hk]
          · rcases List.mem_append.mp hr' with h | h
            · exact hc hm0 r h
            · simp at h; subst h; exact b3 (hm hm0)
        refine Rn.ite (t := decide (rs.getD 0 0 / 3 % 2 = 0)) (by (simp (disch := omega) only [b2, b1, cB, aCons, aNil, kI, kS, kB, kN, gv, asB, List.getElem?_cons_zero, List.getElem?_cons_succ, Option.bind_some, Option.map_some, List.set_cons_zero, List.set_cons_succ, ixI, mulL, mulR, addII, subII, modII, divII, intII, eqII, gtII, ltII, Int.zero_add]); rfl) (fun _ => ?_) fun _ => ?_
        · refine (fin (if hi' < lo then hi' else lo) (if hi' > lo then hi' else lo) _ ?_).mono (fun r h => by cases r <;> first | exact h | exact h.elim)
          refine mkT_of (aC (by rw [b2_of rfl rfl]; exact ixStr hk) (aC ?_ (aC ?_ (aC1 rfl)))) (by simp)
          · rw [cB_of' (aC2 rfl rfl)]; rfl
          · rw [cB_of' (aC2 rfl rfl)]; rfl
        · refine (fin lo hi' _ ?_).mono (fun r h => by cases r <;> first | exact h | exact h.elim)
          exact mkT_of (aC (by rw [b2_of rfl rfl]; exact ixStr hk) (aC rfl (aC rfl (aC1 rfl)))) (by simp)
      · obtain ⟨rows, x1, x2, x3, x4, x5, x6, rfl, ⟨js, hs, hj⟩, hlen, hc⟩ := hI
        rw [List.length_map] at hs hlen
        rw [List.take_length] at hs
        have jlt : ∀ j ∈ js, j < ls.length := fun j hj' => by
          have : (j : Int) ∈ qs.map (·.2) := hs.subset (List.mem_map_of_mem hj')
          obtain ⟨p, hp', e⟩ := List.mem_map.mp this
          obtain ⟨k, ek, hk⟩ := qmem p hp'
          omega
        have jnd : js.Nodup := by
          have := qnd.sublist hs
          exact (List.pairwise_map.mp this).imp fun {a b} h z => h (by rw [z])
        refine ⟨rows, _, _, _, _, _, _, rfl, ?_, fun r hr' => ?_, by omega, hc⟩
        · rw [hj]
          refine List.pairwise_map.mpr ?_
          refine jnd.imp_of_mem ?_
          intro a b ha hb hab z
          have la := jlt a ha
          have lb := jlt b hb
          simp only [List.getD_eq_getElem?_getD, List.getElem?_eq_getElem la, List.getElem?_eq_getElem lb, Option.getD_some] at z
          have pw := List.pairwise_iff_getElem.mp hp.1
          rcases Nat.lt_trichotomy a b with h | h | h
          · exact pw a b la lb h z
          · exact hab h
          · exact pw b a lb la h z.symm
        · have : r.l ∈ rows.map (·.l) := List.mem_map_of_mem hr'
          rw [hj] at this
          obtain ⟨j, hj', e⟩ := List.mem_map.mp this
          have lj := jlt j hj'
          rw [← e]
          simp only [List.getD_eq_getElem?_getD, List.getElem?_eq_getElem lj, Option.getD_some]
          exact List.getElem_mem lj
    obtain ⟨rows, x1, x2, x3, x4, x5, x6, rfl, hR⟩ := hρ
    refine Rn.fz (o := rl rows) (d := .lst (rows.map rowD)) rfl (by show (O.toDs _).map _ = _; rw [toDs_rows]; rfl) ?_
    refine Rn.ret (d := .lst (rows.map rowD)) rfl ?_
    exact ⟨_, _, rfl, rfl, rows, rfl, hR⟩
  exact ⟨rows, e, h⟩
end K01

namespace K01
open PySem L2 PD
def rle (p q : Row) : Bool := leD (rowD p) (rowD q)
def srt (rows : List Row) : List Row := rows.mergeSort rle
theorem leD_total : PySem.W.TotalLe leD := PySem.W.sortLe_total (PyProof.Rows.listOrd PyProof.Rows.itemOrd) false fun d => PySem.W.keyToks (pyT d)
theorem rle_total : PySem.W.TotalLe rle := ⟨fun a b c => leD_total.trans _ _ _, fun a b => leD_total.total _ _⟩
theorem codes_inj {x y : Str} (h : x.cps.toList = y.cps.toList) : x = y := (str_eq x y).mpr h
theorem rle_anti {p q : Row} (h1 : rle p q = true) (h2 : rle q p = true) : p = q := by
  have e : PySem.W.keyToks (pyT (rowD q)) = PySem.W.keyToks (pyT (rowD p)) := by
    refine (PyProof.Rows.KeyOrd.total (PyProof.Rows.listOrd PyProof.Rows.itemOrd) _ _ ?_ ?_)
    · have : (!(PyProof.Rows.listOrd PyProof.Rows.itemOrd).blt (PySem.W.keyToks (pyT (rowD q))) (PySem.W.keyToks (pyT (rowD p)))) = true := h1
      simpa using this
    · have : (!(PyProof.Rows.listOrd PyProof.Rows.itemOrd).blt (PySem.W.keyToks (pyT (rowD p))) (PySem.W.keyToks (pyT (rowD q)))) = true := h2
      simpa using this
  obtain ⟨l, a, b, c⟩ := p
  obtain ⟨l', a', b', c'⟩ := q
  have e : ([Sum.inl 1, Sum.inr l'.cps.toList, Sum.inl 1, Sum.inl a', Sum.inl 1, Sum.inl b', Sum.inl 1, Sum.inl c', Sum.inl 0] : List (Int ⊕ List Nat)) = [Sum.inl 1, Sum.inr l.cps.toList, Sum.inl 1, Sum.inl a, Sum.inl 1, Sum.inl b, Sum.inl 1, Sum.inl c, Sum.inl 0] := e
  simp only [List.cons.injEq, Sum.inl.injEq, Sum.inr.injEq, true_and, and_true] at e
  obtain ⟨h1, h2, h3, h4⟩ := e
  rw [codes_inj h1, h2, h3, h4]
theorem srt_perm (rows : List Row) : (srt rows).Perm rows := List.mergeSort_perm _ _
theorem srt_eq {a b : List Row} (h : a.Perm b) : srt a = srt b := by
  refine List.Perm.eq_of_pairwise (le := fun x y => rle x y = true) (fun x y _ _ h1 h2 => rle_anti h1 h2) (PySem.W.sort_pairwise rle_total a) (PySem.W.sort_pairwise rle_total b) ?_
  exact (srt_perm a).trans (h.trans (srt_perm b).symm)
theorem srt_ne {a b : List Row} (h : srt a = srt b) : a.Perm b := (srt_perm a).symm.trans (h ▸ srt_perm b)
theorem srt_map (rows : List Row) : (rows.map rowD).mergeSort leD = (srt rows).map rowD := (PySem.W.sort_maps (f := rowD) fun _ _ _ _ => rfl).symm
theorem srtO_rows (rows : List Row) (h : rows.length ≤ 1000) : srtO [.lst (rows.map rowD)] = some (.lst ((srt rows).map fun r => .dat (rowD r))) := by
  rw [srt_of (sortOk_rows rows h), srt_map, List.map_map]
  rfl
theorem srt_len (rows : List Row) : (srt rows).length = rows.length := (srt_perm rows).length_eq
theorem srt_srt (rows : List Row) : srt (srt rows) = srt rows := srt_eq (srt_perm rows)
/-- the object -/
def shD (C : Cs) (rows : List Row) : D := .obj C.Shift ["rows"] [.tup ((srt rows).map rowD)]
/-- frozen sorted -/
theorem frz_srt {fa : Ev → Option D} {ρ : Ev} {rows : List Row} (h : fa ρ = some (.lst (rows.map rowD))) (hl : rows.length ≤ 1000) : frz (cO (aCons fa aNil) srtO) ρ = some (.lst ((srt rows).map rowD)) := by
  unfold frz cO
  rw [aC1 h, Option.bind_some, srtO_rows rows hl, Option.bind_some]
  show (O.toDs _).map D.lst = _
  rw [toDs_rows]; rfl
theorem rowD_inj {p q : Row} (h : rowD p = rowD q) : p = q := by
  obtain ⟨l, a, b, c⟩ := p
  obtain ⟨l', a', b', c'⟩ := q
  unfold rowD at h
  simp only [D.tup.injEq, List.cons.injEq, D.str.injEq, D.int.injEq, and_true] at h
  obtain ⟨h1, h2, h3, h4⟩ := h
  rw [h1, h2, h3, h4]
end K01

namespace K01
open PySem L2 PD
theorem lc_tup {fi : Ev → Option (List D)} {ρ : Ev} {rows : List Row} (hw : okW ρ [2] = true) (h2 : ρ.length = 3) (hi : fi ρ = some (rows.map rowD)) (hl : rows.length ≤ 1000) :
    lcD fi (gN 2) yes (cB (aCons (gv 2) aNil) tupD) [2] ρ = some (.lst (rows.map rowD)) := by
  refine lc_map rowD hw hi (by omega) fun r _ => ⟨_, rfl, ?_⟩
  match ρ, h2 with
  | [a, b, c], _ => rfl
theorem init_ev {fi : Ev → Option (List D)} {ρ : Ev} {rows : List Row} {x : O} (hw : okW ρ [2] = true) (h2 : ρ = [.obj x1 [] [], x, .unk]) (hi : fi ρ = some (rows.map rowD)) (hl : rows.length ≤ 1000) :
    thaw (cB (aCons (frz (cO (aCons (lcD fi (gN 2) yes (cB (aCons (gv 2) aNil) tupD) [2]) aNil) srtO)) aNil) tupD) ρ = some (.dat (.tup ((srt rows).map rowD))) := by
  have e := lc_tup hw (by rw [h2]; rfl) hi hl
  have e2 := frz_srt e hl
  (simp (disch := first | assumption | omega) only [e2, MV])
/-- what Shift(rows) makes -/
abbrev shO (C : Cs) (rows : List Row) : O := .obj C.Shift ["rows"] [.dat (.tup ((srt rows).map rowD))]
theorem shO_toD (C : Cs) (rows : List Row) : (shO C rows).toD = some (shD C rows) := rfl
theorem init_lst (C : Cs) (rows : List Row) (hl : rows.length ≤ 1000) : mShift_init C [.lst (rows.map rowD)] = some (shO C rows) := by
  have e := init_ev (fi := iOf (gv 1)) (ρ := envI C.Shift 3 [.lst (rows.map rowD)]) (x := .dat (.lst (rows.map rowD))) rfl rfl rfl hl
  unfold mShift_init runI
  show (put C.Shift 0 "rows" _ _).bind outI = _
  unfold put
  rw [e]
  show (if C.Shift = C.Shift ∧ _ then _ else _ : Option Fl).bind outI = _
  rw [if_pos ⟨rfl, by decide⟩]
  rfl
theorem init_tup (C : Cs) (rows : List Row) (hl : rows.length ≤ 1000) : mShift_init C [.tup (rows.map rowD)] = some (shO C rows) := by
  have e := init_ev (fi := iOf (gv 1)) (ρ := envI C.Shift 3 [.tup (rows.map rowD)]) (x := .dat (.tup (rows.map rowD))) rfl rfl rfl hl
  unfold mShift_init runI
  show (put C.Shift 0 "rows" _ _).bind outI = _
  unfold put
  rw [e]
  show (if C.Shift = C.Shift ∧ _ then _ else _ : Option Fl).bind outI = _
  rw [if_pos ⟨rfl, by decide⟩]
  rfl
theorem datsO_map : ∀ ds : List D, datsO (ds.map .dat) = some ds
  | [] => rfl
  | d :: ds => by
    show datsO (.dat d :: ds.map .dat) = _
    unfold datsO
    rw [datsO_map ds]; rfl
theorem init_own (C : Cs) (rows : List Row) (hl : rows.length ≤ 1000) : mShift_init__L1 C [.obj C.Shift [] [], .dats (rows.map rowD)] = some (.dat .non, [shO C rows, .dats (rows.map rowD)]) := by
  have e := init_ev (fi := ownI 1) (ρ := [.obj C.Shift [] [], .dats (rows.map rowD), .unk]) (x := .dats (rows.map rowD)) (rows := rows) rfl rfl (by show datsO ((rows.map rowD).map .dat) = _; exact datsO_map _) hl
  unfold mShift_init__L1 runB
  show (put C.Shift 0 "rows" _ [.obj C.Shift [] [], .dats (rows.map rowD), .unk]).bind _ = _
  unfold put
  rw [e]
  show (if C.Shift = C.Shift ∧ _ then _ else _ : Option Fl).bind _ = _
  rw [if_pos ⟨rfl, by decide⟩]
  rfl
/-! never -/
theorem any_bls (bs : List Bool) : anyD [.lst (bs.map .bl)] = some (.bl (bs.any id)) := by
  show (bls (bs.map .bl)).map _ = _
  rw [bls_map]; rfl
def neverR (rows : List Row) : Bool := rows.any fun r => decide (r.b < r.a)
theorem fld_rows (C : Cs) (rows : List Row) : fldD C.Shift "rows" (shD C rows) = some (.tup ((srt rows).map rowD)) := by
  show (if C.Shift = C.Shift then _ else _) = _
  rw [if_pos rfl]; rfl
theorem isi_sh (C : Cs) (rows : List Row) : isiC [(C.Shift, true)] (shD C rows) = some (.bl true) := by
  show ([(C.Shift, true)].lookup C.Shift).map _ = _
  simp [List.lookup]
theorem never_eq (C : Cs) (rows : List Row) (hl : rows.length ≤ 1000) : mShift_never C [shD C rows] = some (.bl (neverR rows)) := by
  unfold mShift_never
  refine runP_eq ?_
  show Rn _ [.dat (shD C rows), .unk, .unk, .unk, .unk] _
  have e := lc_map (fi := iOf (b1 (gv 0) (fldD C.Shift "rows"))) (gt := gT 4 (gsC (gN 1) (gsC (gN 2) (gsC (gN 3) (gsC (gN 4) gsN))))) (f := b2 (gv 2) (gv 3) gtI) (vs := [1, 2, 3, 4]) (ρ := [.dat (shD C rows), .unk, .unk, .unk, .unk]) (φ := rowD) (fun r => .bl (decide (r.b < r.a))) (xs := srt rows) rfl (by (simp (disch := first | assumption | omega) only [fld_rows, MV])) (by rw [srt_len]; omega) (fun r _ => ⟨_, rfl, rfl⟩)
  refine Rn.ret (d := .bl (neverR rows)) ?_ ⟨_, rfl, rfl⟩
  (simp (disch := first | assumption | omega) only [e, MV])
  have : (srt rows).map (fun r => D.bl (decide (r.b < r.a))) = ((srt rows).map fun r => decide (r.b < r.a)).map .bl := by rw [List.map_map]; rfl
  rw [this, any_bls, List.any_map]
  congr 2
  unfold neverR
  rw [Bool.eq_iff_iff, List.any_eq_true, List.any_eq_true]
  constructor
  · rintro ⟨r, h1, h2⟩; exact ⟨r, (srt_perm rows).mem_iff.mp h1, h2⟩
  · rintro ⟨r, h1, h2⟩; exact ⟨r, (srt_perm rows).mem_iff.mpr h1, h2⟩
/-! _law_same of a thing and itself -/
def sm : Nat → D → Prop
  | 0, _ => False
  | n + 1, d => match d with
    | .lst xs => xs.length ≤ 1000000 ∧ ∀ x ∈ xs, sm n x
    | .tup xs => xs.length ≤ 1000000 ∧ ∀ x ∈ xs, sm n x
    | .dic _ _ => False
    | .obj _ _ _ => False
    | _ => True
theorem same_loop (C : Cs) (n : Nat) (x : D) (xs : List D) (fi : Ev → Option (List D)) (hf : fi [.dat x, .dat x, .unk] = some (rangeD 0 xs.length)) (ih : ∀ d ∈ xs, m_law_same C n [d, d] = some (.bl true)) (hx : ∀ i : Nat, (h : i < xs.length) → ixD x (.int i) = some xs[i]) :
    Rn (sq (forS fi (gN 2) (ifS (notT (asB (cB (aCons (b2 (gv 0) (gv 2) ixD) (aCons (b2 (gv 1) (gv 2) ixD) aNil)) (len? 2 (m_law_same C n))))) (rtV (kB false)) skip)) (rtV (kB true))) [.dat x, .dat x, .unk] fun r => ∃ o, outO r = some o ∧ o.toD = some (.bl true) := by
  refine Rn.sqforR (lo := 0) (n := xs.length) hf (fun i ρ => ∃ o, ρ = [.dat x, .dat x, o]) ⟨_, rfl⟩ (fun i hi ρ hI => ?_) (fun ρ hI => ?_)
  · obtain ⟨o, rfl⟩ := hI
    refine ⟨_, rfl, ?_⟩
    have e := hx i hi
    have e2 := ih xs[i] (List.getElem_mem hi)
    refine Rn.ite (t := false) ?_ (fun h => nomatch h) fun _ => Rn.skip ⟨_, rfl⟩
    show notT _ [.dat x, .dat x, .dat (.int (0 + (i : Int)))] = _
    rw [Int.zero_add]
    (simp (disch := first | assumption | omega) only [e, e2, MV])
  · obtain ⟨o, rfl⟩ := hI
    exact Rn.ret rfl ⟨_, rfl, rfl⟩
theorem same_none (C : Cs) (n : Nat) : m_law_same C (n + 1) [.non, .non] = some (.bl true) := by
  rw [m_law_same]
  refine runP_eq ?_
  exact Rn.sqifT (ρ := [.dat .non, .dat .non, .unk]) (by (simp (disch := first | assumption | omega) only [MV])) (Rn.sqret (d := .bl true) (by (simp (disch := first | assumption | omega) only [MV])) ⟨_, rfl, rfl⟩)
theorem same_bl (C : Cs) (n : Nat) (b : Bool) : m_law_same C (n + 1) [.bl b, .bl b] = some (.bl true) := by
  rw [m_law_same]
  refine runP_eq ?_
  exact Rn.chk (ρ := [.dat (.bl b), .dat (.bl b), .unk]) (by (simp (disch := first | assumption | omega) only [MV])) (Rn.sqifT (by (simp (disch := first | assumption | omega) only [MV])) (Rn.sqret (d := .bl true) (by (simp (disch := first | assumption | omega) only [MV]) <;> simp) ⟨_, rfl, rfl⟩))
theorem same_int (C : Cs) (n : Nat) (b : Int) : m_law_same C (n + 1) [.int b, .int b] = some (.bl true) := by
  rw [m_law_same]
  refine runP_eq ?_
  exact Rn.chk (ρ := [.dat (.int b), .dat (.int b), .unk]) (by (simp (disch := first | assumption | omega) only [MV])) (Rn.chk (by (simp (disch := first | assumption | omega) only [MV])) (Rn.sqifT (by (simp (disch := first | assumption | omega) only [MV])) (Rn.sqret (d := .bl true) (by (simp (disch := first | assumption | omega) only [MV]) <;> simp) ⟨_, rfl, rfl⟩)))
theorem same_s (C : Cs) (n : Nat) (b : Str) : m_law_same C (n + 1) [.str b, .str b] = some (.bl true) := by
  rw [m_law_same]
  refine runP_eq ?_
  exact Rn.chk (ρ := [.dat (.str b), .dat (.str b), .unk]) (by (simp (disch := first | assumption | omega) only [MV])) (Rn.chk (by (simp (disch := first | assumption | omega) only [MV])) (Rn.chk (by (simp (disch := first | assumption | omega) only [MV])) (Rn.sqifT (by (simp (disch := first | assumption | omega) only [MV])) (Rn.sqret (d := .bl true) (by (simp (disch := first | assumption | omega) only [MV]) <;> simp) ⟨_, rfl, rfl⟩))))
theorem same_lst (C : Cs) (n : Nat) (xs : List D) (hh : xs.length ≤ 1000000) (ih : ∀ d ∈ xs, m_law_same C n [d, d] = some (.bl true)) : m_law_same C (n + 1) [.lst xs, .lst xs] = some (.bl true) := by
  rw [m_law_same]
  refine runP_eq ?_
  refine Rn.chk (ρ := [.dat (.lst xs), .dat (.lst xs), .unk]) (by (simp (disch := first | assumption | omega) only [MV])) (Rn.chk (by (simp (disch := first | assumption | omega) only [MV])) (Rn.chk (by (simp (disch := first | assumption | omega) only [MV])) (Rn.chk (by (simp (disch := first | assumption | omega) only [MV])) (Rn.chk (by (simp (disch := first | assumption | omega) only [MV])) (Rn.chk (by (simp (disch := first | assumption | omega) only [MV]) <;> simp) ?_)))))
  exact same_loop C n (.lst xs) xs _ (by (simp (disch := first | assumption | omega) only [MV]) <;> rfl) ih (fun i hi => by show atI xs (i : Int) = _; exact at_get hi)
theorem same_tup (C : Cs) (n : Nat) (xs : List D) (hh : xs.length ≤ 1000000) (ih : ∀ d ∈ xs, m_law_same C n [d, d] = some (.bl true)) : m_law_same C (n + 1) [.tup xs, .tup xs] = some (.bl true) := by
  rw [m_law_same]
  refine runP_eq ?_
  refine Rn.chk (ρ := [.dat (.tup xs), .dat (.tup xs), .unk]) (by (simp (disch := first | assumption | omega) only [MV])) (Rn.chk (by (simp (disch := first | assumption | omega) only [MV])) (Rn.chk (by (simp (disch := first | assumption | omega) only [MV])) (Rn.chk (by (simp (disch := first | assumption | omega) only [MV])) (Rn.chk (by (simp (disch := first | assumption | omega) only [MV])) (Rn.chk (by (simp (disch := first | assumption | omega) only [MV]) <;> simp) ?_)))))
  exact same_loop C n (.tup xs) xs _ (by (simp (disch := first | assumption | omega) only [MV]) <;> rfl) ih (fun i hi => by show atI xs (i : Int) = _; exact at_get hi)
theorem same_self (C : Cs) (n : Nat) : ∀ d : D, sm n d → m_law_same C n [d, d] = some (.bl true) := by
  induction n with
  | zero => intro d h; exact h.elim
  | succ n ih =>
    intro d h
    cases d with
    | non => exact same_none C n
    | bl b => exact same_bl C n b
    | int b => exact same_int C n b
    | str b => exact same_s C n b
    | lst xs => exact same_lst C n xs h.1 fun d hd => ih d (h.2 d hd)
    | tup xs => exact same_tup C n xs h.1 fun d hd => ih d (h.2 d hd)
    | dic _ _ => exact h.elim
    | obj _ _ _ => exact h.elim
end K01

namespace K01
open PySem L2 PD
instance : Inhabited Row := ⟨⟨"", 0, 0, 0⟩⟩
noncomputable def eqR (a b : List Row) : Bool := @decide (a = b) (Classical.propDecidable _)
theorem eqR_iff {a b : List Row} : eqR a b = true ↔ a = b := by unfold eqR; exact @decide_eq_true_iff _ (Classical.propDecidable _)
theorem sm_row (n : Nat) (r : Row) : sm (n + 2) (rowD r) := by
  refine ⟨show 4 ≤ 1000000 by decide, fun x hx => ?_⟩
  simp only [List.mem_cons, List.not_mem_nil, or_false] at hx
  rcases hx with rfl | rfl | rfl | rfl <;> trivial
theorem sm_tup (rows : List Row) (h : rows.length ≤ 1000) : sm 5 (.tup (rows.map rowD)) := by
  refine ⟨by rw [List.length_map]; omega, fun x hx => ?_⟩
  obtain ⟨r, _, rfl⟩ := List.mem_map.mp hx
  exact sm_row 2 r
theorem sm_lst (rows : List Row) (h : rows.length ≤ 1000) : sm 5 (.lst (rows.map rowD)) := by
  refine ⟨by rw [List.length_map]; omega, fun x hx => ?_⟩
  obtain ⟨r, _, rfl⟩ := List.mem_map.mp hx
  exact sm_row 2 r
theorem pr_never (C : Cs) (rows : List Row) : prC C.Shift (mShift_never C) (shD C rows) = mShift_never C [shD C rows] := by
  show (if C.Shift = C.Shift then _ else _) = _
  rw [if_pos rfl]; rfl
theorem any_len (rows : List Row) : decide (0 < ((rows.filter fun r => decide (r.b < r.a)).length : Int)) = neverR rows := by
  unfold neverR
  rw [Bool.eq_iff_iff, decide_eq_true_eq, List.any_eq_true]
  constructor
  · intro h
    obtain ⟨x, hx⟩ := List.exists_mem_of_length_pos (show 0 < (rows.filter fun r => decide (r.b < r.a)).length by omega)
    exact ⟨x, (List.mem_filter.mp hx).1, (List.mem_filter.mp hx).2⟩
  · rintro ⟨x, hx, h⟩
    have := List.length_pos_of_mem (List.mem_filter (p := fun r : Row => decide (r.b < r.a)).mpr ⟨hx, h⟩)
    omega
theorem shown_true (C : Cs) {a b : List Row} (hp : a.Perm b) (hl : b.length ≤ 1000) : m_law_shown C [shD C a, .lst (b.map rowD)] = some (.bl true) := by
  have la : a.length ≤ 1000 := by rw [hp.length_eq]; exact hl
  unfold m_law_shown
  refine runP_eq ?_
  show Rn _ [.dat (shD C a), .dat (.lst (b.map rowD)), .unk] _
  have e1 := frz_srt (fa := gv 1) (ρ := [.dat (shD C a), .dat (.lst (b.map rowD)), .unk]) (rows := b) rfl hl
  have e2 := same_self C 5 _ (sm_tup (srt a) (by rw [srt_len]; exact la))
  rw [srt_eq hp] at e2
  refine Rn.chk (by (simp (disch := first | assumption | omega) only [e1, e2, fld_rows, isi_sh, srt_eq hp, MV])) ?_
  have e3 := lc_fil (fi := iOf (gv 1)) (gt := gN 2) (t := asB (b2 (b2 (gv 2) (kI 1) ixD) (b2 (gv 2) (kI 2) ixD) gtI)) (f := gv 2) (vs := [2]) (ρ := [.dat (shD C a), .dat (.lst (b.map rowD)), .unk]) (φ := rowD) rowD (fun r => decide (r.b < r.a)) (xs := b) rfl rfl (by omega) (fun r _ => ⟨_, rfl, by (simp (disch := first | assumption | omega) only [rowD, MV]), fun _ => rfl⟩)
  have e4 : neverR a = neverR b := by
    unfold neverR
    rw [Bool.eq_iff_iff, List.any_eq_true, List.any_eq_true]
    constructor
    · rintro ⟨x, h1, h2⟩; exact ⟨x, hp.mem_iff.mp h1, h2⟩
    · rintro ⟨x, h1, h2⟩; exact ⟨x, hp.mem_iff.mpr h1, h2⟩
  refine Rn.ret (d := .bl true) ?_ ⟨_, rfl, rfl⟩
  (simp (disch := first | assumption | omega) only [e3, pr_never, never_eq C a la, MV])
  rw [any_len, e4]
  exact same_bl C 4 _
/-! == -/
theorem py_rows : ∀ rows : List Row, D.pys (rows.map rowD) = some (rows.map fun r => .tuple [.str r.l, .int r.a, .int r.b, .int r.c])
  | [] => rfl
  | r :: rows => by
    rw [List.map_cons, D.pys, py_row, py_rows rows]; rfl
theorem lay_rows : ∀ rows : List Row, (∀ r ∈ rows, okS r.l) → PyData.canLayAll0 (rows.map fun r => .tuple [.str r.l, .int r.a, .int r.b, .int r.c]) = true
  | [], _ => rfl
  | r :: rows, h => by
    have h0 := (okS_iff r.l).mpr (h r List.mem_cons_self)
    rw [List.map_cons, PyData.canLayAll0, lay_rows rows fun q hq => h q (List.mem_cons_of_mem _ hq)]
    simp only [PyData.canLay0, PyData.canLayAll0, h0, Bool.and_true]
theorem dep_rows : ∀ rows : List Row, PyData.depthAll (rows.map fun r => .tuple [.str r.l, .int r.a, .int r.b, .int r.c]) ≤ 1
  | [] => by decide
  | r :: rows => by
    rw [List.map_cons, PyData.depthAll]
    have := dep_rows rows
    have h2 : PyData.depth (.tuple [.str r.l, .int r.a, .int r.b, .int r.c]) = 1 := rfl
    omega
theorem eqv_rows : ∀ a b : List Row, PyData.eqvAll (a.map fun r => .tuple [.str r.l, .int r.a, .int r.b, .int r.c]) (b.map fun r => .tuple [.str r.l, .int r.a, .int r.b, .int r.c]) = true ↔ a = b
  | [], [] => by simp [PyData.eqvAll]
  | [], _ :: _ => by simp [PyData.eqvAll]
  | _ :: _, [] => by simp [PyData.eqvAll]
  | x :: a, y :: b => by
    obtain ⟨l, p, q, r⟩ := x
    obtain ⟨l', p', q', r'⟩ := y
    rw [List.map_cons, List.map_cons, PyData.eqvAll, Bool.and_eq_true, eqv_rows a b]
    simp only [PyData.eqv, PyData.eqvAll, Bool.and_true, Bool.and_eq_true, beq_iff_eq, List.cons.injEq, Row.mk.injEq]
def okR (rows : List Row) : Prop := ∀ r ∈ rows, okS r.l
theorem eqvD_rows {a b : List Row} (ha : okR a) (hb : okR b) (k : List D → D) (hk : k = .tup ∨ k = .lst) : eqD (k (a.map rowD)) (k (b.map rowD)) = some (.bl (eqR a b)) := by
  have sh : ∀ (c : List Row) (q : List PyData → PyData), okR c → (q = .tuple ∨ q = .list) → SeqAt.shaped (q (c.map fun r => .tuple [.str r.l, .int r.a, .int r.b, .int r.c])) = true := fun c q h hq => by
    have h1 := lay_rows c h
    have h2 := dep_rows c
    unfold SeqAt.shaped
    rcases hq with rfl | rfl
    · rw [Bool.and_eq_true]
      refine ⟨by simp only [PyData.canLay0, h1], decide_eq_true ?_⟩
      rw [PyData.depth]; omega
    · rw [Bool.and_eq_true]
      refine ⟨by simp only [PyData.canLay0, h1], decide_eq_true ?_⟩
      rw [PyData.depth]; omega
  have fin : PyData.eqvAll (a.map fun r => .tuple [.str r.l, .int r.a, .int r.b, .int r.c]) (b.map fun r => .tuple [.str r.l, .int r.a, .int r.b, .int r.c]) = (eqR a b) := by
    rw [Bool.eq_iff_iff, eqv_rows, eqR_iff]
  rcases hk with rfl | rfl
  · have e1 : eqS (.tup (a.map rowD)) (.tup (b.map rowD)) = none := rfl
    unfold eqD eqB
    rw [e1]
    simp only [eqvD, D.py, py_rows, Option.map_some]
    rw [if_pos ⟨sh a _ ha (.inl rfl), sh b _ hb (.inl rfl)⟩]
    simp only [Option.map_some, PyData.eqv, fin]
  · have e1 : eqS (.lst (a.map rowD)) (.lst (b.map rowD)) = none := rfl
    unfold eqD eqB
    rw [e1]
    simp only [eqvD, D.py, py_rows, Option.map_some]
    rw [if_pos ⟨sh a _ ha (.inr rfl), sh b _ hb (.inr rfl)⟩]
    simp only [Option.map_some, PyData.eqv, fin]
theorem okR_srt {a : List Row} (h : okR a) : okR (srt a) := fun r hr => h r ((srt_perm a).mem_iff.mp hr)
theorem eq_sh (C : Cs) {a b : List Row} (ha : okR a) (hb : okR b) : mShift_eq C [shD C a, shD C b] = some (.bl (eqR (srt a) (srt b))) := by
  unfold mShift_eq
  refine runP_eq ?_
  refine Rn.ret (ρ := [.dat (shD C a), .dat (shD C b)]) (d := .bl (eqR (srt a) (srt b))) ?_ ⟨_, rfl, rfl⟩
  (simp (disch := first | assumption | omega) only [fld_rows, isi_sh, eqvD_rows (okR_srt ha) (okR_srt hb) .tup (.inl rfl), MV])
theorem eq_no (C : Cs) {a : List Row} {d : D} (hd : isiC [(C.Shift, true)] d = some (.bl false)) : mShift_eq C [shD C a, d] = some (.bl false) := by
  unfold mShift_eq
  refine runP_eq ?_
  refine Rn.ret (ρ := [.dat (shD C a), .dat d]) (d := .bl false) ?_ ⟨_, rfl, rfl⟩
  (simp (disch := first | assumption | omega) only [hd, MV])
theorem self_sh (C : Cs) (a : List Row) : selfC C.Shift (shD C a) = true := decide_eq_true rfl
theorem opeq_sh (C : Cs) {a b : List Row} (ha : okR a) (hb : okR b) : orD eqD (eqC C.Shift [] (mShift_eq C)) (shD C a) (shD C b) = some (.bl (eqR (srt a) (srt b))) := by
  have e0 : eqD (shD C a) (shD C b) = none := rfl
  have e1 : eqC C.Shift [] (mShift_eq C) (shD C a) (shD C b) = mShift_eq C [shD C a, shD C b] := by
    unfold eqC
    rw [if_pos (self_sh C a)]
    show (if C.Shift = C.Shift ∨ _ then _ else _) = _
    rw [if_pos (.inl rfl)]; rfl
  unfold orD
  rw [e0, e1, eq_sh C ha hb]
theorem opeq_no (C : Cs) {a : List Row} {d : D} (hd : isiC [(C.Shift, true)] d = some (.bl false)) (ht : ∃ t, tyD d = some t) : orD eqD (eqC C.Shift [] (mShift_eq C)) (shD C a) d = some (.bl false) := by
  obtain ⟨t, ht⟩ := ht
  have e0 : eqD (shD C a) d = none := by
    unfold eqD eqB
    have : eqS (shD C a) d = none := rfl
    rw [this]
    rfl
  have e1 : eqC C.Shift [] (mShift_eq C) (shD C a) d = mShift_eq C [shD C a, d] := by
    unfold eqC
    rw [if_pos (self_sh C a)]
    cases d <;> first | rfl | cases ht
  unfold orD
  rw [e0, e1, eq_no C hd]
end K01

namespace K01
open PySem L2 PD
theorem mk_sh (C : Cs) {e : Ev → Option D} {ρ : Ev} {rows : List Row} (he : e ρ = some (.lst (rows.map rowD))) (hl : rows.length ≤ 1000) : frz (cO (aCons e aNil) (lenO? 1 (mShift_init C))) ρ = some (shD C rows) := by
  (simp (disch := first | assumption | omega) only [he, init_lst C rows hl, MV])
  rfl
/-! ~ -/
def backF (r : Row) : Row := ⟨r.l, r.a + r.c, r.b + r.c, -r.c⟩
theorem back_eq (C : Cs) (rows : List Row) (hl : rows.length ≤ 1000) : m_law_back C [.lst (rows.map rowD)] = some (.lst ((rows.map backF).map rowD)) := by
  unfold m_law_back
  refine runP_eq ?_
  refine Rn.ret (ρ := [.dat (.lst (rows.map rowD)), .unk, .unk, .unk, .unk]) (d := .lst ((rows.map backF).map rowD)) ?_ ⟨_, rfl, rfl⟩
  rw [List.map_map]
  refine lc_map _ rfl rfl (by omega) fun r _ => ⟨_, rfl, ?_⟩
  have := Int.zero_sub r.c
  (simp (disch := first | assumption | omega) only [rowD, backF, Function.comp, this, MV])
theorem inv_eq (C : Cs) (rows : List Row) (hl : rows.length ≤ 1000) : mShift_invert C [shD C rows] = some (shD C ((srt rows).map backF)) := by
  unfold mShift_invert
  refine runP_eq ?_
  refine Rn.ret (ρ := [.dat (shD C rows), .unk, .unk, .unk, .unk]) (d := shD C ((srt rows).map backF)) ?_ ⟨_, rfl, rfl⟩
  refine mk_sh C (rows := (srt rows).map backF) ?_ (by rw [List.length_map, srt_len]; exact hl)
  rw [List.map_map]
  refine lc_map (φ := rowD) _ rfl (by (simp (disch := first | assumption | omega) only [fld_rows, MV])) (by rw [srt_len]; omega) fun r _ => ⟨_, rfl, ?_⟩
  (simp (disch := first | assumption | omega) only [rowD, backF, Function.comp, MV])
/-! * -/
def mulF (t : Int) (r : Row) : Row := ⟨r.l, r.a - min 0 ((t - 1) * r.c), r.b - max 0 ((t - 1) * r.c), t * r.c⟩
def okM (t : Int) (rows : List Row) : Prop := (0 ≤ t ∧ t < 1000) ∨ ∀ r ∈ rows, -1000000000000000000 < r.c ∧ r.c < 1000000000000000000
theorem mul_loop {x0 : O} {t : Int} {rows : List Row} {fi : Ev → Option (List D)} {g : Ev → Option Fl} {Q : Fl → Prop} (hl : rows.length ≤ 1000) (hm : okM t rows) (hf : fi [x0, .dat (.int t), .dats [], .unk, .unk, .unk, .unk, .unk] = some (rows.map rowD))
    (k : ∀ y3 y4 y5 y6 y7, Rn g [x0, .dat (.int t), .dats ((rows.map (mulF t)).map rowD), y3, y4, y5, y6, y7] Q) :
    Rn (sq (forS fi (gT 4 (gsC (gN 3) (gsC (gN 4) (gsC (gN 5) (gsC (gN 6) gsN))))) (sq (stV 7 (b2 (b2 (gv 1) (kI 1) subI) (gv 6) mulI))
    (app 2 (mkTup (aCons (gv 3) (aCons (b2 (gv 4) (cB (aCons (kI 0) (aCons (gv 7) aNil)) min2) subI) (aCons (b2 (gv 5) (cB (aCons (kI 0) (aCons (gv 7) aNil)) max2) subI) (aCons (b2 (gv 1) (gv 6) mulI) aNil)))))))) g) [x0, .dat (.int t), .dats [], .unk, .unk, .unk, .unk, .unk] Q := by
  refine Rn.sqfor hf (fun i ρ => ∃ y3 y4 y5 y6 y7, ρ = [x0, .dat (.int t), .dats (((rows.take i).map (mulF t)).map rowD), y3, y4, y5, y6, y7]) ⟨_, _, _, _, _, rfl⟩ (fun i hi ρ hI => ?_) (fun ρ hI => ?_)
  · obtain ⟨y3, y4, y5, y6, y7, rfl⟩ := hI
    generalize hr : rows[i] = r
    have et : ((rows.take (i + 1)).map (mulF t)).map rowD = ((rows.take i).map (mulF t)).map rowD ++ [rowD (mulF t r)] := by
      rw [List.take_succ, List.getElem?_eq_getElem hi, hr]
      simp
    refine ⟨_, rfl, ?_⟩
    show Rn _ [x0, .dat (.int t), .dats (((rows.take i).map (mulF t)).map rowD), .dat (.str r.l), .dat (.int r.a), .dat (.int r.b), .dat (.int r.c), y7] _
    have hm' : (0 ≤ t ∧ t < 1000) ∨ (-1000000000000000000 < r.c ∧ r.c < 1000000000000000000) := hm.imp id fun h => h r (hr ▸ List.getElem_mem hi)
    refine Rn.sqst (d := .int ((t - 1) * r.c)) ?_ ?_
    · rcases hm' with h | h <;> (simp (disch := first | assumption | omega) only [MV])
    show Rn _ [x0, .dat (.int t), .dats (((rows.take i).map (mulF t)).map rowD), .dat (.str r.l), .dat (.int r.a), .dat (.int r.b), .dat (.int r.c), .dat (.int ((t - 1) * r.c))] _
    refine Rn.appD (d := rowD (mulF t r)) ?_ rfl (by simp; omega) ⟨_, _, _, _, _, by rw [et]; rfl⟩
    rcases hm' with h | h <;> (simp (disch := first | assumption | omega) only [rowD, mulF, MV])
  · obtain ⟨y3, y4, y5, y6, y7, rfl⟩ := hI
    rw [List.take_length]
    exact k _ _ _ _ _
theorem times_eq (C : Cs) (rows : List Row) (t : Int) (hl : rows.length ≤ 1000) (hm : okM t rows) : m_law_times C [.lst (rows.map rowD), .int t] = some (.lst ((if t = 0 then [] else rows.map (mulF t)).map rowD)) := by
  unfold m_law_times
  refine runP_eq ?_
  refine Rn.sqif (ρ := [.dat (.lst (rows.map rowD)), .dat (.int t), .unk, .unk, .unk, .unk, .unk, .unk]) (p := t = 0) (by (simp (disch := first | assumption | omega) only [MV])) (fun h => ?_) fun h => Rn.sqskip ?_
  · exact Rn.sqret (d := .lst []) (by (simp (disch := first | assumption | omega) only [MV])) ⟨_, rfl, by rw [if_pos h]; rfl⟩
  · refine Rn.sqstO (o := .dats []) (by (simp (disch := first | assumption | omega) only [MV])) ?_
    refine mul_loop (rows := rows) hl hm rfl fun y3 y4 y5 y6 y7 => ?_
    refine Rn.fzD rfl (Rn.ret rfl ⟨_, rfl, ?_⟩)
    rw [if_neg h]; rfl
theorem mul_eq (C : Cs) (rows : List Row) (t : Int) (hl : rows.length ≤ 1000) (hm : okM t rows) : mShift_mul C [shD C rows, .int t] = some (shD C (if t = 0 then [] else (srt rows).map (mulF t))) := by
  unfold mShift_mul
  refine runP_eq ?_
  refine Rn.sqif (ρ := [.dat (shD C rows), .dat (.int t), .unk, .unk, .unk, .unk, .unk, .unk]) (p := t = 0) (by (simp (disch := first | assumption | omega) only [MV])) (fun h => ?_) fun h => Rn.sqskip ?_
  · exact Rn.sqret (d := shD C []) (mk_sh C (rows := []) (by (simp (disch := first | assumption | omega) only [MV]) <;> rfl) (by decide)) ⟨_, rfl, by rw [if_pos h]; rfl⟩
  · refine Rn.sqstO (o := .dats []) (by (simp (disch := first | assumption | omega) only [MV])) ?_
    refine mul_loop (rows := srt rows) (by rw [srt_len]; exact hl) (hm.imp id fun h r hr => h r ((srt_perm rows).mem_iff.mp hr)) (by (simp (disch := first | assumption | omega) only [fld_rows, MV])) fun y3 y4 y5 y6 y7 => ?_
    refine Rn.fzD rfl (Rn.ret (mk_sh C (rows := (srt rows).map (mulF t)) rfl (by rw [List.length_map, srt_len]; exact hl)) ⟨_, rfl, ?_⟩)
    rw [if_neg h]; rfl
theorem opmul (C : Cs) (rows : List Row) (t : Int) : orD mulI (opCI C.Shift (mShift_mul C)) (shD C rows) (.int t) = mShift_mul C [shD C rows, .int t] := by
  have e0 : mulI (shD C rows) (.int t) = none := rfl
  have e1 : opCI C.Shift (mShift_mul C) (shD C rows) (.int t) = mShift_mul C [shD C rows, .int t] := by
    show (if selfC C.Shift (shD C rows) = true then _ else _) = _
    rw [if_pos (self_sh C rows)]
  unfold orD
  rw [e0, e1]
theorem opinv (C : Cs) (rows : List Row) : inC C.Shift (mShift_invert C) (shD C rows) = mShift_invert C [shD C rows] := by
  unfold inC
  rw [if_pos (self_sh C rows)]
end K01

namespace K01
open PySem L2 PD
def both (r q : Row) : Row := ⟨r.l, max r.a (q.a - r.c), min r.b (q.b - r.c), r.c + q.c⟩
def plusF (b : List Row) (r : Row) : Row := match b.filter fun q => decide (q.l = r.l) with
  | [] => r
  | q :: _ => both r q
def plusR (a b : List Row) : List Row := a.map (plusF b) ++ b.filter fun q => decide (q.l ∉ a.map (·.l))
theorem plus_len (a b : List Row) : (plusR a b).length ≤ a.length + b.length := by
  unfold plusR
  rw [List.length_append, List.length_map]
  have := List.length_filter_le (fun q : Row => decide (q.l ∉ a.map (·.l))) b
  omega
theorem nin_lab (x : Str) (ls : List Str) : ninD (.str x) (.lst (ls.map .str)) = some (.bl (decide (x ∉ ls))) := by
  rw [nin_strs]; simp
theorem plus_eq (C : Cs) (a b : List Row) (ha : a.length ≤ 500) (hb : b.length ≤ 500) : m_law_plus C [.lst (a.map rowD), .lst (b.map rowD)] = some (.lst ((plusR a b).map rowD)) := by
  unfold m_law_plus
  refine runP_eq ?_
  refine Rn.sqstO (ρ := [.dat (.lst (a.map rowD)), .dat (.lst (b.map rowD)), .unk, .unk, .unk, .unk, .unk, .unk, .unk, .unk, .unk, .unk]) (o := .dats []) (by (simp (disch := first | assumption | omega) only [MV])) ?_
  refine Rn.sqfor (xs := a) (φ := rowD) rfl (fun i ρ => ∃ y3 y4 y5 y6 z7 y8 y9, ρ = [.dat (.lst (a.map rowD)), .dat (.lst (b.map rowD)), .dats (((a.take i).map (plusF b)).map rowD), y3, y4, y5, y6, z7, y8, y9, .unk, .unk]) ⟨_, _, _, _, _, _, _, rfl⟩ (fun i hi ρ hI => ?_) (fun ρ hI => ?_)
  · obtain ⟨y3, y4, y5, y6, y7, y8, y9, rfl⟩ := hI
    generalize hr : a[i] = r
    have et : ((a.take (i + 1)).map (plusF b)).map rowD = ((a.take i).map (plusF b)).map rowD ++ [rowD (plusF b r)] := by
      rw [List.take_succ, List.getElem?_eq_getElem hi, hr]
      simp
    refine ⟨_, rfl, ?_⟩
    show Rn _ [.dat (.lst (a.map rowD)), .dat (.lst (b.map rowD)), .dats (((a.take i).map (plusF b)).map rowD), .dat (.str r.l), .dat (.int r.a), .dat (.int r.b), .dat (.int r.c), y7, y8, y9, .unk, .unk] _
    refine Rn.sqst (lc_fil (φ := rowD) rowD (fun q => decide (q.l = r.l)) (xs := b) rfl rfl (by omega) fun q _ => ⟨_, rfl, by (simp (disch := first | assumption | omega) only [rowD, MV]), fun _ => rfl⟩) ?_
    show Rn _ [.dat (.lst (a.map rowD)), .dat (.lst (b.map rowD)), .dats (((a.take i).map (plusF b)).map rowD), .dat (.str r.l), .dat (.int r.a), .dat (.int r.b), .dat (.int r.c), .dat (.lst ((b.filter fun q => decide (q.l = r.l)).map rowD)), y8, y9, .unk, .unk] _
    cases hq : b.filter fun q => decide (q.l = r.l) with
    | nil =>
      rw [show plusF b r = r by unfold plusF; rw [hq]] at et
      refine Rn.ite (t := true) (by (simp (disch := first | assumption | omega) only [MV]) <;> simp) (fun _ => ?_) fun h => nomatch h
      exact Rn.appD (d := rowD r) (by (simp (disch := first | assumption | omega) only [rowD, MV])) rfl (by simp; omega) ⟨_, _, _, _, _, _, _, by rw [et]; rfl⟩
    | cons q qs =>
      rw [show plusF b r = both r q by unfold plusF; rw [hq]] at et
      refine Rn.ite (t := false) (by (simp (disch := first | assumption | omega) only [MV]) <;> simp <;> omega) (fun h => nomatch h) fun _ => ?_
      refine Rn.sqst (d := .int (max r.a (q.a - r.c))) (by (simp (disch := first | assumption | omega) only [rowD, MV])) ?_
      refine Rn.sqst (d := .int (min r.b (q.b - r.c))) (by (simp (disch := first | assumption | omega) only [rowD, MV])) ?_
      exact Rn.appD (d := rowD (both r q)) (by (simp (disch := first | assumption | omega) only [rowD, both, MV])) rfl (by simp; omega) ⟨_, _, _, _, _, _, _, by rw [et]; rfl⟩
  · obtain ⟨y3, y4, y5, y6, y7, y8, y9, rfl⟩ := hI
    rw [List.take_length]
    refine Rn.sqst (d := .lst ((a.map (·.l)).map .str)) ?_ ?_
    · rw [show (a.map (·.l)).map D.str = a.map fun r => .str r.l by rw [List.map_map]; rfl]
      exact lc_map (φ := rowD) _ (xs := a) rfl rfl (by omega) fun q _ => ⟨_, rfl, by (simp (disch := first | assumption | omega) only [rowD, MV])⟩
    show Rn _ [.dat (.lst (a.map rowD)), .dat (.lst (b.map rowD)), .dats ((a.map (plusF b)).map rowD), y3, y4, y5, y6, y7, y8, y9, .dat (.lst ((a.map (·.l)).map .str)), .unk] _
    refine Rn.fzD rfl (Rn.ret (d := .lst ((plusR a b).map rowD)) ?_ ⟨_, rfl, rfl⟩)
    have e := lc_fil (ρ := [.dat (.lst (a.map rowD)), .dat (.lst (b.map rowD)), .dat (.lst ((a.map (plusF b)).map rowD)), y3, y4, y5, y6, y7, y8, y9, .dat (.lst ((a.map (·.l)).map .str)), .unk]) (fi := iOf (gv 1)) (gt := gN 11) (t := asB (b2 (b2 (gv 11) (kI 0) ixD) (gv 10) ninD)) (f := gv 11) (vs := [11]) (φ := rowD) rowD (fun q => decide (q.l ∉ a.map (·.l))) (xs := b) rfl rfl (by omega) fun q _ => ⟨_, rfl, by (simp (disch := first | assumption | omega) only [rowD, nin_lab, MV]), fun _ => rfl⟩
    have hfl := List.length_filter_le (fun q : Row => decide (q.l ∉ a.map (·.l))) b
    show b2 (gv 2) _ addA [.dat (.lst (a.map rowD)), .dat (.lst (b.map rowD)), .dat (.lst ((a.map (plusF b)).map rowD)), y3, y4, y5, y6, y7, y8, y9, .dat (.lst ((a.map (·.l)).map .str)), .unk] = _
    (simp (disch := first | assumption | omega) only [e, MV])
    rw [ev_catL (by simp only [List.length_map]; omega), plusR, List.map_append]
/-! row_of_both -/
theorem both_eq (C : Cs) (r q : Row) : mrow_of_both C [rowD r, rowD q] = some (rowD (both r q)) := by
  unfold mrow_of_both
  refine runP_eq ?_
  refine Rn.sqasg (ρ := [.dat (rowD r), .dat (rowD q), .unk, .unk, .unk, .unk]) (d := rowD r) (by (simp (disch := first | assumption | omega) only [MV])) rfl ?_
  refine Rn.ret (d := rowD (both r q)) ?_ ⟨_, rfl, rfl⟩
  show mkTup _ [.dat (rowD r), .dat (rowD q), .dat (.str r.l), .dat (.int r.a), .dat (.int r.b), .dat (.int r.c)] = _
  (simp (disch := first | assumption | omega) only [rowD, both, MV])
/-! the dict of rows -/
def dicR (X : List Row) : O := .dic (X.map fun r => .inr r.l) (X.map fun r => .dat (rowD r))
theorem any_key (l : Str) (X : List Row) : ((X.map fun r => (.inr r.l : Key)).any fun k' => decide (k' = .inr l)) = decide (l ∈ X.map (·.l)) := by
  rw [Bool.eq_iff_iff, List.any_eq_true, decide_eq_true_eq]
  constructor
  · rintro ⟨k, hk, h⟩
    obtain ⟨r, hr, rfl⟩ := List.mem_map.mp hk
    have := of_decide_eq_true h
    cases this
    exact List.mem_map_of_mem hr
  · intro h
    obtain ⟨r, hr, rfl⟩ := List.mem_map.mp h
    exact ⟨_, List.mem_map_of_mem hr, decide_eq_true rfl⟩
theorem put_new {X : List Row} {z : Row} (h : z.l ∉ X.map (·.l)) : putKD (.inr z.l) (rowD z) (X.map fun r => .inr r.l) (X.map fun r => .dat (rowD r)) = ((X ++ [z]).map (fun r => .inr r.l), (X ++ [z]).map fun r => .dat (rowD r)) := by
  unfold putKD
  rw [any_key, decide_eq_false h, if_neg (by decide)]
  simp
theorem put_old {X : List Row} {z : Row} (h : z.l ∈ X.map (·.l)) : putKD (.inr z.l) (rowD z) (X.map fun r => .inr r.l) (X.map fun r => .dat (rowD r)) = ((X.map fun r => if r.l = z.l then z else r).map (fun r => .inr r.l), (X.map fun r => if r.l = z.l then z else r).map fun r => .dat (rowD r)) := by
  unfold putKD
  rw [any_key, decide_eq_true h, if_pos rfl]
  congr 1
  · rw [List.map_map]
    apply List.map_congr_left
    intro r _
    simp only [Function.comp]
    split
    · rename_i e; rw [e]
    · rfl
  · rw [List.map_map]
    clear h
    induction X with
    | nil => rfl
    | cons r X ih =>
      simp only [List.map_cons, List.zipWith_cons_cons, ih, Function.comp]
      congr 1
      by_cases e : r.l = z.l
      · rw [if_pos (by rw [e]), if_pos e]
      · rw [if_neg (fun q => e (Sum.inr.inj q)), if_neg e]
theorem look_row {X : List Row} {r : Row} (hn : (X.map (·.l)).Nodup) (h : r ∈ X) : olook (.inr r.l) (X.map fun r => .inr r.l) (X.map fun r => .dat (rowD r)) = some (.dat (rowD r)) := by
  induction X with
  | nil => cases h
  | cons q X ih =>
    rw [List.map_cons, List.nodup_cons] at hn
    simp only [List.map_cons, olook]
    rcases List.mem_cons.mp h with rfl | h
    · rw [if_pos rfl]
    · rw [if_neg (fun z => hn.1 (by
        have : q.l = r.l := Sum.inr.inj z
        rw [this]; exact List.mem_map_of_mem h)), ih hn.2 h]
theorem din_row (l : Str) (X : List Row) : dinD (.str l) (.dic (X.map fun r => .inr r.l) (X.map rowD)) = some (.bl (decide (l ∈ X.map (·.l)))) := by
  show (if (X.map rowD).length = (X.map fun r => (.inr r.l : Key)).length then _ else _) = _
  rw [if_pos (by simp)]
  simp only [keyD, Option.map_some]
  congr 2
  rw [Bool.eq_iff_iff, decide_eq_true_eq]
  induction X with
  | nil => simp [dlook]
  | cons q X ih =>
    simp only [List.map_cons, dlook, List.mem_cons]
    by_cases e : q.l = l
    · rw [if_pos (by rw [e])]; simp [e]
    · rw [if_neg (fun z => e (Sum.inr.inj z)), ih]
      constructor
      · exact .inr
      · rintro (h | h)
        · exact absurd h.symm e
        · exact h
end K01

namespace K01
open PySem L2 PD
abbrev labs (X : List Row) : List Str := X.map (·.l)
theorem plusF_l (b : List Row) (r : Row) : (plusF b r).l = r.l := by
  unfold plusF
  split <;> rfl
theorem plusF_no {b : List Row} {r : Row} (h : r.l ∉ labs b) : plusF b r = r := by
  unfold plusF
  rw [show b.filter (fun q => decide (q.l = r.l)) = [] from List.filter_eq_nil_iff.mpr fun q hq e => h (by rw [← of_decide_eq_true e]; exact List.mem_map_of_mem hq)]
theorem plusF_snoc {p : List Row} {q r : Row} (h : q.l ∉ labs p) : plusF (p ++ [q]) r = if r.l = q.l then both r q else plusF p r := by
  unfold plusF
  rw [List.filter_append]
  by_cases e : r.l = q.l
  · rw [if_pos e, show p.filter (fun x => decide (x.l = r.l)) = [] from List.filter_eq_nil_iff.mpr fun x hx z => h (by rw [← e, ← of_decide_eq_true z]; exact List.mem_map_of_mem hx)]
    simp [e]
  · rw [if_neg e]
    rw [show [q].filter (fun x => decide (x.l = r.l)) = [] from List.filter_eq_nil_iff.mpr fun x hx z => e (by rw [List.mem_singleton.mp hx] at z; exact (of_decide_eq_true z).symm), List.append_nil]
theorem labs_plus (a p : List Row) : labs (plusR a p) = labs a ++ labs (p.filter fun q => decide (q.l ∉ a.map (·.l))) := by
  unfold plusR labs
  rw [List.map_append, List.map_map]
  congr 1
  apply List.map_congr_left
  intro r _
  exact plusF_l p r
theorem labs_mem {a p : List Row} {l : Str} (h : l ∉ labs p) : l ∈ labs (plusR a p) ↔ l ∈ labs a := by
  rw [labs_plus, List.mem_append]
  constructor
  · rintro (h1 | h1)
    · exact h1
    · exfalso
      obtain ⟨q, hq, rfl⟩ := List.mem_map.mp h1
      exact h (List.mem_map_of_mem (List.mem_filter.mp hq).1)
  · exact .inl
theorem labs_nodup {a p : List Row} (ha : (labs a).Nodup) (hp : (labs p).Nodup) : (labs (plusR a p)).Nodup := by
  rw [labs_plus, List.nodup_append]
  refine ⟨ha, hp.sublist ((List.filter_sublist).map _), ?_⟩
  rintro x hx y hy rfl
  obtain ⟨q, hq, e⟩ := List.mem_map.mp hy
  have := of_decide_eq_true (List.mem_filter.mp hq).2
  exact this (e ▸ hx)
theorem plus_new {a p : List Row} {q : Row} (h : q.l ∉ labs p) (ha : q.l ∉ labs a) : plusR a (p ++ [q]) = plusR a p ++ [q] := by
  unfold plusR
  rw [List.filter_append, ← List.append_assoc]
  congr 1
  · congr 1
    apply List.map_congr_left
    intro r hr
    rw [plusF_snoc h, if_neg fun e : r.l = q.l => ha (e ▸ List.mem_map_of_mem hr)]
  · simp only [List.filter_cons, List.filter_nil]
    rw [if_pos (decide_eq_true ha)]
theorem nodup_lab {a : List Row} (hn : (labs a).Nodup) {x r : Row} (hx : x ∈ a) (hr : r ∈ a) (e : x.l = r.l) : x = r := by
  induction a with
  | nil => cases hx
  | cons y a ih =>
    rw [labs, List.map_cons, List.nodup_cons] at hn
    rcases List.mem_cons.mp hx with h1 | h1
    · rcases List.mem_cons.mp hr with h2 | h2
      · rw [h1, h2]
      · exact absurd (by rw [← h1, e]; exact List.mem_map_of_mem h2) hn.1
    · rcases List.mem_cons.mp hr with h2 | h2
      · exact absurd (by rw [← h2, ← e]; exact List.mem_map_of_mem h1) hn.1
      · exact ih hn.2 h1 h2
theorem plus_old {a p : List Row} {q r : Row} (h : q.l ∉ labs p) (hn : (labs a).Nodup) (hr : r ∈ a) (e : r.l = q.l) : plusR a (p ++ [q]) = (plusR a p).map fun x => if x.l = q.l then both r q else x := by
  have ha : q.l ∈ labs a := e ▸ List.mem_map_of_mem hr
  unfold plusR
  rw [List.filter_append, List.map_append, List.map_map]
  congr 1
  · apply List.map_congr_left
    intro x hx
    simp only [Function.comp, plusF_l]
    rw [plusF_snoc h]
    by_cases z : x.l = q.l
    · rw [if_pos z, if_pos z, nodup_lab hn hx hr (z.trans e.symm)]
    · rw [if_neg z, if_neg z]
  · rw [show [q].filter (fun q => decide (q.l ∉ a.map (·.l))) = [] by simp; exact List.mem_map.mp ha, List.append_nil]
    symm
    conv => rhs; rw [← List.map_id (List.filter _ p)]
    apply List.map_congr_left
    intro x hx
    rw [if_neg fun z : x.l = q.l => of_decide_eq_true (List.mem_filter.mp hx).2 (z ▸ ha)]
    rfl
theorem Rn.dputN {fk fv : Ev → Option D} {ρ : Ev} {Q : Fl → Prop} {X : List Row} {z : Row} (hk : fk ρ = some (.str z.l)) (hv : fv ρ = some (rowD z)) (ho : ρ[2]? = some (dicR X)) (hl : X.length < 10000) (hn : z.l ∉ labs X) (k : Q (.nx (ρ.set 2 (dicR (X ++ [z]))))) : Rn (dput 2 fk fv) ρ Q := by
  refine ⟨_, ?_, k⟩
  unfold dput
  simp only [hk, hv, ho, Option.bind_some, keyD, dicR]
  rw [if_pos (by rw [List.length_map]; exact Nat.lt_of_lt_of_le hl (by decide)), put_new hn]
theorem Rn.dputO {fk fv : Ev → Option D} {ρ : Ev} {Q : Fl → Prop} {X : List Row} {z : Row} (hk : fk ρ = some (.str z.l)) (hv : fv ρ = some (rowD z)) (ho : ρ[2]? = some (dicR X)) (hl : X.length < 10000) (hn : z.l ∈ labs X) (k : Q (.nx (ρ.set 2 (dicR (X.map fun r => if r.l = z.l then z else r))))) : Rn (dput 2 fk fv) ρ Q := by
  refine ⟨_, ?_, k⟩
  unfold dput
  simp only [hk, hv, ho, Option.bind_some, keyD, dicR]
  rw [if_pos (by rw [List.length_map]; exact Nat.lt_of_lt_of_le hl (by decide)), put_old hn]
theorem toDs_rows' (X : List Row) : O.toDs (X.map fun r => .dat (rowD r)) = some (X.map rowD) := toDs_rows X
theorem dicR_toD (X : List Row) : (dicR X).toD = some (.dic (X.map fun r => .inr r.l) (X.map rowD)) := by
  unfold dicR O.toD
  rw [toDs_rows']; rfl
theorem dicR_vw (X : List Row) : O.vw (dicR X) = .dat (.dic (X.map fun r => .inr r.l) (X.map rowD)) := by
  unfold O.vw
  rw [dicR_toD]
theorem nodup_snoc {X : List Row} {i : Nat} (hn : (labs X).Nodup) (hi : i < X.length) : X[i].l ∉ labs (X.take i) := by
  intro h
  obtain ⟨q, hq, e⟩ := List.mem_map.mp h
  obtain ⟨j, hj, rfl⟩ := List.getElem_of_mem hq
  rw [List.length_take] at hj
  rw [List.getElem_take] at e
  have := List.pairwise_iff_getElem.mp hn j i (by rw [List.length_map]; omega) (by rw [List.length_map]; exact hi) (by omega)
  simp only [List.getElem_map] at this
  exact this e
theorem take_snoc {X : List Row} {i : Nat} (hi : i < X.length) : X.take (i + 1) = X.take i ++ [X[i]] := by
  rw [List.take_succ, List.getElem?_eq_getElem hi]; rfl
theorem add_eq (C : Cs) (a b : List Row) (ha : a.length ≤ 500) (hb : b.length ≤ 500) (na : (labs a).Nodup) (nb : (labs b).Nodup) : mShift_add C [shD C a, shD C b] = some (shD C (plusR (srt a) (srt b))) := by
  have la : (srt a).length ≤ 500 := by rw [srt_len]; exact ha
  have lb : (srt b).length ≤ 500 := by rw [srt_len]; exact hb
  have na' : (labs (srt a)).Nodup := ((srt_perm a).map _).nodup_iff.mpr na
  have nb' : (labs (srt b)).Nodup := ((srt_perm b).map _).nodup_iff.mpr nb
  have fa := fld_rows C a
  have fb := fld_rows C b
  generalize srt a = a' at la na' fa
  generalize srt b = b' at lb nb' fb
  generalize hsa : shD C a = sa at fa
  generalize hsb : shD C b = sb at fb
  unfold mShift_add
  refine runP_eq ?_
  refine Rn.sqstO (ρ := [.dat sa, .dat sb, .unk, .unk]) (o := dicR []) rfl ?_
  refine Rn.sqfor (xs := a') (φ := rowD) (by show iOf _ [.dat sa, .dat sb, dicR [], .unk] = _; (simp (disch := first | assumption | omega) only [fa, MV])) (fun i ρ => ∃ y, ρ = [.dat sa, .dat sb, dicR (a'.take i), y]) ⟨_, rfl⟩ (fun i hi ρ hI => ?_) (fun ρ hI => ?_)
  · obtain ⟨y, rfl⟩ := hI
    refine ⟨_, rfl, ?_⟩
    refine Rn.dputN (z := a'[i]) (X := a'.take i) ?_ rfl rfl (by rw [List.length_take]; omega) (nodup_snoc na' hi) ⟨_, by rw [take_snoc hi]; rfl⟩
    show b2 _ _ _ [.dat sa, .dat sb, dicR (a'.take i), .dat (rowD a'[i])] = _
    (simp (disch := first | assumption | omega) only [rowD, MV])
  obtain ⟨y, rfl⟩ := hI
  rw [List.take_length]
  have h0 : dicR a' = dicR (plusR a' (b'.take 0)) := by
    congr 1
    unfold plusR
    simp only [List.take_zero, List.filter_nil, List.append_nil]
    conv => lhs; rw [← List.map_id a']
    rfl
  rw [h0]
  refine Rn.sqfor (xs := b') (φ := rowD) (by show iOf _ [.dat sa, .dat sb, dicR (plusR a' (b'.take 0)), y] = _; (simp (disch := first | assumption | omega) only [fb, MV])) (fun i ρ => ∃ y, ρ = [.dat sa, .dat sb, dicR (plusR a' (b'.take i)), y]) ⟨_, rfl⟩ (fun i hi ρ hI => ?_) (fun ρ hI => ?_)
  · obtain ⟨y, rfl⟩ := hI
    refine ⟨_, rfl, ?_⟩
    have hq := nodup_snoc nb' hi
    rw [take_snoc hi]
    generalize b'[i] = q at hq
    have hlen : (plusR a' (b'.take i)).length < 10000 := by
      have := plus_len a' (b'.take i)
      rw [List.length_take] at this
      omega
    have hmem := labs_mem (a := a') hq
    show Rn _ [.dat sa, .dat sb, dicR (plusR a' (b'.take i)), .dat (rowD q)] _
    have ev : [O.dat sa, .dat sb, dicR (plusR a' (b'.take i)), .dat (rowD q)].map O.vw = [.dat sa, .dat sb, .dat (.dic ((plusR a' (b'.take i)).map fun r => .inr r.l) ((plusR a' (b'.take i)).map rowD)), .dat (rowD q)] := by
      simp only [List.map_cons, List.map_nil, dicR_vw]; rfl
    have ek : b2 (gv 3) (kI 0) ixD [.dat sa, .dat sb, dicR (plusR a' (b'.take i)), .dat (rowD q)] = some (.str q.l) := by (simp (disch := first | assumption | omega) only [rowD, MV])
    refine Rn.iteP (p := q.l ∈ labs a') ?_ (fun h => ?_) fun h => ?_
    · unfold vwT
      rw [ev]
      have := din_row q.l (plusR a' (b'.take i))
      have hm2 : decide (q.l ∈ (plusR a' (b'.take i)).map (·.l)) = decide (q.l ∈ labs a') := decide_eq_decide.mpr hmem
      rw [hm2] at this
      (simp (disch := first | assumption | omega) only [rowD, this, MV])
    · obtain ⟨r, hr, e⟩ := List.mem_map.mp h
      have hp : r.l ∉ labs (b'.take i) := e ▸ hq
      have hrm : r ∈ plusR a' (b'.take i) := List.mem_append_left _ (by
        have := List.mem_map_of_mem (f := plusF (b'.take i)) hr
        rw [plusF_no hp] at this
        exact this)
      have hlk := look_row (labs_nodup na' (nb'.sublist ((List.take_sublist _ _).map _))) hrm
      rw [e] at hlk
      refine Rn.dputO (z := both r q) (X := plusR a' (b'.take i)) (by show _ = some (D.str r.l); rw [e]; exact ek) ?_ rfl hlen (by show r.l ∈ _; rw [e]; exact hmem.mpr h) ⟨_, by
        rw [plus_old hq na' hr e]
        show _ = _
        have : (both r q).l = q.l := e
        rw [this]; rfl⟩
      have eg : dgetO 2 (b2 (gv 3) (kI 0) ixD) [.dat sa, .dat sb, dicR (plusR a' (b'.take i)), .dat (rowD q)] = some (rowD r) := by
        unfold dgetO
        rw [ek]
        show (match olook (.inr q.l) _ _ with | some (.dat d) => some d | _ => none) = _
        rw [hlk]
      (simp (disch := first | assumption | omega) only [eg, both_eq, MV])
    · exact Rn.dputN (z := q) (X := plusR a' (b'.take i)) ek rfl rfl hlen (fun z => h (hmem.mp z)) ⟨_, by rw [plus_new hq h]; rfl⟩
  obtain ⟨y, rfl⟩ := hI
  rw [List.take_length]
  have hlen := plus_len a' b'
  refine Rn.fz (o := dicR (plusR a' b')) rfl (dicR_toD _) ?_
  refine Rn.ret (d := shD C (plusR a' b')) (mk_sh C ?_ (by omega)) ⟨_, rfl, rfl⟩
  show frz (valsO (gv 2)) [.dat sa, .dat sb, .dat (.dic ((plusR a' b').map fun r => .inr r.l) ((plusR a' b').map rowD)), y] = _
  have : valsO (gv 2) [.dat sa, .dat sb, .dat (.dic ((plusR a' b').map fun r => .inr r.l) ((plusR a' b').map rowD)), y] = some (.dats ((plusR a' b').map rowD)) := rfl
  (simp (disch := first | assumption | omega) only [this, MV])
theorem opadd (C : Cs) (a b : List Row) : orD addA (opC C.Shift (mShift_add C)) (shD C a) (shD C b) = mShift_add C [shD C a, shD C b] := by
  have e0 : addA (shD C a) (shD C b) = none := rfl
  have e1 : opC C.Shift (mShift_add C) (shD C a) (shD C b) = mShift_add C [shD C a, shD C b] := by
    unfold opC
    rw [if_pos ⟨self_sh C a, self_sh C b⟩]
    cases mShift_add C [shD C a, shD C b] <;> rfl
  conv => lhs; unfold orD
  rw [e0, e1]
theorem fil_one {b : List Row} (hn : (labs b).Nodup) (l : Str) : (b.filter fun q => decide (q.l = l)).length ≤ 1 := by
  induction b with
  | nil => exact Nat.zero_le _
  | cons q b ih =>
    rw [labs, List.map_cons, List.nodup_cons] at hn
    rw [List.filter_cons]
    split
    · rename_i h
      have e := of_decide_eq_true h
      rw [show b.filter (fun q => decide (q.l = l)) = [] from List.filter_eq_nil_iff.mpr fun x hx z => hn.1 (by rw [e, ← of_decide_eq_true z]; exact List.mem_map_of_mem hx)]
      exact Nat.le_refl _
    · exact ih hn.2
theorem plusF_perm {b b' : List Row} (hp : b.Perm b') (hn : (labs b).Nodup) (r : Row) : plusF b r = plusF b' r := by
  unfold plusF
  have h := hp.filter fun q => decide (q.l = r.l)
  have h1 := fil_one hn r.l
  have : b.filter (fun q => decide (q.l = r.l)) = b'.filter fun q => decide (q.l = r.l) := by
    cases e : b.filter fun q => decide (q.l = r.l) with
    | nil => rw [e] at h; exact (List.nil_perm.mp h).symm
    | cons q t =>
      rw [e] at h h1
      have : t = [] := List.length_eq_zero_iff.mp (by simpa using h1)
      subst this
      exact List.singleton_perm.mp h
  rw [this]
theorem plusR_perm {a a' b b' : List Row} (ha : a.Perm a') (hb : b.Perm b') (hn : (labs b).Nodup) : (plusR a b).Perm (plusR a' b') := by
  unfold plusR
  refine List.Perm.append ?_ ?_
  · rw [show a.map (plusF b) = a.map (plusF b') from List.map_congr_left fun r _ => plusF_perm hb hn r]
    exact ha.map _
  · have : (fun q : Row => decide (q.l ∉ a.map (·.l))) = fun q => decide (q.l ∉ a'.map (·.l)) := by
      funext q
      rw [decide_eq_decide]
      exact not_congr (ha.map _).mem_iff
    rw [this]
    exact hb.filter _
end K01

namespace K01
open PySem L2 PD
def ld (n : List Row) : D := .lst (n.map rowD)
def zrow (a b c : Int) : Row := ⟨ZZZ, a, b, c⟩
/-- a list of rows that is not the same -/
def Far (rows n : List Row) : Prop := ¬ n.Perm rows ∧ n.length ≤ 1000 ∧ okR n
theorem okZ : okS ZZZ := by
  show ∀ c ∈ ZZZ.cps.toList, c < 1114112
  decide
structure Own (rows : List Row) : Prop where
  nd : (labs rows).Nodup
  ok : okR rows
  nz : ∀ r ∈ rows, r.l ≠ ZZZ
  le : rows.length ≤ 59
theorem far_put {rows : List Row} (h : Own rows) {k : Nat} {z : Row} (hz : z ∉ rows) (hok : okS z.l) : Far rows (rows.take k ++ [z] ++ rows.drop (k + 1)) := by
  refine ⟨fun hp => hz (hp.mem_iff.mp (by simp)), ?_, fun r hr => ?_⟩
  · have := h.le
    simp only [List.length_append, List.length_take, List.length_drop, List.length_cons, List.length_nil]
    omega
  · rcases List.mem_append.mp hr with hr | hr
    · rcases List.mem_append.mp hr with hr | hr
      · exact h.ok r (List.mem_of_mem_take hr)
      · rw [List.mem_singleton.mp hr]; exact hok
    · exact h.ok r (List.mem_of_mem_drop hr)
theorem far_cut {rows : List Row} (h : Own rows) {k : Nat} (hk : k < rows.length) : Far rows (rows.take k ++ rows.drop (k + 1)) := by
  have := h.le
  refine ⟨fun hp => ?_, ?_, fun r hr => ?_⟩
  · have := hp.length_eq
    simp only [List.length_append, List.length_take, List.length_drop] at this
    omega
  · simp only [List.length_append, List.length_take, List.length_drop]
    omega
  · rcases List.mem_append.mp hr with hr | hr
    · exact h.ok r (List.mem_of_mem_take hr)
    · exact h.ok r (List.mem_of_mem_drop hr)
theorem far_more {rows : List Row} (h : Own rows) : Far rows (rows ++ [zrow 0 0 0]) := by
  have := h.le
  refine ⟨fun hp => ?_, ?_, fun r hr => ?_⟩
  · have := hp.length_eq
    simp at this
  · simp; omega
  · rcases List.mem_append.mp hr with hr | hr
    · exact h.ok r hr
    · rw [List.mem_singleton.mp hr]; exact okZ
theorem sl_to {ρ : Ev} {rows : List Row} {k : Nat} (h0 : gv 0 ρ = some (ld rows)) (h2 : gv 2 ρ = some (.int k)) : slc (gv 0) noPart (part (gv 2)) ρ = some (.lst ((rows.take k).map rowD)) := by
  (simp (disch := first | assumption | omega) only [h0, h2, ld, MV])
  rw [cut_map, cut_to]
theorem sl_from {ρ : Ev} {rows : List Row} {k : Nat} (h0 : gv 0 ρ = some (ld rows)) (h2 : gv 2 ρ = some (.int k)) : slc (gv 0) (part (b2 (gv 2) (kI 1) addA)) noPart ρ = some (.lst ((rows.drop (k + 1)).map rowD)) := by
  (simp (disch := first | assumption | omega) only [h0, h2, ld, MV])
  rw [cut_map, show (k : Int) + 1 = ((k + 1 : Nat) : Int) from rfl, cut_from]
theorem near_ex (C : Cs) (rows : List Row) (h : Own rows) : ∃ nears : List (List Row), m_law_near C [ld rows] = some (.lst (nears.map ld)) ∧ ∀ n ∈ nears, Far rows n := by
  have hle := h.le
  obtain ⟨d, e, nears, rfl, hn⟩ : ∃ d, m_law_near C [ld rows] = some d ∧ ∃ nears : List (List Row), d = .lst (nears.map ld) ∧ ∀ n ∈ nears, Far rows n := by
    refine runP_of ?_
    refine Rn.sqstO (ρ := [.dat (ld rows), .unk, .unk, .unk, .unk, .unk, .unk, .unk]) (o := .dats ([rows ++ [zrow 0 0 0]].map ld)) ?_ ?_
    · (simp (disch := first | assumption | omega) only [ld, MV])
      rw [ev_catL (by simp; omega), ev_bind, ev_bind, ev_line (by simp)]
      simp [ld, rowD, zrow]
    show Rn _ [.dat (ld rows), .dats ([rows ++ [zrow 0 0 0]].map ld), .unk, .unk, .unk, .unk, .unk, .unk] _
    have hit : iOf (lcD (rng1 (cB (aCons (gv 0) aNil) lenD)) (gN 7) (orT (asB (b2 (gv 7) (kI 5) ltI)) (asB (b2 (gv 7) (b2 (cB (aCons (gv 0) aNil) lenD) (kI 1) subI) eqD))) (gv 7) [7]) [.dat (ld rows), .dats ([rows ++ [zrow 0 0 0]].map ld), .unk, .unk, .unk, .unk, .unk, .unk] =
        some (((List.range rows.length).filter fun k : Nat => decide ((0 + (k : Int) < 5) ∨ 0 + (k : Int) = (rows.length : Int) - 1)).map fun k : Nat => .int (0 + (k : Int))) := by
      have e := lc_fil (fi := rng1 (cB (aCons (gv 0) aNil) lenD)) (gt := gN 7) (t := orT (asB (b2 (gv 7) (kI 5) ltI)) (asB (b2 (gv 7) (b2 (cB (aCons (gv 0) aNil) lenD) (kI 1) subI) eqD))) (f := gv 7) (vs := [7]) (ρ := [.dat (ld rows), .dats ([rows ++ [zrow 0 0 0]].map ld), .unk, .unk, .unk, .unk, .unk, .unk]) (φ := fun k : Nat => .int (0 + (k : Int))) (fun k : Nat => .int (0 + (k : Int))) (fun k : Nat => decide ((0 + (k : Int) < 5) ∨ 0 + (k : Int) = (rows.length : Int) - 1)) (xs := List.range rows.length) rfl
        (by (simp (disch := first | assumption | omega) only [ld, MV]) <;> rfl) (by simp; omega) (fun k hk => ⟨_, rfl, by (simp (disch := first | assumption | omega) only [ld, MV]), fun _ => rfl⟩)
      rw [ev_iOf, e]; rfl
    have hks : ∀ k ∈ (List.range rows.length).filter fun k : Nat => decide ((0 + (k : Int) < 5) ∨ 0 + (k : Int) = (rows.length : Int) - 1), k < rows.length := fun k hk => List.mem_range.mp (List.mem_filter.mp hk).1
    have hkl : ((List.range rows.length).filter fun k : Nat => decide ((0 + (k : Int) < 5) ∨ 0 + (k : Int) = (rows.length : Int) - 1)).length ≤ 59 := by
      have := List.length_filter_le (fun k : Nat => decide ((0 + (k : Int) < 5) ∨ 0 + (k : Int) = (rows.length : Int) - 1)) (List.range rows.length)
      rw [List.length_range] at this
      omega
    generalize ((List.range rows.length).filter fun k : Nat => decide ((0 + (k : Int) < 5) ∨ 0 + (k : Int) = (rows.length : Int) - 1)) = ks at hit hks hkl
    refine Rn.sqfor hit (fun i ρ => ∃ (ns : List (List Row)) (y2 y3 y4 y5 y6 : O), ρ = [.dat (ld rows), .dats (ns.map ld), y2, y3, y4, y5, y6, .unk] ∧ ns.length ≤ 1 + 5 * i ∧ ∀ n ∈ ns, Far rows n) ⟨_, _, _, _, _, _, rfl, by simp, fun n hn => by rw [List.mem_singleton.mp hn]; exact far_more h⟩ (fun i hi ρ hI => ?_) (fun ρ hI => ?_)
    · obtain ⟨ns, y2, y3, y4, y5, y6, rfl, hl, hf⟩ := hI
      have hk := hks ks[i] (List.getElem_mem hi)
      generalize ks[i] = k at hk
      rw [show (0 : Int) + (k : Int) = (k : Int) from Int.zero_add _]
      refine ⟨_, rfl, ?_⟩
      have hr : rows[k] ∈ rows := List.getElem_mem hk
      generalize er : rows[k] = r at hr
      have hno : ∀ z : Row, z.l = r.l → z ≠ r → z ∉ rows := fun z hz hne hm => hne (nodup_lab h.nd hm hr hz)
      have hnz : ∀ a b c, zrow a b c ∉ rows := fun a b c hm => h.nz _ hm rfl
      show Rn _ [.dat (ld rows), .dats (ns.map ld), .dat (.int k), y3, y4, y5, y6, .unk] _
      refine Rn.sqasg (d := rowD r) (ρ' := [.dat (ld rows), .dats (ns.map ld), .dat (.int k), .dat (.str r.l), .dat (.int r.a), .dat (.int r.b), .dat (.int r.c), .unk]) ?_ rfl ?_
      · (simp (disch := first | assumption | omega) only [ld, MV])
        rw [nth_nat hk, er]
      have step : ∀ (ns : List (List Row)) (z : Row) (f : Ev → Option D), ns.length ≤ 1000 → f [.dat (ld rows), .dats (ns.map ld), .dat (.int k), .dat (.str r.l), .dat (.int r.a), .dat (.int r.b), .dat (.int r.c), .unk] = some (rowD z) →
          (b2 (b2 (slc (gv 0) noPart (part (gv 2))) (mkLst (aCons f aNil)) addA) (slc (gv 0) (part (b2 (gv 2) (kI 1) addA)) noPart) addA) [.dat (ld rows), .dats (ns.map ld), .dat (.int k), .dat (.str r.l), .dat (.int r.a), .dat (.int r.b), .dat (.int r.c), .unk] = some (ld (rows.take k ++ [z] ++ rows.drop (k + 1))) := by
        intro ns z f _ hf
        have e1 := sl_to (ρ := [.dat (ld rows), .dats (ns.map ld), .dat (.int k), .dat (.str r.l), .dat (.int r.a), .dat (.int r.b), .dat (.int r.c), .unk]) (rows := rows) (k := k) rfl rfl
        have e2 := sl_from (ρ := [.dat (ld rows), .dats (ns.map ld), .dat (.int k), .dat (.str r.l), .dat (.int r.a), .dat (.int r.b), .dat (.int r.c), .unk]) (rows := rows) (k := k) rfl rfl
        rw [b2_of (x := .lst (((rows.take k) ++ [z]).map rowD)) (y := .lst ((rows.drop (k + 1)).map rowD)) ?_ e2]
        · rw [ev_catL (by simp; omega)]
          simp only [ld, List.map_append]
        · rw [b2_of (x := .lst ((rows.take k).map rowD)) (y := .lst [rowD z]) e1 (by (simp (disch := first | assumption | omega) only [hf, MV]))]
          rw [ev_catL (by simp; omega), List.map_append]; rfl
      have more : ∀ (ns : List (List Row)) (n : List Row) (g : Ev → Option Fl) (f : Ev → Option D) (Q : Fl → Prop), ns.length ≤ 1000 → f [.dat (ld rows), .dats (ns.map ld), .dat (.int k), .dat (.str r.l), .dat (.int r.a), .dat (.int r.b), .dat (.int r.c), .unk] = some (ld n) →
          Rn g [.dat (ld rows), .dats ((ns ++ [n]).map ld), .dat (.int k), .dat (.str r.l), .dat (.int r.a), .dat (.int r.b), .dat (.int r.c), .unk] Q →
          Rn (sq (app 1 f) g) [.dat (ld rows), .dats (ns.map ld), .dat (.int k), .dat (.str r.l), .dat (.int r.a), .dat (.int r.b), .dat (.int r.c), .unk] Q := by
        intro ns n g f Q hl hf hk
        refine Rn.sqapp hf rfl (by rw [List.length_map]; omega) ?_
        rw [List.map_append] at hk
        exact hk
      have hmap : ∀ (X : List (List Row)) (n : List Row), (X ++ [n]).map ld = X.map ld ++ [ld n] := fun X n => by simp
      have hi' : i < 59 := by omega
      refine more ns (rows.take k ++ rows.drop (k + 1)) _ _ _ (by omega) ?_ ?_
      · have e1 := sl_to (ρ := [.dat (ld rows), .dats (ns.map ld), .dat (.int k), .dat (.str r.l), .dat (.int r.a), .dat (.int r.b), .dat (.int r.c), .unk]) (rows := rows) (k := k) rfl rfl
        have e2 := sl_from (ρ := [.dat (ld rows), .dats (ns.map ld), .dat (.int k), .dat (.str r.l), .dat (.int r.a), .dat (.int r.b), .dat (.int r.c), .unk]) (rows := rows) (k := k) rfl rfl
        rw [b2_of e1 e2, ev_catL (by simp; omega), ld, List.map_append]
      refine more _ _ _ _ _ (by simp; omega) (step _ (zrow r.a r.b r.c) _ (by simp; omega) (by (simp (disch := first | assumption | omega) only [rowD, zrow, MV]))) ?_
      refine more _ _ _ _ _ (by simp; omega) (step _ ⟨r.l, r.a + 1, r.b, r.c⟩ _ (by simp; omega) (by (simp (disch := first | assumption | omega) only [rowD, MV]))) ?_
      refine more _ _ _ _ _ (by simp; omega) (step _ ⟨r.l, r.a, r.b + 1, r.c⟩ _ (by simp; omega) (by (simp (disch := first | assumption | omega) only [rowD, MV]))) ?_
      refine Rn.appD (step _ ⟨r.l, r.a, r.b, r.c + 1⟩ _ (by simp; omega) (by (simp (disch := first | assumption | omega) only [rowD, MV]))) rfl (by simp; omega) ?_
      refine ⟨ns ++ [rows.take k ++ rows.drop (k + 1)] ++ [rows.take k ++ [zrow r.a r.b r.c] ++ rows.drop (k + 1)] ++ [rows.take k ++ [⟨r.l, r.a + 1, r.b, r.c⟩] ++ rows.drop (k + 1)] ++ [rows.take k ++ [⟨r.l, r.a, r.b + 1, r.c⟩] ++ rows.drop (k + 1)] ++ [rows.take k ++ [⟨r.l, r.a, r.b, r.c + 1⟩] ++ rows.drop (k + 1)],
        _, _, _, _, _, by simp only [hmap]; rfl, by simp only [List.length_append, List.length_cons, List.length_nil]; omega, fun n hn => ?_⟩
      have okr := h.ok r hr
      simp only [List.mem_append, List.mem_singleton, or_assoc] at hn
      rcases hn with hn | rfl | rfl | rfl | rfl | rfl
      · exact hf n hn
      · exact far_cut h hk
      · exact List.append_assoc _ _ _ ▸ far_put h (hnz _ _ _) okZ
      · have q := far_put h (k := k) (z := ⟨r.l, r.a + 1, r.b, r.c⟩) (hno _ rfl fun z => by have := congrArg Row.a z; dsimp only at this; omega) okr
        rw [List.append_assoc] at q; first | exact q | (rw [← List.append_assoc] at q; exact q)
      · have q := far_put h (k := k) (z := ⟨r.l, r.a, r.b + 1, r.c⟩) (hno _ rfl fun z => by have := congrArg Row.b z; dsimp only at this; omega) okr
        rw [List.append_assoc] at q; first | exact q | (rw [← List.append_assoc] at q; exact q)
      · have q := far_put h (k := k) (z := ⟨r.l, r.a, r.b, r.c + 1⟩) (hno _ rfl fun z => by have := congrArg Row.c z; dsimp only at this; omega) okr
        rw [List.append_assoc] at q; first | exact q | (rw [← List.append_assoc] at q; exact q)
    · obtain ⟨ns, y2, y3, y4, y5, y6, rfl, hl, hf⟩ := hI
      exact Rn.fzD rfl (Rn.ret rfl ⟨_, _, rfl, rfl, ns, rfl, hf⟩)
  exact ⟨nears, e, hn⟩
end K01

namespace K01
open PySem L2 PD
theorem eqR_t {a b : List Row} (h : a.Perm b) : eqR (srt a) (srt b) = true := eqR_iff.mpr (srt_eq h)
theorem eqR_f {a b : List Row} (h : ¬ a.Perm b) : eqR (srt a) (srt b) = false := by
  cases e : eqR (srt a) (srt b) with
  | false => rfl
  | true => exact absurd (srt_ne (eqR_iff.mp e)) h
theorem isi_lst (C : Cs) (l : List D) : isiC [(C.Shift, true)] (.lst l) = some (.bl false) := rfl
theorem compared_true (C : Cs) (rows : List Row) (h : Own rows) : m_law_compared C [shD C rows, ld rows] = some (.bl true) := by
  have hle := h.le
  obtain ⟨nears, en, hn⟩ := near_ex C rows h
  unfold m_law_compared
  refine runP_eq ?_
  show Rn _ [.dat (shD C rows), .dat (ld rows), .unk, .unk] _
  have okrev : okR rows.reverse := fun r hr => h.ok r (List.mem_reverse.mp hr)
  refine Rn.chk ?_ ?_
  · have e1 := mk_sh C (e := b1 (gv 1) revD) (ρ := [.dat (shD C rows), .dat (ld rows), .unk, .unk]) (rows := rows.reverse) (by (simp (disch := first | assumption | omega) only [ld, List.map_reverse, MV])) (by rw [List.length_reverse]; omega)
    have e2 := opeq_sh C h.ok okrev
    rw [eqR_t (List.reverse_perm rows).symm] at e2
    have e3 := opeq_sh C h.ok h.ok
    rw [eqR_t (List.Perm.refl rows)] at e3
    (simp (disch := first | assumption | omega) only [e1, e2, e3, same_bl C 4, MV])
  refine Rn.sqfor (xs := nears) (φ := ld) (by (simp (disch := first | assumption | omega) only [en, MV])) (fun i ρ => ∃ y, ρ = [.dat (shD C rows), .dat (ld rows), y, .unk]) ⟨_, rfl⟩ (fun i hi ρ hI => ?_) (fun ρ hI => ?_)
  · obtain ⟨y, rfl⟩ := hI
    have hf := hn nears[i] (List.getElem_mem hi)
    generalize nears[i] = n at hf
    refine ⟨_, rfl, ?_⟩
    show Rn _ [.dat (shD C rows), .dat (ld rows), .dat (ld n), .unk] _
    have e1 := mk_sh C (e := gv 2) (ρ := [.dat (shD C rows), .dat (ld rows), .dat (ld n), .unk]) (rows := n) rfl hf.2.1
    have e2 := opeq_sh C h.ok hf.2.2
    rw [eqR_f fun z => hf.1 z.symm] at e2
    have e3 := opeq_sh C hf.2.2 h.ok
    rw [eqR_f hf.1] at e3
    refine Rn.ite (t := false) (by (simp (disch := first | assumption | omega) only [e1, e2, e3, same_bl C 4, MV])) (fun z => nomatch z) fun _ => Rn.skip ⟨_, rfl⟩
  obtain ⟨y, rfl⟩ := hI
  have el : iOf (mkLst (aCons kN (aCons (cB (aCons (frz (cO (aCons (gv 1) aNil) srtO)) aNil) tupD) (aCons (frz (cO (aCons (gv 1) aNil) listO)) (aCons (kS "shift") (aCons (kI 0) aNil)))))) [.dat (shD C rows), .dat (ld rows), y, .unk] = some ([.non, .tup ((srt rows).map rowD), ld rows, .str "shift", .int 0].map id) := by
    have e1 := frz_srt (fa := gv 1) (ρ := [.dat (shD C rows), .dat (ld rows), y, .unk]) (rows := rows) rfl (by omega)
    (simp (disch := first | assumption | omega) only [e1, MV])
    (simp (disch := first | assumption | omega) only [ld, id, MV])
  refine Rn.sqfor el (fun i ρ => ∃ y3, ρ = [.dat (shD C rows), .dat (ld rows), y, y3]) ⟨_, rfl⟩ (fun i hi ρ hI => ?_) (fun ρ hI => ?_)
  · obtain ⟨y3, rfl⟩ := hI
    have hx : ∃ t, tyD ([D.non, .tup ((srt rows).map rowD), ld rows, .str "shift", .int 0][i]) = some t ∧ isiC [(C.Shift, true)] ([D.non, .tup ((srt rows).map rowD), ld rows, .str "shift", .int 0][i]) = some (.bl false) := by
      have hi : i < 5 := hi
      match i, hi with
      | 0, _ => exact ⟨_, rfl, rfl⟩
      | 1, _ => exact ⟨_, rfl, rfl⟩
      | 2, _ => exact ⟨_, rfl, rfl⟩
      | 3, _ => exact ⟨_, rfl, rfl⟩
      | 4, _ => exact ⟨_, rfl, rfl⟩
    generalize [D.non, .tup ((srt rows).map rowD), ld rows, .str "shift", .int 0][i] = d at hx
    obtain ⟨t, ht, hi2⟩ := hx
    refine ⟨_, rfl, ?_⟩
    show Rn _ [.dat (shD C rows), .dat (ld rows), y, .dat d] _
    have e2 := opeq_no C (a := rows) hi2 ⟨t, ht⟩
    refine Rn.ite (t := false) (by (simp (disch := first | assumption | omega) only [e2, same_bl C 4, MV])) (fun z => nomatch z) fun _ => Rn.skip ⟨_, rfl⟩
  obtain ⟨y3, rfl⟩ := hI
  exact Rn.ret rfl ⟨_, rfl, rfl⟩
theorem own_of {ls : List Str} {m : Int} {rows : List Row} (hp : Pool ls) (h : Rows ls m rows) : Own rows := ⟨h.1, fun r hr => (hp.2 _ (h.2.1 r hr)).2.2, fun r hr => (hp.2 _ (h.2.1 r hr)).1, h.2.2.1⟩
theorem cell_row (C : Cs) (ns : List Int) (k n : Nat) (hn : n ≤ 1000) : ∃ rs : List Int, m_law_row C [.int (ns.getD k 0), .int n] = some (.lst (rs.map .int)) ∧ rs.length = n ∧ ∀ r ∈ rs, 0 ≤ r ∧ r < 1000 := law_row_ex C _ n hn
theorem shown_add (C : Cs) {a b : List Row} (ha : Own a) (hb : Own b) : ∃ d, mShift_add C [shD C a, shD C b] = some d ∧ m_law_shown C [d, ld (plusR a b)] = some (.bl true) := by
  have h1 := ha.le; have h2 := hb.le
  refine ⟨_, add_eq C a b (by omega) (by omega) ha.nd hb.nd, ?_⟩
  refine shown_true C (plusR_perm (srt_perm a) (srt_perm b) (((srt_perm b).map _).nodup_iff.mpr hb.nd)) ?_
  have := plus_len a b
  omega
theorem shown_mul (C : Cs) {a : List Row} (ha : Own a) {t : Int} (hm : okM t a) : ∃ d, mShift_mul C [shD C a, .int t] = some d ∧ m_law_shown C [d, ld (if t = 0 then [] else a.map (mulF t))] = some (.bl true) := by
  have h1 := ha.le
  refine ⟨_, mul_eq C a t (by omega) hm, ?_⟩
  refine shown_true C ?_ ?_
  · split
    · exact List.Perm.refl _
    · exact (srt_perm a).map _
  · split
    · exact Nat.zero_le _
    · rw [List.length_map]; omega
theorem law_true (C : Cs) : ∀ ns : List Int, ns.length ≤ 63 → mlaw C [.lst (ns.map .int)] = some (.bl true) := by
  intro ns _
  obtain ⟨r0, e0, l0, b0⟩ := cell_row C ns 0 4 (by decide)
  obtain ⟨ls, ep, hp, hpl⟩ := law_pool_ex C r0 l0 b0
  obtain ⟨r1, e1, l1, b1⟩ := cell_row C ns 1 216 (by decide)
  obtain ⟨first, ef, hf⟩ := law_rows_ex C r1 l1 b1 ls hp hpl 2
  obtain ⟨r2, e2, l2, b2'⟩ := cell_row C ns 2 216 (by decide)
  obtain ⟨second, es, hs⟩ := law_rows_ex C r2 l2 b2' ls hp hpl 2
  obtain ⟨r3, e3, l3, b3⟩ := cell_row C ns 3 216 (by decide)
  obtain ⟨third, et, ht⟩ := law_rows_ex C r3 l3 b3 ls hp hpl 1
  obtain ⟨r4, e4, l4, b4⟩ := cell_row C ns 4 9 (by decide)
  obtain ⟨cnt, ec, hc⟩ := law_count_ex C r4 l4 b4
  have c0 := law_cell_eq C ns 0
  have c1 := law_cell_eq C ns 1
  have c2 := law_cell_eq C ns 2
  have c3 := law_cell_eq C ns 3
  have c4 := law_cell_eq C ns 4
  have of := own_of hp hf
  have os := own_of hp hs
  have ot := own_of hp ht
  have fle := of.le
  have sle := os.le
  have tle := ot.le
  simp only [Int.cast_ofNat_Int, Int.ofNat_zero, Int.ofNat_one] at c0 c1 c2 c3 c4 e0 e1 e2 e3 e4
  unfold mlaw
  refine runP_eq ?_
  show Rn _ [.dat (.lst (ns.map .int)), .unk, .unk, .unk, .unk, .unk, .unk, .unk, .unk, .unk, .unk] _
  refine Rn.sqst (d := .lst (ls.map .str)) (by (simp (disch := first | assumption | omega) only [c0, e0, ep, MV])) ?_
  refine Rn.sqst (d := ld first) (by show _ = _; simp only [ev_set0, ev_setS]; (simp (disch := first | assumption | omega) only [c1, e1, ef, ld, MV])) ?_
  refine Rn.sqst (d := ld second) (by simp only [ev_set0, ev_setS]; (simp (disch := first | assumption | omega) only [c2, e2, es, ld, MV])) ?_
  refine Rn.sqst (d := ld third) (by simp only [ev_set0, ev_setS]; (simp (disch := first | assumption | omega) only [c3, e3, et, ld, MV])) ?_
  refine Rn.sqst (d := .lst (r4.map .int)) (by simp only [ev_set0, ev_setS]; (simp (disch := first | assumption | omega) only [c4, e4, MV])) ?_
  simp only [ev_set0, ev_setS]
  generalize hS : O.dat (.lst (ns.map D.int)) = S
  generalize hPO : O.dat (.lst (ls.map D.str)) = PO
  refine Rn.sqstO (o := .dats (first.map rowD)) (by (simp (disch := first | assumption | omega) only [ld, MV])) ?_
  simp only [ev_set0, ev_setS]
  refine Rn.sqst (d := shD C first) ?_ ?_
  · have : cI0 C.Shift [.own 6] 2 (mShift_init__L1 C) [S, PO, .dat (ld first), .dat (ld second), .dat (ld third), .dat (.lst (r4.map .int)), .dats (first.map rowD), .unk, .unk, .unk, .unk] = some (shO C first) := by
      have h1 : argsO [.own 6] [S, PO, .dat (ld first), .dat (ld second), .dat (ld third), .dat (.lst (r4.map .int)), .dats (first.map rowD), .unk, .unk, .unk, .unk] = some ([.dats (first.map rowD)], [S, PO, .dat (ld first), .dat (ld second), .dat (ld third), .dat (.lst (r4.map .int)), .unk, .unk, .unk, .unk, .unk]) := rfl
      unfold cI0
      rw [h1, Option.bind_some]
      dsimp only
      rw [if_pos (show [O.dats (first.map rowD)].length + 1 = 2 from rfl), init_own C first (by omega), Option.bind_some]
      dsimp only
      exact if_pos ⟨rfl, rfl⟩
    (simp (disch := first | assumption | omega) only [this, MV])
    rfl
  simp only [ev_set0, ev_setS]
  refine Rn.chk ?_ ?_
  · unfold vwT
    have hv : List.map O.vw [S, PO, .dat (ld first), .dat (ld second), .dat (ld third), .dat (.lst (r4.map .int)), .dats (first.map rowD), .dat (shD C first), .unk, .unk, .unk] = [S, PO, .dat (ld first), .dat (ld second), .dat (ld third), .dat (.lst (r4.map .int)), .dat (ld first), .dat (shD C first), .unk, .unk, .unk] := by
      have : O.vw (.dats (first.map rowD)) = .dat (ld first) := by unfold O.vw; rw [toD_dats]; rfl
      simp only [List.map_cons, List.map_nil, this, ← hS, ← hPO]
      rfl
    rw [hv]
    have := same_self C 5 (ld first) (sm_lst first (by omega))
    (simp (disch := first | assumption | omega) only [this, MV])
  refine Rn.sqapp (d := rowD (zrow 0 0 0)) (ds := first.map rowD) (by (simp (disch := first | assumption | omega) only [rowD, zrow, MV])) rfl (by rw [List.length_map]; omega) ?_
  simp only [ev_set0, ev_setS]
  generalize O.dats (first.map rowD ++ [rowD (zrow 0 0 0)]) = PA
  refine Rn.sqst (d := shD C second) ?_ ?_
  · (simp (disch := first | assumption | omega) only [ld, init_tup C second (by omega), MV])
    rfl
  simp only [ev_set0, ev_setS]
  have sf := shown_true C (List.Perm.refl first) (by omega)
  have ss := shown_true C (List.Perm.refl second) (by omega)
  refine Rn.chk (by (simp (disch := first | assumption | omega) only [ld, sf, ss, MV])) ?_
  obtain ⟨d1, q1, w1⟩ := shown_add C of os
  obtain ⟨d2, q2, w2⟩ := shown_add C os of
  obtain ⟨d3, q3, w3⟩ := shown_add C of of
  have p1 := plus_eq C first second (by omega) (by omega)
  have p2 := plus_eq C second first (by omega) (by omega)
  have p3 := plus_eq C first first (by omega) (by omega)
  simp only [ld] at w1 w2 w3
  refine Rn.chk (by (simp (disch := first | assumption | omega) only [ld, opadd, q1, q2, w1, w2, p1, p2, MV])) ?_
  have q4 := inv_eq C first (by omega)
  have p4 := back_eq C first (by omega)
  have w4 := shown_true C (a := (srt first).map backF) (b := first.map backF) ((srt_perm first).map _) (by rw [List.length_map]; omega)
  refine Rn.chk (by (simp (disch := first | assumption | omega) only [ld, opadd, opinv, q3, w3, p3, q4, p4, w4, MV])) ?_
  have b8 := nth_rng b4 8
  refine Rn.sqfor (xs := [0, 1, 2, nth r4 8 % 10]) (φ := D.int) (by (simp (disch := first | assumption | omega) only [MV])) (fun i ρ => ∃ y, ρ = [S, PO, .dat (ld first), .dat (ld second), .dat (ld third), .dat (.lst (r4.map .int)), PA, .dat (shD C first), .dat (shD C second), y, .unk]) ⟨_, rfl⟩ (fun i hi ρ hI => ?_) (fun ρ hI => ?_)
  · obtain ⟨y, rfl⟩ := hI
    have hx : 0 ≤ [0, 1, 2, nth r4 8 % 10][i] ∧ [0, 1, 2, nth r4 8 % 10][i] < 1000 := by
      have hi : i < 4 := hi
      match i, hi with
      | 0, _ => show (0:Int) ≤ 0 ∧ (0:Int) < 1000; omega
      | 1, _ => show (0:Int) ≤ 1 ∧ (1:Int) < 1000; omega
      | 2, _ => show (0:Int) ≤ 2 ∧ (2:Int) < 1000; omega
      | 3, _ => show 0 ≤ nth r4 8 % 10 ∧ nth r4 8 % 10 < 1000; omega
    generalize [0, 1, 2, nth r4 8 % 10][i] = t at hx
    refine ⟨_, rfl, ?_⟩
    show Rn _ [S, PO, .dat (ld first), .dat (ld second), .dat (ld third), .dat (.lst (r4.map .int)), PA, .dat (shD C first), .dat (shD C second), .dat (.int t), .unk] _
    obtain ⟨d5, q5, w5⟩ := shown_mul C of (t := t) (.inl hx)
    have p5 := times_eq C first t (by omega) (.inl hx)
    simp only [ld] at w5
    refine Rn.ite (t := false) (by (simp (disch := first | assumption | omega) only [ld, opmul, q5, w5, p5, MV])) (fun z => nomatch z) fun _ => Rn.skip ⟨_, rfl⟩
  obtain ⟨y, rfl⟩ := hI
  refine Rn.sqst (d := .int cnt) (by (simp (disch := first | assumption | omega) only [ec, MV])) ?_
  simp only [ev_set0, ev_setS]
  have okt : okM cnt third := .inr (ht.2.2.2 (.inr rfl))
  obtain ⟨d6, q6, w6⟩ := shown_mul C ot okt
  have p6 := times_eq C third cnt (by omega) okt
  simp only [ld] at w6
  refine Rn.chk ?_ ?_
  · have mk := mk_sh C (e := gv 4) (ρ := [S, PO, .dat (ld first), .dat (ld second), .dat (ld third), .dat (.lst (r4.map .int)), PA, .dat (shD C first), .dat (shD C second), y, .dat (.int cnt)]) (rows := third) rfl (by omega)
    (simp (disch := first | assumption | omega) only [mk, opmul, q6, MV])
    (simp (disch := first | assumption | omega) only [ld, p6, w6, MV])
  have eqs := opeq_sh C of.ok os.ok
  refine Rn.chk ?_ ?_
  · have f1 := frz_srt (fa := gv 2) (ρ := [S, PO, .dat (ld first), .dat (ld second), .dat (ld third), .dat (.lst (r4.map .int)), PA, .dat (shD C first), .dat (shD C second), y, .dat (.int cnt)]) (rows := first) rfl (by omega)
    have f2 := frz_srt (fa := gv 3) (ρ := [S, PO, .dat (ld first), .dat (ld second), .dat (ld third), .dat (.lst (r4.map .int)), PA, .dat (shD C first), .dat (shD C second), y, .dat (.int cnt)]) (rows := second) rfl (by omega)
    have e5 : orD eqD (eqC C.Shift [] (mShift_eq C)) (.lst ((srt first).map rowD)) (.lst ((srt second).map rowD)) = some (.bl (eqR (srt first) (srt second))) := by
      unfold orD
      rw [eqvD_rows (okR_srt of.ok) (okR_srt os.ok) .lst (.inr rfl)]
    (simp (disch := first | assumption | omega) only [f1, f2, e5, eqs, same_bl C 4, compared_true C first of, MV])
  refine Rn.ret (d := .bl true) ?_ ⟨_, rfl, rfl⟩
  (simp (disch := first | assumption | omega) only [ld, sf, ss, MV])
end K01

namespace K01
open PySem PySem.Spec L2 PD
theorem all_mk {lw : PySem.W.OpenLaw} {w : World} {fa : Addr} {K : PySem.W.Frag} {h : Heap} {mg : Str → Option Value} (X : K.In h) (G : h.Ns mainGlobals mg)
    (z0 : PySem.W.nsIn K mainGlobals "any" = some none)
    (z1 : PySem.W.nsIn K mainGlobals "bool" = some none)
    (z2 : PySem.W.nsIn K mainGlobals "int" = some none)
    (z3 : PySem.W.nsIn K mainGlobals "isinstance" = some none)
    (z4 : PySem.W.nsIn K mainGlobals "len" = some none)
    (z5 : PySem.W.nsIn K mainGlobals "list" = some none)
    (z6 : PySem.W.nsIn K mainGlobals "max" = some none)
    (z7 : PySem.W.nsIn K mainGlobals "min" = some none)
    (z8 : PySem.W.nsIn K mainGlobals "range" = some none)
    (z9 : PySem.W.nsIn K mainGlobals "sorted" = some none)
    (z10 : PySem.W.nsIn K mainGlobals "str" = some none)
    (z11 : PySem.W.nsIn K mainGlobals "tuple" = some none)
    {C0 : Addr} {cd0d : ClassData}
    (u0_g : PySem.W.nsIn K mainGlobals "Shift" = some (some (.ref C0)))
    (u0_a : PySem.W.plainGet K C0 Str.empty = true)
    (u0_b : PySem.W.hasDictIn K C0 = true)
    (u0_c : PySem.W.plainOver K C0 = true)
    (u0_d : PySem.W.findIn K (.ref C0) "__setattr__" = some (some (.builtin "object.__setattr__")))
    (u0_e : PySem.W.findIn K (.ref C0) "__class__" = some (some (.builtin "object.__class__")))
    (u0_f : PySem.W.specialIn K (.builtin "object.__class__") "__get__" = some (some (.builtin "getset_descriptor.__get__")))
    (u0_h : PySem.W.takesIn K (.builtin "object.__class__") = some true)
    (u0_i : PySem.W.mroIn K C0 (.type "object") = some true)
    (u0_j : PySem.W.typeIn K (.ref C0) = some (.type "type"))
    (u0_k : PySem.W.clsIn K C0 = some cd0d)
    (u0_l : PySem.W.keepIn K (.ref C0) = true)
    (v0_0 : PySem.W.findIn K (.ref C0) "rows" = some none)
    (v0_4 : PySem.W.makesIn K C0 = true)
    (v0_5 : PySem.W.selfFirst K C0 = true)
    {fo0_5 ro0_5 : Option Value}
    (w0_5 : PySem.W.findIn K (.ref C0) (dunderR (Operator.Mult).info.2) = some none)
    (p0_5 : PySem.W.findIn K (.type "int") (PySem.dunder (Operator.Mult).info.2) = some fo0_5)
    (q0_5 : PySem.W.findIn K (.type "int") (dunderR (Operator.Mult).info.2) = some ro0_5)
    (v0_6 : PySem.W.selfFirst K C0 = true)
    {f0 : Addr} {oc0 kV0 dc0 pm0 cd0 ct0 : Value} {od0 an0 : Option Addr} {sl0 : Array (Option Value)}
    (a0 : PySem.W.nsIn K mainGlobals "_law_same" = some (some (.ref f0)))
    (l0 : K.lookup f0 = some ⟨oc0, od0, .func (PySem.W.fnOf "_law_same" "_law_same" (defArgs s_law_same) (defBody s_law_same) (defScope s_law_same) .none kV0 dc0 pm0 an0 cd0 ct0), sl0⟩)
    (c0 : PySem.W.codeIn K cd0 "_law_same" = true)
    (k0 : PySem.W.keepIn K (.ref f0) = true)
    {f1 : Addr} {oc1 kV1 dc1 pm1 cd1 ct1 : Value} {od1 an1 : Option Addr} {sl1 : Array (Option Value)}
    {pa1 : Addr} {rs1 : List Value}
    (a1 : PySem.W.findIn K (.ref C0) "never" = some (some (.ref pa1)))
    (a1_1 : PySem.W.specialIn K (.ref pa1) "__get__" = some (some (.builtin "property.__get__")))
    (a1_2 : PySem.W.takesIn K (.ref pa1) = some true)
    (a1_3 : PySem.W.recIn K pa1 "property" = some (.ref f1 :: rs1))
    (l1 : K.lookup f1 = some ⟨oc1, od1, .func (PySem.W.fnOf "never" "Shift.never" (defArgs sShift_never) (defBody sShift_never) (defScope sShift_never) .none kV1 dc1 pm1 an1 cd1 ct1), sl1⟩)
    (c1 : PySem.W.codeIn K cd1 "Shift.never" = true)
    (k1 : PySem.W.keepIn K (.ref f1) = true)
    {f2 : Addr} {oc2 kV2 dc2 pm2 cd2 ct2 : Value} {od2 an2 : Option Addr} {sl2 : Array (Option Value)}
    (a2 : PySem.W.nsIn K mainGlobals "_law_shown" = some (some (.ref f2)))
    (l2 : K.lookup f2 = some ⟨oc2, od2, .func (PySem.W.fnOf "_law_shown" "_law_shown" (defArgs s_law_shown) (defBody s_law_shown) (defScope s_law_shown) .none kV2 dc2 pm2 an2 cd2 ct2), sl2⟩)
    (c2 : PySem.W.codeIn K cd2 "_law_shown" = true)
    (k2 : PySem.W.keepIn K (.ref f2) = true)
    {f3 : Addr} {oc3 kV3 dc3 pm3 cd3 ct3 : Value} {od3 an3 : Option Addr} {sl3 : Array (Option Value)}
    (a3 : PySem.W.findIn K (.ref C0) "__eq__" = some (some (.ref f3)))
    (a3_1 : PySem.W.isFn K (.ref f3) = true)
    (l3 : K.lookup f3 = some ⟨oc3, od3, .func (PySem.W.fnOf "__eq__" "Shift.__eq__" (defArgs sShift_eq) (defBody sShift_eq) (defScope sShift_eq) .none kV3 dc3 pm3 an3 cd3 ct3), sl3⟩)
    (c3 : PySem.W.codeIn K cd3 "Shift.__eq__" = true)
    (k3 : PySem.W.keepIn K (.ref f3) = true)
    {f4 : Addr} {oc4 kV4 dc4 pm4 cd4 ct4 : Value} {od4 an4 : Option Addr} {sl4 : Array (Option Value)}
    (a4 : PySem.W.nsIn K mainGlobals "_law_near" = some (some (.ref f4)))
    (l4 : K.lookup f4 = some ⟨oc4, od4, .func (PySem.W.fnOf "_law_near" "_law_near" (defArgs s_law_near) (defBody s_law_near) (defScope s_law_near) .none kV4 dc4 pm4 an4 cd4 ct4), sl4⟩)
    (c4 : PySem.W.codeIn K cd4 "_law_near" = true)
    (k4 : PySem.W.keepIn K (.ref f4) = true)
    {f5 : Addr} {oc5 kV5 dc5 pm5 cd5 ct5 : Value} {od5 an5 : Option Addr} {sl5 : Array (Option Value)}
    (a5 : PySem.W.findIn K (.ref C0) "__init__" = some (some (.ref f5)))
    (a5_1 : PySem.W.isFn K (.ref f5) = true)
    (l5 : K.lookup f5 = some ⟨oc5, od5, .func (PySem.W.fnOf "__init__" "Shift.__init__" (defArgs sShift_init) (defBody sShift_init) (defScope sShift_init) .none kV5 dc5 pm5 an5 cd5 ct5), sl5⟩)
    (c5 : PySem.W.codeIn K cd5 "Shift.__init__" = true)
    (k5 : PySem.W.keepIn K (.ref f5) = true)
    {f6 : Addr} {oc6 kV6 dc6 pm6 cd6 ct6 : Value} {od6 an6 : Option Addr} {sl6 : Array (Option Value)}
    (a6 : PySem.W.nsIn K mainGlobals "_law_compared" = some (some (.ref f6)))
    (l6 : K.lookup f6 = some ⟨oc6, od6, .func (PySem.W.fnOf "_law_compared" "_law_compared" (defArgs s_law_compared) (defBody s_law_compared) (defScope s_law_compared) .none kV6 dc6 pm6 an6 cd6 ct6), sl6⟩)
    (c6 : PySem.W.codeIn K cd6 "_law_compared" = true)
    (k6 : PySem.W.keepIn K (.ref f6) = true)
    {f7 : Addr} {oc7 kV7 dc7 pm7 cd7 ct7 : Value} {od7 an7 : Option Addr} {sl7 : Array (Option Value)}
    (a7 : PySem.W.nsIn K mainGlobals "_law_times" = some (some (.ref f7)))
    (l7 : K.lookup f7 = some ⟨oc7, od7, .func (PySem.W.fnOf "_law_times" "_law_times" (defArgs s_law_times) (defBody s_law_times) (defScope s_law_times) .none kV7 dc7 pm7 an7 cd7 ct7), sl7⟩)
    (c7 : PySem.W.codeIn K cd7 "_law_times" = true)
    (k7 : PySem.W.keepIn K (.ref f7) = true)
    {f8 : Addr} {oc8 kV8 dc8 pm8 cd8 ct8 : Value} {od8 an8 : Option Addr} {sl8 : Array (Option Value)}
    (a8 : PySem.W.findIn K (.ref C0) "__mul__" = some (some (.ref f8)))
    (a8_1 : PySem.W.isFn K (.ref f8) = true)
    (l8 : K.lookup f8 = some ⟨oc8, od8, .func (PySem.W.fnOf "__mul__" "Shift.__mul__" (defArgs sShift_mul) (defBody sShift_mul) (defScope sShift_mul) .none kV8 dc8 pm8 an8 cd8 ct8), sl8⟩)
    (c8 : PySem.W.codeIn K cd8 "Shift.__mul__" = true)
    (k8 : PySem.W.keepIn K (.ref f8) = true)
    {f9 : Addr} {oc9 kV9 dc9 pm9 cd9 ct9 : Value} {od9 an9 : Option Addr} {sl9 : Array (Option Value)}
    (a9 : PySem.W.nsIn K mainGlobals "_law_count" = some (some (.ref f9)))
    (l9 : K.lookup f9 = some ⟨oc9, od9, .func (PySem.W.fnOf "_law_count" "_law_count" (defArgs s_law_count) (defBody s_law_count) (defScope s_law_count) .none kV9 dc9 pm9 an9 cd9 ct9), sl9⟩)
    (c9 : PySem.W.codeIn K cd9 "_law_count" = true)
    (k9 : PySem.W.keepIn K (.ref f9) = true)
    {f10 : Addr} {oc10 kV10 dc10 pm10 cd10 ct10 : Value} {od10 an10 : Option Addr} {sl10 : Array (Option Value)}
    (a10 : PySem.W.nsIn K mainGlobals "_law_plus" = some (some (.ref f10)))
    (l10 : K.lookup f10 = some ⟨oc10, od10, .func (PySem.W.fnOf "_law_plus" "_law_plus" (defArgs s_law_plus) (defBody s_law_plus) (defScope s_law_plus) .none kV10 dc10 pm10 an10 cd10 ct10), sl10⟩)
    (c10 : PySem.W.codeIn K cd10 "_law_plus" = true)
    (k10 : PySem.W.keepIn K (.ref f10) = true)
    {f11 : Addr} {oc11 kV11 dc11 pm11 cd11 ct11 : Value} {od11 an11 : Option Addr} {sl11 : Array (Option Value)}
    (a11 : PySem.W.nsIn K mainGlobals "row_of_both" = some (some (.ref f11)))
    (l11 : K.lookup f11 = some ⟨oc11, od11, .func (PySem.W.fnOf "row_of_both" "row_of_both" (defArgs srow_of_both) (defBody srow_of_both) (defScope srow_of_both) .none kV11 dc11 pm11 an11 cd11 ct11), sl11⟩)
    (c11 : PySem.W.codeIn K cd11 "row_of_both" = true)
    (k11 : PySem.W.keepIn K (.ref f11) = true)
    {f12 : Addr} {oc12 kV12 dc12 pm12 cd12 ct12 : Value} {od12 an12 : Option Addr} {sl12 : Array (Option Value)}
    (a12 : PySem.W.findIn K (.ref C0) "__add__" = some (some (.ref f12)))
    (a12_1 : PySem.W.isFn K (.ref f12) = true)
    (l12 : K.lookup f12 = some ⟨oc12, od12, .func (PySem.W.fnOf "__add__" "Shift.__add__" (defArgs sShift_add) (defBody sShift_add) (defScope sShift_add) .none kV12 dc12 pm12 an12 cd12 ct12), sl12⟩)
    (c12 : PySem.W.codeIn K cd12 "Shift.__add__" = true)
    (k12 : PySem.W.keepIn K (.ref f12) = true)
    {f13 : Addr} {oc13 kV13 dc13 pm13 cd13 ct13 : Value} {od13 an13 : Option Addr} {sl13 : Array (Option Value)}
    (a13 : PySem.W.nsIn K mainGlobals "_law_back" = some (some (.ref f13)))
    (l13 : K.lookup f13 = some ⟨oc13, od13, .func (PySem.W.fnOf "_law_back" "_law_back" (defArgs s_law_back) (defBody s_law_back) (defScope s_law_back) .none kV13 dc13 pm13 an13 cd13 ct13), sl13⟩)
    (c13 : PySem.W.codeIn K cd13 "_law_back" = true)
    (k13 : PySem.W.keepIn K (.ref f13) = true)
    {f14 : Addr} {oc14 kV14 dc14 pm14 cd14 ct14 : Value} {od14 an14 : Option Addr} {sl14 : Array (Option Value)}
    (a14 : PySem.W.findIn K (.ref C0) "__invert__" = some (some (.ref f14)))
    (a14_1 : PySem.W.isFn K (.ref f14) = true)
    (l14 : K.lookup f14 = some ⟨oc14, od14, .func (PySem.W.fnOf "__invert__" "Shift.__invert__" (defArgs sShift_invert) (defBody sShift_invert) (defScope sShift_invert) .none kV14 dc14 pm14 an14 cd14 ct14), sl14⟩)
    (c14 : PySem.W.codeIn K cd14 "Shift.__invert__" = true)
    (k14 : PySem.W.keepIn K (.ref f14) = true)
    {f15 : Addr} {oc15 kV15 dc15 pm15 cd15 ct15 : Value} {od15 an15 : Option Addr} {sl15 : Array (Option Value)}
    (a15 : PySem.W.nsIn K mainGlobals "_law_row" = some (some (.ref f15)))
    (l15 : K.lookup f15 = some ⟨oc15, od15, .func (PySem.W.fnOf "_law_row" "_law_row" (defArgs s_law_row) (defBody s_law_row) (defScope s_law_row) .none kV15 dc15 pm15 an15 cd15 ct15), sl15⟩)
    (c15 : PySem.W.codeIn K cd15 "_law_row" = true)
    (k15 : PySem.W.keepIn K (.ref f15) = true)
    {f16 : Addr} {oc16 kV16 dc16 pm16 cd16 ct16 : Value} {od16 an16 : Option Addr} {sl16 : Array (Option Value)}
    (a16 : PySem.W.nsIn K mainGlobals "_law_cell" = some (some (.ref f16)))
    (l16 : K.lookup f16 = some ⟨oc16, od16, .func (PySem.W.fnOf "_law_cell" "_law_cell" (defArgs s_law_cell) (defBody s_law_cell) (defScope s_law_cell) .none kV16 dc16 pm16 an16 cd16 ct16), sl16⟩)
    (c16 : PySem.W.codeIn K cd16 "_law_cell" = true)
    (k16 : PySem.W.keepIn K (.ref f16) = true)
    {f17 : Addr} {oc17 kV17 dc17 pm17 cd17 ct17 : Value} {od17 an17 : Option Addr} {sl17 : Array (Option Value)}
    (a17 : PySem.W.nsIn K mainGlobals "_law_number" = some (some (.ref f17)))
    (l17 : K.lookup f17 = some ⟨oc17, od17, .func (PySem.W.fnOf "_law_number" "_law_number" (defArgs s_law_number) (defBody s_law_number) (defScope s_law_number) .none kV17 dc17 pm17 an17 cd17 ct17), sl17⟩)
    (c17 : PySem.W.codeIn K cd17 "_law_number" = true)
    (k17 : PySem.W.keepIn K (.ref f17) = true)
    {f18 : Addr} {oc18 kV18 dc18 pm18 cd18 ct18 : Value} {od18 an18 : Option Addr} {sl18 : Array (Option Value)}
    (a18 : PySem.W.nsIn K mainGlobals "_law_rows" = some (some (.ref f18)))
    (l18 : K.lookup f18 = some ⟨oc18, od18, .func (PySem.W.fnOf "_law_rows" "_law_rows" (defArgs s_law_rows) (defBody s_law_rows) (defScope s_law_rows) .none kV18 dc18 pm18 an18 cd18 ct18), sl18⟩)
    (c18 : PySem.W.codeIn K cd18 "_law_rows" = true)
    (k18 : PySem.W.keepIn K (.ref f18) = true)
    {f19 : Addr} {oc19 kV19 dc19 pm19 cd19 ct19 : Value} {od19 an19 : Option Addr} {sl19 : Array (Option Value)}
    (a19 : PySem.W.nsIn K mainGlobals "_law_word" = some (some (.ref f19)))
    (l19 : K.lookup f19 = some ⟨oc19, od19, .func (PySem.W.fnOf "_law_word" "_law_word" (defArgs s_law_word) (defBody s_law_word) (defScope s_law_word) .none kV19 dc19 pm19 an19 cd19 ct19), sl19⟩)
    (c19 : PySem.W.codeIn K cd19 "_law_word" = true)
    (k19 : PySem.W.keepIn K (.ref f19) = true)
    {f20 : Addr} {oc20 kV20 dc20 pm20 cd20 ct20 : Value} {od20 an20 : Option Addr} {sl20 : Array (Option Value)}
    (a20 : PySem.W.nsIn K mainGlobals "_law_pool" = some (some (.ref f20)))
    (l20 : K.lookup f20 = some ⟨oc20, od20, .func (PySem.W.fnOf "_law_pool" "_law_pool" (defArgs s_law_pool) (defBody s_law_pool) (defScope s_law_pool) .none kV20 dc20 pm20 an20 cd20 ct20), sl20⟩)
    (c20 : PySem.W.codeIn K cd20 "_law_pool" = true)
    (k20 : PySem.W.keepIn K (.ref f20) = true)
    {f21 : Addr} {oc21 kV21 dc21 pm21 cd21 ct21 : Value} {od21 an21 : Option Addr} {sl21 : Array (Option Value)}
    (a21 : PySem.W.nsIn K mainGlobals "law" = some (some (.ref f21)))
    (l21 : K.lookup f21 = some ⟨oc21, od21, .func (PySem.W.fnOf "law" "law" (defArgs slaw) (defBody slaw) (defScope slaw) .none kV21 dc21 pm21 an21 cd21 ct21), sl21⟩)
    (c21 : PySem.W.codeIn K cd21 "law" = true)
    (k21 : PySem.W.keepIn K (.ref f21) = true)
    (hfa : mg "law" = some (.ref fa)) :
    ∃ fd : FuncData, (∀ (s : Shared) (v : Value), BindsTo s fd ⟨[v], []⟩ [("_law_script", v)]) ∧ ∀ base : Heap, K.In base → base.Ns mainGlobals mg → FnOk lw.prog w K mg base CX0 8 fa fd ["_law_script"] (spT K) := by
  obtain ⟨c, T, hb⟩ := tx_mk X G z0 z1 z2 z3 z4 z5 z6 z7 z8 z9 z10 z11 u0_g u0_a u0_b u0_c u0_d u0_e u0_f u0_h u0_i u0_j u0_k u0_l v0_0 v0_4 v0_5 w0_5 p0_5 q0_5 v0_6 a0 l0 c0 k0 a1 a1_1 a1_2 a1_3 l1 c1 k1 a2 l2 c2 k2 a3 a3_1 l3 c3 k3 a4 l4 c4 k4 a5 a5_1 l5 c5 k5 a6 l6 c6 k6 a7 l7 c7 k7 a8 a8_1 l8 c8 k8 a9 l9 c9 k9 a10 l10 c10 k10 a11 l11 c11 k11 a12 a12_1 l12 c12 k12 a13 l13 c13 k13 a14 a14_1 l14 c14 k14 a15 l15 c15 k15 a16 l16 c16 k16 a17 l17 c17 k17 a18 l18 c18 k18 a19 l19 c19 k19 a20 l20 c20 k20 a21 l21 c21 k21
  have e : fa = T.flaw := by
    have := hfa.symm.trans T.glaw
    cases this
    rfl
  subst e
  exact ⟨T.fdlaw, hb, fun base _ _ => T.oklaw.imp fun vs H Q E h => spT_of (law_true c) h⟩
end K01
open PySem PySem.W PyProof.Rows
set_option maxHeartbeats 0 in
theorem PySem.Challenge.cw_playhall_k01_shift_operators_holds : PySem.Challenge.rw_playhall_k01_shift_operators.Holds := by
  w_on; o_law; k_head; (case hw => w_witness2)
  k_fill
  refine PD.walk_ofD (l := PySem.Challenge.rw_playhall_k01_shift_operators) (n := 63) (k := 8) (x := "_law_script") (CX := fun _ => L2.CX0) rfl (by decide) rfl ⟨rfl, by decide, by decide⟩ (fun w h Y => PySem.W.kIn_of Y) ?F (fun _ _ _ _ _ h => h)
  case F =>
    intro w mg fa h KX G hmg
    refine' K01.all_mk KX G ?z0 ?z1 ?z2 ?z3 ?z4 ?z5 ?z6 ?z7 ?z8 ?z9 ?z10 ?z11 ?u0_g ?u0_a ?u0_b ?u0_c ?u0_d ?u0_e ?u0_f ?u0_h ?u0_i ?u0_j ?u0_k ?u0_l ?v0_0 ?v0_4 ?v0_5 ?w0_5 ?p0_5 ?q0_5 ?v0_6 ?a0 ?l0 ?c0 ?k0 ?a1 ?a1_1 ?a1_2 ?a1_3 ?l1 ?c1 ?k1 ?a2 ?l2 ?c2 ?k2 ?a3 ?a3_1 ?l3 ?c3 ?k3 ?a4 ?l4 ?c4 ?k4 ?a5 ?a5_1 ?l5 ?c5 ?k5 ?a6 ?l6 ?c6 ?k6 ?a7 ?l7 ?c7 ?k7 ?a8 ?a8_1 ?l8 ?c8 ?k8 ?a9 ?l9 ?c9 ?k9 ?a10 ?l10 ?c10 ?k10 ?a11 ?l11 ?c11 ?k11 ?a12 ?a12_1 ?l12 ?c12 ?k12 ?a13 ?l13 ?c13 ?k13 ?a14 ?a14_1 ?l14 ?c14 ?k14 ?a15 ?l15 ?c15 ?k15 ?a16 ?l16 ?c16 ?k16 ?a17 ?l17 ?c17 ?k17 ?a18 ?l18 ?c18 ?k18 ?a19 ?l19 ?c19 ?k19 ?a20 ?l20 ?c20 ?k20 ?a21 ?l21 ?c21 ?k21 hmg
    (case z0 => k_is); (case z1 => k_is); (case z2 => k_is); (case z3 => k_is); (case z4 => k_is); (case z5 => k_is); (case z6 => k_is); (case z7 => k_is); (case z8 => k_is); (case z9 => k_is); (case z10 => k_is); (case z11 => k_is); (case u0_g => k_is); (case u0_a => k_is); (case u0_b => k_is); (case u0_c => k_is); (case u0_d => k_is); (case u0_e => k_is); (case u0_f => k_is); (case u0_h => k_is); (case u0_i => k_is); (case u0_j => k_is); (case u0_k => k_is); (case u0_l => k_is); (case v0_0 => k_is); (case v0_4 => k_is); (case v0_5 => k_is); (case w0_5 => k_is); (case p0_5 => k_is); (case q0_5 => k_is); (case v0_6 => k_is); (case a0 => k_is); (case l0 => k_is); (case c0 => k_is); (case k0 => k_is); (case a1 => k_is); (case a1_1 => k_is); (case a1_2 => k_is); (case a1_3 => k_is); (case l1 => k_is); (case c1 => k_is); (case k1 => k_is); (case a2 => k_is); (case l2 => k_is); (case c2 => k_is); (case k2 => k_is); (case a3 => k_is); (case a3_1 => k_is); (case l3 => k_is); (case c3 => k_is); (case k3 => k_is); (case a4 => k_is); (case l4 => k_is); (case c4 => k_is); (case k4 => k_is); (case a5 => k_is); (case a5_1 => k_is); (case l5 => k_is); (case c5 => k_is); (case k5 => k_is); (case a6 => k_is); (case l6 => k_is); (case c6 => k_is); (case k6 => k_is); (case a7 => k_is); (case l7 => k_is); (case c7 => k_is); (case k7 => k_is); (case a8 => k_is); (case a8_1 => k_is); (case l8 => k_is); (case c8 => k_is); (case k8 => k_is); (case a9 => k_is); (case l9 => k_is); (case c9 => k_is); (case k9 => k_is); (case a10 => k_is); (case l10 => k_is); (case c10 => k_is); (case k10 => k_is); (case a11 => k_is); (case l11 => k_is); (case c11 => k_is); (case k11 => k_is); (case a12 => k_is); (case a12_1 => k_is); (case l12 => k_is); (case c12 => k_is); (case k12 => k_is); (case a13 => k_is); (case l13 => k_is); (case c13 => k_is); (case k13 => k_is); (case a14 => k_is); (case a14_1 => k_is); (case l14 => k_is); (case c14 => k_is); (case k14 => k_is); (case a15 => k_is); (case l15 => k_is); (case c15 => k_is); (case k15 => k_is); (case a16 => k_is); (case l16 => k_is); (case c16 => k_is); (case k16 => k_is); (case a17 => k_is); (case l17 => k_is); (case c17 => k_is); (case k17 => k_is); (case a18 => k_is); (case l18 => k_is); (case c18 => k_is); (case k18 => k_is); (case a19 => k_is); (case l19 => k_is); (case c19 => k_is); (case k19 => k_is); (case a20 => k_is); (case l20 => k_is); (case c20 => k_is); (case k20 => k_is); (case a21 => k_is); (case l21 => k_is); (case c21 => k_is); (case k21 => k_is)
#print axioms PySem.Challenge.cw_playhall_k01_shift_operators_holds

