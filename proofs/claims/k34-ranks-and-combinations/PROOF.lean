import PyProof.Rows.All
import Wide.All
import OpenK.AllK
import Wide.FinOn
import HandS.ForMost
import HandS.ForExc
import HandS.Walk
import HandS.Wide
import HandS.Defaults
import HandS.IsInst
import HandS.Flow
import HandS.Property
import HandS.MakeKw
import KE.KOpsOwn
import KE.SortData
import KE.KDictCopyH
import HandS.ListItems
import HandS.Conv
import HandS.TupAny
import HandS.Style
import HandS.EndBits
import HandS.ExcInit
import KE.KExcSuper
import HandS.WideBits
import HandS.TryOnly
import KE.GoesMore
import HandS.ExcOwn
import HandS.ExcField
import HandS.ExcIs
import KE.KExcIs
import HandS.Star
import HandS.Zip
import PySem.Challenge.RW_playhall_k34_ranks_and_combinations
set_option Elab.async false
set_option linter.all false
set_option maxRecDepth 100000
set_option maxHeartbeats 4000000
namespace PD
open PySem PySem.Spec PyProof.Rows L2

/-! ### data and owned things -/
inductive D where
  | non | bl (b : Bool) | int (i : Int) | str (x : Str) | lst (xs : List D) | tup (xs : List D)
  | dic (ks : List Key) (vs : List D) | obj (C : Addr) (fs : List Str) (vs : List D)
  /-- an exception in an except suite: the object a, its dict d, its class, its fields -/
  | exn (a : Addr) (d : Option Addr) (cls : Value) (ks : List Str) (vs : List D)

inductive O where
  | unk | dat (d : D) | lst (xs : List O) | tup (xs : List O) | dic (ks : List Key) (vs : List O) | obj (C : Addr) (fs : List Str) (vs : List O)

mutual
def O.toD : O → Option D
  | .unk => none
  | .dat d => some d
  | .lst xs => (O.toDs xs).map .lst
  | .tup xs => (O.toDs xs).map .tup
  | .dic ks vs => (O.toDs vs).map (.dic ks)
  | .obj C fs vs => (O.toDs vs).map (.obj C fs)
def O.toDs : List O → Option (List D)
  | [] => some []
  | o :: os => match O.toD o, O.toDs os with
    | some d, some ds => some (d :: ds)
    | _, _ => none
end

theorem Rd.up {M M' : Hp} {a : Addr} {u : HO} (s : ∀ b v, M b = some v → M' b = some v) (h : Rd M a u) : Rd M' a u := by
  rcases h with h | ⟨o, h⟩
  · exact .inl (s _ _ h)
  · exact .inr ⟨o, s _ _ h⟩
/-- a list that is looked at: tracked, or one of the written part -/
def SqX (K : PySem.W.Frag) (H : Hp) (a : Addr) (xs : List V) : Prop :=
  Rd H a (.lst xs) ∨ ∃ (its : Array Value) (n : Nat), K.lookup a = some ({ cls := .type "list", data := .seq its n } : Obj) ∧ its.size ≤ sizeLine ∧ Vals xs its.toList
theorem SqX.toL {K : PySem.W.Frag} {H : Hp} {a : Addr} {xs : List V} (h : SqX K H a xs) : SqL K H a xs := by
  rcases h with h | ⟨its, n, lk, hz, r⟩
  · exact .inl h
  · exact .inr ⟨_, its, n, lk, rfl, rfl, rfl, hz, r⟩
theorem sqX_same {K : PySem.W.Frag} {H H' : Hp} {a : Addr} {xs : List V} (e : Same H H') (h : SqX K H a xs) : SqX K H' a xs := by
  rcases h with (h | ⟨o, h⟩) | h
  · exact .inl (.inl (e _ _ h))
  · exact .inl (.inr ⟨o, e _ _ h⟩)
  · exact .inr h
theorem seqX {K : PySem.W.Frag} {H H' : Hp} {a : Addr} {xs : List V} (e : Same H H') (h : SqX K H a xs) : SqL K H' a xs := (sqX_same e h).toL
mutual
inductive Dv (K : PySem.W.Frag) (M : Hp) : V → D → Prop
  | non : Dv K M .non .non
  | bl (b : Bool) : Dv K M (.bl b) (.bl b)
  | int (i : Int) : Dv K M (.int i) (.int i)
  | str (x : Str) : Dv K M (.str x) (.str x)
  | lst {a : Addr} {xs : List V} {ds : List D} : SqX K M a xs → Dvs K M xs ds → Dv K M (.ref a) (.lst ds)
  | tup {a : Addr} {xs : List V} {ds : List D} : SqT K M a xs → Dvs K M xs ds → Dv K M (.ref a) (.tup ds)
  | dic {a : Addr} {kvs : List (Key × V)} {ks : List Key} {ds : List D} : Rd M a (.dK kvs) → kvs.map (·.1) = ks → Dvs K M (kvs.map (·.2)) ds → Dv K M (.ref a) (.dic ks ds)
  | obj {a C dx : Addr} {fs : List (Str × V)} {ks : List Str} {ds : List D} : M a = some (.ins C dx fs) → M dx = some (.own a) → fs.map (·.1) = ks → Dvs K M (fs.map (·.2)) ds → Dv K M (.ref a) (.obj C ks ds)
  | exn0 {a : Addr} {cls : Value} : Dv K M (.ref a) (.exn a none cls [] [])
  | exn1 {a da : Addr} {cls : Value} {fs : List (Str × V)} {ks : List Str} {ds : List D} : M da = some (.xd fs) → fs.map (·.1) = ks → Dvs K M (fs.map (·.2)) ds → Dv K M (.ref a) (.exn a (some da) cls ks ds)
inductive Dvs (K : PySem.W.Frag) (M : Hp) : List V → List D → Prop
  | nil : Dvs K M [] []
  | cons {v : V} {vs : List V} {d : D} {ds : List D} : Dv K M v d → Dvs K M vs ds → Dvs K M (v :: vs) (d :: ds)
end

theorem sqT_same {K : PySem.W.Frag} {H H' : Hp} {a : Addr} {xs : List V} (e : Same H H') (h : SqT K H a xs) : SqT K H' a xs := by
  rcases h with (h | ⟨o, h⟩) | h
  · exact .inl (.inl (e _ _ h))
  · exact .inl (.inr ⟨o, e _ _ h⟩)
  · exact .inr h

section
variable {K : PySem.W.Frag} {M M' : Hp}
mutual
theorem Dv.mono (s : Same M M') : ∀ {v : V} {d : D}, Dv K M v d → Dv K M' v d
  | _, _, .non => .non
  | _, _, .bl b => .bl b
  | _, _, .int i => .int i
  | _, _, .str x => .str x
  | _, _, .lst h hs => .lst (sqX_same s h) (Dvs.mono s hs)
  | _, _, .tup h hs => .tup (sqT_same s h) (Dvs.mono s hs)
  | _, _, .dic h e hs => .dic (Rd.up s h) e (Dvs.mono s hs)
  | _, _, .obj h h2 e hs => .obj (s _ _ h) (s _ _ h2) e (Dvs.mono s hs)
  | _, _, .exn0 => .exn0
  | _, _, .exn1 h e hs => .exn1 (s _ _ h) e (Dvs.mono s hs)
theorem Dvs.mono (s : Same M M') : ∀ {vs : List V} {ds : List D}, Dvs K M vs ds → Dvs K M' vs ds
  | _, _, .nil => .nil
  | _, _, .cons h hs => .cons (Dv.mono s h) (Dvs.mono s hs)
end
theorem Dvs.length {vs : List V} {ds : List D} (h : Dvs K M vs ds) : vs.length = ds.length := by
  induction ds generalizing vs with
  | nil => cases h; rfl
  | cons d ds ih => cases h with | cons _ t => simp [ih t]
theorem Dvs.get : ∀ {vs : List V} {ds : List D} {i : Nat} {d : D}, Dvs K M vs ds → ds[i]? = some d → ∃ v, vs[i]? = some v ∧ Dv K M v d
  | _, _, 0, _, .cons h _, e => by simp at e; subst e; exact ⟨_, rfl, h⟩
  | _, _, i + 1, d, .cons _ t, e => by
    obtain ⟨v, e1, e2⟩ := Dvs.get (i := i) (d := d) t (by simpa using e)
    exact ⟨v, by simpa using e1, e2⟩
  | _, _, _, _, .nil, e => by simp at e
theorem Dvs.getV : ∀ {vs : List V} {ds : List D} {i : Nat} {v : V}, Dvs K M vs ds → vs[i]? = some v → ∃ d, ds[i]? = some d ∧ Dv K M v d
  | _, _, 0, _, .cons h _, e => by simp at e; subst e; exact ⟨_, rfl, h⟩
  | _, _, i + 1, d, .cons _ t, e => by
    obtain ⟨v, e1, e2⟩ := Dvs.getV (i := i) (v := d) t (by simpa using e)
    exact ⟨v, by simpa using e1, e2⟩
  | _, _, _, _, .nil, e => by simp at e
theorem Dvs.append : ∀ {vs ws : List V} {ds es : List D}, Dvs K M vs ds → Dvs K M ws es → Dvs K M (vs ++ ws) (ds ++ es)
  | _, _, _, _, .nil, s => s
  | _, _, _, _, .cons r t, s => .cons r (Dvs.append t s)
theorem Dvs.take : ∀ {vs : List V} {ds : List D} (n : Nat), Dvs K M vs ds → Dvs K M (vs.take n) (ds.take n)
  | _, _, 0, _ => .nil
  | _, _, _ + 1, .nil => .nil
  | _, _, n + 1, .cons r t => .cons r (Dvs.take n t)
theorem Dvs.drop : ∀ {vs : List V} {ds : List D} (n : Nat), Dvs K M vs ds → Dvs K M (vs.drop n) (ds.drop n)
  | _, _, 0, r => r
  | _, _, _ + 1, .nil => .nil
  | _, _, n + 1, .cons _ t => Dvs.drop n t
end

mutual
inductive Ow (K : PySem.W.Frag) (M H : Hp) : O → Option V → List Addr → Prop
  | unk {v : Option V} : Ow K M H .unk v []
  | dat {v : V} {d : D} : Dv K M v d → Ow K M H (.dat d) (some v) []
  | lst {a : Addr} {xs : List V} {os : List O} {fp : List Addr} : H a = some (.lst xs) → Ows K M H os (xs.map some) fp → Ow K M H (.lst os) (some (.ref a)) (a :: fp)
  | tup {a : Addr} {xs : List V} {os : List O} {fp : List Addr} : M a = some (.tup xs) → Ows K M H os (xs.map some) fp → Ow K M H (.tup os) (some (.ref a)) fp
  | dic {a : Addr} {kvs : List (Key × V)} {ks : List Key} {os : List O} {fp : List Addr} : H a = some (.dK kvs) → kvs.map (·.1) = ks → Ows K M H os (kvs.map fun p => some p.2) fp → Ow K M H (.dic ks os) (some (.ref a)) (a :: fp)
  | obj {a C dx : Addr} {fs : List (Str × V)} {ks : List Str} {os : List O} {fp : List Addr} : H a = some (.ins C dx fs) → H dx = some (.own a) → fs.map (·.1) = ks → Ows K M H os (fs.map fun p => some p.2) fp →
      Ow K M H (.obj C ks os) (some (.ref a)) (a :: dx :: fp)
inductive Ows (K : PySem.W.Frag) (M H : Hp) : List O → List (Option V) → List Addr → Prop
  | nil : Ows K M H [] [] []
  | cons {o : O} {v : Option V} {f1 : List Addr} {os : List O} {vs : List (Option V)} {f2 : List Addr} : Ow K M H o v f1 → Ows K M H os vs f2 → Ows K M H (o :: os) (v :: vs) (f1 ++ f2)
end

section
variable {K : PySem.W.Frag} {M M' H H' : Hp}
mutual
theorem Ow.frame (s : Same M M') : ∀ {o : O} {v : Option V} {fp : List Addr}, Ow K M H o v fp → (∀ a ∈ fp, H' a = H a) → Ow K M' H' o v fp
  | _, _, _, .unk, _ => .unk
  | _, _, _, .dat h, _ => .dat (h.mono s)
  | _, _, _, .lst h hs, k => .lst ((k _ List.mem_cons_self).trans h) (Ows.frame s hs fun a ha => k a (List.mem_cons_of_mem _ ha))
  | _, _, _, .tup h hs, k => .tup (s _ _ h) (Ows.frame s hs k)
  | _, _, _, .dic h e hs, k => .dic ((k _ List.mem_cons_self).trans h) e (Ows.frame s hs fun a ha => k a (List.mem_cons_of_mem _ ha))
  | _, _, _, .obj h h2 e hs, k => .obj ((k _ List.mem_cons_self).trans h) ((k _ (List.mem_cons_of_mem _ List.mem_cons_self)).trans h2) e (Ows.frame s hs fun a ha => k a (List.mem_cons_of_mem _ (List.mem_cons_of_mem _ ha)))
theorem Ows.frame (s : Same M M') : ∀ {os : List O} {vs : List (Option V)} {fp : List Addr}, Ows K M H os vs fp → (∀ a ∈ fp, H' a = H a) → Ows K M' H' os vs fp
  | _, _, _, .nil, _ => .nil
  | _, _, _, .cons h hs, k => .cons (Ow.frame s h fun a ha => k a (List.mem_append_left _ ha)) (Ows.frame s hs fun a ha => k a (List.mem_append_right _ ha))
end
mutual
theorem Ow.dom : ∀ {o : O} {v : Option V} {fp : List Addr}, Ow K M H o v fp → ∀ a ∈ fp, H a ≠ none
  | _, _, _, .unk, _, h => nomatch h
  | _, _, _, .dat _, _, h => nomatch h
  | _, _, _, .lst h hs, a, ha => by
    rcases List.mem_cons.mp ha with rfl | ha
    · rw [h]; exact fun z => nomatch z
    · exact Ows.dom hs a ha
  | _, _, _, .tup _ hs, a, ha => Ows.dom hs a ha
  | _, _, _, .dic h _ hs, a, ha => by
    rcases List.mem_cons.mp ha with rfl | ha
    · rw [h]; exact fun z => nomatch z
    · exact Ows.dom hs a ha
  | _, _, _, .obj h h2 _ hs, a, ha => by
    rcases List.mem_cons.mp ha with rfl | ha
    · rw [h]; exact fun z => nomatch z
    · rcases List.mem_cons.mp ha with rfl | ha
      · rw [h2]; exact fun z => nomatch z
      · exact Ows.dom hs a ha
theorem Ows.dom : ∀ {os : List O} {vs : List (Option V)} {fp : List Addr}, Ows K M H os vs fp → ∀ a ∈ fp, H a ≠ none
  | _, _, _, .nil, _, h => nomatch h
  | _, _, _, .cons h hs, a, ha => (List.mem_append.mp ha).elim (Ow.dom h a) (Ows.dom hs a)
end
theorem Ows.length : ∀ {os : List O} {vs : List (Option V)} {fp : List Addr}, Ows K M H os vs fp → vs.length = os.length
  | _, _, _, .nil => rfl
  | _, _, _, .cons _ hs => by simp [hs.length]
theorem Ows.append : ∀ {a b : List O} {va vb : List (Option V)} {fa fb : List Addr}, Ows K M H a va fa → Ows K M H b vb fb → Ows K M H (a ++ b) (va ++ vb) (fa ++ fb)
  | _, _, _, _, _, _, .nil, s => s
  | _, _, _, _, _, _, .cons r t, s => by
    rw [List.append_assoc]
    exact .cons r (Ows.append t s)
theorem Ows.split : ∀ {a b : List O} {va vb : List (Option V)} {fp : List Addr}, Ows K M H (a ++ b) (va ++ vb) fp → va.length = a.length → ∃ fa fb, fp = fa ++ fb ∧ Ows K M H a va fa ∧ Ows K M H b vb fb
  | [], _, [], _, fp, h, _ => ⟨[], fp, rfl, .nil, h⟩
  | o :: a, b, v :: va, vb, _, h, e => by
    cases h with
    | cons h hs =>
      obtain ⟨fa, fb, e1, h1, h2⟩ := Ows.split hs (by simpa using e)
      exact ⟨_ ++ fa, fb, by rw [e1, List.append_assoc], .cons h h1, h2⟩
  | [], _, _ :: _, _, _, _, e => by simp at e
  | _ :: _, _, [], _, _, _, e => by simp at e
end

/-- the state: M the frozen part, os the things known of the roots vs -/
def Rep (K : PySem.W.Frag) (M H : Hp) (os : List O) (vs : List (Option V)) : Prop :=
  Same M H ∧ ∃ fp, Ows K M H os vs fp ∧ fp.Nodup ∧ ∀ a ∈ fp, M a = none

section
variable {K : PySem.W.Frag} {M M' H H' : Hp} {os l r : List O} {vs lv rv : List (Option V)} {o : O} {v : Option V}
theorem Rep.same (h : Rep K M H os vs) : Same M H := h.1
theorem Rep.length (h : Rep K M H os vs) : vs.length = os.length := by obtain ⟨_, _, w, _⟩ := h; exact w.length
/-- a new object, not frozen -/
theorem Rep.grow (h : Rep K M H os vs) {p : Addr} {u : HO} (hp : H p = none) : Rep K M (upd H p u) os vs := by
  obtain ⟨s, fp, w, nd, nm⟩ := h
  refine ⟨fun b x e => ?_, fp, w.frame (Same.refl _) (fun a ha => upd_ne fun z => w.dom a ha (z ▸ hp)), nd, nm⟩
  rw [upd_ne (ne_of_none (s b x e) hp)]; exact s b x e
theorem same_updM {M : Hp} {p : Addr} (hp : M p = none) {u : HO} : Same M (upd M p u) := fun b x e => by
  rw [upd_ne (ne_of_none e hp)]; exact e
/-- a new frozen object -/
theorem Rep.growM (h : Rep K M H os vs) {p : Addr} {u : HO} (hp : H p = none) : Rep K (upd M p u) (upd H p u) os vs := by
  obtain ⟨s, fp, w, nd, nm⟩ := h
  have mp : M p = none := s.free hp
  refine ⟨fun b x e => ?_, fp, w.frame (same_updM mp) (fun a ha => upd_ne fun z => w.dom a ha (z ▸ hp)), nd, fun a ha => ?_⟩
  · by_cases hb : b = p
    · subst hb; rw [upd_same] at e ⊢; exact e
    · rw [upd_ne hb] at e ⊢; exact s b x e
  · rw [upd_ne (show a ≠ p from fun z => w.dom a ha (by rw [z]; exact hp))]; exact nm a ha
theorem Rep.mid (h : Rep K M H (l ++ o :: r) (lv ++ v :: rv)) (e : lv.length = l.length) : ∃ fa f fb, Ows K M H l lv fa ∧ Ow K M H o v f ∧ Ows K M H r rv fb ∧ (fa ++ (f ++ fb)).Nodup ∧ (∀ a ∈ fa ++ (f ++ fb), M a = none) := by
  obtain ⟨s, fp, w, nd, nm⟩ := h
  obtain ⟨fa, fb, e1, w1, w2⟩ := w.split e
  cases w2 with
  | cons h2 h3 =>
    subst e1
    exact ⟨_, _, _, w1, h2, h3, nd, nm⟩
theorem Rep.datAt (h : Rep K M H (l ++ o :: r) (lv ++ v :: rv)) (e : lv.length = l.length) {d : D} (ho : o = .dat d) : ∃ x, v = some x ∧ Dv K M x d := by
  obtain ⟨_, _, _, _, w, _⟩ := h.mid e
  subst ho
  cases w with | dat w => exact ⟨_, rfl, w⟩
/-- one root is dropped -/
theorem Rep.drop (h : Rep K M H (l ++ o :: r) (lv ++ v :: rv)) (e : lv.length = l.length) : Rep K M H (l ++ r) (lv ++ rv) := by
  obtain ⟨fa, f, fb, w1, w2, w3, nd, nm⟩ := h.mid e
  refine ⟨h.1, fa ++ fb, w1.append w3, ?_, fun a ha => nm a ?_⟩
  · refine List.Nodup.sublist ?_ nd
    exact List.Sublist.append (List.Sublist.refl _) (List.sublist_append_right _ _)
  · simp only [List.mem_append] at ha ⊢
    rcases ha with ha | ha
    · exact .inl ha
    · exact .inr (.inr ha)
/-- a frozen root is added -/
theorem Rep.push (h : Rep K M H (l ++ r) (lv ++ rv)) (e : lv.length = l.length) {x : V} {d : D} (hd : Dv K M x d) : Rep K M H (l ++ .dat d :: r) (lv ++ some x :: rv) := by
  obtain ⟨s, fp, w, nd, nm⟩ := h
  obtain ⟨fa, fb, e1, w1, w2⟩ := w.split e
  subst e1
  exact ⟨s, fa ++ ([] ++ fb), w1.append (.cons (.dat hd) w2), nd, nm⟩
theorem Rep.pushU (h : Rep K M H (l ++ r) (lv ++ rv)) (e : lv.length = l.length) (x : Option V) : Rep K M H (l ++ .unk :: r) (lv ++ x :: rv) := by
  obtain ⟨s, fp, w, nd, nm⟩ := h
  obtain ⟨fa, fb, e1, w1, w2⟩ := w.split e
  subst e1
  exact ⟨s, fa ++ ([] ++ fb), w1.append (.cons .unk w2), nd, nm⟩
theorem set_split {α : Type} (xs : List α) (i : Nat) (y : α) : (∃ a z b, xs = a ++ z :: b ∧ a.length = i ∧ xs.set i y = a ++ y :: b) ∨ (xs.length ≤ i ∧ xs.set i y = xs) := by
  by_cases h : i < xs.length
  · refine .inl ⟨xs.take i, xs[i], xs.drop (i + 1), ?_, by simp [Nat.le_of_lt h], ?_⟩
    · rw [← List.drop_eq_getElem_cons h, List.take_append_drop]
    · rw [List.set_eq_take_append_cons_drop, if_pos h]
  · exact .inr ⟨by omega, List.set_eq_of_length_le (by omega)⟩
/-- slot i becomes a frozen thing -/
theorem Rep.setD {i : Nat} (h : Rep K M H (l ++ r) (lv ++ rv)) (e : lv.length = l.length) {x : V} {d : D} (hd : Dv K M x d) : Rep K M H (l.set i (.dat d) ++ r) (lv.set i (some x) ++ rv) := by
  rcases set_split l i (O.dat d) with ⟨a, z, b, e1, e2, e3⟩ | ⟨e1, e2⟩
  · rcases set_split lv i (some x) with ⟨a', z', b', e1', e2', e3'⟩ | ⟨e1', e2'⟩
    · rw [e3, e3']
      have ll : a'.length = a.length := by omega
      subst e1; subst e1'
      simp only [List.append_assoc, List.cons_append] at h ⊢
      exact (h.drop ll).push ll hd
    · exfalso; rw [e1] at e; simp at e; omega
  · rw [e2, List.set_eq_of_length_le (by omega)]; exact h
theorem Rep.setU {i : Nat} (h : Rep K M H (l ++ r) (lv ++ rv)) (e : lv.length = l.length) (x : Option V) : Rep K M H (l.set i .unk ++ r) (lv.set i x ++ rv) := by
  rcases set_split l i O.unk with ⟨a, z, b, e1, e2, e3⟩ | ⟨e1, e2⟩
  · rcases set_split lv i x with ⟨a', z', b', e1', e2', e3'⟩ | ⟨e1', e2'⟩
    · rw [e3, e3']
      have ll : a'.length = a.length := by omega
      subst e1; subst e1'
      simp only [List.append_assoc, List.cons_append] at h ⊢
      exact (h.drop ll).pushU ll x
    · exfalso; rw [e1] at e; simp at e; omega
  · rw [e2, List.set_eq_of_length_le (by omega)]; exact h
/-- the temporary on top of the frame goes into slot i -/
theorem Rep.into {i : Nat} (h : Rep K M H (l ++ o :: r) (lv ++ v :: rv)) (e : lv.length = l.length) : Rep K M H (l.set i o ++ r) (lv.set i v ++ rv) := by
  rcases set_split l i o with ⟨a, z, b, e1, e2, e3⟩ | ⟨e1, e2⟩
  · rcases set_split lv i v with ⟨a', z', b', e1', e2', e3'⟩ | ⟨e1', e2'⟩
    · rw [e3, e3']
      have ll : a'.length = a.length := by omega
      have lb : b'.length = b.length := by rw [e1, e1'] at e; simp at e; omega
      subst e1; subst e1'
      simp only [List.append_assoc, List.cons_append] at h ⊢
      have h1 := h.drop ll
      obtain ⟨fa, fb, w1, w2, nd, nm⟩ : ∃ fa fb, Ows K M H a a' fa ∧ Ows K M H (b ++ o :: r) (b' ++ v :: rv) fb ∧ (fa ++ fb).Nodup ∧ ∀ c ∈ fa ++ fb, M c = none := by
        obtain ⟨s, fp, w, nd, nm⟩ := h1
        obtain ⟨fa, fb, e1, w1, w2⟩ := w.split ll
        subst e1
        exact ⟨fa, fb, w1, w2, nd, nm⟩
      obtain ⟨gb, gr, e5, w3, w4⟩ := w2.split lb
      cases w4 with
      | cons w5 w6 =>
        rename_i f1 f2
        subst e5
        have pm : (fa ++ (f1 ++ (gb ++ f2))).Perm (fa ++ (gb ++ (f1 ++ f2))) := by
          refine List.Perm.append_left fa ?_
          rw [← List.append_assoc, ← List.append_assoc]
          exact List.Perm.append_right f2 List.perm_append_comm
        exact ⟨h.1, fa ++ (f1 ++ (gb ++ f2)), w1.append (.cons w5 (w3.append w6)), pm.nodup_iff.mpr nd, fun c hc => nm c (pm.mem_iff.mp hc)⟩
    · exfalso; rw [e1] at e; simp at e; omega
  · rw [e2, List.set_eq_of_length_le (by omega)]; exact h.drop e

/-! ### freezing -/
mutual
theorem Ow.frz (s : Same M M') : ∀ {o : O} {v : V} {fp : List Addr} {d : D}, Ow K M H o (some v) fp → (∀ a ∈ fp, M' a = H a) → o.toD = some d → Dv K M' v d
  | _, _, _, d, .dat h, _, e => by
    have := Option.some.inj (show some _ = some d from e)
    subst this
    exact h.mono s
  | .lst os, _, _, d, .lst h hs, k, e => by
    unfold O.toD at e
    cases q : O.toDs os with
    | none => rw [q] at e; cases e
    | some ds =>
      rw [q] at e
      have e' := Option.some.inj (show some (D.lst ds) = some d from e)
      subst e'
      exact .lst (.inl (.inl ((k _ List.mem_cons_self).trans h))) (Ows.frz s hs (fun a ha => k a (List.mem_cons_of_mem _ ha)) q)
  | .tup os, _, _, d, .tup h hs, k, e => by
    unfold O.toD at e
    cases q : O.toDs os with
    | none => rw [q] at e; cases e
    | some ds =>
      rw [q] at e
      have e' := Option.some.inj (show some (D.tup ds) = some d from e)
      subst e'
      exact .tup (.inl (.inl (s _ _ h))) (Ows.frz s hs k q)
  | .dic ks os, _, _, d, .dic (kvs := kvs) (fp := fp0) h hk hs, k, e => by
    unfold O.toD at e
    cases q : O.toDs os with
    | none => rw [q] at e; cases e
    | some ds =>
      rw [q] at e
      have e' := Option.some.inj (show some (D.dic ks ds) = some d from e)
      subst e'
      have hs' : Ows K M H os ((kvs.map (·.2)).map some) fp0 := by rw [List.map_map]; exact hs
      exact .dic (.inl ((k _ List.mem_cons_self).trans h)) hk (Ows.frz s hs' (fun a ha => k a (List.mem_cons_of_mem _ ha)) q)
  | .obj C ks os, _, _, d, .obj (fs := kvs) (fp := fp0) h h2 hk hs, k, e => by
    unfold O.toD at e
    cases q : O.toDs os with
    | none => rw [q] at e; cases e
    | some ds =>
      rw [q] at e
      have e' := Option.some.inj (show some (D.obj C ks ds) = some d from e)
      subst e'
      have hs' : Ows K M H os ((kvs.map (·.2)).map some) fp0 := by rw [List.map_map]; exact hs
      exact .obj ((k _ List.mem_cons_self).trans h) ((k _ (List.mem_cons_of_mem _ List.mem_cons_self)).trans h2) hk (Ows.frz s hs' (fun a ha => k a (List.mem_cons_of_mem _ (List.mem_cons_of_mem _ ha))) q)
theorem Ows.frz (s : Same M M') : ∀ {os : List O} {vs : List V} {fp : List Addr} {ds : List D}, Ows K M H os (vs.map some) fp → (∀ a ∈ fp, M' a = H a) → O.toDs os = some ds → Dvs K M' vs ds
  | [], [], _, ds, .nil, _, e => by
    have e' := Option.some.inj (show some [] = some ds from e)
    subst e'
    exact .nil
  | o :: os, v :: vs, _, ds, .cons h hs, k, e => by
    unfold O.toDs at e
    cases q : O.toD o with
    | none => rw [q] at e; cases e
    | some d =>
      cases q2 : O.toDs os with
      | none => rw [q, q2] at e; cases e
      | some ds' =>
        rw [q, q2] at e
        have e' := Option.some.inj (show some (d :: ds') = some ds from e)
        subst e'
        exact .cons (Ow.frz s h (fun a ha => k a (List.mem_append_left _ ha)) q) (Ows.frz s hs (fun a ha => k a (List.mem_append_right _ ha)) q2)
end
theorem Rep.frz (h : Rep K M H (l ++ o :: r) (lv ++ v :: rv)) (e : lv.length = l.length) {d : D} {x : V} (hv : v = some x) (ho : o.toD = some d) :
    ∃ M', Same M M' ∧ Rep K M' H (l ++ .dat d :: r) (lv ++ v :: rv) ∧ Dv K M' x d := by
  obtain ⟨fa, f, fb, w1, w2, w3, nd, nm⟩ := h.mid e
  subst hv
  have s1 : Same M (fun a => if a ∈ f then H a else M a) := fun b y q => by
    have : b ∉ f := fun z => by
      have := nm b (by simp [z])
      rw [this] at q; cases q
    show (if b ∈ f then H b else M b) = some y
    rw [if_neg this]; exact q
  have kf : ∀ a ∈ f, (if a ∈ f then H a else M a) = H a := fun a ha => if_pos ha
  have dv := Ow.frz (H := H) s1 w2 kf ho
  have disj : ∀ a ∈ fa ++ fb, a ∉ f := fun a ha z => by
    rw [List.nodup_append] at nd
    obtain ⟨n1, n2, n3⟩ := nd
    rw [List.nodup_append] at n2
    rcases List.mem_append.mp ha with ha | ha
    · exact n3 a ha a (List.mem_append_left _ z) rfl
    · exact n2.2.2 a z a ha rfl
  refine ⟨_, s1, ⟨fun b y q => ?_, fa ++ ([] ++ fb), (w1.frame s1 fun _ _ => rfl).append (.cons (.dat dv) (w3.frame s1 fun _ _ => rfl)), ?_, fun a ha => ?_⟩, dv⟩
  · have q : (if b ∈ f then H b else M b) = some y := q
    split at q
    · exact q
    · exact h.1 b y q
  · refine List.Nodup.sublist ?_ nd
    exact List.Sublist.append (List.Sublist.refl _) (List.sublist_append_right _ _)
  · show (if a ∈ f then H a else M a) = none
    rw [if_neg (disj a (by simpa using ha))]
    refine nm a ?_
    rcases List.mem_append.mp ha with ha | ha
    · exact List.mem_append_left _ ha
    · exact List.mem_append_right _ (List.mem_append_right _ ha)
end
end PD

namespace PD
open PySem PySem.Spec PyProof.Rows L2

abbrev Ev := List O
/-- an error, as data -/
structure Exn where
  cls : Value
  fs : Option (List Str × List D)
def ExR (K : PySem.W.Frag) (M : Hp) (x : Exn) (cls : Value) (d : Option Addr) : Prop :=
  cls = x.cls ∧ ((x.fs = none ∧ d = none) ∨ ∃ ks ds da fvs, x.fs = some (ks, ds) ∧ d = some da ∧ M da = some (.xd fvs) ∧ fvs.map (·.1) = ks ∧ Dvs K M (fvs.map (·.2)) ds)

/-! ### readings by data -/
/-- a pure expression -/
def tP (K : PySem.W.Frag) (f : Ev → Option D) : TE := fun σ H Q => ∃ M ρ fo fv d, Rep K M H (ρ ++ fo) (σ ++ fv) ∧ σ.length = ρ.length ∧ f ρ = some d ∧
  ∀ M' H' v, Same M M' → Rep K M' H' (ρ ++ fo) (σ ++ fv) → Dv K M' v d → Q v H'
/-- an expression that may give a new thing of its own -/
def tO (K : PySem.W.Frag) (f : Ev → Option O) : TE := fun σ H Q => ∃ M ρ fo fv o, Rep K M H (ρ ++ fo) (σ ++ fv) ∧ σ.length = ρ.length ∧ f ρ = some o ∧
  ∀ M' H' v, Same M M' → Rep K M' H' (ρ ++ o :: fo) (σ ++ some v :: fv) → Q v H'
def tT (K : PySem.W.Frag) (f : Ev → Option Bool) : TT := fun σ H Q => ∃ M ρ fo fv b, Rep K M H (ρ ++ fo) (σ ++ fv) ∧ σ.length = ρ.length ∧ f ρ = some b ∧
  ∀ M' H', Same M M' → Rep K M' H' (ρ ++ fo) (σ ++ fv) → Q b H'
def tAr (K : PySem.W.Frag) (f : Ev → Option (List D)) : TA := fun σ H Q => ∃ M ρ fo fv ds, Rep K M H (ρ ++ fo) (σ ++ fv) ∧ σ.length = ρ.length ∧ f ρ = some ds ∧
  ∀ M' H' vs, Same M M' → Rep K M' H' (ρ ++ fo) (σ ++ fv) → Dvs K M' vs ds → Q vs H'

/-- how a statement ends -/
inductive Fl where
  | nx (ρ : Ev) | rt (o : O) (ρ : Ev) | bk (ρ : Ev) | ct (ρ : Ev) | ex (x : Exn) (ρ : Ev)
/-- the slots and what is known of them go together; the slots J hold what they held at first -/
def Lk (J : List Nat) (σ0 σ : L2.St) (ρ : Ev) : Prop := σ.length = ρ.length ∧ ∀ j ∈ J, σ[j]? = σ0[j]?
theorem Lk.set {J : List Nat} {σ0 σ : L2.St} {ρ : Ev} (h : Lk J σ0 σ ρ) {i : Nat} (hi : i ∉ J) (v : Option V) (o : O) : Lk J σ0 (σ.set i v) (ρ.set i o) := ⟨by simp [h.1], fun j hj => by
  have hne : i ≠ j := fun z => by subst z; exact hi hj
  rw [List.getElem?_set_ne hne]; exact h.2 j hj⟩
theorem Lk.setR {J : List Nat} {σ0 σ : L2.St} {ρ : Ev} (h : Lk J σ0 σ ρ) {i : Nat} (o : O) : Lk J σ0 σ (ρ.set i o) := ⟨by simp [h.1], h.2⟩
def ends (K : PySem.W.Frag) (W : WX) (J : List Nat) (σ0 : L2.St) (M : Hp) (fo : List O) (fv : List (Option V)) (E : Ends) : Fl → Prop
  | .nx ρ => ∀ M' H' σ', Same M M' → Rep K M' H' (ρ ++ fo) (σ' ++ fv) → Lk J σ0 σ' ρ → E.nx σ' H'
  | .bk ρ => ∀ M' H' σ', Same M M' → Rep K M' H' (ρ ++ fo) (σ' ++ fv) → Lk J σ0 σ' ρ → E.bk σ' H'
  | .ct ρ => ∀ M' H' σ', Same M M' → Rep K M' H' (ρ ++ fo) (σ' ++ fv) → Lk J σ0 σ' ρ → E.ct σ' H'
  | .rt o ρ => ∀ M' H' σ' v, Same M M' → Rep K M' H' (ρ ++ o :: fo) (σ' ++ some v :: fv) → Lk J σ0 σ' ρ → E.rt v H'
  | .ex x ρ => ∀ M' H' σ' cls d, Same M M' → Rep K M' H' (ρ ++ fo) (σ' ++ fv) → Lk J σ0 σ' ρ → ExR K M' x cls d → W cls d σ' H'
def tS (K : PySem.W.Frag) (W : WX) (J : List Nat) (g : Ev → Option Fl) : TS := fun E σ H => ∃ M ρ fo fv r σ0, Rep K M H (ρ ++ fo) (σ ++ fv) ∧ Lk J σ0 σ ρ ∧ g ρ = some r ∧ ends K W J σ0 M fo fv E r
theorem ends.later {K : PySem.W.Frag} {W : WX} {J : List Nat} {σ0 : L2.St} {M M1 : Hp} {fo : List O} {fv : List (Option V)} {E : Ends} {r : Fl} (h : ends K W J σ0 M fo fv E r) (s : Same M M1) : ends K W J σ0 M1 fo fv E r := by
  cases r with
  | nx ρ => exact fun M' H' σ' s' => h M' H' σ' (s.trans s')
  | bk ρ => exact fun M' H' σ' s' => h M' H' σ' (s.trans s')
  | ct ρ => exact fun M' H' σ' s' => h M' H' σ' (s.trans s')
  | rt o ρ => exact fun M' H' σ' v s' => h M' H' σ' v (s.trans s')
  | ex x ρ => exact fun M' H' σ' c d s' => h M' H' σ' c d (s.trans s')

section
variable {X : Cx}
theorem PE.imp {e : Expr} {t t' : TE} (h : PE X e t) (i : ∀ σ H Q, t' σ H Q → t σ H Q) : PE X e t' := ⟨fun p s σ H Q I w => h.run p s σ H Q I (i σ H Q w)⟩
theorem PT.imp {e : Expr} {t t' : TT} (h : PT X e t) (i : ∀ σ H Q, t' σ H Q → t σ H Q) : PT X e t' := ⟨fun p s σ H Q I w => h.run p s σ H Q I (i σ H Q w)⟩
theorem PW.imp {e : Expr} {t t' : TT} (h : PW X e t) (i : ∀ σ H Q, t' σ H Q → t σ H Q) : PW X e t' := ⟨fun wh p s σ H Q I w => h.run wh p s σ H Q I (i σ H Q w)⟩
theorem PA.imp {e : List Expr} {t t' : TA} (h : PA X e t) (i : ∀ σ H Q, t' σ H Q → t σ H Q) : PA X e t' := ⟨fun c p s σ H Q I w => h.run c p s σ H Q I (i σ H Q w)⟩
theorem PS.imp {e : Stmt} {t t' : TS} (h : PS X e t) (i : ∀ D σ H, t' D σ H → t D σ H) : PS X e t' := ⟨fun p s σ H D I w => h.run p s σ H D I (i D σ H w)⟩
theorem PSs.imp {e : List Stmt} {t t' : TS} (h : PSs X e t) (i : ∀ D σ H, t' D σ H → t D σ H) : PSs X e t' := ⟨fun p s σ H D I w => h.run p s σ H D I (i D σ H w)⟩
theorem PI.imp {tg e : Expr} {t t' : TI} (h : PI X tg e t) (i : ∀ σ H R, t' σ H R → t σ H R) : PI X tg e t' := ⟨fun p s σ H R I w => h.run p s σ H R I (i σ H R w)⟩
theorem PI.or {tg e : Expr} {t t' : TI} (h : PI X tg e t) (h' : PI X tg e t') : PI X tg e (fun σ H R => t σ H R ∨ t' σ H R) := ⟨fun p s σ H R I w => w.elim (h.run p s σ H R I) (h'.run p s σ H R I)⟩
theorem PE.or {e : Expr} {t t' : TE} (h : PE X e t) (h' : PE X e t') : PE X e (fun σ H R => t σ H R ∨ t' σ H R) := ⟨fun p s σ H R I w => w.elim (h.run p s σ H R I) (h'.run p s σ H R I)⟩
end

/-! ### lists by place -/
theorem Rep.slot {K : PySem.W.Frag} {M H : Hp} {ρ fo : List O} {σ fv : List (Option V)} (R : Rep K M H (ρ ++ fo) (σ ++ fv)) (l : σ.length = ρ.length) {i : Nat} {d : D} (e : ρ[i]? = some (.dat d)) : ∃ v, σ[i]? = some (some v) ∧ Dv K M v d := by
  obtain ⟨hi, e⟩ := List.getElem?_eq_some_iff.mp e
  have hi' : i < σ.length := by omega
  have e1 : ρ = ρ.take i ++ O.dat d :: ρ.drop (i + 1) := by rw [← e, ← List.drop_eq_getElem_cons hi, List.take_append_drop]
  have e2 : σ = σ.take i ++ σ[i] :: σ.drop (i + 1) := by rw [← List.drop_eq_getElem_cons hi', List.take_append_drop]
  rw [e1, e2] at R
  simp only [List.append_assoc, List.cons_append] at R
  obtain ⟨x, ex, dx⟩ := R.datAt (by simp; omega) rfl
  exact ⟨x, by rw [List.getElem?_eq_getElem hi', ex], dx⟩

/-- what slot i holds, frozen -/
def gv (i : Nat) (ρ : Ev) : Option D := match ρ[i]? with
  | some (.dat d) => some d
  | _ => none

section
variable {X : Cx}
/-! ### names and constants -/
theorem pVar (i : Nat) {x : Str} {pos : Pos} (hN : X.N[i]? = some x := by rfl) (hv : Vis X.env.scope x := by first | exact Or.inl rfl | exact Or.inr (Or.inl rfl) | exact Or.inr (Or.inr rfl)) (hd : (x == ("__debug__" : Str)) = false := by decide)
    (hcd : (x == ("__classdict__" : Str)) = false := by decide) : PE X (.Name x pos) (tP X.K (gv i)) :=
  PE.imp (pe_var hN hv hd hcd) fun σ H Q ⟨M, ρ, fo, fv, d, R, l, e, k⟩ => by
    unfold gv at e
    split at e
    · cases e
      rename_i d' e'
      obtain ⟨v, ev, dv⟩ := R.slot l e'
      exact ⟨v, ev, k M H v (Same.refl _) R dv⟩
    · cases e
theorem pC {e : Expr} {v : V} {d : D} (h : PE X e (tC v)) (hd : ∀ M, Dv X.K M v d) : PE X e (tP X.K fun _ => some d) :=
  PE.imp h fun σ H Q ⟨M, ρ, fo, fv, d', R, l, e, k⟩ => by
    cases e
    exact k M H v (Same.refl _) R (hd M)
theorem pInt {i j pos} : PE X (.Constant (.int i) j pos) (tP X.K fun _ => some (.int i)) := pC pe_int fun _ => .int _
theorem pBl {b j pos} : PE X (.Constant (.bool b) j pos) (tP X.K fun _ => some (.bl b)) := pC pe_bl fun _ => .bl _
theorem pNon {j pos} : PE X (.Constant .none j pos) (tP X.K fun _ => some .non) := pC pe_non fun _ => .non
theorem pStr {x j pos} : PE X (.Constant (.str x) j pos) (tP X.K fun _ => some (.str x)) := pC pe_str fun _ => .str _
/-- a constant of the module -/
theorem pGlobI {x : Str} {i : Int} {t : Tok} {pos : Pos} (hm : X.mg x = some (.int i t)) (hg : Gl X x := by rfl) (hd : (x == ("__debug__" : Str)) = false := by decide) : PE X (.Name x pos) (tP X.K fun _ => some (.int i)) := pC (pe_glob hg hm (v := .int i) ⟨t, rfl⟩ hd) fun _ => .int _
theorem pGlobS {x z : Str} {t : Tok} {pos : Pos} (hm : X.mg x = some (.str z t)) (hg : Gl X x := by rfl) (hd : (x == ("__debug__" : Str)) = false := by decide) : PE X (.Name x pos) (tP X.K fun _ => some (.str z)) := pC (pe_glob hg hm (v := .str z) ⟨t, rfl⟩ hd) fun _ => .str _

/-! ### two expressions in a row -/
def b2 (fa fb : Ev → Option D) (g : D → D → Option D) (ρ : Ev) : Option D := (fa ρ).bind fun x => (fb ρ).bind fun y => g x y
def b1 (fa : Ev → Option D) (g : D → Option D) (ρ : Ev) : Option D := (fa ρ).bind g
theorem b2_some {fa fb : Ev → Option D} {g : D → D → Option D} {ρ : Ev} {d : D} (h : b2 fa fb g ρ = some d) : ∃ x y, fa ρ = some x ∧ fb ρ = some y ∧ g x y = some d := by
  unfold b2 at h
  cases e1 : fa ρ with
  | none => rw [e1] at h; cases h
  | some x =>
    rw [e1] at h
    cases e2 : fb ρ with
    | none => rw [Option.bind_some, e2] at h; cases h
    | some y => rw [Option.bind_some, e2] at h; exact ⟨x, y, rfl, rfl, h⟩
theorem b1_some {fa : Ev → Option D} {g : D → Option D} {ρ : Ev} {d : D} (h : b1 fa g ρ = some d) : ∃ x, fa ρ = some x ∧ g x = some d := by
  unfold b1 at h
  cases e1 : fa ρ with
  | none => rw [e1] at h; cases h
  | some x => rw [e1] at h; exact ⟨x, rfl, h⟩
/-- an operation upon data: what it asks of the values -/
def rD (K : PySem.W.Frag) (g : D → D → Option D) : R2 := fun x y H Q => ∃ M fo fv dx dy d, Rep K M H fo fv ∧ Dv K M x dx ∧ Dv K M y dy ∧ g dx dy = some d ∧
  ∀ M' H' v, Same M M' → Rep K M' H' fo fv → Dv K M' v d → Q v H'
def rD1 (K : PySem.W.Frag) (g : D → Option D) : V → Hp → VK → Prop := fun x H Q => ∃ M fo fv dx d, Rep K M H fo fv ∧ Dv K M x dx ∧ g dx = some d ∧
  ∀ M' H' v, Same M M' → Rep K M' H' fo fv → Dv K M' v d → Q v H'
def rDs (K : PySem.W.Frag) (g : List D → Option D) : List V → Hp → VK → Prop := fun xs H Q => ∃ M fo fv ds d, Rep K M H fo fv ∧ Dvs K M xs ds ∧ g ds = some d ∧
  ∀ M' H' v, Same M M' → Rep K M' H' fo fv → Dv K M' v d → Q v H'
/-- .. that gives a new thing of its own -/
def rOs (K : PySem.W.Frag) (g : List D → Option O) : List V → Hp → VK → Prop := fun xs H Q => ∃ M fo fv ds o, Rep K M H fo fv ∧ Dvs K M xs ds ∧ g ds = some o ∧
  ∀ M' H' v, Same M M' → Rep K M' H' (o :: fo) (some v :: fv) → Q v H'
theorem seq2 {K : PySem.W.Frag} {fa fb : Ev → Option D} {g : D → D → Option D} {σ : L2.St} {H : Hp} {Q : VK} (h : tP K (b2 fa fb g) σ H Q) : tOp (rD K g) (tP K fa) (tP K fb) σ H Q := by
  obtain ⟨M, ρ, fo, fv, d, R, l, e, k⟩ := h
  obtain ⟨x, y, ea, eb, eg⟩ := b2_some e
  exact ⟨M, ρ, fo, fv, x, R, l, ea, fun M1 H1 v1 s1 R1 d1 => ⟨M1, ρ, fo, fv, y, R1, l, eb, fun M2 H2 v2 s2 R2 d2 => ⟨M2, ρ ++ fo, σ ++ fv, x, y, d, R2, d1.mono s2, d2, eg, fun M3 H3 v s3 R3 d3 => k M3 H3 v (s1.trans (s2.trans s3)) R3 d3⟩⟩⟩
variable {a b c : Expr} {pos : Pos} {fa fb fc : Ev → Option D} {g : D → D → Option D}
theorem pOp {op : Operator} (ho : OpR X (binaryOp op) (rD X.K g)) (ha : PE X a (tP X.K fa)) (hb : PE X b (tP X.K fb)) : PE X (.BinOp a op b pos) (tP X.K (b2 fa fb g)) := PE.imp (pe_op ho ha hb) fun _ _ _ h => seq2 h
theorem pCmp {op : CmpOp} (ho : OpR X (compareOp op) (rD X.K g)) (ha : PE X a (tP X.K fa)) (hb : PE X b (tP X.K fb)) (hm : behindInMarks op b = false := by first | exact nomark _ | rfl) : PE X (.Compare a [op] [b] pos) (tP X.K (b2 fa fb g)) := PE.imp (pe_cmpR ho ha hb hm) fun _ _ _ h => seq2 h
theorem pUn {op : UnaryOp} {g : D → Option D} (ho : UnR X (unaryOp op) (rD1 X.K g)) (ha : PE X a (tP X.K fa)) : PE X (.UnaryOp op a pos) (tP X.K (b1 fa g)) := PE.imp (pe_un ho ha) fun σ H Q ⟨M, ρ, fo, fv, d, R, l, e, k⟩ => by
  obtain ⟨x, ea, eg⟩ := b1_some e
  exact ⟨M, ρ, fo, fv, x, R, l, ea, fun M1 H1 v1 s1 R1 d1 => ⟨M1, ρ ++ fo, σ ++ fv, x, d, R1, d1, eg, fun M3 H3 v s3 R3 d3 => k M3 H3 v (s1.trans s3) R3 d3⟩⟩
theorem pIx (ho : IxR X (rD X.K g)) (ha : PE X a (tP X.K fa)) (hb : PE X b (tP X.K fb)) (hs : PlainIx b := by exact fun _ _ => rfl) : PE X (.Subscript a b pos) (tP X.K (b2 fa fb g)) := PE.imp (pe_ix ho ha hb hs) fun _ _ _ h => seq2 h

/-! ### tests -/
/-- a pure expression that gives a bool, as a test -/
def asB (f : Ev → Option D) (ρ : Ev) : Option Bool := match f ρ with
  | some (.bl b) => some b
  | _ => none
theorem asB_some {f : Ev → Option D} {ρ : Ev} {b : Bool} (h : asB f ρ = some b) : f ρ = some (.bl b) := by
  unfold asB at h
  split at h
  · cases h; assumption
  · cases h
theorem tB_of {K : PySem.W.Frag} {f : Ev → Option D} {σ : L2.St} {H : Hp} {Q : Bool → Hp → Prop} (h : tT K (asB f) σ H Q) : tB (tP K f) σ H Q := by
  obtain ⟨M, ρ, fo, fv, b, R, l, e, k⟩ := h
  exact ⟨M, ρ, fo, fv, .bl b, R, l, asB_some e, fun M' H' v s R' dv => by cases dv; exact ⟨b, rfl, k M' H' s R'⟩⟩
theorem tVal {e : Expr} {f : Ev → Option D} (h : PE X e (tP X.K f)) (he : ∀ whole, isTrue e X.env whole = (do let v ← whole; standAt e.pos; holding [v] (truthy v)) := by intro _; rfl) : PT X e (tT X.K (asB f)) := PT.imp (pt_val h he) fun _ _ _ h => tB_of h
theorem tCmp {op : CmpOp} (ho : OpR X (compareOp op) (rD X.K g)) (ha : PE X a (tP X.K fa)) (hb : PE X b (tP X.K fb)) (hm : behindInMarks op b = false := by first | exact nomark _ | rfl) : PT X (.Compare a [op] [b] pos) (tT X.K (asB (b2 fa fb g))) :=
  PT.imp (pt_cmpR ho ha hb hm) fun σ H Q ⟨M, ρ, fo, fv, b, R, l, e, k⟩ => seq2 (K := X.K) (Q := fun x H' => ∃ k, x = .bl k ∧ Q k H') ⟨M, ρ, fo, fv, .bl b, R, l, asB_some e, fun M' H' v s R' dv => by cases dv; exact ⟨b, rfl, k M' H' s R'⟩⟩
def andT (f g : Ev → Option Bool) (ρ : Ev) : Option Bool := match f ρ with
  | some true => g ρ
  | some false => some false
  | none => none
def orT (f g : Ev → Option Bool) (ρ : Ev) : Option Bool := match f ρ with
  | some true => some true
  | some false => g ρ
  | none => none
def notT (f : Ev → Option Bool) (ρ : Ev) : Option Bool := (f ρ).map (!·)
theorem tNotT {fa : Ev → Option Bool} (h : PT X a (tT X.K fa)) : PT X (.UnaryOp .Not a pos) (tT X.K (notT fa)) := PT.imp (pt_not h) fun σ H Q ⟨M, ρ, fo, fv, b, R, l, e, k⟩ => by
  unfold notT at e
  cases q : fa ρ with
  | none => rw [q] at e; cases e
  | some c =>
    rw [q] at e
    cases e
    exact ⟨M, ρ, fo, fv, c, R, l, q, k⟩
theorem tAnd1 {fa : Ev → Option Bool} (h : PT X a (tT X.K fa)) : PW X (.BoolOp .And [a] pos) (tT X.K fa) := pw_and1 h
theorem tOr1 {fa : Ev → Option Bool} (h : PT X a (tT X.K fa)) : PW X (.BoolOp .Or [a] pos) (tT X.K fa) := pw_or1 h
theorem tAndW {fa fb : Ev → Option Bool} {rest : List Expr} (ha : PT X a (tT X.K fa)) (hb : PW X (.BoolOp .And (b :: rest) pos) (tT X.K fb)) : PW X (.BoolOp .And (a :: b :: rest) pos) (tT X.K (andT fa fb)) := PW.imp (pw_and ha hb) fun σ H Q ⟨M, ρ, fo, fv, b, R, l, e, k⟩ => by
  unfold andT at e
  cases q : fa ρ with
  | none => rw [q] at e; cases e
  | some c =>
    rw [q] at e
    cases c with
    | true => exact ⟨M, ρ, fo, fv, true, R, l, q, fun M1 H1 s1 R1 => iteT ⟨M1, ρ, fo, fv, b, R1, l, e, fun M2 H2 s2 R2 => k M2 H2 (s1.trans s2) R2⟩⟩
    | false => cases e; exact ⟨M, ρ, fo, fv, false, R, l, q, fun M1 H1 s1 R1 => iteF (k M1 H1 s1 R1)⟩
theorem tOrW {fa fb : Ev → Option Bool} {rest : List Expr} (ha : PT X a (tT X.K fa)) (hb : PW X (.BoolOp .Or (b :: rest) pos) (tT X.K fb)) : PW X (.BoolOp .Or (a :: b :: rest) pos) (tT X.K (orT fa fb)) := PW.imp (pw_or ha hb) fun σ H Q ⟨M, ρ, fo, fv, b, R, l, e, k⟩ => by
  unfold orT at e
  cases q : fa ρ with
  | none => rw [q] at e; cases e
  | some c =>
    rw [q] at e
    cases c with
    | true => cases e; exact ⟨M, ρ, fo, fv, true, R, l, q, fun M1 H1 s1 R1 => iteT (k M1 H1 s1 R1)⟩
    | false => exact ⟨M, ρ, fo, fv, false, R, l, q, fun M1 H1 s1 R1 => iteF ⟨M1, ρ, fo, fv, b, R1, l, e, fun M2 H2 s2 R2 => k M2 H2 (s1.trans s2) R2⟩⟩
theorem tW {fa : Ev → Option Bool} (h : PW X a (tT X.K fa)) : PT X a (tT X.K fa) := h.pt
/-! ### and, or, not, if-else as values -/
def andV (f g : Ev → Option D) (ρ : Ev) : Option D := match f ρ with
  | some (.bl true) => g ρ
  | some (.bl false) => some (.bl false)
  | _ => none
def orV (f g : Ev → Option D) (ρ : Ev) : Option D := match f ρ with
  | some (.bl true) => some (.bl true)
  | some (.bl false) => g ρ
  | _ => none
def notV (f : Ev → Option D) (ρ : Ev) : Option D := match f ρ with
  | some (.bl b) => some (.bl (!b))
  | _ => none
def ifV (c : Ev → Option Bool) (f g : Ev → Option D) (ρ : Ev) : Option D := match c ρ with
  | some true => f ρ
  | some false => g ρ
  | none => none
theorem pOne {op} (h : PE X a (tP X.K fa)) : PE X (.BoolOp op [a] pos) (tP X.K fa) := pe_one h
theorem pAnd {rest : List Expr} (ha : PE X a (tP X.K fa)) (hb : PE X (.BoolOp .And (b :: rest) pos) (tP X.K fb)) : PE X (.BoolOp .And (a :: b :: rest) pos) (tP X.K (andV fa fb)) := PE.imp (pe_and ha hb) fun σ H Q ⟨M, ρ, fo, fv, d, R, l, e, k⟩ => by
  unfold andV at e
  split at e
  · rename_i q
    exact ⟨M, ρ, fo, fv, _, R, l, q, fun M1 H1 v s1 R1 dv => by cases dv; exact ⟨true, rfl, iteT ⟨M1, ρ, fo, fv, d, R1, l, e, fun M2 H2 v2 s2 R2 => k M2 H2 v2 (s1.trans s2) R2⟩⟩⟩
  · rename_i q
    cases e
    exact ⟨M, ρ, fo, fv, _, R, l, q, fun M1 H1 v s1 R1 dv => by cases dv; exact ⟨false, rfl, iteF (k M1 H1 _ s1 R1 (.bl _))⟩⟩
  · cases e
theorem pOr {rest : List Expr} (ha : PE X a (tP X.K fa)) (hb : PE X (.BoolOp .Or (b :: rest) pos) (tP X.K fb)) : PE X (.BoolOp .Or (a :: b :: rest) pos) (tP X.K (orV fa fb)) := PE.imp (pe_or ha hb) fun σ H Q ⟨M, ρ, fo, fv, d, R, l, e, k⟩ => by
  unfold orV at e
  split at e
  · rename_i q
    cases e
    exact ⟨M, ρ, fo, fv, _, R, l, q, fun M1 H1 v s1 R1 dv => by cases dv; exact ⟨true, rfl, iteT (k M1 H1 _ s1 R1 (.bl _))⟩⟩
  · rename_i q
    exact ⟨M, ρ, fo, fv, _, R, l, q, fun M1 H1 v s1 R1 dv => by cases dv; exact ⟨false, rfl, iteF ⟨M1, ρ, fo, fv, d, R1, l, e, fun M2 H2 v2 s2 R2 => k M2 H2 v2 (s1.trans s2) R2⟩⟩⟩
  · cases e
theorem pNot (ha : PE X a (tP X.K fa)) : PE X (.UnaryOp .Not a pos) (tP X.K (notV fa)) := PE.imp (pe_not ha) fun σ H Q ⟨M, ρ, fo, fv, d, R, l, e, k⟩ => by
  unfold notV at e
  split at e
  · rename_i b q
    cases e
    exact ⟨M, ρ, fo, fv, _, R, l, q, fun M1 H1 v s1 R1 dv => by cases dv; exact ⟨b, rfl, k M1 H1 _ s1 R1 (.bl _)⟩⟩
  · cases e
theorem pIf {fc : Ev → Option Bool} (hc : PT X c (tT X.K fc)) (ha : PE X a (tP X.K fa)) (hb : PE X b (tP X.K fb)) : PE X (.IfExp c a b pos) (tP X.K (ifV fc fa fb)) := PE.imp (pe_ifExp hc ha hb) fun σ H Q ⟨M, ρ, fo, fv, d, R, l, e, k⟩ => by
  unfold ifV at e
  split at e
  · rename_i q
    exact ⟨M, ρ, fo, fv, _, R, l, q, fun M1 H1 s1 R1 => iteT ⟨M1, ρ, fo, fv, d, R1, l, e, fun M2 H2 v2 s2 R2 => k M2 H2 v2 (s1.trans s2) R2⟩⟩
  · rename_i q
    exact ⟨M, ρ, fo, fv, _, R, l, q, fun M1 H1 s1 R1 => iteF ⟨M1, ρ, fo, fv, d, R1, l, e, fun M2 H2 v2 s2 R2 => k M2 H2 v2 (s1.trans s2) R2⟩⟩
  · cases e

/-! ### argument lists -/
def aCons (f : Ev → Option D) (g : Ev → Option (List D)) (ρ : Ev) : Option (List D) := (f ρ).bind fun d => (g ρ).bind fun ds => some (d :: ds)
def aNil (_ : Ev) : Option (List D) := some []
theorem aCons_some {f : Ev → Option D} {g : Ev → Option (List D)} {ρ : Ev} {ds : List D} (h : aCons f g ρ = some ds) : ∃ d r, f ρ = some d ∧ g ρ = some r ∧ ds = d :: r := by
  unfold aCons at h
  cases e1 : f ρ with
  | none => rw [e1] at h; cases h
  | some x =>
    rw [e1] at h
    cases e2 : g ρ with
    | none => rw [Option.bind_some, e2] at h; cases h
    | some y => rw [Option.bind_some, e2] at h; cases h; exact ⟨x, y, rfl, rfl, rfl⟩
theorem tCons_of {K : PySem.W.Frag} {f : Ev → Option D} {g : Ev → Option (List D)} {σ : L2.St} {H : Hp} {Q : List V → Hp → Prop} (h : tAr K (aCons f g) σ H Q) : tCons (tP K f) (tAr K g) σ H Q := by
  obtain ⟨M, ρ, fo, fv, ds, R, l, e, k⟩ := h
  obtain ⟨d, r, ef, eg, rfl⟩ := aCons_some e
  exact ⟨M, ρ, fo, fv, d, R, l, ef, fun M1 H1 v1 s1 R1 d1 => ⟨M1, ρ, fo, fv, r, R1, l, eg, fun M2 H2 vs s2 R2 d2 => k M2 H2 _ (s1.trans s2) R2 (.cons (d1.mono s2) d2)⟩⟩
theorem qNil : PA X [] (tAr X.K aNil) := PA.imp pa_nil fun σ H Q ⟨M, ρ, fo, fv, d, R, l, e, k⟩ => by
  cases e
  exact k M H [] (Same.refl _) R .nil
theorem qCons {es : List Expr} {g : Ev → Option (List D)} (ha : PE X a (tP X.K fa)) (hr : PA X es (tAr X.K g)) (hs : starEach (a :: es) X.env = (false, eval a X.env) :: starEach es X.env := by rfl) : PA X (a :: es) (tAr X.K (aCons fa g)) :=
  PA.imp (pa_cons ha hr hs) fun _ _ _ h => tCons_of h
theorem kNil : PK X [] (tAr X.K aNil) := ⟨fun p pins s σ H Q I ⟨M, ρ, fo, fv, d, R, l, e, k⟩ => by
  cases e
  exact pk_nil.run p pins s σ H Q I (k M H [] (Same.refl _) R .nil)⟩
theorem kCons {nm : Option Str} {kpos : Pos} {kws : List Keyword} {g : Ev → Option (List D)} (ha : PE X a (tP X.K fa)) (hr : PK X kws (tAr X.K g)) : PK X (⟨nm, a, kpos⟩ :: kws) (tAr X.K (aCons fa g)) :=
  ⟨fun p pins s σ H Q I h => (pk_cons ha hr).run p pins s σ H Q I (tCons_of h)⟩

/-! ### tuples and lists that are displayed -/
def mkTup (g : Ev → Option (List D)) (ρ : Ev) : Option D := (g ρ).bind fun ds => if ds.length ≤ sizeLine then some (.tup ds) else none
def mkLst (g : Ev → Option (List D)) (ρ : Ev) : Option D := (g ρ).bind fun ds => if ds.length ≤ sizeLine then some (.lst ds) else none
def mkLstO (g : Ev → Option (List D)) (ρ : Ev) : Option O := (g ρ).bind fun ds => if ds.length ≤ sizeLine then some (.lst (ds.map .dat)) else none
theorem mk_some {α : Type} {g : Ev → Option (List D)} {ρ : Ev} {h : List D → α} {d : α} (e : ((g ρ).bind fun ds => if ds.length ≤ sizeLine then some (h ds) else none) = some d) : ∃ ds, g ρ = some ds ∧ ds.length ≤ sizeLine ∧ d = h ds := by
  cases e1 : g ρ with
  | none => rw [e1] at e; cases e
  | some ds =>
    rw [e1, Option.bind_some] at e
    split at e
    · cases e; exact ⟨ds, rfl, by assumption, rfl⟩
    · cases e
variable {es : List Expr} {ga : Ev → Option (List D)}
theorem pTup {k : Nat} (h : PA X es (tAr X.K ga)) : PE X (.Tuple es k pos) (tP X.K (mkTup ga)) := PE.imp (pe_tup h) fun σ H Q ⟨M, ρ, fo, fv, d, R, l, e, k⟩ => by
  obtain ⟨ds, eg, hl, rfl⟩ := mk_some e
  refine ⟨M, ρ, fo, fv, ds, R, l, eg, fun M1 H1 vs s1 R1 d1 => ⟨by rw [d1.length]; exact hl, fun p hp => ?_⟩⟩
  have mp := R1.same.free hp
  have s2 : Same M1 (upd M1 p (.tup vs)) := same_updM mp
  exact k _ _ _ (s1.trans s2) (R1.growM hp) (.tup (.inl (.inl upd_same)) (d1.mono s2))
theorem pLst (h : PA X es (tAr X.K ga)) : PE X (.List es pos) (tP X.K (mkLst ga)) := PE.imp (pe_lst h) fun σ H Q ⟨M, ρ, fo, fv, d, R, l, e, k⟩ => by
  obtain ⟨ds, eg, hl, rfl⟩ := mk_some e
  refine ⟨M, ρ, fo, fv, ds, R, l, eg, fun M1 H1 vs s1 R1 d1 => ⟨by rw [d1.length]; exact hl, fun p hp => ?_⟩⟩
  have mp := R1.same.free hp
  have s2 : Same M1 (upd M1 p (.lst vs)) := same_updM mp
  exact k _ _ _ (s1.trans s2) (R1.growM hp) (.lst (.inl (.inl upd_same)) (d1.mono s2))
theorem ows_dat {K : PySem.W.Frag} {M H : Hp} : ∀ {vs : List V} {ds : List D}, Dvs K M vs ds → Ows K M H (ds.map O.dat) (vs.map some) []
  | _, _, .nil => .nil
  | _, _, .cons h t => by
    have := Ows.cons (Ow.dat (H := H) h) (ows_dat (H := H) t)
    exact this
/-- a new list of frozen things, of one's own -/
theorem Rep.newL {K : PySem.W.Frag} {M H : Hp} {l r : List O} {lv rv : List (Option V)} (R : Rep K M H (l ++ r) (lv ++ rv)) (e : lv.length = l.length) {p : Addr} (hp : H p = none) {vs : List V} {ds : List D} (d : Dvs K M vs ds) :
    Rep K M (upd H p (.lst vs)) (l ++ .lst (ds.map .dat) :: r) (lv ++ some (.ref p) :: rv) := by
  have R1 : Rep K M (upd H p (.lst vs)) (l ++ r) (lv ++ rv) := R.grow hp
  obtain ⟨s, fp, w, nd, nm⟩ := R
  obtain ⟨s1, fp1, w1, nd1, nm1⟩ := R1
  have pn : p ∉ fp := fun z => w.dom p z hp
  have w' : Ows K M (upd H p (.lst vs)) (l ++ r) (lv ++ rv) fp := w.frame (Same.refl _) fun a ha => upd_ne fun z => pn (z ▸ ha)
  obtain ⟨fa, fb, e1, wa, wb⟩ := w'.split e
  subst e1
  refine ⟨s1, fa ++ ([p] ++ fb), wa.append (.cons (.lst upd_same (ows_dat d)) wb), ?_, fun a ha => ?_⟩
  · rw [List.nodup_append] at nd ⊢
    obtain ⟨n1, n2, n3⟩ := nd
    refine ⟨n1, ?_, fun a ha b hb => ?_⟩
    · exact List.nodup_cons.mpr ⟨fun z => pn (List.mem_append_right _ z), n2⟩
    · rcases List.mem_cons.mp hb with rfl | hb
      · exact fun z => pn (z ▸ List.mem_append_left _ ha)
      · exact n3 a ha b hb
  · simp only [List.mem_append, List.mem_singleton] at ha
    rcases ha with ha | rfl | ha
    · exact nm a (List.mem_append_left _ ha)
    · exact s.free hp
    · exact nm a (List.mem_append_right _ ha)
theorem oLst (h : PA X es (tAr X.K ga)) : PE X (.List es pos) (tO X.K (mkLstO ga)) := PE.imp (pe_lst h) fun σ H Q ⟨M, ρ, fo, fv, d, R, l, e, k⟩ => by
  obtain ⟨ds, eg, hl, rfl⟩ := mk_some e
  exact ⟨M, ρ, fo, fv, ds, R, l, eg, fun M1 H1 vs s1 R1 d1 => ⟨by rw [d1.length]; exact hl, fun p hp => k _ _ _ s1 (R1.newL l hp d1)⟩⟩
/-- a frozen thing is a thing -/
def thaw (f : Ev → Option D) (ρ : Ev) : Option O := (f ρ).map .dat
def frz (f : Ev → Option O) (ρ : Ev) : Option D := (f ρ).bind O.toD
theorem oP {e : Expr} {f : Ev → Option D} (h : PE X e (tP X.K f)) : PE X e (tO X.K (thaw f)) := PE.imp h fun σ H Q ⟨M, ρ, fo, fv, d, R, l, e, k⟩ => by
  unfold thaw at e
  cases q : f ρ with
  | none => rw [q] at e; cases e
  | some d' =>
    rw [q] at e
    cases e
    exact ⟨M, ρ, fo, fv, d', R, l, q, fun M1 H1 v s1 R1 d1 => k M1 H1 v s1 (R1.push l d1)⟩
/-- a thing of one's own, frozen -/
theorem pO {e : Expr} {f : Ev → Option O} (h : PE X e (tO X.K f)) : PE X e (tP X.K (frz f)) := PE.imp h fun σ H Q ⟨M, ρ, fo, fv, d, R, l, e, k⟩ => by
  unfold frz at e
  cases q : f ρ with
  | none => rw [q] at e; cases e
  | some o =>
    rw [q] at e
    refine ⟨M, ρ, fo, fv, o, R, l, q, fun M1 H1 v s1 R1 => ?_⟩
    obtain ⟨M2, s2, R2, d2⟩ := R1.frz l rfl e
    exact k M2 H1 v (s1.trans s2) (R2.drop l) d2

/-! ### calls of built-ins -/
def cB (g : Ev → Option (List D)) (f : List D → Option D) (ρ : Ev) : Option D := (g ρ).bind f
theorem cB_some {g : Ev → Option (List D)} {f : List D → Option D} {ρ : Ev} {d : D} (h : cB g f ρ = some d) : ∃ ds, g ρ = some ds ∧ f ds = some d := by
  unfold cB at h
  cases e1 : g ρ with
  | none => rw [e1] at h; cases h
  | some x => rw [e1] at h; exact ⟨x, rfl, h⟩
theorem tCB_of {K : PySem.W.Frag} {g : Ev → Option (List D)} {f : List D → Option D} {σ : L2.St} {H : Hp} {Q : VK} (h : tP K (cB g f) σ H Q) : tCB (rDs K f) (tAr K g) σ H Q := by
  obtain ⟨M, ρ, fo, fv, d, R, l, e, k⟩ := h
  obtain ⟨ds, eg, ef⟩ := cB_some e
  exact ⟨M, ρ, fo, fv, ds, R, l, eg, fun M1 H1 vs s1 R1 d1 => ⟨M1, ρ ++ fo, σ ++ fv, ds, d, R1, d1, ef, fun M2 H2 v s2 R2 d2 => k M2 H2 v (s1.trans s2) R2 d2⟩⟩
theorem pCallB {id : String} {x : Str} {p : Pos} {f : List D → Option D} {e : Expr} {es : List Expr} (hc : CallR X (.builtin id) (rDs X.K f)) (hm : X.mg x = none) (hv : bootBuiltins x = some (.builtin id)) (ha : PA X (e :: es) (tAr X.K ga)) (hg : Gl X x := by rfl) (hn : x ≠ "__name__" := by decide) (hdb : (x == ("__debug__" : Str)) = false := by decide)
    (hpl : (backTo pos (starEach es X.env)).any (·.1) = false := by rfl) (hs : starEach (e :: es) X.env = (false, eval e X.env) :: starEach es X.env := by rfl) : PE X (.Call (.Name x p) (e :: es) [] pos) (tP X.K (cB ga f)) :=
  PE.imp (pe_callB hc hg hm hv ha hn hdb hs hpl) fun _ _ _ h => tCB_of h
theorem pCallT {T : String} {x : Str} {p : Pos} {f : List D → Option D} {e : Expr} {es : List Expr} (hc : CallR X (.type T) (rDs X.K f)) (hm : X.mg x = none) (hv : bootBuiltins x = some (.type T)) (ha : PA X (e :: es) (tAr X.K ga)) (hg : Gl X x := by rfl) (hn : x ≠ "__name__" := by decide) (hdb : (x == ("__debug__" : Str)) = false := by decide)
    (hpl : (backTo pos (starEach es X.env)).any (·.1) = false := by rfl) (hs : starEach (e :: es) X.env = (false, eval e X.env) :: starEach es X.env := by rfl) : PE X (.Call (.Name x p) (e :: es) [] pos) (tP X.K (cB ga f)) :=
  PE.imp (pe_callTy hc hg hm hv ha hn hdb hs hpl) fun _ _ _ h => tCB_of h
end
end PD

namespace PD
open PySem PySem.Spec L2

section
variable {X : Cx} {W : WX} {J : List Nat} {pos : Pos}
/-! ### blocks -/
def sq (f g : Ev → Option Fl) (ρ : Ev) : Option Fl := (f ρ).bind fun r => match r with
  | .nx ρ' => g ρ'
  | r => some r
def skip (ρ : Ev) : Option Fl := some (.nx ρ)
theorem sNil : PSs X [] (tS X.K W J skip) := PSs.imp pss_nil fun E σ H ⟨M, ρ, fo, fv, r, σ0, R, l, e, k⟩ => by
  cases e
  exact k M H σ (Same.refl _) R l
theorem tSeq_of {K : PySem.W.Frag} {f g : Ev → Option Fl} {E : Ends} {σ : L2.St} {H : Hp} (h : tS K W J (sq f g) E σ H) : tSeq (tS K W J f) (tS K W J g) E σ H := by
  obtain ⟨M, ρ, fo, fv, r, σ0, R, l, e, k⟩ := h
  unfold sq at e
  cases q : f ρ with
  | none => rw [q] at e; cases e
  | some r1 =>
    rw [q, Option.bind_some] at e
    refine ⟨M, ρ, fo, fv, r1, σ0, R, l, q, ?_⟩
    cases r1 with
    | nx ρ1 => exact fun M1 H1 σ1 s1 R1 l1 => ⟨M1, ρ1, fo, fv, r, σ0, R1, l1, e, k.later s1⟩
    | rt o ρ1 => cases e; exact k
    | bk ρ1 => cases e; exact k
    | ct ρ1 => cases e; exact k
    | ex x ρ1 => cases e; exact k
theorem sCons {st : Stmt} {rest : List Stmt} {f g : Ev → Option Fl} (h1 : PS X st (tS X.K W J f)) (h2 : PSs X rest (tS X.K W J g)) : PSs X (st :: rest) (tS X.K W J (sq f g)) := PSs.imp (pss_cons h1 h2) fun _ _ _ h => tSeq_of h
theorem sOne {st : Stmt} {f : Ev → Option Fl} (h1 : PS X st (tS X.K W J f)) : PSs X [st] (tS X.K W J f) := pss_one h1
theorem sPass : PS X (.Pass pos) (tS X.K W J skip) := PS.imp ps_pass fun E σ H ⟨M, ρ, fo, fv, r, σ0, R, l, e, k⟩ => by
  cases e
  exact k M H σ (Same.refl _) R l
def brk (ρ : Ev) : Option Fl := some (.bk ρ)
def cont (ρ : Ev) : Option Fl := some (.ct ρ)
theorem sBreak : PS X (.Break pos) (tS X.K W J brk) := PS.imp ps_break fun E σ H ⟨M, ρ, fo, fv, r, σ0, R, l, e, k⟩ => by
  cases e
  exact k M H σ (Same.refl _) R l
theorem sCont : PS X (.Continue pos) (tS X.K W J cont) := PS.imp ps_continue fun E σ H ⟨M, ρ, fo, fv, r, σ0, R, l, e, k⟩ => by
  cases e
  exact k M H σ (Same.refl _) R l
/-! ### return -/
def rtV (f : Ev → Option D) (ρ : Ev) : Option Fl := (f ρ).map fun d => .rt (.dat d) ρ
def rtO (f : Ev → Option O) (ρ : Ev) : Option Fl := (f ρ).map fun o => .rt o ρ
def rtN (ρ : Ev) : Option Fl := some (.rt (.dat .non) ρ)
theorem sRet {e : Expr} {f : Ev → Option D} (h : PE X e (tP X.K f)) : PS X (.Return (some e) pos) (tS X.K W J (rtV f)) := PS.imp (ps_ret h) fun E σ H ⟨M, ρ, fo, fv, r, σ0, R, l, e, k⟩ => by
  unfold rtV at e
  cases q : f ρ with
  | none => rw [q] at e; cases e
  | some d =>
    rw [q] at e
    cases e
    exact ⟨M, ρ, fo, fv, d, R, l.1, q, fun M1 H1 v s1 R1 d1 => k M1 H1 σ v s1 (R1.push l.1 d1) l⟩
theorem sRetO {e : Expr} {f : Ev → Option O} (h : PE X e (tO X.K f)) : PS X (.Return (some e) pos) (tS X.K W J (rtO f)) := PS.imp (ps_ret h) fun E σ H ⟨M, ρ, fo, fv, r, σ0, R, l, e, k⟩ => by
  unfold rtO at e
  cases q : f ρ with
  | none => rw [q] at e; cases e
  | some d =>
    rw [q] at e
    cases e
    exact ⟨M, ρ, fo, fv, d, R, l.1, q, fun M1 H1 v s1 R1 => k M1 H1 σ v s1 R1 l⟩
theorem sRetN : PS X (.Return none pos) (tS X.K W J rtN) := PS.imp ps_retN fun E σ H ⟨M, ρ, fo, fv, r, σ0, R, l, e, k⟩ => by
  cases e
  exact k M H σ _ (Same.refl _) (R.push l.1 .non) l
/-! ### if -/
def ifS (c : Ev → Option Bool) (f g : Ev → Option Fl) (ρ : Ev) : Option Fl := match c ρ with
  | some true => f ρ
  | some false => g ρ
  | none => none
theorem sIf {c : Expr} {a b : List Stmt} {fc : Ev → Option Bool} {f g : Ev → Option Fl} (hc : PT X c (tT X.K fc)) (ha : PSs X a (tS X.K W J f)) (hb : PSs X b (tS X.K W J g)) : PS X (.If c a b pos) (tS X.K W J (ifS fc f g)) :=
  PS.imp (ps_if hc ha hb) fun E σ H ⟨M, ρ, fo, fv, r, σ0, R, l, e, k⟩ => by
    unfold ifS at e
    split at e
    · rename_i q
      exact ⟨M, ρ, fo, fv, true, R, l.1, q, fun M1 H1 s1 R1 => iteT ⟨M1, ρ, fo, fv, r, σ0, R1, l, e, k.later s1⟩⟩
    · rename_i q
      exact ⟨M, ρ, fo, fv, false, R, l.1, q, fun M1 H1 s1 R1 => iteF ⟨M1, ρ, fo, fv, r, σ0, R1, l, e, k.later s1⟩⟩
    · cases e
/-! ### a name is stored -/
def stV (i : Nat) (f : Ev → Option D) (ρ : Ev) : Option Fl := (f ρ).map fun d => .nx (ρ.set i (.dat d))
def stO (i : Nat) (f : Ev → Option O) (ρ : Ev) : Option Fl := (f ρ).map fun o => .nx (ρ.set i o)
theorem sSet {i : Nat} {x : Str} {e : Expr} {f : Ev → Option D} {pos' : Pos} (hN : X.N.Nodup) (he : PE X e (tP X.K f)) (hJ : i ∉ J := by decide) (hi : X.N[i]? = some x := by rfl) (hx : Loc X.env.scope x := by first | exact Or.inl rfl | exact Or.inr rfl) (hs : swapsWith e (some (.Name x pos')) pos.line X.env = pure false := by rfl)
    (hf : X.fn x = true ∨ X.env.scope.names.lookup x = some .local := by first | exact .inl rfl | exact .inr rfl) : PS X (.Assign [.Name x pos'] e pos) (tS X.K W J (stV i f)) := PS.imp (ps_set (i := i) hN hi hx he hs hf) fun E σ H ⟨M, ρ, fo, fv, r, σ0, R, l, e, k⟩ => by
  unfold stV at e
  cases q : f ρ with
  | none => rw [q] at e; cases e
  | some d =>
    rw [q] at e
    cases e
    exact ⟨M, ρ, fo, fv, d, R, l.1, q, fun M1 H1 v s1 R1 d1 => k M1 H1 _ s1 (R1.setD l.1 d1) (l.set hJ _ _)⟩
theorem sSetO {i : Nat} {x : Str} {e : Expr} {f : Ev → Option O} {pos' : Pos} (hN : X.N.Nodup) (he : PE X e (tO X.K f)) (hJ : i ∉ J := by decide) (hi : X.N[i]? = some x := by rfl) (hx : Loc X.env.scope x := by first | exact Or.inl rfl | exact Or.inr rfl) (hs : swapsWith e (some (.Name x pos')) pos.line X.env = pure false := by rfl)
    (hf : X.fn x = true ∨ X.env.scope.names.lookup x = some .local := by first | exact .inl rfl | exact .inr rfl) : PS X (.Assign [.Name x pos'] e pos) (tS X.K W J (stO i f)) := PS.imp (ps_set (i := i) hN hi hx he hs hf) fun E σ H ⟨M, ρ, fo, fv, r, σ0, R, l, e, k⟩ => by
  unfold stO at e
  cases q : f ρ with
  | none => rw [q] at e; cases e
  | some d =>
    rw [q] at e
    cases e
    exact ⟨M, ρ, fo, fv, d, R, l.1, q, fun M1 H1 v s1 R1 => k M1 H1 _ s1 (R1.into l.1) (l.set hJ _ _)⟩
/-- x = [..] (a comprehension on one line, x a local) is a statement of its own: from its PS with tAsg -/
theorem sAsgO {i : Nat} {st : Stmt} {f : Ev → Option O} (h : PS X st (tAsg (tO X.K f) (gName i))) (hJ : i ∉ J := by decide) : PS X st (tS X.K W J (stO i f)) := PS.imp h fun E σ H ⟨M, ρ, fo, fv, r, σ0, R, l, e, k⟩ => by
  unfold stO at e
  cases q : f ρ with
  | none => rw [q] at e; cases e
  | some d =>
    rw [q] at e
    cases e
    exact ⟨M, ρ, fo, fv, d, R, l.1, q, fun M1 H1 v s1 R1 => k M1 H1 _ s1 (R1.into l.1) (l.set hJ _ _)⟩
/-! ### an owned slot is frozen (a step of the proof alone) -/
def fz (i : Nat) (g : Ev → Option Fl) (ρ : Ev) : Option Fl := match ρ[i]? with
  | some o => o.toD.bind fun d => g (ρ.set i (.dat d))
  | none => none
theorem Rep.frzAt {K : PySem.W.Frag} {M H : Hp} {ρ fo : List O} {σ fv : List (Option V)} (R : Rep K M H (ρ ++ fo) (σ ++ fv)) (l : σ.length = ρ.length) {i : Nat} {o : O} {d : D} (e : ρ[i]? = some o) (hd : o.toD = some d) :
    ∃ M', Same M M' ∧ Rep K M' H (ρ.set i (.dat d) ++ fo) (σ ++ fv) := by
  obtain ⟨hi, e⟩ := List.getElem?_eq_some_iff.mp e
  have hi' : i < σ.length := by omega
  have e1 : ρ = ρ.take i ++ o :: ρ.drop (i + 1) := by rw [← e, ← List.drop_eq_getElem_cons hi, List.take_append_drop]
  have e2 : σ = σ.take i ++ σ[i] :: σ.drop (i + 1) := by rw [← List.drop_eq_getElem_cons hi', List.take_append_drop]
  have e3 : ρ.set i (.dat d) = ρ.take i ++ .dat d :: ρ.drop (i + 1) := by rw [List.set_eq_take_append_cons_drop, if_pos hi]
  rw [e1, e2] at R
  simp only [List.append_assoc, List.cons_append] at R
  have ll : (σ.take i).length = (ρ.take i).length := by simp; omega
  obtain ⟨fa, f, fb, w1, w2, w3, nd, nm⟩ := R.mid ll
  obtain ⟨x, ex⟩ : ∃ x, σ[i] = some x := by
    generalize σ[i] = z at w2
    cases w2 with
    | unk => unfold O.toD at hd; cases hd
    | dat h => exact ⟨_, rfl⟩
    | lst h _ => exact ⟨_, rfl⟩
    | tup h _ => exact ⟨_, rfl⟩
    | dic h _ _ => exact ⟨_, rfl⟩
    | obj h _ _ _ => exact ⟨_, rfl⟩
  obtain ⟨M', s', R', _⟩ := R.frz ll ex hd
  refine ⟨M', s', ?_⟩
  rw [e3, e2]
  simp only [List.append_assoc, List.cons_append]
  simpa using R'
theorem tFz_of {K : PySem.W.Frag} {i : Nat} {g : Ev → Option Fl} {E : Ends} {σ : L2.St} {H : Hp} (h : tS K W J (fz i g) E σ H) : tS K W J g E σ H := by
  obtain ⟨M, ρ, fo, fv, r, σ0, R, l, e, k⟩ := h
  unfold fz at e
  cases q : ρ[i]? with
  | none => rw [q] at e; cases e
  | some o =>
    rw [q] at e
    have e : (o.toD.bind fun d => g (ρ.set i (.dat d))) = some r := e
    cases q2 : o.toD with
    | none => rw [q2] at e; cases e
    | some d =>
      rw [q2, Option.bind_some] at e
      obtain ⟨M1, s1, R1⟩ := R.frzAt l.1 q q2
      exact ⟨M1, _, fo, fv, r, σ0, R1, l.setR _, e, k.later s1⟩
theorem sFz {st : Stmt} {i : Nat} {g : Ev → Option Fl} (h : PS X st (tS X.K W J g)) : PS X st (tS X.K W J (fz i g)) := PS.imp h fun _ _ _ h => tFz_of h
/-- an expression alone -/
def drp (f : Ev → Option D) (ρ : Ev) : Option Fl := (f ρ).map fun _ => .nx ρ
theorem sExpr {e : Expr} {f : Ev → Option D} (he : PE X e (tP X.K f)) (hs : swapsWith e none pos.line X.env = pure false := by rfl) : PS X (.Expr e pos) (tS X.K W J (drp f)) := PS.imp (ps_expr he hs) fun E σ H ⟨M, ρ, fo, fv, r, σ0, R, l, e, k⟩ => by
  unfold drp at e
  cases q : f ρ with
  | none => rw [q] at e; cases e
  | some d =>
    rw [q] at e
    cases e
    exact ⟨M, ρ, fo, fv, d, R, l.1, q, fun M1 H1 v s1 R1 d1 => k M1 H1 σ s1 R1 l⟩

/-! ### x.append(e) of an own list -/
theorem Rep.ownL {K : PySem.W.Frag} {M H : Hp} {ρ fo : List O} {σ fv : List (Option V)} (R : Rep K M H (ρ ++ fo) (σ ++ fv)) (l : σ.length = ρ.length) {i : Nat} {os : List O} (e : ρ[i]? = some (.lst os)) :
    ∃ a xs, σ[i]? = some (some (.ref a)) ∧ H a = some (.lst xs) ∧ xs.length = os.length ∧
      ∀ (x : V) (d : D), Dv K M x d → Rep K M (upd H a (.lst (xs ++ [x]))) (ρ.set i (.lst (os ++ [.dat d])) ++ fo) (σ ++ fv) := by
  obtain ⟨hi, e⟩ := List.getElem?_eq_some_iff.mp e
  have hi' : i < σ.length := by omega
  have e1 : ρ = ρ.take i ++ O.lst os :: ρ.drop (i + 1) := by rw [← e, ← List.drop_eq_getElem_cons hi, List.take_append_drop]
  have e2 : σ = σ.take i ++ σ[i] :: σ.drop (i + 1) := by rw [← List.drop_eq_getElem_cons hi', List.take_append_drop]
  have e3 : ∀ z, ρ.set i z = ρ.take i ++ z :: ρ.drop (i + 1) := fun z => by rw [List.set_eq_take_append_cons_drop, if_pos hi]
  have R0 := R
  rw [e1, e2] at R
  simp only [List.append_assoc, List.cons_append] at R
  have ll : (σ.take i).length = (ρ.take i).length := by simp; omega
  obtain ⟨fa, f, fb, w1, w2, w3, nd, nm⟩ := R.mid ll
  generalize hz : σ[i] = z at *
  cases w2 with
  | lst h ws =>
    rename_i a xs fp
    refine ⟨a, xs, by rw [List.getElem?_eq_getElem hi', hz], h, by rw [← ws.length]; simp, fun x d dx => ?_⟩
    have aout : ∀ b, b ∈ fa ∨ b ∈ fp ∨ b ∈ fb → b ≠ a := by
      intro b hb z
      subst z
      rw [List.nodup_append] at nd
      obtain ⟨n1, n2, n3⟩ := nd
      rcases hb with hb | hb | hb
      · exact n3 b hb b (by simp) rfl
      · rw [List.cons_append, List.nodup_cons] at n2
        exact n2.1 (List.mem_append_left _ hb)
      · rw [List.cons_append, List.nodup_cons] at n2
        exact n2.1 (List.mem_append_right _ hb)
    have ma : M a = none := nm a (by simp)
    rw [e3, e2]
    simp only [List.append_assoc, List.cons_append]
    refine ⟨fun b y q => ?_, fa ++ ((a :: fp) ++ fb), ?_, nd, nm⟩
    · rw [upd_ne (fun z => by subst z; rw [ma] at q; cases q)]
      exact R.same b y q
    · refine (w1.frame (Same.refl _) fun b hb => upd_ne (aout b (.inl hb))).append (.cons ?_ (w3.frame (Same.refl _) fun b hb => upd_ne (aout b (.inr (.inr hb)))))
      refine .lst upd_same ?_
      rw [List.map_append]
      have w4 := (ws.frame (Same.refl _) (H' := upd H a (.lst (xs ++ [x]))) fun b hb => upd_ne (aout b (.inr (.inl hb)))).append (Ows.cons (Ow.dat (H := upd H a (.lst (xs ++ [x]))) dx) .nil)
      simpa using w4
def app (i : Nat) (f : Ev → Option D) (ρ : Ev) : Option Fl := (f ρ).bind fun d => match ρ[i]? with
  | some (.lst os) => if os.length < sizeLine then some (.nx (ρ.set i (.lst (os ++ [.dat d])))) else none
  | _ => none
theorem sApp {i : Nat} {x : Str} {e : Expr} {f : Ev → Option D} {p apos cpos : Pos} (hv : PE X (.Name x p) (tVar i)) (he : PE X e (tP X.K f)) (hbase : attributeBase (.Name x p) "append" X.env (eval (.Name x p) X.env) = eval (.Name x p) X.env := by rfl)
    (hfew : ((backTo cpos (starEach [e] X.env)).all (fun x => !x.1) && (backToKw cpos (keywordEach [] X.env)).all (fun x => x.1.isSome)
      && decide ([e].length + ([] : List Keyword).length + (if ([] : List Keyword).isEmpty then 0 else 1) < 30)) = true := by rfl)
    (hline : (apos.endLine == cpos.line) = true := by rfl) (hs : starEach [e] X.env = (false, eval e X.env) :: starEach [] X.env := by rfl) (hplain : (backTo cpos (starEach [] X.env)).any (·.1) = false := by rfl)
    (hsw : swapsWith (.Call (.Attribute (.Name x p) "append" apos) [e] [] cpos) none pos.line X.env = pure false := by rfl) :
    PS X (.Expr (.Call (.Attribute (.Name x p) "append" apos) [e] [] cpos) pos) (tS X.K W J (app i f)) :=
  PS.imp (ps_expr (pe_bm PySem.F.plainAttrs_list PySem.F.slot_list_append PySem.F.type_list_append mt_append hv (pa_cons he pa_nil hs) hbase hfew hline hs hplain) hsw) fun E σ H ⟨M, ρ, fo, fv, r, σ0, R, l, e, k⟩ => by
    unfold app at e
    cases q : f ρ with
    | none => rw [q] at e; cases e
    | some d =>
      rw [q, Option.bind_some] at e
      split at e
      · rename_i os eo
        split at e
        · rename_i hlen
          cases e
          obtain ⟨a, xs, es, ha, hl, _⟩ := R.ownL l.1 eo
          refine ⟨.ref a, es, .inl ⟨rfl, _, .inl (.inl ha)⟩, M, ρ, fo, fv, d, R, l.1, q, fun M1 H1 v s1 R1 d1 => ?_⟩
          obtain ⟨a', xs', es', ha', hl', up⟩ := R1.ownL l.1 eo
          have : a' = a := by rw [es'] at es; cases es; rfl
          subst this
          refine ⟨a', xs', v, rfl, rfl, ha', by omega, ?_⟩
          exact k M1 _ σ s1 (up v d d1) (l.setR _)
        · cases e
      · cases e
end
end PD

namespace PD
open PySem PySem.Spec L2

theorem Lk.to {J : List Nat} {σ0 σ σ1 : L2.St} {ρ ρ1 : Ev} (l : Lk J σ0 σ ρ) (l1 : σ1.length = σ.length) (r1 : ρ1.length = ρ.length) {is : List Nat} (a : ∀ j, j ∉ is → σ1[j]? = σ[j]?) (h : ∀ i ∈ is, i ∉ J) : Lk J σ0 σ1 ρ1 :=
  ⟨by rw [l1, r1]; exact l.1, fun j hj => (a j fun z => h j z hj).trans (l.2 j hj)⟩
/-! ### what is walked -/
/-- nd: roots that must stand as they were -/
def Yld (K : PySem.W.Frag) (M : Hp) (nd : List (O × Option V)) (J : It) (ds : List D) : Prop :=
  ∀ i M1 H os vs, Same M M1 → Rep K M1 H os vs → (∀ r ∈ nd, r ∈ os.zip vs) → (i < ds.length → J.go i H) ∧ (i = ds.length → J.stop i H) ∧ ∀ d, ds[i]? = some d → ∀ x H', J.yld i H x H' →
    ∃ M2, Same M1 M2 ∧ Rep K M2 H' os vs ∧ Dv K M2 x d
/-- kn: the slots whose own lists are walked -/
def tI (K : PySem.W.Frag) (kn : List Nat) (g : Ev → Option (List D)) : TI := fun σ H R => ∃ M ρ fo fv ds, Rep K M H (ρ ++ fo) (σ ++ fv) ∧ σ.length = ρ.length ∧ g ρ = some ds ∧
  ∀ M' H' J, Same M M' → Rep K M' H' (ρ ++ fo) (σ ++ fv) → Yld K M' (kn.map fun k => (ρ.getD k .unk, σ.getD k none)) J ds → R J H'
theorem yld_list {K : PySem.W.Frag} {M : Hp} {a : Addr} {xs : List V} {ds : List D} (h : SqX K M a xs) (d : Dvs K M xs ds) : Yld K M [] (Itl K a) ds := fun i M1 H os vs s1 R _ => by
  have q := seqX (s1.trans R.same) h
  have w := walk_list (K := K) (a := a) (xs := xs)
  have hl := d.length
  refine ⟨fun hi => w.goes i H (by omega) q, fun hi => by subst hi; rw [← hl]; exact w.stops H q, fun e he x H' y => ?_⟩
  have hi : i < xs.length := by rw [hl]; exact (List.getElem?_eq_some_iff.mp he).1
  obtain ⟨rfl, ex⟩ := w.yields i H x H' hi q y
  obtain ⟨e', he', dv⟩ := d.getV ex
  rw [he] at he'; cases he'
  exact ⟨M1, Same.refl _, R, dv.mono s1⟩
theorem yld_tup {K : PySem.W.Frag} {M : Hp} {a : Addr} {xs : List V} {ds : List D} (h : SqT K M a xs) (d : Dvs K M xs ds) : Yld K M [] (Itt K a) ds := fun i M1 H os vs s1 R _ => by
  have q := sqT_same (s1.trans R.same) h
  have w := walk_tup (K := K) (a := a) (xs := xs)
  have hl := d.length
  refine ⟨fun hi => w.goes i H (by omega) q, fun hi => by subst hi; rw [← hl]; exact w.stops H q, fun e he x H' y => ?_⟩
  have hi : i < xs.length := by rw [hl]; exact (List.getElem?_eq_some_iff.mp he).1
  obtain ⟨rfl, ex⟩ := w.yields i H x H' hi q y
  obtain ⟨e', he', dv⟩ := d.getV ex
  rw [he] at he'; cases he'
  exact ⟨M1, Same.refl _, R, dv.mono s1⟩
/-- the signs of a text -/
def signs (z : Str) : List D := z.cps.toList.map fun c => .str ⟨#[c]⟩
theorem yld_str {K : PySem.W.Frag} {M : Hp} {z : Str} : Yld K M [] (Its z) (signs z) := fun i M1 H os vs s1 R _ => by
  have w := walk_str (z := z)
  have hl : (signs z).length = z.cps.size := by simp [signs]
  refine ⟨fun hi => w.goes i H (by omega) trivial, fun hi => by subst hi; rw [hl]; exact w.stops H trivial, fun e he x H' y => ?_⟩
  have hi : i < z.cps.size := by rw [← hl]; exact (List.getElem?_eq_some_iff.mp he).1
  obtain ⟨rfl, c, ec, ex⟩ := w.yields i H x H' hi trivial y
  have : e = .str ⟨#[c]⟩ := by
    unfold signs at he
    rw [List.getElem?_map, Array.getElem?_toList, ec] at he
    exact (Option.some.inj he).symm
  subst this; subst ex
  exact ⟨M1, Same.refl _, R, .str _⟩
def rangeD (lo : Int) (n : Nat) : List D := (List.range n).map fun i : Nat => .int (lo + (i : Int))
theorem yld_range {K : PySem.W.Frag} {M : Hp} {lo : Int} {n : Nat} : Yld K M [] (Itr lo n) (rangeD lo n) := fun i M1 H os vs s1 R _ => by
  have w := walk_range (lo := lo) (n := n)
  have hl : (rangeD lo n).length = n := by simp [rangeD]
  refine ⟨fun hi => w.goes i H (by omega) trivial, fun hi => by subst hi; rw [hl]; exact w.stops H trivial, fun e he x H' y => ?_⟩
  have hi : i < n := by rw [← hl]; exact (List.getElem?_eq_some_iff.mp he).1
  obtain ⟨rfl, ex⟩ := w.yields i H x H' hi trivial y
  have : e = .int (lo + (i : Int)) := by
    unfold rangeD at he
    rw [List.getElem?_map, List.getElem?_range hi] at he
    exact (Option.some.inj he).symm
  subst this; subst ex
  exact ⟨M1, Same.refl _, R, .int _⟩
theorem yld_enum {K : PySem.W.Frag} {M : Hp} {a : Addr} {xs : List V} {ds : List D} (h : SqX K M a xs) (d : Dvs K M xs ds) : Yld K M [] (Ite K a) (ds.zipIdx.map fun p => .tup [.int (p.2 : Nat), p.1]) := fun i M1 H os vs s1 R _ => by
  have q := seqX (s1.trans R.same) h
  have w := walk_enum (K := K) (a := a) (xs := xs)
  have hl := d.length
  have hl2 : (ds.zipIdx.map fun p => D.tup [.int (p.2 : Nat), p.1]).length = ds.length := by simp
  refine ⟨fun hi => w.goes i H (by omega) q, fun hi => by subst hi; rw [hl2, ← hl]; exact w.stops H q, fun e he x H' y => ?_⟩
  have hi : i < xs.length := by rw [hl, ← hl2]; exact (List.getElem?_eq_some_iff.mp he).1
  obtain ⟨T, x1, x2, ex, hT, rfl, e1, e2⟩ := w.yields i H x H' hi q y
  obtain ⟨e', he', dv⟩ := d.getV e2
  cases e1
  have : e = .tup [.int (i : Nat), e'] := by
    rw [List.getElem?_map, List.getElem?_zipIdx, he'] at he
    simpa using (Option.some.inj he).symm
  subst this; subst ex
  have mT := R.same.free hT
  have s2 := same_updM (u := .tup [.int (i : Nat), x2]) mT
  exact ⟨_, s2, R.growM hT, .tup (.inl (.inl upd_same)) (.cons (.int _) (.cons (dv.mono (s1.trans s2)) .nil))⟩

section
variable {X : Cx} {W : WX} {J : List Nat} {pos : Pos} {tg e : Expr} {f : Ev → Option D}
def seqD : D → Option (List D)
  | .lst ds => some ds
  | .tup ds => some ds
  | .str z => some (signs z)
  | _ => none
def iOf (f : Ev → Option D) (ρ : Ev) : Option (List D) := (f ρ).bind seqD
theorem iSeq (h : PE X e (tP X.K f)) : PI X tg e (tI X.K [] (iOf f)) := PI.imp (PI.or (PI.or (pi_list h) (pi_tup h)) (pi_str h)) fun σ H R ⟨M, ρ, fo, fv, ds, R0, l, e, k⟩ => by
  unfold iOf at e
  cases q : f ρ with
  | none => rw [q] at e; cases e
  | some d =>
    rw [q, Option.bind_some] at e
    cases d with
    | lst es =>
      cases e
      exact .inl (.inl ⟨M, ρ, fo, fv, _, R0, l, q, fun M1 H1 v s1 R1 d1 => by
        cases d1 with
        | lst hs hd => exact ⟨_, rfl, ⟨_, seqX R1.same hs⟩, k M1 H1 _ s1 R1 (yld_list hs hd)⟩⟩)
    | tup es =>
      cases e
      exact .inl (.inr ⟨M, ρ, fo, fv, _, R0, l, q, fun M1 H1 v s1 R1 d1 => by
        cases d1 with
        | tup hs hd => exact ⟨_, rfl, ⟨_, sqT_same R1.same hs⟩, k M1 H1 _ s1 R1 (yld_tup hs hd)⟩⟩)
    | str z =>
      cases e
      exact .inr ⟨M, ρ, fo, fv, _, R0, l, q, fun M1 H1 v s1 R1 d1 => by cases d1; exact ⟨z, rfl, k M1 H1 _ s1 R1 yld_str⟩⟩
    | _ => cases e
def rng1 (f : Ev → Option D) (ρ : Ev) : Option (List D) := match f ρ with
  | some (.int n) => if n < 2 ^ 62 ∧ -(2 ^ 62) ≤ n then some (rangeD 0 n.toNat) else none
  | _ => none
def rng2 (f g : Ev → Option D) (ρ : Ev) : Option (List D) := match f ρ, g ρ with
  | some (.int m), some (.int n) => if (n < 2 ^ 62 ∧ -(2 ^ 62) ≤ n) ∧ m < 2 ^ 62 ∧ -(2 ^ 62) ≤ m then some (rangeD m (n - m).toNat) else none
  | _, _ => none
theorem iRange1 {p : Pos} (h : PE X e (tP X.K f)) (hm : X.mg "range" = none) (hg : Gl X "range" := by rfl) (hs : starEach [e] X.env = [(false, eval e X.env)] := by rfl) (hs2 : starEach [e] X.env = (false, eval e X.env) :: starEach [] X.env := by rfl) : PI X tg (.Call (.Name "range" p) [e] [] pos) (tI X.K [] (rng1 f)) :=
  PI.imp (pi_range1 hg hm (pa_cons h pa_nil hs2) hs) fun σ H R ⟨M, ρ, fo, fv, ds, R0, l, e, k⟩ => by
    unfold rng1 at e
    split at e
    · rename_i n q
      split at e
      · rename_i hn
        cases e
        exact ⟨M, ρ, fo, fv, _, R0, l, q, fun M1 H1 v s1 R1 d1 => by cases d1; exact ⟨n, rfl, hn.2, hn.1, k M1 H1 _ s1 R1 yld_range⟩⟩
      · cases e
    · cases e
theorem iRange2 {p : Pos} {e2 : Expr} {f2 : Ev → Option D} (h : PE X e (tP X.K f)) (h2 : PE X e2 (tP X.K f2)) (hm : X.mg "range" = none) (hg : Gl X "range" := by rfl) (hs : starEach [e, e2] X.env = [(false, eval e X.env), (false, eval e2 X.env)] := by rfl) (hs2 : starEach [e2] X.env = [(false, eval e2 X.env)] := by rfl)
    (hs3 : starEach [e, e2] X.env = (false, eval e X.env) :: starEach [e2] X.env := by rfl) (hs4 : starEach [e2] X.env = (false, eval e2 X.env) :: starEach [] X.env := by rfl) : PI X tg (.Call (.Name "range" p) [e, e2] [] pos) (tI X.K [] (rng2 f f2)) :=
  PI.imp (pi_range2 hg hm (pa_cons h (pa_cons h2 pa_nil hs4) hs3) hs hs2) fun σ H R ⟨M, ρ, fo, fv, ds, R0, l, e, k⟩ => by
    unfold rng2 at e
    split at e
    · rename_i m n q q2
      split at e
      · rename_i hn
        cases e
        exact ⟨M, ρ, fo, fv, _, R0, l, q, fun M1 H1 v s1 R1 d1 => by
          cases d1
          exact ⟨M1, ρ, fo, fv, _, R1, l, q2, fun M2 H2 v2 s2 R2 d2 => by cases d2; exact ⟨m, n, rfl, ⟨hn.2.2, hn.2.1, hn.1.2, hn.1.1⟩, k M2 H2 _ (s1.trans s2) R2 yld_range⟩⟩⟩
      · cases e
    · cases e
def enuD (f : Ev → Option D) (ρ : Ev) : Option (List D) := match f ρ with
  | some (.lst ds) => some (ds.zipIdx.map fun p => .tup [.int (p.2 : Nat), p.1])
  | _ => none
theorem iEnum {p tpos : Pos} {elts : List Expr} {kk : Nat} (h : PE X e (tP X.K f)) (hm : X.mg "enumerate" = none) (hg : Gl X "enumerate" := by rfl) (hs : starEach [e] X.env = [(false, eval e X.env)] := by rfl) (hs2 : starEach [e] X.env = (false, eval e X.env) :: starEach [] X.env := by rfl) :
    PI X (.Tuple elts kk tpos) (.Call (.Name "enumerate" p) [e] [] pos) (tI X.K [] (enuD f)) :=
  PI.imp (pi_enum hg hm (pa_cons h pa_nil hs2) hs) fun σ H R ⟨M, ρ, fo, fv, ds, R0, l, e, k⟩ => by
    unfold enuD at e
    split at e
    · rename_i es q
      cases e
      exact ⟨M, ρ, fo, fv, _, R0, l, q, fun M1 H1 v s1 R1 d1 => by
        cases d1 with
        | lst hs hd => exact ⟨_, _, rfl, seqX R1.same hs, k M1 H1 _ s1 R1 (yld_enum hs hd)⟩⟩
    · cases e

/-! ### targets -/
def tG (K : PySem.W.Frag) (is : List Nat) (g : D → Ev → Option Ev) : TG := fun v σ H Q => ∃ M ρ fo fv d ρ', Rep K M H (ρ ++ fo) (σ ++ fv) ∧ σ.length = ρ.length ∧ Dv K M v d ∧ g d ρ = some ρ' ∧
  ∀ σ', (∀ j, j ∉ is → σ'[j]? = σ[j]?) → σ'.length = σ.length → ρ'.length = ρ.length → Rep K M H (ρ' ++ fo) (σ' ++ fv) → Q σ' H
def tGs (K : PySem.W.Frag) (is : List Nat) (g : List D → Ev → Option Ev) : TGs := fun vs σ H Q => ∃ M ρ fo fv ds ρ', Rep K M H (ρ ++ fo) (σ ++ fv) ∧ σ.length = ρ.length ∧ Dvs K M vs ds ∧ g ds ρ = some ρ' ∧
  ∀ σ', (∀ j, j ∉ is → σ'[j]? = σ[j]?) → σ'.length = σ.length → ρ'.length = ρ.length → Rep K M H (ρ' ++ fo) (σ' ++ fv) → Q σ' H
def gN (i : Nat) (d : D) (ρ : Ev) : Option Ev := some (ρ.set i (.dat d))
def gsN (ds : List D) (ρ : Ev) : Option Ev := match ds with
  | [] => some ρ
  | _ => none
def gsC (g : D → Ev → Option Ev) (h : List D → Ev → Option Ev) (ds : List D) (ρ : Ev) : Option Ev := match ds with
  | d :: r => (g d ρ).bind (h r)
  | [] => none
def gT (n : Nat) (h : List D → Ev → Option Ev) (d : D) (ρ : Ev) : Option Ev := match d with
  | .tup ds => if ds.length = n then h ds ρ else none
  | _ => none
theorem PG.imp {t t' : TG} (h : PG X tg t) (i : ∀ v σ H Q, t' v σ H Q → t v σ H Q) : PG X tg t' := ⟨fun p s σ H v u Q I r w => h.run p s σ H v u Q I r (i v σ H Q w)⟩
theorem PGs.imp {ts : List Expr} {t t' : TGs} (h : PGs X ts t) (i : ∀ v σ H Q, t' v σ H Q → t v σ H Q) : PGs X ts t' := ⟨fun p s σ H v u Q I r w => h.run p s σ H v u Q I r (i v σ H Q w)⟩
theorem gName' {i : Nat} {x : Str} (hN : X.N.Nodup) (hi : X.N[i]? = some x := by rfl) (hx : Loc X.env.scope x := by first | exact Or.inl rfl | exact Or.inr rfl) (hf : X.fn x = true ∨ X.env.scope.names.lookup x = some .local := by first | exact .inl rfl | exact .inr rfl) : PG X (.Name x pos) (tG X.K [i] (gN i)) :=
  PG.imp (pg_name hN hi hx hf) fun v σ H Q ⟨M, ρ, fo, fv, d, ρ', R, l, dv, e, k⟩ => by
    cases e
    exact k _ (fun j hj => by rw [List.getElem?_set_ne (by simpa using Ne.symm (by simpa using hj))]) (by simp) (by simp) (R.setD l dv)
theorem gsNil' : PGs X [] (tGs X.K [] gsN) := PGs.imp pgs_nil fun vs σ H Q ⟨M, ρ, fo, fv, ds, ρ', R, l, dv, e, k⟩ => by
  unfold gsN at e
  split at e
  · cases e
    cases dv
    exact ⟨rfl, k σ (fun _ _ => rfl) rfl rfl R⟩
  · cases e
theorem gsCons' {es : List Expr} {is js : List Nat} {g : D → Ev → Option Ev} {h : List D → Ev → Option Ev} (h1 : PG X e (tG X.K is g)) (h2 : PGs X es (tGs X.K js h))
    (hs : (assignEach (e :: es) X.env).map (·.2) = assign e X.env :: (assignEach es X.env).map (·.2) := by rfl) : PGs X (e :: es) (tGs X.K (is ++ js) (gsC g h)) := by
  refine PGs.imp (pgs_cons h1 h2 hs) fun vs σ H Q ⟨M, ρ, fo, fv, ds, ρ', R, l, dv, e, k⟩ => ?_
  unfold gsC at e
  split at e
  · rename_i d r
    cases dv with
    | cons d1 d2 =>
      cases q : g d ρ with
      | none => rw [q] at e; cases e
      | some ρ1 =>
        rw [q, Option.bind_some] at e
        refine ⟨_, _, rfl, M, ρ, fo, fv, d, ρ1, R, l, d1, q, fun σ1 a1 l1 r1 R1 => ?_⟩
        exact ⟨M, ρ1, fo, fv, r, ρ', R1, by omega, d2, e, fun σ2 a2 l2 r2 R2 => k σ2 (fun j hj => by rw [a2 j (fun z => hj (List.mem_append_right _ z)), a1 j (fun z => hj (List.mem_append_left _ z))]) (by omega) (by omega) R2⟩
  · cases e
theorem gTup' {es : List Expr} {k n : Nat} {is : List Nat} {h : List D → Ev → Option Ev} (hc : X.calm = true) (h1 : PGs X es (tGs X.K is h)) (hn : (assignEach es X.env).length = n := by rfl) (hst : (assignEach es X.env).findIdx? (·.1) = none := by rfl) : PG X (.Tuple es k pos) (tG X.K is (gT n h)) :=
  PG.imp (pg_tup hc h1 hn hst) fun v σ H Q ⟨M, ρ, fo, fv, d, ρ', R, l, dv, e, k⟩ => by
    unfold gT at e
    split at e
    · rename_i ds
      split at e
      · rename_i hl
        cases dv with
        | tup hs hd => exact ⟨_, _, rfl, sqT_same R.same hs, by rw [hd.length]; exact hl, M, ρ, fo, fv, ds, ρ', R, l, hd, e, k⟩
      · cases e
    · cases e
/-- what a target changes -/
structure TgOk (is : List Nat) (g : D → Ev → Option Ev) : Prop where
  len : ∀ d ρ ρ', g d ρ = some ρ' → ρ'.length = ρ.length
  out : ∀ d ρ ρ', g d ρ = some ρ' → ∀ j, j ∉ is → ρ'[j]? = ρ[j]?
structure TgsOk (is : List Nat) (g : List D → Ev → Option Ev) : Prop where
  len : ∀ d ρ ρ', g d ρ = some ρ' → ρ'.length = ρ.length
  out : ∀ d ρ ρ', g d ρ = some ρ' → ∀ j, j ∉ is → ρ'[j]? = ρ[j]?
theorem gN_ok (i : Nat) : TgOk [i] (gN i) := ⟨fun d ρ ρ' e => by cases e; simp, fun d ρ ρ' e j hj => by cases e; rw [List.getElem?_set_ne (by simpa using Ne.symm (by simpa using hj))]⟩
theorem gsN_ok : TgsOk [] gsN := ⟨fun d ρ ρ' e => by unfold gsN at e; split at e <;> cases e; rfl, fun d ρ ρ' e j hj => by unfold gsN at e; split at e <;> cases e; rfl⟩
theorem gsC_ok {is js : List Nat} {g : D → Ev → Option Ev} {h : List D → Ev → Option Ev} (h1 : TgOk is g) (h2 : TgsOk js h) : TgsOk (is ++ js) (gsC g h) := by
  have key : ∀ d ρ ρ', gsC g h d ρ = some ρ' → ∃ d' r ρ1, g d' ρ = some ρ1 ∧ h r ρ1 = some ρ' := fun d ρ ρ' e => by
    unfold gsC at e
    split at e
    · rename_i d' r
      cases q : g d' ρ with
      | none => rw [q] at e; cases e
      | some ρ1 => rw [q, Option.bind_some] at e; exact ⟨d', r, ρ1, q, e⟩
    · cases e
  refine ⟨fun d ρ ρ' e => ?_, fun d ρ ρ' e j hj => ?_⟩
  · obtain ⟨d', r, ρ1, e1, e2⟩ := key d ρ ρ' e
    rw [h2.len _ _ _ e2, h1.len _ _ _ e1]
  · obtain ⟨d', r, ρ1, e1, e2⟩ := key d ρ ρ' e
    rw [h2.out _ _ _ e2 j (fun z => hj (List.mem_append_right _ z)), h1.out _ _ _ e1 j (fun z => hj (List.mem_append_left _ z))]
theorem gT_ok {is : List Nat} {n : Nat} {h : List D → Ev → Option Ev} (h1 : TgsOk is h) : TgOk is (gT n h) := by
  have key : ∀ d ρ ρ', gT n h d ρ = some ρ' → ∃ r, h r ρ = some ρ' := fun d ρ ρ' e => by
    unfold gT at e
    split at e
    · split at e
      · exact ⟨_, e⟩
      · cases e
    · cases e
  exact ⟨fun d ρ ρ' e => let ⟨r, e1⟩ := key d ρ ρ' e; h1.len _ _ _ e1, fun d ρ ρ' e j hj => let ⟨r, e1⟩ := key d ρ ρ' e; h1.out _ _ _ e1 j hj⟩
/-- a, b = e -/
def asg (f : Ev → Option D) (g : D → Ev → Option Ev) (ρ : Ev) : Option Fl := (f ρ).bind fun d => (g d ρ).map .nx
theorem sAsg {is : List Nat} {g : D → Ev → Option Ev} (he : PE X e (tP X.K f)) (hg : PG X tg (tG X.K is g)) (hJ : ∀ i ∈ is, i ∉ J := by decide) (hs : swapsWithSole [tg] e pos.line X.env = pure false := by rfl) (hw : swappedStores [tg] e X.env = pure none := by rfl) (h1 : (assignEach [tg] X.env).map (·.2) = [assign tg X.env] := by rfl) : PS X (.Assign [tg] e pos) (tS X.K W J (asg f g)) :=
  PS.imp (ps_asg he hg hs hw h1) fun E σ H ⟨M, ρ, fo, fv, r, σ0, R, l, e, k⟩ => by
    unfold asg at e
    cases q : f ρ with
    | none => rw [q] at e; cases e
    | some d =>
      rw [q, Option.bind_some] at e
      cases q2 : g d ρ with
      | none => rw [q2] at e; cases e
      | some ρ1 =>
        rw [q2] at e
        cases e
        exact ⟨M, ρ, fo, fv, d, R, l.1, q, fun M1 H1 v s1 R1 d1 => ⟨M1, ρ, fo, fv, d, ρ1, R1, l.1, d1, q2, fun σ1 a1 l1 r1 R2 => k M1 H1 σ1 s1 R2 (l.to l1 r1 a1 hJ)⟩⟩

/-! ### for -/
def loop (g : D → Ev → Option Ev) (body : Ev → Option Fl) : List D → Ev → Option Fl
  | [], ρ => some (.nx ρ)
  | d :: ds, ρ => (g d ρ).bind fun ρ1 => (body ρ1).bind fun r => match r with
    | .nx ρ' => loop g body ds ρ'
    | .ct ρ' => loop g body ds ρ'
    | .bk ρ' => some (.nx ρ')
    | r => some r
def forS (f : Ev → Option (List D)) (g : D → Ev → Option Ev) (body : Ev → Option Fl) (ρ : Ev) : Option Fl := (f ρ).bind fun ds => loop g body ds ρ
theorem sFor {iter : Expr} {body : List Stmt} {fi : Ev → Option (List D)} {is : List Nat} {g : D → Ev → Option Ev} {b : Ev → Option Fl} (hp : PassesOwn (model X.prog X.w) X.A X.env X.xe) (hc : X.calm = true) (hi : PI X tg iter (tI X.K [] fi)) (hg : PG X tg (tG X.K is g)) (hb : PSs X body (tS X.K W J b)) (hJ : ∀ i ∈ is, i ∉ J := by decide)
    (hs : ∀ x, foldedSetIterable iter X.env x = pure x := by intro _; rfl) : PS X (.For tg iter body [] pos) (tS X.K W J (forS fi g b)) := PS.imp (ps_for hp hc hi hg hb hs) fun E σ H ⟨M, ρ, fo, fv, r, σ0, R, l, e, k⟩ => by
  unfold forS at e
  cases q : fi ρ with
  | none => rw [q] at e; cases e
  | some ds =>
    rw [q, Option.bind_some] at e
    refine ⟨M, ρ, fo, fv, ds, R, l.1, q, fun M0 H0 JJ s0 R0 y => ?_⟩
    refine ⟨fun i m σ H => m = ds.length - i ∧ i ≤ ds.length ∧ ∃ M1 ρ1, Same M0 M1 ∧ Rep X.K M1 H (ρ1 ++ fo) (σ ++ fv) ∧ Lk J σ0 σ ρ1 ∧ loop g b (ds.drop i) ρ1 = some r, ⟨ds.length, by omega, Nat.zero_le _, M0, ρ, Same.refl _, R0, l, by simpa using e⟩, ?_⟩
    rintro i m σ H ⟨rfl, hi, M1, ρ1, s1, R1, l1, e1⟩
    obtain ⟨go, stop, yl⟩ := y i M1 H _ _ s1 R1 (fun r hr => nomatch hr)
    by_cases hlt : i < ds.length
    · have ed : ds.drop i = ds[i] :: ds.drop (i + 1) := List.drop_eq_getElem_cons hlt
      rw [ed] at e1
      unfold loop at e1
      cases q1 : g ds[i] ρ1 with
      | none => rw [q1] at e1; cases e1
      | some ρ2 =>
        rw [q1, Option.bind_some] at e1
        cases q2 : b ρ2 with
        | none => rw [q2] at e1; cases e1
        | some r2 =>
          rw [q2, Option.bind_some] at e1
          refine .inr ⟨go hlt, fun σ' H' => ∃ M1 ρ1, Same M0 M1 ∧ Rep X.K M1 H' (ρ1 ++ fo) (σ' ++ fv) ∧ Lk J σ0 σ' ρ1 ∧ loop g b (ds.drop (i + 1)) ρ1 = some r, fun σ' H' h => ⟨ds.length - (i + 1), by omega, rfl, hlt, h⟩, fun x H' hy => ?_⟩
          obtain ⟨M2, s2, R2, d2⟩ := yl ds[i] (List.getElem?_eq_getElem hlt) x H' hy
          refine ⟨M2, ρ1, fo, fv, ds[i], ρ2, R2, l1.1, d2, q1, fun σ3 a3 l3 r3 R3 => ?_⟩
          have s02 : Same M M2 := s0.trans (s1.trans s2)
          refine ⟨M2, ρ2, fo, fv, r2, σ0, R3, l1.to l3 r3 a3 hJ, q2, ?_⟩
          cases r2 with
          | nx ρ4 => exact fun M4 H4 σ4 s4 R4 l4 => ⟨M4, ρ4, s1.trans (s2.trans s4), R4, l4, e1⟩
          | ct ρ4 => exact fun M4 H4 σ4 s4 R4 l4 => ⟨M4, ρ4, s1.trans (s2.trans s4), R4, l4, e1⟩
          | bk ρ4 => cases e1; exact fun M4 H4 σ4 s4 R4 l4 => k M4 H4 σ4 (s02.trans s4) R4 l4
          | rt o ρ4 => cases e1; exact fun M4 H4 σ4 v s4 R4 l4 => k M4 H4 σ4 v (s02.trans s4) R4 l4
          | ex x ρ4 => cases e1; exact fun M4 H4 σ4 cls d s4 R4 l4 => k M4 H4 σ4 cls d (s02.trans s4) R4 l4
    · have ei : i = ds.length := by omega
      rw [ei, List.drop_length] at e1
      cases e1
      exact .inl ⟨stop ei, k M1 H σ (s0.trans s1) R1 l1⟩

/-! ### while -/
def wl (c : Ev → Option Bool) (b : Ev → Option Fl) : Nat → Ev → Option Fl
  | 0, _ => none
  | n + 1, ρ => (c ρ).bind fun t => if t = true then (b ρ).bind fun r => (match r with
    | .nx ρ' => wl c b n ρ'
    | .ct ρ' => wl c b n ρ'
    | .bk ρ' => some (.nx ρ')
    | r => some r) else some (.nx ρ)
open Classical in
noncomputable def whileS (c : Ev → Option Bool) (b : Ev → Option Fl) (ρ : Ev) : Option Fl := if h : ∃ n r, wl c b n ρ = some r then some h.choose_spec.choose else none
theorem wl_more {c : Ev → Option Bool} {b : Ev → Option Fl} : ∀ {n : Nat} {ρ : Ev} {r : Fl}, wl c b n ρ = some r → ∀ m, wl c b (n + m) ρ = some r
  | 0, _, _, h, _ => by cases h
  | n + 1, ρ, r, h, m => by
    rw [show n + 1 + m = (n + m) + 1 by omega]
    unfold wl at h ⊢
    cases q : c ρ with
    | none => rw [q] at h; cases h
    | some t =>
      simp only [q, Option.bind_some] at h ⊢
      cases t with
      | false => exact h
      | true =>
        rw [if_pos rfl] at h ⊢
        cases q2 : b ρ with
        | none => rw [q2] at h; cases h
        | some r2 =>
          simp only [q2, Option.bind_some] at h ⊢
          cases r2 with
          | nx ρ' => exact wl_more (n := n) h m
          | ct ρ' => exact wl_more (n := n) h m
          | bk ρ' => exact h
          | rt o ρ' => exact h
          | ex x ρ' => exact h
theorem whileS_of {c : Ev → Option Bool} {b : Ev → Option Fl} {n : Nat} {ρ : Ev} {r : Fl} (h : wl c b n ρ = some r) : whileS c b ρ = some r := by
  unfold whileS
  have hx : ∃ n r, wl c b n ρ = some r := ⟨n, r, h⟩
  rw [dif_pos hx]
  have h2 := hx.choose_spec.choose_spec
  have a := wl_more h hx.choose
  have b := wl_more h2 n
  rw [Nat.add_comm, b] at a
  exact a
theorem whileS_some {c : Ev → Option Bool} {b : Ev → Option Fl} {ρ : Ev} {r : Fl} (h : whileS c b ρ = some r) : ∃ n, wl c b n ρ = some r := by
  unfold whileS at h
  split at h
  · rename_i hx
    have h2 := hx.choose_spec.choose_spec
    refine ⟨hx.choose, ?_⟩
    rw [h2]
    exact h
  · cases h
theorem sWhile {c : Expr} {body : List Stmt} {fc : Ev → Option Bool} {b : Ev → Option Fl} (hp : PassesOwn (model X.prog X.w) X.A X.env X.xe) (hc : PT X c (tT X.K fc)) (hb : PSs X body (tS X.K W J b)) : PS X (.While c body [] pos) (tS X.K W J (whileS fc b)) := PS.imp (ps_while hp hc hb) fun E σ H ⟨M, ρ, fo, fv, r, σ0, R, l, e, k⟩ => by
  obtain ⟨n, e⟩ := whileS_some e
  refine ⟨fun m σ H => ∃ M1 ρ1, Same M M1 ∧ Rep X.K M1 H (ρ1 ++ fo) (σ ++ fv) ∧ Lk J σ0 σ ρ1 ∧ wl fc b m ρ1 = some r, ⟨n, M, ρ, Same.refl _, R, l, e⟩, ?_⟩
  rintro m σ H ⟨M1, ρ1, s1, R1, l1, e1⟩
  cases m with
  | zero => cases e1
  | succ m =>
    unfold wl at e1
    cases q : fc ρ1 with
    | none => rw [q] at e1; cases e1
    | some t =>
      rw [q, Option.bind_some] at e1
      refine ⟨M1, ρ1, fo, fv, t, R1, l1.1, q, fun M2 H2 s2 R2 => ?_⟩
      cases t with
      | false => cases e1; exact iteF (k M2 H2 σ (s1.trans s2) R2 l1)
      | true =>
        rw [if_pos rfl] at e1
        cases q2 : b ρ1 with
        | none => rw [q2] at e1; cases e1
        | some r2 =>
          rw [q2, Option.bind_some] at e1
          refine iteT ⟨fun σ' H' => ∃ M3 ρ3, Same M M3 ∧ Rep X.K M3 H' (ρ3 ++ fo) (σ' ++ fv) ∧ Lk J σ0 σ' ρ3 ∧ wl fc b m ρ3 = some r, fun σ' H' h => ⟨m, Nat.lt_succ_self _, h⟩, M2, ρ1, fo, fv, r2, σ0, R2, l1, q2, ?_⟩
          have s12 := s1.trans s2
          cases r2 with
          | nx ρ4 => exact fun M4 H4 σ4 s4 R4 l4 => ⟨M4, ρ4, s12.trans s4, R4, l4, e1⟩
          | ct ρ4 => exact fun M4 H4 σ4 s4 R4 l4 => ⟨M4, ρ4, s12.trans s4, R4, l4, e1⟩
          | bk ρ4 => cases e1; exact fun M4 H4 σ4 s4 R4 l4 => k M4 H4 σ4 (s12.trans s4) R4 l4
          | rt o ρ4 => cases e1; exact fun M4 H4 σ4 v s4 R4 l4 => k M4 H4 σ4 v (s12.trans s4) R4 l4
          | ex x ρ4 => cases e1; exact fun M4 H4 σ4 cls d s4 R4 l4 => k M4 H4 σ4 cls d (s12.trans s4) R4 l4
end
end PD

namespace PD
open PySem PySem.Spec L2

/-! ### a comprehension's block -/
def wipeO (ρ : Ev) : List Nat → Ev
  | [] => ρ
  | v :: vs => (wipeO ρ vs).set v .unk
theorem wipeO_length (ρ : Ev) : ∀ vs : List Nat, (wipeO ρ vs).length = ρ.length
  | [] => rfl
  | v :: vs => by unfold wipeO; rw [List.length_set, wipeO_length ρ vs]
theorem wipeO_out {ρ : Ev} {i : Nat} : ∀ {vs : List Nat}, i ∉ vs → (wipeO ρ vs)[i]? = ρ[i]?
  | [], _ => rfl
  | v :: vs, h => by
    unfold wipeO
    rw [List.getElem?_set_ne (show v ≠ i from fun z => h (by rw [z]; exact List.mem_cons_self)), wipeO_out fun z => h (List.mem_cons_of_mem _ z)]
theorem wipeO_in {ρ : Ev} {i : Nat} (hi : i < ρ.length) : ∀ {vs : List Nat}, i ∈ vs → (wipeO ρ vs)[i]? = some .unk
  | v :: vs, h => by
    unfold wipeO
    by_cases e : v = i
    · subst e; rw [List.getElem?_set_self (by rw [wipeO_length]; exact hi)]
    · rw [List.getElem?_set_ne e]
      rcases List.mem_cons.mp h with h | h
      · exact absurd h.symm e
      · exact wipeO_in hi h
theorem wipe_in {σ : L2.St} {i : Nat} (hi : i < σ.length) : ∀ {vs : List Nat}, i ∈ vs → (wipe σ vs)[i]? = some none
  | v :: vs, h => by
    unfold wipe
    by_cases e : v = i
    · subst e; rw [List.getElem?_set_self (by rw [wipe_length]; exact hi)]
    · rw [List.getElem?_set_ne e]
      rcases List.mem_cons.mp h with h | h
      · exact absurd h.symm e
      · exact wipe_in hi h
theorem wipeO_ext {ρ ρ' : Ev} {vs : List Nat} (l : ρ'.length = ρ.length) (h : ∀ j, j ∉ vs → ρ'[j]? = ρ[j]?) : wipeO ρ' vs = wipeO ρ vs := by
  apply List.ext_getElem?
  intro j
  by_cases hj : j ∈ vs
  · by_cases hl : j < ρ.length
    · rw [wipeO_in hl hj, wipeO_in (l ▸ hl) hj]
    · rw [List.getElem?_eq_none (by rw [wipeO_length]; omega), List.getElem?_eq_none (by rw [wipeO_length]; omega)]
  · rw [wipeO_out hj, wipeO_out hj, h j hj]
theorem wipe_ext {ρ ρ' : L2.St} {vs : List Nat} (l : ρ'.length = ρ.length) (h : ∀ j, j ∉ vs → ρ'[j]? = ρ[j]?) : wipe ρ' vs = wipe ρ vs := by
  apply List.ext_getElem?
  intro j
  by_cases hj : j ∈ vs
  · by_cases hl : j < ρ.length
    · rw [wipe_in hl hj, wipe_in (l ▸ hl) hj]
    · rw [List.getElem?_eq_none (by rw [wipe_length]; omega), List.getElem?_eq_none (by rw [wipe_length]; omega)]
  · rw [wipe_out hj, wipe_out hj, h j hj]
def okW (ρ : Ev) (vs : List Nat) : Bool := vs.all fun v => match ρ[v]? with
  | some (.dat _) => true
  | some .unk => true
  | none => true
  | _ => false
section
variable {K : PySem.W.Frag} {M M' H H' : Hp}
theorem Rep.wipe {ρ fo : List O} {σ fv : List (Option V)} (R : Rep K M H (ρ ++ fo) (σ ++ fv)) (l : σ.length = ρ.length) : ∀ vs : List Nat, Rep K M H (wipeO ρ vs ++ fo) (L2.wipe σ vs ++ fv)
  | [] => R
  | v :: vs => (Rep.wipe R l vs).setU (by rw [wipe_length, wipeO_length]; exact l) none
theorem Ows.restore : ∀ {ρ ρ' : List O} {σ σ' : List (Option V)} {f : List Addr}, Ows K M H ρ' σ' f → ρ'.length = ρ.length → σ.length = ρ.length →
    (∀ j : Nat, (ρ'[j]? = ρ[j]? ∧ σ'[j]? = σ[j]?) ∨ (∃ d x, ρ[j]? = some (.dat d) ∧ σ[j]? = some (some x) ∧ Dv K M x d) ∨ ρ[j]? = some .unk) → ∃ f', f'.Sublist f ∧ Ows K M H ρ σ f'
  | [], _, [], _, _, .nil, _, _, _ => ⟨[], List.Sublist.refl _, .nil⟩
  | o :: ρ, _, v :: σ, _, _, .cons (o := o') (v := v') (f1 := f1) (f2 := f2) h hs, e, e2, k => by
    obtain ⟨f', sb, w⟩ := Ows.restore hs (ρ := ρ) (σ := σ) (by simpa using e) (by simpa using e2) (fun j => by have := k (j + 1); simpa using this)
    rcases k 0 with ⟨a, b⟩ | ⟨d, x, a, b, dv⟩ | a
    · have a : o' = o := by simpa using a
      have b : v' = v := by simpa using b
      subst a; subst b
      exact ⟨f1 ++ f', List.Sublist.append (List.Sublist.refl _) sb, .cons h w⟩
    · have a : o = .dat d := by simpa using a
      have b : v = some x := by simpa using b
      subst a; subst b
      exact ⟨[] ++ f', sb.trans (List.sublist_append_right _ _), .cons (.dat dv) w⟩
    · have a : o = .unk := by simpa using a
      subst a
      exact ⟨[] ++ f', sb.trans (List.sublist_append_right _ _), .cons .unk w⟩
  | [], _ :: _, _, _, _, _, e, _, _ => by simp at e
  | _ :: _, [], _, _, _, _, e, _, _ => by simp at e
  | [], _, _ :: _, _, _, _, _, e, _ => by simp at e
  | _ :: _, _, [], _, _, _, _, e, _ => by simp at e
theorem Rep.unwipe {ρ fo : List O} {σ fv : List (Option V)} (R : Rep K M H (ρ ++ fo) (σ ++ fv)) (l : σ.length = ρ.length) {vs : List Nat} (ok : okW ρ vs = true) (s : Same M M') {fo' : List O} {fv' : List (Option V)}
    (R' : Rep K M' H' (wipeO ρ vs ++ fo') (L2.wipe σ vs ++ fv')) : Rep K M' H' (ρ ++ fo') (σ ++ fv') := by
  obtain ⟨sm, fp, w, nd, nm⟩ := R'
  obtain ⟨fa, fb, e1, w1, w2⟩ := w.split (by rw [wipe_length, wipeO_length]; exact l)
  obtain ⟨f', sb, w3⟩ := w1.restore (ρ := ρ) (σ := σ) (wipeO_length _ _) l fun j => by
    by_cases hj : j ∈ vs
    · unfold okW at ok
      rw [List.all_eq_true] at ok
      have := ok j hj
      cases q : ρ[j]? with
      | none =>
        left
        have hl := List.getElem?_eq_none_iff.mp q
        exact ⟨List.getElem?_eq_none (by rw [wipeO_length]; exact hl), by rw [List.getElem?_eq_none (by rw [wipe_length]; omega), List.getElem?_eq_none (by omega)]⟩
      | some o =>
        rw [q] at this
        cases o with
        | unk => exact .inr (.inr rfl)
        | dat d =>
          obtain ⟨x, ex, dx⟩ := R.slot l q
          exact .inr (.inl ⟨d, x, rfl, ex, dx.mono s⟩)
        | lst _ => cases this
        | tup _ => cases this
        | dic _ _ => cases this
        | obj _ _ _ => cases this
    · exact .inl ⟨wipeO_out hj, wipe_out hj⟩
  subst e1
  refine ⟨sm, f' ++ fb, w3.append w2, nd.sublist (List.Sublist.append sb (List.Sublist.refl _)), fun a ha => nm a ?_⟩
  rcases List.mem_append.mp ha with ha | ha
  · exact List.mem_append_left _ (sb.subset ha)
  · exact List.mem_append_right _ ha
end

def comp (g : D → Ev → Option Ev) (t : Ev → Option Bool) (f : Ev → Option D) (ρ : Ev) : List D → Option (List D)
  | [] => some []
  | d :: ds => (g d ρ).bind fun ρ1 => (t ρ1).bind fun b => if b = true then (f ρ1).bind fun y => (comp g t f ρ ds).map (y :: ·) else comp g t f ρ ds
def yes (_ : Ev) : Option Bool := some true
def lcO (fi : Ev → Option (List D)) (g : D → Ev → Option Ev) (t : Ev → Option Bool) (f : Ev → Option D) (vs : List Nat) (ρ : Ev) : Option O := if okW ρ vs = true then
  (fi ρ).bind fun ds => (comp g t f (wipeO ρ vs) ds).bind fun ys => if ys.length ≤ sizeLine then some (.lst (ys.map .dat)) else none else none
def lcD (fi : Ev → Option (List D)) (g : D → Ev → Option Ev) (t : Ev → Option Bool) (f : Ev → Option D) (vs : List Nat) (ρ : Ev) : Option D := if okW ρ vs = true then
  (fi ρ).bind fun ds => (comp g t f (wipeO ρ vs) ds).bind fun ys => if ys.length ≤ sizeLine then some (.lst ys) else none else none
theorem toDs_dat : ∀ ys : List D, O.toDs (ys.map .dat) = some ys
  | [] => rfl
  | y :: ys => by
    show (match O.toD (.dat y), O.toDs (ys.map .dat) with | some d, some ds => some (d :: ds) | _, _ => none) = _
    rw [toDs_dat ys]
    rfl
section
variable {X : Cx} {W : WX} {J : List Nat} {pos : Pos} {tg iter elt : Expr} {ifs : List Expr} {scope : Scope} {own : List (Str × Nat)} {fi : Ev → Option (List D)} {is kn : List Nat} {g : D → Ev → Option Ev} {t : Ev → Option Bool} {f : Ev → Option D}
theorem tYes_of {K : PySem.W.Frag} {σ : L2.St} {H : Hp} {Q : Bool → Hp → Prop} (h : tT K yes σ H Q) : tYes σ H Q := by
  obtain ⟨M, ρ, fo, fv, b, R, l, e, k⟩ := h
  cases e
  exact k M H (Same.refl _) R
theorem ptsNil : PTs X [] (tT X.K yes) := ⟨fun p s σ H Q I h => pts_nil.run p s σ H Q I (tYes_of h)⟩
theorem ptsOne {c : Expr} (h : PT X c (tT X.K t)) : PTs X [c] (tT X.K t) := pts_one h
theorem lc_of {K : PySem.W.Frag} {vs kn : List Nat} (ok : TgOk is g) (hv : ∀ i ∈ is, i ∈ vs) (hkn : ∀ ρ ds, fi ρ = some ds → ∀ k ∈ kn, k < ρ.length) (hkv : ∀ k ∈ kn, k ∉ vs) {σ : L2.St} {H : Hp} {Q : VK} (h : tO K (lcO fi g t f vs) σ H Q) : tLc (tI K kn fi) (tG K is g) (tT K t) (tP K f) vs σ H Q := by
  obtain ⟨M, ρ, fo, fv, o, R, l, e, k⟩ := h
  unfold lcO at e
  by_cases hw : okW ρ vs = true
  · rw [if_pos hw] at e
    cases q : fi ρ with
    | none => rw [q] at e; cases e
    | some ds =>
      rw [q, Option.bind_some] at e
      cases q2 : comp g t f (wipeO ρ vs) ds with
      | none => rw [q2] at e; cases e
      | some ys =>
        rw [q2, Option.bind_some] at e
        by_cases hz : ys.length ≤ sizeLine
        · rw [if_pos hz] at e
          cases e
          refine ⟨M, ρ, fo, fv, ds, R, l, q, fun M0 H0 J s0 R0 y DD hD => ?_⟩
          have lw : (L2.wipe σ vs).length = (wipeO ρ vs).length := by rw [wipe_length, wipeO_length]; exact l
          refine ⟨fun i m H => m = ds.length - i ∧ i ≤ ds.length ∧ ∃ M1 acc rest, Same M0 M1 ∧ Rep K M1 H (wipeO ρ vs ++ .lst (acc.map .dat) :: fo) (L2.wipe σ vs ++ some (.ref DD) :: fv) ∧ comp g t f (wipeO ρ vs) (ds.drop i) = some rest ∧ ys = acc ++ rest,
            ⟨ds.length, by omega, Nat.zero_le _, M0, [], ys, Same.refl _, (R0.newL l hD .nil).wipe l vs, by simpa using q2, rfl⟩, ?_⟩
          rintro i m H ⟨rfl, hi, M1, acc, rest, s1, R1, e1, ey⟩
          obtain ⟨go, stop, yl⟩ := y i M1 H _ _ s1 R1 (fun r hr => by
            obtain ⟨k, hk, rfl⟩ := List.mem_map.mp hr
            have h1 := hkn ρ ds q k hk
            have h2 := hkv k hk
            refine List.mem_of_getElem? (i := k) ?_
            have a1 : (wipeO ρ vs)[k]? = some (ρ.getD k .unk) := by rw [wipeO_out h2, List.getElem?_eq_getElem h1, List.getD_eq_getElem?_getD, List.getElem?_eq_getElem h1]; rfl
            have a2 : (L2.wipe σ vs)[k]? = some (σ.getD k none) := by rw [wipe_out h2, List.getElem?_eq_getElem (by omega), List.getD_eq_getElem?_getD, List.getElem?_eq_getElem (by omega)]; rfl
            rw [List.getElem?_zip_eq_some]
            exact ⟨by rw [List.getElem?_append_left (by rw [wipeO_length]; exact h1)]; exact a1, by rw [List.getElem?_append_left (by rw [wipe_length]; omega)]; exact a2⟩)
          by_cases hlt : i < ds.length
          · have ed : ds.drop i = ds[i] :: ds.drop (i + 1) := List.drop_eq_getElem_cons hlt
            rw [ed] at e1
            unfold comp at e1
            cases q3 : g ds[i] (wipeO ρ vs) with
            | none => rw [q3] at e1; cases e1
            | some ρ2 =>
              rw [q3, Option.bind_some] at e1
              cases q4 : t ρ2 with
              | none => rw [q4] at e1; cases e1
              | some b =>
                rw [q4, Option.bind_some] at e1
                refine .inr ⟨go hlt, fun H' => ∃ M1 acc rest, Same M0 M1 ∧ Rep K M1 H' (wipeO ρ vs ++ .lst (acc.map .dat) :: fo) (L2.wipe σ vs ++ some (.ref DD) :: fv) ∧ comp g t f (wipeO ρ vs) (ds.drop (i + 1)) = some rest ∧ ys = acc ++ rest,
                  fun H' h => ⟨ds.length - (i + 1), by omega, rfl, hlt, h⟩, fun x H' hy => ?_⟩
                obtain ⟨M2, s2, R2, d2⟩ := yl ds[i] (List.getElem?_eq_getElem hlt) x H' hy
                refine ⟨M2, wipeO ρ vs, .lst (acc.map .dat) :: fo, some (.ref DD) :: fv, ds[i], ρ2, R2, lw, d2, q3, fun σ3 a3 l3 r3 R3 => ?_⟩
                have ew : L2.wipe σ3 vs = L2.wipe σ vs := by
                  refine wipe_ext (by rw [l3, wipe_length]) fun j hj => ?_
                  rw [a3 j fun z => hj (hv j z), wipe_out hj]
                have er : wipeO ρ2 vs = wipeO ρ vs := by
                  refine wipeO_ext (by rw [r3, wipeO_length]) fun j hj => ?_
                  rw [ok.out _ _ _ q3 j fun z => hj (hv j z), wipeO_out hj]
                have l23 : σ3.length = ρ2.length := by omega
                refine ⟨ew, M2, ρ2, .lst (acc.map .dat) :: fo, some (.ref DD) :: fv, b, R3, l23, q4, fun M4 H4 s4 R4 => ?_⟩
                cases b with
                | false =>
                  refine iteF ⟨M4, acc, rest, s1.trans (s2.trans s4), ?_, e1, ey⟩
                  have := R4.wipe l23 vs
                  rw [ew, er] at this
                  exact this
                | true =>
                  rw [if_pos rfl] at e1
                  cases q5 : f ρ2 with
                  | none => rw [q5] at e1; cases e1
                  | some z =>
                    rw [q5, Option.bind_some] at e1
                    cases q6 : comp g t f (wipeO ρ vs) (ds.drop (i + 1)) with
                    | none => rw [q6] at e1; cases e1
                    | some rest2 =>
                      rw [q6] at e1
                      cases e1
                      refine iteT ⟨M4, ρ2, .lst (acc.map .dat) :: fo, some (.ref DD) :: fv, z, R4, l23, q5, fun M5 H5 v5 s5 R5 d5 => ?_⟩
                      have R5' : Rep K M5 H5 ((ρ2 ++ [.lst (acc.map .dat)]) ++ fo) ((σ3 ++ [some (.ref DD)]) ++ fv) := by simpa using R5
                      obtain ⟨a, xs, ea, ha, hl, up⟩ := R5'.ownL (by simp [l23]) (i := ρ2.length) (os := acc.map .dat) (by simp)
                      have : a = DD := by rw [List.getElem?_append_right (by omega)] at ea; simp [l23] at ea; exact ea.symm
                      subst this
                      refine ⟨xs, ha, by rw [hl, List.length_map]; rw [ey] at hz; simp at hz; omega, M5, acc ++ [z], rest2, s1.trans (s2.trans (s4.trans s5)), ?_, rfl, by rw [ey]; simp⟩
                      have R6 := up v5 z d5
                      rw [List.set_append_right _ _ (by omega)] at R6
                      simp only [Nat.sub_self, List.set_cons_zero, List.append_assoc, List.cons_append, List.nil_append] at R6
                      have R7 := R6.wipe l23 vs
                      rw [ew, er] at R7
                      simpa using R7
          · have ei : i = ds.length := by omega
            rw [ei, List.drop_length] at e1
            cases e1
            rw [List.append_nil] at ey
            subst ey
            exact .inl ⟨stop ei, k M1 H _ (s0.trans s1) (R0.unwipe l hw s1 R1)⟩
        · rw [if_neg hz] at e; cases e
  · rw [if_neg hw] at e; cases e
theorem oLc (own : List (Str × Nat)) (hc : X.calm = true) (hN : X.N.Nodup) (hi : PI X tg iter (tI X.K kn fi)) (bo : BlkOk X.N X.env.scope scope own)
    (hg : ∀ (s : Shared) (H : Hp) (C : Addr) (cl : List (Str × Addr)) (fp : List Addr), PG (X.blk s H scope (compEnvC scope cl C X.env) fp) tg (tG X.K is g)) (ht : ∀ (s : Shared) (H : Hp) (C : Addr) (cl : List (Str × Addr)) (fp : List Addr), PTs (X.blk s H scope (compEnvC scope cl C X.env) fp) ifs (tT X.K t))
    (he : ∀ (s : Shared) (H : Hp) (C : Addr) (cl : List (Str × Addr)) (fp : List Addr), PE (X.blk s H scope (compEnvC scope cl C X.env) fp) elt (tP X.K f)) (ok : TgOk is g) (hv : ∀ i ∈ is, i ∈ own.map (·.2) := by decide) (hkn : ∀ ρ ds, fi ρ = some ds → ∀ k ∈ kn, k < ρ.length := by intro _ _ _ _ hk; cases hk) (hkv : ∀ k ∈ kn, k ∉ own.map (·.2) := by decide) (hs : ∀ x, foldedSetIterable iter X.env x = pure x := by intro _; rfl) :
    PE X (.ListComp elt [⟨tg, iter, ifs, 0⟩] scope pos) (tO X.K (lcO fi g t f (own.map (·.2)))) := PE.imp (pe_lc hc hN hi bo hg ht he hs) fun _ _ _ h => lc_of ok hv hkn hkv h
theorem lcD_eq (ρ : Ev) (vs : List Nat) : frz (lcO fi g t f vs) ρ = lcD fi g t f vs ρ := by
  unfold frz lcO lcD
  by_cases hw : okW ρ vs = true
  · rw [if_pos hw, if_pos hw]
    cases q : fi ρ with
    | none => rfl
    | some ds =>
      rw [Option.bind_some, Option.bind_some]
      cases q2 : comp g t f (wipeO ρ vs) ds with
      | none => rfl
      | some ys =>
        rw [Option.bind_some, Option.bind_some]
        by_cases hz : ys.length ≤ sizeLine
        · rw [if_pos hz, if_pos hz]
          show (O.toDs (ys.map .dat)).map D.lst = _
          rw [toDs_dat]
          rfl
        · rw [if_neg hz, if_neg hz]; rfl
  · rw [if_neg hw, if_neg hw]; rfl
theorem pLc (own : List (Str × Nat)) (hc : X.calm = true) (hN : X.N.Nodup) (hi : PI X tg iter (tI X.K kn fi)) (bo : BlkOk X.N X.env.scope scope own)
    (hg : ∀ (s : Shared) (H : Hp) (C : Addr) (cl : List (Str × Addr)) (fp : List Addr), PG (X.blk s H scope (compEnvC scope cl C X.env) fp) tg (tG X.K is g)) (ht : ∀ (s : Shared) (H : Hp) (C : Addr) (cl : List (Str × Addr)) (fp : List Addr), PTs (X.blk s H scope (compEnvC scope cl C X.env) fp) ifs (tT X.K t))
    (he : ∀ (s : Shared) (H : Hp) (C : Addr) (cl : List (Str × Addr)) (fp : List Addr), PE (X.blk s H scope (compEnvC scope cl C X.env) fp) elt (tP X.K f)) (ok : TgOk is g) (hv : ∀ i ∈ is, i ∈ own.map (·.2) := by decide) (hkn : ∀ ρ ds, fi ρ = some ds → ∀ k ∈ kn, k < ρ.length := by intro _ _ _ _ hk; cases hk) (hkv : ∀ k ∈ kn, k ∉ own.map (·.2) := by decide) (hs : ∀ x, foldedSetIterable iter X.env x = pure x := by intro _; rfl) :
    PE X (.ListComp elt [⟨tg, iter, ifs, 0⟩] scope pos) (tP X.K (lcD fi g t f (own.map (·.2)))) := by
  have h := pO (oLc (pos := pos) own hc hN hi bo hg ht he ok hv hkn hkv hs)
  rw [show frz (lcO fi g t f (own.map (·.2))) = lcD fi g t f (own.map (·.2)) from funext fun ρ => lcD_eq ρ _] at h
  exact h
/-- y = [..] on one line -/
theorem sLc {i : Nat} {y : Str} {py spos : Pos} (own : List (Str × Nat)) (hc : X.calm = true) (hN : X.N.Nodup) (hi : PI X tg iter (tI X.K kn fi)) (bo : BlkOk X.N X.env.scope scope own)
    (hg : ∀ (s : Shared) (H : Hp) (C : Addr) (cl : List (Str × Addr)) (fp : List Addr), PG (X.blk s H scope (compEnvC scope cl C X.env) fp) tg (tG X.K is g)) (ht : ∀ (s : Shared) (H : Hp) (C : Addr) (cl : List (Str × Addr)) (fp : List Addr), PTs (X.blk s H scope (compEnvC scope cl C X.env) fp) ifs (tT X.K t))
    (he : ∀ (s : Shared) (H : Hp) (C : Addr) (cl : List (Str × Addr)) (fp : List Addr), PE (X.blk s H scope (compEnvC scope cl C X.env) fp) elt (tP X.K f)) (ok : TgOk is g) (hJ : i ∉ J := by decide) (hy : X.N[i]? = some y := by rfl) (hyl : X.env.scope.names.lookup y = some .local := by rfl)
    (hsw : swapsWith (.ListComp elt [⟨tg, iter, ifs, 0⟩] scope pos) (some (.Name y py)) spos.line X.env = pure true := by exact sw_true rfl rfl rfl (by decide +kernel)) (hv : ∀ i ∈ is, i ∈ own.map (·.2) := by decide) (hkn : ∀ ρ ds, fi ρ = some ds → ∀ k ∈ kn, k < ρ.length := by intro _ _ _ _ hk; cases hk) (hkv : ∀ k ∈ kn, k ∉ own.map (·.2) := by decide) (hs : ∀ x, foldedSetIterable iter X.env x = pure x := by intro _; rfl) :
    PS X (.Assign [.Name y py] (.ListComp elt [⟨tg, iter, ifs, 0⟩] scope pos) spos) (tS X.K W J (stO i (lcO fi g t f (own.map (·.2))))) :=
  sAsgO (PS.imp (ps_setLc (i := i) hc hN hy hyl hsw hi bo hg ht he hs) fun E σ H h => lc_of ok hv hkn hkv h) hJ
end

/-! ### defs -/
inductive Rz where
  | ok (o : O) | ex (x : Exn)
/-- the promise of a def that changes nothing -/
def spX (K : PySem.W.Frag) (n : Nat) (m : List D → Option Rz) : Sp := fun vs H Q E => ∃ M fo fv ds r, vs.length = n ∧ Rep K M H fo fv ∧ Dvs K M vs ds ∧ m ds = some r ∧ match r with
  | .ok o => ∀ M' H' v, Same M M' → Rep K M' H' (o :: fo) (some v :: fv) → Q v H'
  | .ex x => ∀ M' H' cls d, Same M M' → Rep K M' H' fo fv → ExR K M' x cls d → E cls d H'
/-- .. that raises nothing and gives a frozen thing -/
def spP (K : PySem.W.Frag) (n : Nat) (m : List D → Option D) : Sp := fun vs H Q _ => vs.length = n ∧ rDs K m vs H Q
/-- .. that raises nothing and gives a new thing -/
def spO (K : PySem.W.Frag) (n : Nat) (m : List D → Option O) : Sp := fun vs H Q _ => vs.length = n ∧ rOs K m vs H Q
def env0 (n : Nat) (ds : List D) : Ev := ds.map .dat ++ List.replicate (n - ds.length) .unk
def outO (r : Fl) : Option O := match r with
  | .nx _ => some (.dat .non)
  | .rt o _ => some o
  | _ => none
def outX (r : Fl) : Option Rz := match r with
  | .nx _ => some (.ok (.dat .non))
  | .rt o _ => some (.ok o)
  | .ex x _ => some (.ex x)
  | _ => none
def runO (n : Nat) (b : Ev → Option Fl) (ds : List D) : Option O := (b (env0 n ds)).bind outO
def runP (n : Nat) (b : Ev → Option Fl) (ds : List D) : Option D := (runO n b ds).bind O.toD
def runX (n : Nat) (b : Ev → Option Fl) (ds : List D) : Option Rz := (b (env0 n ds)).bind outX
section
variable {K : PySem.W.Frag} {M H : Hp}
theorem Rep.dropL {l r : List O} {lv rv : List (Option V)} (R : Rep K M H (l ++ r) (lv ++ rv)) (e : lv.length = l.length) : Rep K M H r rv := by
  obtain ⟨s, fp, w, nd, nm⟩ := R
  obtain ⟨fa, fb, e1, w1, w2⟩ := w.split e
  subst e1
  exact ⟨s, fb, w2, nd.sublist (List.sublist_append_right _ _), fun a ha => nm a (List.mem_append_right _ ha)⟩
theorem ows_unk : ∀ n : Nat, Ows K M H (List.replicate n O.unk) (List.replicate n none) []
  | 0 => .nil
  | n + 1 => by
    have := Ows.cons (Ow.unk (K := K) (M := M) (H := H) (v := none)) (ows_unk n)
    exact this
theorem Rep.enter {fo : List O} {fv : List (Option V)} {vs : List V} {ds : List D} {N : List Str} (R : Rep K M H fo fv) (d : Dvs K M vs ds) : Rep K M H (env0 N.length ds ++ fo) (L2.start N vs ++ fv) ∧ (L2.start N vs).length = (env0 N.length ds).length := by
  have hl := d.length
  refine ⟨?_, by simp [L2.start, env0, hl]⟩
  obtain ⟨s, fp, w, nd, nm⟩ := R
  refine ⟨s, ([] ++ []) ++ fp, ?_, by simpa using nd, fun a ha => nm a (by simpa using ha)⟩
  unfold env0 L2.start
  rw [hl]
  exact ((ows_dat d).append (ows_unk _)).append w
end
section
variable {P : Program} {w : World} {K : PySem.W.Frag} {mg : Str → Option Value} {base : Heap}
abbrev W0 : WX := fun _ _ _ _ => False
theorem fnO {x qual : Str} {st : Stmt} {f : Addr} {fd : FuncData} {N ps : List Str} {k : Nat} {b : Ev → Option Fl} (F : Fun K x qual st f fd) (S : FnScope N ps (defScope st))
    (hb : ∀ (cdv : Value) (A : Around) (outer : List Env) (s : Shared) (H : Hp) (E : XK), Room k (A.deeper (PyProof.Rows.envOfC qual (defScope st) s.heap.objs.size f cdv)) →
      PSs (cxOf CX0 P w K mg base N qual (defScope st) f cdv A outer s H E).nox (defBody st) (tS K W0 [] b)) : FnOk P w K mg base CX0 (k + 1) f fd ps (spO K ps.length (runO N.length b)) := by
  refine F.ok S (fun vs H Q E h => h.1) fun cdv A outer s H vs Q E hr h => ⟨_, hb cdv A outer s H E hr, ?_⟩
  obtain ⟨hl, M, fo, fv, ds, o, R, dv, e, k⟩ := h
  obtain ⟨R1, l1⟩ := R.enter (N := N) dv
  unfold runO at e
  cases q : b (env0 N.length ds) with
  | none => rw [q] at e; cases e
  | some r =>
    rw [q, Option.bind_some] at e
    refine ⟨M, _, fo, fv, r, L2.start N vs, R1, ⟨l1, fun _ z => nomatch z⟩, q, ?_⟩
    cases r with
    | nx ρ =>
      cases e
      exact fun M1 H1 σ1 s1 R1 l1 => k M1 H1 _ s1 ((R1.push l1.1 .non).dropL l1.1)
    | rt o' ρ =>
      cases e
      exact fun M1 H1 σ1 v s1 R1 l1 => k M1 H1 v s1 (R1.dropL l1.1)
    | bk ρ => cases e
    | ct ρ => cases e
    | ex x ρ => cases e
theorem spO_P {n : Nat} {b : Ev → Option Fl} {ps : List Str} {vs : List V} {H : Hp} {Q : VK} {E : XK} (h : spP K ps.length (runP n b) vs H Q E) : spO K ps.length (runO n b) vs H Q E := by
  obtain ⟨hl, M, fo, fv, ds, d, R, dv, e, k⟩ := h
  unfold runP at e
  cases q : runO n b ds with
  | none => rw [q] at e; cases e
  | some o =>
    rw [q, Option.bind_some] at e
    refine ⟨hl, M, fo, fv, ds, o, R, dv, q, fun M1 H1 v s1 R1 => ?_⟩
    obtain ⟨M2, s2, R2, d2⟩ := Rep.frz (l := []) (lv := []) R1 rfl rfl e
    exact k M2 H1 v (s1.trans s2) (Rep.drop (l := []) (lv := []) R2 rfl) d2
theorem fnP {x qual : Str} {st : Stmt} {f : Addr} {fd : FuncData} {N ps : List Str} {k : Nat} {b : Ev → Option Fl} (F : Fun K x qual st f fd) (S : FnScope N ps (defScope st))
    (hb : ∀ (cdv : Value) (A : Around) (outer : List Env) (s : Shared) (H : Hp) (E : XK), Room k (A.deeper (PyProof.Rows.envOfC qual (defScope st) s.heap.objs.size f cdv)) →
      PSs (cxOf CX0 P w K mg base N qual (defScope st) f cdv A outer s H E).nox (defBody st) (tS K W0 [] b)) : FnOk P w K mg base CX0 (k + 1) f fd ps (spP K ps.length (runP N.length b)) :=
  (fnO F S hb).imp fun vs H Q E h => spO_P h
end
end PD

namespace PD
open PySem PySem.Spec L2

/-! ### calls of defs -/
section
variable {X : Cx} {W : WX} {J : List Nat} {pos p : Pos} {a b : Expr} {e : Expr} {es : List Expr} {ga : Ev → Option (List D)} {k : Nat} {f : Addr} {fd : FuncData} {ps : List Str} {x : Str} {n : Nat}
theorem tCall_P {K : PySem.W.Frag} {m : List D → Option D} {ga : Ev → Option (List D)} {σ : L2.St} {H : Hp} {Q : VK} (h : tP K (cB ga fun ds => if ds.length = n then m ds else none) σ H Q) : tCall (spP K n m) [] E0 (tAr K ga) σ H Q := by
  obtain ⟨M, ρ, fo, fv, d, R, l, e, kk⟩ := h
  obtain ⟨ds, eg, ef⟩ := cB_some e
  refine ⟨M, ρ, fo, fv, ds, R, l, eg, fun M1 H1 vs s1 R1 d1 => ?_⟩
  split at ef
  · rename_i hl
    exact ⟨by rw [List.append_nil, d1.length]; exact hl, M1, ρ ++ fo, σ ++ fv, ds, d, R1, by rw [List.append_nil]; exact d1, ef, fun M2 H2 v s2 R2 d2 => kk M2 H2 v (s1.trans s2) R2 d2⟩
  · cases ef
def len? (n : Nat) (m : List D → Option D) (ds : List D) : Option D := if ds.length = n then m ds else none
/-- f(e, ..) -/
theorem pCall {m : List D → Option D} (F : FnOk X.prog X.w X.K X.mg X.base CX0 k f fd ps (spP X.K n m)) (hr : Room k X.A) (hm : X.mg x = some (.ref f)) (hk : PySem.W.keepIn X.K (.ref f) = true) (hb : Binds X.K fd ps []) (ha : PA X (e :: es) (tAr X.K ga)) (hg : Gl X x := by rfl)
    (hdb : (x == ("__debug__" : Str)) = false := by decide) (he : starEach (e :: es) X.env = (false, eval e X.env) :: starEach es X.env := by rfl) (hpl : (backTo pos (starEach es X.env)).any (·.1) = false := by rfl) : PE X (.Call (.Name x p) (e :: es) [] pos) (tP X.K (cB ga (len? n m))) :=
  PE.imp (pe_call F hr hg hm hk hb .nil pass0 ha hdb he hpl) fun _ _ _ h => tCall_P h
/-- f(k=v, ..) -/
def tCallN0 (m : Nat) (sp : Sp) (gV : List V → List V) (E : XK) (tk : TA) : TE := fun σ H Q => tk σ H fun zs H2 => zs.length = m ∧ sp (gV zs) H2 Q E
theorem pe_callN0 {CX : CXT} {E : XK} {sp : Sp} {ks : List Str} {kws : List Keyword} {tk : TA} {g : List Value → List Value → List Value} {gV : List V → List V → List V} (F : FnOk X.prog X.w X.K X.mg X.base CX k f fd ps sp) (hr : Room k X.A) (hg : Gl X x) (hm : X.mg x = some (.ref f)) (hk : PySem.W.keepIn X.K (.ref f) = true) (hb : KBn X.K fd ps 0 ks g gV) (hx : Passes CX X E)
    (hkw : PK X kws tk) (hall : (backToKw pos (keywordEach kws X.env)).all (·.1.isSome) = true := by rfl) (hks : (backToKw pos (keywordEach kws X.env)).filterMap (·.1) = ks := by rfl)
    (hdb : (x == ("__debug__" : Str)) = false := by decide)
    (hpl : ((backTo pos (starEach [] X.env)).any (·.1) || (backToKw pos (keywordEach kws X.env)).any (·.1.isNone)) = false := by rfl) :
    PE X (.Call (.Name x p) [] kws pos) (tCallN0 ks.length sp (gV []) E tk) := by
  refine ⟨fun pins s σ H Q I h => ?_⟩
  refine wpAny_Call_Name_kw (ld_glob I hg hm ?_ hdb)
  refine PySem.W.callWith_KW0 (h₀ := X.base) I.ok.mod.kin hk hall ?_ hpl
  refine thn (hkw.run pos pins s σ H _ I h) fun ws s2 ⟨zs, H2, I2, rz, l2, q2⟩ => ⟨I2.kIn, ?_⟩
  rw [hks]
  exact run_fnN F hr hb hx I2 .nil rz rfl l2 q2
theorem pCallK {m : List D → Option D} {ks : List Str} {kws : List Keyword} {g : List Value → List Value → List Value} (F : FnOk X.prog X.w X.K X.mg X.base CX0 k f fd ps (spP X.K n m)) (hr : Room k X.A) (hm : X.mg x = some (.ref f)) (hk : PySem.W.keepIn X.K (.ref f) = true) (hb : KBn X.K fd ps 0 ks g (fun vs zs => vs ++ zs)) (hn : ks.length = n)
    (hkw : PK X kws (tAr X.K ga)) (hg : Gl X x := by rfl) (hall : (backToKw pos (keywordEach kws X.env)).all (·.1.isSome) = true := by rfl) (hks : (backToKw pos (keywordEach kws X.env)).filterMap (·.1) = ks := by rfl)
    (hdb : (x == ("__debug__" : Str)) = false := by decide)
    (hpl : ((backTo pos (starEach [] X.env)).any (·.1) || (backToKw pos (keywordEach kws X.env)).any (·.1.isNone)) = false := by rfl) :
    PE X (.Call (.Name x p) [] kws pos) (tP X.K (cB ga (len? n m))) := PE.imp (pe_callN0 F hr hg hm hk hb pass0 hkw hall hks hdb hpl) fun σ H Q h => by
  obtain ⟨M, ρ, fo, fv, d, R, l, e, kk⟩ := h
  obtain ⟨ds, eg, ef⟩ := cB_some e
  refine ⟨M, ρ, fo, fv, ds, R, l, eg, fun M1 H1 vs s1 R1 d1 => ?_⟩
  unfold len? at ef
  split at ef
  · rename_i hl
    have hv : vs.length = n := by rw [d1.length]; exact hl
    exact ⟨by omega, hv, M1, ρ ++ fo, σ ++ fv, ds, d, R1, d1, ef, fun M2 H2 v s2 R2 d2 => kk M2 H2 v (s1.trans s2) R2 d2⟩
  · cases ef
end

section
variable {X : Cx}
theorem OpR.imp {f : Value → Value → Sem Value} {r r' : R2} (h : OpR X f r) (i : ∀ x y H Q, r' x y H Q → r x y H Q) : OpR X f r' := fun p s σ H x y v u Q I rx ry w => h p s σ H x y v u Q I rx ry (i x y H Q w)
theorem UnR.imp {f : Value → Sem Value} {r r' : V → Hp → VK → Prop} (h : UnR X f r) (i : ∀ x H Q, r' x H Q → r x H Q) : UnR X f r' := fun p s σ H x v Q I rx w => h p s σ H x v Q I rx (i x H Q w)
theorem CallR.imp {f : Value} {r r' : List V → Hp → VK → Prop} (h : CallR X f r) (i : ∀ x H Q, r' x H Q → r x H Q) : CallR X f r' := fun p s σ H x v Q I rx w => h p s σ H x v Q I rx (i x H Q w)
theorem CallR.or {f : Value} {r r' : List V → Hp → VK → Prop} (h : CallR X f r) (h' : CallR X f r') : CallR X f (fun x H Q => r x H Q ∨ r' x H Q) := fun p s σ H x v Q I rx w => w.elim (h p s σ H x v Q I rx) (h' p s σ H x v Q I rx)
theorem IxR.imp {r r' : R2} (h : IxR X r) (i : ∀ x y H Q, r' x y H Q → r x y H Q) : IxR X r' := fun v sl p s σ H x y a b Q I rx ry w hs => h v sl p s σ H x y a b Q I rx ry (i x y H Q w) hs
theorem MtR.imp {id : String} {r r' : V → List V → Hp → VK → Prop} (h : MtR X id r) (i : ∀ x xs H Q, r' x xs H Q → r x xs H Q) : MtR X id r' := fun p s σ H x xs v us Q I rx rs w => h p s σ H x xs v us Q I rx rs (i x xs H Q w)
theorem SlR.imp {r r' : V → Option Int → Option Int → Hp → VK → Prop} (h : SlR X r) (i : ∀ x lo hi H Q, r' x lo hi H Q → r x lo hi H Q) : SlR X r' := fun p s σ H x v vl vu lo hi sl Q I rx hs pl pu w => h p s σ H x v vl vu lo hi sl Q I rx hs pl pu (i x lo hi H Q w)

/-! ### operators -/
/-- two ints -/
def i2 (C : Int → Int → Bool) (g : Int → Int → D) (x y : D) : Option D := match x, y with
  | .int i, .int j => if C i j = true then some (g i j) else none
  | _, _ => none
theorem i2_some {C : Int → Int → Bool} {g : Int → Int → D} {x y d : D} (h : i2 C g x y = some d) : ∃ i j, x = .int i ∧ y = .int j ∧ C i j = true ∧ d = g i j := by
  unfold i2 at h
  split at h
  · rename_i i j
    split at h
    · cases h; exact ⟨i, j, rfl, rfl, by assumption, rfl⟩
    · cases h
  · cases h
theorem op_i2 {f : Value → Value → Sem Value} {C : Int → Int → Prop} {Cb : Int → Int → Bool} {g : Int → Int → V} {gd : Int → Int → D} (h : OpR X f (rI C g)) (hC : ∀ i j, Cb i j = true → C i j) (hd : ∀ i j M, Dv X.K M (g i j) (gd i j)) : OpR X f (rD X.K (i2 Cb gd)) :=
  OpR.imp h fun x y H Q ⟨M, fo, fv, dx, dy, d, R, d1, d2, e, k⟩ => by
    obtain ⟨i, j, rfl, rfl, hc, rfl⟩ := i2_some e
    cases d1; cases d2
    exact ⟨i, j, rfl, rfl, hC i j hc, k M H _ (Same.refl _) R (hd i j M)⟩
theorem op_i20 {f : Value → Value → Sem Value} {g : Int → Int → V} {gd : Int → Int → D} (h : OpR X f (rI0 g)) (hd : ∀ i j M, Dv X.K M (g i j) (gd i j)) : OpR X f (rD X.K (i2 (fun _ _ => true) gd)) :=
  OpR.imp h fun x y H Q ⟨M, fo, fv, dx, dy, d, R, d1, d2, e, k⟩ => by
    obtain ⟨i, j, rfl, rfl, hc, rfl⟩ := i2_some e
    cases d1; cases d2
    exact ⟨i, j, rfl, rfl, k M H _ (Same.refl _) R (hd i j M)⟩
def s2 (C : Str → Str → Bool) (g : Str → Str → D) (x y : D) : Option D := match x, y with
  | .str i, .str j => if C i j = true then some (g i j) else none
  | _, _ => none
theorem s2_some {C : Str → Str → Bool} {g : Str → Str → D} {x y d : D} (h : s2 C g x y = some d) : ∃ i j, x = .str i ∧ y = .str j ∧ C i j = true ∧ d = g i j := by
  unfold s2 at h
  split at h
  · rename_i i j
    split at h
    · cases h; exact ⟨i, j, rfl, rfl, by assumption, rfl⟩
    · cases h
  · cases h
def orD (f g : D → D → Option D) (x y : D) : Option D := match f x y with
  | some d => some d
  | none => g x y
theorem op_orD {f : Value → Value → Sem Value} {g g' : D → D → Option D} (h : OpR X f (rD X.K g)) (h' : OpR X f (rD X.K g')) : OpR X f (rD X.K (orD g g')) := OpR.imp (h.or h') fun x y H Q ⟨M, fo, fv, dx, dy, d, R, d1, d2, e, k⟩ => by
  unfold orD at e
  split at e
  · rename_i q; cases e; exact .inl ⟨M, fo, fv, dx, dy, d, R, d1, d2, q, k⟩
  · exact .inr ⟨M, fo, fv, dx, dy, d, R, d1, d2, e, k⟩
abbrev addI : D → D → Option D := i2 (fun _ _ => true) fun i j => .int (i + j)
abbrev addS : D → D → Option D := s2 (fun i j => decide (i.length + j.length ≤ sizeLine)) fun i j => .str (i ++ j)
abbrev subI : D → D → Option D := i2 (fun _ _ => true) fun i j => .int (i - j)
def okMul (i j : Int) : Bool := decide ((-(2 ^ 64) < i ∧ i < 2 ^ 64) ∨ (-(2 ^ 64) < j ∧ j < 2 ^ 64))
abbrev mulI : D → D → Option D := i2 okMul fun i j => .int (i * j)
abbrev modI : D → D → Option D := i2 (fun _ j => decide (0 < j)) fun i j => .int (i % j)
abbrev divI : D → D → Option D := i2 (fun _ j => decide (0 < j ∧ j < 1073741824)) fun i j => .int (i / j)
abbrev powI : D → D → Option D := i2 (fun i j => decide (0 ≤ j ∧ j ≤ 1000000 ∧ i.natAbs < 2 ^ 64)) fun i j => .int (i ^ j.toNat)
theorem oAddI : OpR X (binaryOp .Add) (rD X.K addI) := op_i20 op_add fun _ _ _ => .int _
theorem oSub : OpR X (binaryOp .Sub) (rD X.K subI) := op_i20 op_sub fun _ _ _ => .int _
theorem oMul : OpR X (binaryOp .Mult) (rD X.K mulI) := op_i2 op_mul (fun i j h => by simpa [okMul, CMul] using h) fun _ _ _ => .int _
theorem oMod : OpR X (binaryOp .Mod) (rD X.K modI) := op_i2 op_mod (fun i j h => of_decide_eq_true h) fun _ _ _ => .int _
theorem oDiv : OpR X (binaryOp .FloorDiv) (rD X.K divI) := op_i2 op_fdiv (fun i j h => by simpa [CDiv] using h) fun _ _ _ => .int _
theorem oPow : OpR X (binaryOp .Pow) (rD X.K powI) := op_i2 op_pow (fun i j h => by simpa [CPow] using h) fun _ _ _ => .int _
theorem oAddS : OpR X (binaryOp .Add) (rD X.K addS) := OpR.imp op_add_str fun x y H Q ⟨M, fo, fv, dx, dy, d, R, d1, d2, e, k⟩ => by
  obtain ⟨i, j, rfl, rfl, hc, rfl⟩ := s2_some e
  cases d1; cases d2
  exact ⟨i, j, rfl, rfl, of_decide_eq_true hc, k M H _ (Same.refl _) R (.str _)⟩
abbrev addD : D → D → Option D := orD addI addS
theorem oAdd : OpR X (binaryOp .Add) (rD X.K addD) := op_orD oAddI oAddS
abbrev ltI : D → D → Option D := i2 (fun _ _ => true) fun i j => .bl (decide (i < j))
abbrev leI : D → D → Option D := i2 (fun _ _ => true) fun i j => .bl (decide (i ≤ j))
abbrev gtI : D → D → Option D := i2 (fun _ _ => true) fun i j => .bl (decide (j < i))
abbrev geI : D → D → Option D := i2 (fun _ _ => true) fun i j => .bl (decide (j ≤ i))
theorem oLt : OpR X (compareOp .Lt) (rD X.K ltI) := op_i20 op_lt fun _ _ _ => .bl _
theorem oLe : OpR X (compareOp .LtE) (rD X.K leI) := op_i20 op_le fun _ _ _ => .bl _
theorem oGt : OpR X (compareOp .Gt) (rD X.K gtI) := op_i20 op_gt fun _ _ _ => .bl _
theorem oGe : OpR X (compareOp .GtE) (rD X.K geI) := op_i20 op_ge fun _ _ _ => .bl _
/-- a < b < c -/
def chn (fa fb fc : Ev → Option D) (g h : D → D → Option D) (ρ : Ev) : Option D := (fa ρ).bind fun x => (fb ρ).bind fun y => (g x y).bind fun r => match r with
  | .bl true => (fc ρ).bind fun z => h y z
  | .bl false => some (.bl false)
  | _ => none
theorem chain_of {K : PySem.W.Frag} {fa fb fc : Ev → Option D} {g h : D → D → Option D} {σ : L2.St} {H : Hp} {Q : VK} (hh : tP K (chn fa fb fc g h) σ H Q) : tChain (rD K g) (rD K h) (tP K fa) (tP K fb) (tP K fc) σ H Q := by
  obtain ⟨M, ρ, fo, fv, d, R, l, e, k⟩ := hh
  unfold chn at e
  cases q1 : fa ρ with
  | none => rw [q1] at e; cases e
  | some x =>
    cases q2 : fb ρ with
    | none => rw [q1, Option.bind_some, q2] at e; cases e
    | some y =>
      rw [q1, Option.bind_some, q2, Option.bind_some] at e
      cases q3 : g x y with
      | none => rw [q3] at e; cases e
      | some r =>
        rw [q3, Option.bind_some] at e
        refine ⟨M, ρ, fo, fv, x, R, l, q1, fun M1 H1 v1 s1 R1 d1 => ⟨M1, ρ, fo, fv, y, R1, l, q2, fun M2 H2 v2 s2 R2 d2 => ⟨M2, ρ ++ fo, σ ++ fv, x, y, r, R2, d1.mono s2, d2, q3, fun M3 H3 v3 s3 R3 d3 => ?_⟩⟩⟩
        split at e
        · cases d3
          refine ⟨true, rfl, iteT ?_⟩
          cases q4 : fc ρ with
          | none => rw [q4] at e; cases e
          | some z =>
            rw [q4, Option.bind_some] at e
            exact ⟨M3, ρ, fo, fv, z, R3, l, q4, fun M4 H4 v4 s4 R4 d4 => ⟨M4, ρ ++ fo, σ ++ fv, y, z, d, R4, d2.mono (s3.trans s4), d4, e, fun M5 H5 v5 s5 R5 d5 => k M5 H5 v5 (s1.trans (s2.trans (s3.trans (s4.trans s5)))) R5 d5⟩⟩
        · cases d3
          cases e
          exact ⟨false, rfl, iteF (k M3 H3 _ (s1.trans (s2.trans s3)) R3 (.bl _))⟩
        · cases e
theorem pChain {op op' : CmpOp} {a b c : Expr} {pos : Pos} {fa fb fc : Ev → Option D} {g h : D → D → Option D} (ho : OpR X (compareOp op) (rD X.K g)) (ho' : OpR X (compareOp op') (rD X.K h)) (ha : PE X a (tP X.K fa)) (hb : PE X b (tP X.K fb)) (hc : PE X c (tP X.K fc)) (hm : lastMarks [op, op'] [b, c] = false := by with_unfolding_all rfl) :
    PE X (.Compare a [op, op'] [b, c] pos) (tP X.K (chn fa fb fc g h)) := PE.imp (pe_chain ho ho' ha hb hc hm) fun _ _ _ h => chain_of h
theorem tChain' {op op' : CmpOp} {a b c : Expr} {pos : Pos} {fa fb fc : Ev → Option D} {g h : D → D → Option D} (ho : OpR X (compareOp op) (rD X.K g)) (ho' : OpR X (compareOp op') (rD X.K h)) (ha : PE X a (tP X.K fa)) (hb : PE X b (tP X.K fb)) (hc : PE X c (tP X.K fc)) (hm : lastMarks [op, op'] [b, c] = false := by with_unfolding_all rfl) :
    PT X (.Compare a [op, op'] [b, c] pos) (tT X.K (asB (chn fa fb fc g h))) := PT.imp (pt_chain ho ho' ha hb hc hm) fun σ H Q ⟨M, ρ, fo, fv, b, R, l, e, k⟩ =>
  chain_of (K := X.K) (Q := fun x H' => ∃ k, x = .bl k ∧ Q k H') ⟨M, ρ, fo, fv, .bl b, R, l, asB_some e, fun M' H' v s R' dv => by cases dv; exact ⟨b, rfl, k M' H' s R'⟩⟩
end
end PD

namespace PD
open PySem PySem.Spec L2

abbrev kI (i : Int) : Ev → Option D := fun _ => some (.int i)
abbrev kS (x : Str) : Ev → Option D := fun _ => some (.str x)
abbrev kB (b : Bool) : Ev → Option D := fun _ => some (.bl b)
abbrev kN : Ev → Option D := fun _ => some .non
/-! ### data as PyData -/
mutual
def D.py : D → Option PyData
  | .non => some .none
  | .bl b => some (.bool b)
  | .int i => some (.int i)
  | .str x => some (.str x)
  | .lst xs => (D.pys xs).map .list
  | .tup xs => (D.pys xs).map .tuple
  | .dic _ _ => none
  | .obj _ _ _ => none
  | .exn _ _ _ _ _ => none
def D.pys : List D → Option (List PyData)
  | [] => some []
  | d :: ds => match D.py d, D.pys ds with
    | some p, some ps => some (p :: ps)
    | _, _ => none
end
section
variable {K : PySem.W.Frag} {M : Hp}
mutual
theorem Dv.dp : ∀ {v : V} {d : D} {p : PyData}, Dv K M v d → d.py = some p → Dp K M v p
  | _, _, _, .non, e => by cases e; exact .non
  | _, _, _, .bl b, e => by cases e; exact .bl b
  | _, _, _, .int b, e => by cases e; exact .int b
  | _, _, _, .str b, e => by cases e; exact .str b
  | _, .lst ds, p, .lst h hs, e => by
    unfold D.py at e
    cases q : D.pys ds with
    | none => rw [q] at e; cases e
    | some ps => rw [q] at e; cases e; exact .lst h.toL (Dvs.dp hs q)
  | _, .tup ds, p, .tup h hs, e => by
    unfold D.py at e
    cases q : D.pys ds with
    | none => rw [q] at e; cases e
    | some ps => rw [q] at e; cases e; exact .tup h (Dvs.dp hs q)
  | _, .dic _ _, _, .dic _ _ _, e => by unfold D.py at e; cases e
  | _, .obj _ _ _, _, .obj _ _ _ _, e => by unfold D.py at e; cases e
  | _, _, _, .exn0, e => by unfold D.py at e; cases e
  | _, _, _, .exn1 _ _ _, e => by unfold D.py at e; cases e
theorem Dvs.dp : ∀ {vs : List V} {ds : List D} {ps : List PyData}, Dvs K M vs ds → D.pys ds = some ps → DpAll K M vs ps
  | _, _, _, .nil, e => by cases e; exact .nil
  | _, d :: ds, ps, .cons h hs, e => by
    unfold D.pys at e
    cases q : D.py d with
    | none => rw [q] at e; cases e
    | some p =>
      cases q2 : D.pys ds with
      | none => rw [q, q2] at e; cases e
      | some ps' => rw [q, q2] at e; cases e; exact .cons (Dv.dp h q) (Dvs.dp hs q2)
end
mutual
theorem dp_mono {M' : Hp} (s : Same M M') : ∀ {v : V} {p : PyData}, Dp K M v p → Dp K M' v p
  | _, _, .non => .non
  | _, _, .bl b => .bl b
  | _, _, .int i => .int i
  | _, _, .str x => .str x
  | _, _, .lst h hs => .lst (s.seq h) (dps_mono s hs)
  | _, _, .tup h hs => .tup (sqT_same s h) (dps_mono s hs)
theorem dps_mono {M' : Hp} (s : Same M M') : ∀ {vs : List V} {ps : List PyData}, DpAll K M vs ps → DpAll K M' vs ps
  | _, _, .nil => .nil
  | _, _, .cons h hs => .cons (dp_mono s h) (dps_mono s hs)
end
end
def eqvD (x y : D) : Option Bool := match x.py, y.py with
  | some p, some q => if SeqAt.shaped p = true ∧ SeqAt.shaped q = true then some (PyData.eqv p q) else none
  | _, _ => none
/-- == of two ints, two bools, two texts -/
def eqS : D → D → Option Bool
  | .int i, .int j => some (decide (i = j))
  | .bl i, .bl j => some (decide (i = j))
  | .str i, .str j => some (decide (i = j))
  | _, _ => none
def eqB (x y : D) : Option Bool := match eqS x y with
  | some b => some b
  | none => eqvD x y
def eqD (x y : D) : Option D := (eqB x y).map .bl
def neD (x y : D) : Option D := (eqB x y).map fun b => .bl (!b)
theorem eqS_some {K : PySem.W.Frag} {M : Hp} {v w : V} {x y : D} {b : Bool} (h : eqS x y = some b) (d1 : Dv K M v x) (d2 : Dv K M w y) : scal v w = true ∧ b = decide (v = w) := by
  unfold eqS at h
  split at h
  · cases h; cases d1; cases d2; exact ⟨rfl, by rw [dec_int, Bool.beq_eq_decide_eq]⟩
  · cases h; cases d1; cases d2; exact ⟨rfl, by rw [dec_bl, Bool.beq_eq_decide_eq]⟩
  · cases h; cases d1; cases d2; exact ⟨rfl, by rw [dec_str, Bool.beq_eq_decide_eq]⟩
  · cases h
theorem eqvD_some {x y : D} {b : Bool} (h : eqvD x y = some b) : ∃ p q, x.py = some p ∧ y.py = some q ∧ SeqAt.shaped p = true ∧ SeqAt.shaped q = true ∧ b = PyData.eqv p q := by
  unfold eqvD at h
  split at h
  · split at h
    · rename_i hs
      cases h
      exact ⟨_, _, by assumption, by assumption, hs.1, hs.2, rfl⟩
    · cases h
  · cases h
section
variable {X : Cx}
theorem oEq (hu : X.A.units + 64 < cLine) : OpR X (compareOp .Eq) (rD X.K eqD) := OpR.imp (op_eq.or (op_eqD hu)) fun x y H Q ⟨M, fo, fv, dx, dy, d, R, d1, d2, e, k⟩ => by
  unfold eqD eqB at e
  cases q0 : eqS dx dy with
  | some b =>
    rw [q0] at e
    cases e
    obtain ⟨s1, rfl⟩ := eqS_some q0 d1 d2
    exact .inl ⟨s1, k M H _ (Same.refl _) R (.bl _)⟩
  | none =>
    rw [q0] at e
    have e : (eqvD dx dy).map D.bl = some d := e
    cases q : eqvD dx dy with
    | none => rw [q] at e; cases e
    | some b =>
      rw [q] at e
      cases e
      obtain ⟨p, r, e1, e2, s1, s2, rfl⟩ := eqvD_some q
      exact .inr ⟨p, r, dp_mono R.same (d1.dp e1), dp_mono R.same (d2.dp e2), s1, s2, k M H _ (Same.refl _) R (.bl _)⟩
theorem oNe (hu : X.A.units + 64 < cLine) : OpR X (compareOp .NotEq) (rD X.K neD) := OpR.imp (op_ne.or (op_neD hu)) fun x y H Q ⟨M, fo, fv, dx, dy, d, R, d1, d2, e, k⟩ => by
  unfold neD eqB at e
  cases q0 : eqS dx dy with
  | some b =>
    rw [q0] at e
    cases e
    obtain ⟨s1, rfl⟩ := eqS_some q0 d1 d2
    exact .inl ⟨s1, k M H _ (Same.refl _) R (.bl _)⟩
  | none =>
    rw [q0] at e
    have e : (eqvD dx dy).map (fun b => D.bl (!b)) = some d := e
    cases q : eqvD dx dy with
    | none => rw [q] at e; cases e
    | some b =>
      rw [q] at e
      cases e
      obtain ⟨p, r, e1, e2, s1, s2, rfl⟩ := eqvD_some q
      exact .inr ⟨p, r, dp_mono R.same (d1.dp e1), dp_mono R.same (d2.dp e2), s1, s2, k M H _ (Same.refl _) R (.bl _)⟩
/-! ### in -/
def D.flat : D → Bool
  | .non => true
  | .bl _ => true
  | .int _ => true
  | .str _ => true
  | _ => false
/-- == of flat things -/
def D.same : D → D → Bool
  | .non, .non => true
  | .bl a, .bl b => a == b
  | .bl a, .int j => (if a then 1 else 0) == j
  | .int i, .bl b => i == (if b then 1 else 0)
  | .int i, .int j => i == j
  | .str x, .str y => x == y
  | _, _ => false
/-- the text i stands in j -/
def Txt.has (j i : Str) : Bool := !(Builtin.Str.occurrences j i 0 j.length 1).isEmpty
def inB (x y : D) : Option Bool := match y with
  | .str j => (match x with
    | .str i => some (Txt.has j i)
    | _ => none)
  | .lst ds => if x.flat && ds.all D.flat then some (ds.any fun z => z.same x) else none
  | .tup ds => if x.flat && ds.all D.flat then some (ds.any fun z => z.same x) else none
  | _ => none
def inD (x y : D) : Option D := (inB x y).map .bl
def ninD (x y : D) : Option D := (inB x y).map fun b => .bl (!b)
theorem flat_of {K : PySem.W.Frag} {M : Hp} {v : V} {d : D} (h : Dv K M v d) (f : d.flat = true) : flatV v = true := by
  cases h <;> first | rfl | cases f
theorem same_of {K : PySem.W.Frag} {M : Hp} {v w : V} {d e : D} (h : Dv K M v d) (h' : Dv K M w e) (f : d.flat = true) (f' : e.flat = true) : eqV v w = d.same e := by
  cases h <;> first | (cases f; done) | (cases h' <;> first | (cases f'; done) | rfl)
theorem flats_of {K : PySem.W.Frag} {M : Hp} : ∀ {vs : List V} {ds : List D}, Dvs K M vs ds → ds.all D.flat = true → vs.all flatV = true
  | _, _, .nil, _ => rfl
  | _, _, .cons h t, f => by
    rw [List.all_cons, Bool.and_eq_true] at f ⊢
    exact ⟨flat_of h f.1, flats_of t f.2⟩
theorem any_of {K : PySem.W.Frag} {M : Hp} {w : V} {e : D} (h' : Dv K M w e) (f' : e.flat = true) : ∀ {vs : List V} {ds : List D}, Dvs K M vs ds → ds.all D.flat = true → inV w vs = ds.any fun z => z.same e
  | _, _, .nil, _ => rfl
  | _, _, .cons h t, f => by
    rw [List.all_cons, Bool.and_eq_true] at f
    unfold inV
    rw [List.any_cons, List.any_cons, same_of h h' f.1 f']
    have := any_of h' f' t f.2
    unfold inV at this
    rw [this]
theorem in_of {neg : Bool} {x y : V} {H : Hp} {Q : VK} {M : Hp} {fo : List O} {fv : List (Option V)} {dx dy : D} {b : Bool} (R : Rep X.K M H fo fv) (d1 : Dv X.K M x dx) (d2 : Dv X.K M y dy) (e : inB dx dy = some b) (k : Q (.bl (if neg then !b else b)) H) :
    rIn X.K neg x y H Q ∨ (∃ i j, x = .str i ∧ y = .str j ∧ Q (.bl (if neg then !(!(Builtin.Str.occurrences j i 0 j.length 1).isEmpty) else (!(Builtin.Str.occurrences j i 0 j.length 1).isEmpty))) H) := by
  unfold inB at e
  cases d2 with
  | str j =>
    cases d1 with
    | str i => cases e; exact .inr ⟨i, j, rfl, rfl, k⟩
    | _ => cases e
  | lst h hs =>
    simp only at e
    split at e
    · rename_i hf
      rw [Bool.and_eq_true] at hf
      cases e
      refine .inl ⟨_, _, rfl, .inl (seqX R.same h), flat_of d1 hf.1, flats_of hs hf.2, ?_⟩
      rw [any_of d1 hf.1 hs hf.2]
      exact k
    · cases e
  | tup h hs =>
    simp only at e
    split at e
    · rename_i hf
      rw [Bool.and_eq_true] at hf
      cases e
      refine .inl ⟨_, _, rfl, .inr (sqT_same R.same h), flat_of d1 hf.1, flats_of hs hf.2, ?_⟩
      rw [any_of d1 hf.1 hs hf.2]
      exact k
    · cases e
  | _ => cases e
theorem oIn : OpR X (compareOp .In) (rD X.K inD) := OpR.imp (op_in_seq.or op_in_str) fun x y H Q ⟨M, fo, fv, dx, dy, d, R, d1, d2, e, k⟩ => by
  unfold inD at e
  cases q : inB dx dy with
  | none => rw [q] at e; cases e
  | some b =>
    rw [q] at e
    cases e
    exact in_of (neg := false) R d1 d2 q (k M H _ (Same.refl _) R (.bl _))
theorem oNotIn : OpR X (compareOp .NotIn) (rD X.K ninD) := OpR.imp (op_notIn_seq.or op_notin_str) fun x y H Q ⟨M, fo, fv, dx, dy, d, R, d1, d2, e, k⟩ => by
  unfold ninD at e
  cases q : inB dx dy with
  | none => rw [q] at e; cases e
  | some b =>
    rw [q] at e
    cases e
    exact in_of (neg := true) R d1 d2 q (k M H _ (Same.refl _) R (.bl _))
/-! ### is None -/
def D.isN : D → Bool
  | .non => true
  | _ => false
def isN (x y : D) : Option D := match y with
  | .non => some (.bl x.isN)
  | _ => none
def notN (x y : D) : Option D := match y with
  | .non => some (.bl (!x.isN))
  | _ => none
theorem isN_of {K : PySem.W.Frag} {M : Hp} {v : V} {d : D} (h : Dv K M v d) : decide (v = .non) = d.isN := by
  cases h <;> first | rfl | exact decide_eq_false (fun z => nomatch z)
theorem oIs : OpR X (compareOp .Is) (rD X.K isN) := OpR.imp op_isN fun x y H Q ⟨M, fo, fv, dx, dy, d, R, d1, d2, e, k⟩ => by
  unfold isN at e
  split at e
  · cases e
    cases d2
    refine ⟨rfl, ?_⟩
    rw [isN_of d1]
    exact k M H _ (Same.refl _) R (.bl _)
  · cases e
theorem oIsNot : OpR X (compareOp .IsNot) (rD X.K notN) := OpR.imp op_notN fun x y H Q ⟨M, fo, fv, dx, dy, d, R, d1, d2, e, k⟩ => by
  unfold notN at e
  split at e
  · cases e
    cases d2
    refine ⟨rfl, ?_⟩
    rw [isN_of d1]
    exact k M H _ (Same.refl _) R (.bl _)
  · cases e
/-! ### -x -/
def negI : D → Option D
  | .int i => some (.int (-i))
  | _ => none
theorem oNeg : UnR X (unaryOp .USub) (rD1 X.K negI) := UnR.imp un_neg fun x H Q ⟨M, fo, fv, dx, d, R, d1, e, k⟩ => by
  unfold negI at e
  split at e
  · cases e; cases d1; exact ⟨_, rfl, k M H _ (Same.refl _) R (.int _)⟩
  · cases e
/-! ### built-ins -/
def lenD : List D → Option D
  | [.lst ds] => some (.int ds.length)
  | [.tup ds] => some (.int ds.length)
  | [.str z] => if z.length ≤ sizeLine then some (.int z.length) else none
  | [.dic ks _] => some (.int ks.length)
  | _ => none
theorem one_of {K : PySem.W.Frag} {M : Hp} {vs : List V} {d : D} (h : Dvs K M vs [d]) : ∃ v, vs = [v] ∧ Dv K M v d := by
  cases h with
  | cons h t => cases t; exact ⟨_, rfl, h⟩
theorem two_of {K : PySem.W.Frag} {M : Hp} {vs : List V} {d e : D} (h : Dvs K M vs [d, e]) : ∃ v w, vs = [v, w] ∧ Dv K M v d ∧ Dv K M w e := by
  cases h with
  | cons h t =>
    obtain ⟨w, rfl, h'⟩ := one_of t
    exact ⟨_, _, rfl, h, h'⟩
theorem call_lenR : CallR X (.builtin "len") (fun xs H Q => ∃ a kvs, xs = [V.ref a] ∧ Rd H a (.dK kvs) ∧ Q (.int kvs.length) H) := by
  intro pins s σ H xs us Q I r h
  obtain ⟨a, kvs, rfl, ha, q⟩ := h
  rw [Vals.ref1 r]
  exact d_len I ha fun t s' I' => ⟨.int kvs.length, H, I', ⟨t, rfl⟩, q⟩
theorem cLen : CallR X (.builtin "len") (rDs X.K lenD) := CallR.imp ((call_len_seq.or call_len_str).or call_lenR) fun xs H Q ⟨M, fo, fv, ds, d, R, dv, e, k⟩ => by
  unfold lenD at e
  split at e
  · obtain ⟨v, rfl, dw⟩ := one_of dv; clear dv
    cases e
    cases dw with
    | lst h hs => exact .inl (.inl ⟨_, _, rfl, .inl (seqX R.same h), by rw [hs.length]; exact k M H _ (Same.refl _) R (.int _)⟩)
  · obtain ⟨v, rfl, dw⟩ := one_of dv; clear dv
    cases e
    cases dw with
    | tup h hs => exact .inl (.inl ⟨_, _, rfl, .inr (sqT_same R.same h), by rw [hs.length]; exact k M H _ (Same.refl _) R (.int _)⟩)
  · obtain ⟨v, rfl, dw⟩ := one_of dv; clear dv
    split at e
    · cases e
      cases dw
      exact .inl (.inr ⟨_, rfl, by assumption, k M H _ (Same.refl _) R (.int _)⟩)
    · cases e
  · obtain ⟨v, rfl, dw⟩ := one_of dv; clear dv
    cases e
    cases dw with
    | dic h hk hs =>
      refine .inr ⟨_, _, rfl, Rd.up R.same h, ?_⟩
      have := k M H _ (Same.refl _) R (.int _)
      rw [← hk, List.length_map] at this
      exact this
  · cases e
def intD : List D → Option D
  | [.int i] => some (.int i)
  | [.bl b] => some (.int (if b then 1 else 0))
  | _ => none
theorem cInt : CallR X (.type "int") (rDs X.K intD) := CallR.imp call_int1 fun xs H Q ⟨M, fo, fv, ds, d, R, dv, e, k⟩ => by
  unfold intD at e
  split at e
  · obtain ⟨v, rfl, dw⟩ := one_of dv; clear dv
    cases e; cases dw
    exact .inl ⟨_, rfl, k M H _ (Same.refl _) R (.int _)⟩
  · obtain ⟨v, rfl, dw⟩ := one_of dv; clear dv
    cases e; cases dw
    exact .inr ⟨_, rfl, k M H _ (Same.refl _) R (.int _)⟩
  · cases e
def max2 : List D → Option D
  | [.int i, .int j] => some (.int (if j > i then j else i))
  | _ => none
def min2 : List D → Option D
  | [.int i, .int j] => some (.int (if j < i then j else i))
  | _ => none
theorem cMax2 (hc : X.calm = true) : CallR X (.builtin "max") (rDs X.K max2) := CallR.imp (call_max2 hc) fun xs H Q ⟨M, fo, fv, ds, d, R, dv, e, k⟩ => by
  unfold max2 at e
  split at e
  · obtain ⟨v, w, rfl, d1, d2⟩ := two_of dv
    cases e; cases d1; cases d2
    exact ⟨_, _, rfl, k M H _ (Same.refl _) R (.int _)⟩
  · cases e
theorem cMin2 (hc : X.calm = true) : CallR X (.builtin "min") (rDs X.K min2) := CallR.imp (call_min2 hc) fun xs H Q ⟨M, fo, fv, ds, d, R, dv, e, k⟩ => by
  unfold min2 at e
  split at e
  · obtain ⟨v, w, rfl, d1, d2⟩ := two_of dv
    cases e; cases d1; cases d2
    exact ⟨_, _, rfl, k M H _ (Same.refl _) R (.int _)⟩
  · cases e
/-- a list of bools -/
def bls : List D → Option (List Bool)
  | [] => some []
  | .bl b :: r => (bls r).map (b :: ·)
  | _ => none
theorem bls_some : ∀ {ds : List D} {bs : List Bool}, bls ds = some bs → ds = bs.map .bl
  | [], _, e => by cases e; rfl
  | .bl b :: r, bs, e => by
    unfold bls at e
    cases q : bls r with
    | none => rw [q] at e; cases e
    | some cs => rw [q] at e; cases e; rw [bls_some q]; rfl
  | .non :: _, _, e => by cases e
  | .int _ :: _, _, e => by cases e
  | .str _ :: _, _, e => by cases e
  | .lst _ :: _, _, e => by cases e
  | .tup _ :: _, _, e => by cases e
  | .dic _ _ :: _, _, e => by cases e
  | .obj _ _ _ :: _, _, e => by cases e
  | .exn _ _ _ _ _ :: _, _, e => by cases e
theorem bls_map : ∀ bs : List Bool, bls (bs.map .bl) = some bs
  | [] => rfl
  | b :: r => by
    show (bls (r.map .bl)).map (b :: ·) = _
    rw [bls_map r]; rfl
def allD : List D → Option D
  | [.lst ds] => (bls ds).map fun bs => .bl (bs.all id)
  | _ => none
def anyD : List D → Option D
  | [.lst ds] => (bls ds).map fun bs => .bl (bs.any id)
  | _ => none
theorem dvs_bls {K : PySem.W.Frag} {M : Hp} : ∀ {vs : List V} {bs : List Bool}, Dvs K M vs (bs.map .bl) → vs = bs.map .bl
  | _, [], .nil => rfl
  | _, b :: r, .cons h t => by cases h; rw [dvs_bls t]; rfl
theorem dvs_ints {K : PySem.W.Frag} {M : Hp} : ∀ {vs : List V} {ns : List Int}, Dvs K M vs (ns.map .int) → vs = ns.map .int
  | _, [], .nil => rfl
  | _, b :: r, .cons h t => by cases h; rw [dvs_ints t]; rfl
theorem dvs_strs {K : PySem.W.Frag} {M : Hp} : ∀ {vs : List V} {ns : List Str}, Dvs K M vs (ns.map .str) → vs = ns.map .str
  | _, [], .nil => rfl
  | _, b :: r, .cons h t => by cases h; rw [dvs_strs t]; rfl
theorem strs_dvs {K : PySem.W.Frag} {M : Hp} : ∀ ns : List Str, Dvs K M (ns.map .str) (ns.map .str)
  | [] => .nil
  | _ :: r => .cons (.str _) (strs_dvs r)
theorem ints_dvs {K : PySem.W.Frag} {M : Hp} : ∀ ns : List Int, Dvs K M (ns.map .int) (ns.map .int)
  | [] => .nil
  | _ :: r => .cons (.int _) (ints_dvs r)
theorem cAll (hc : X.calm = true) : CallR X (.builtin "all") (rDs X.K allD) := CallR.imp (cr_all hc) fun xs H Q ⟨M, fo, fv, ds, d, R, dv, e, k⟩ => by
  unfold allD at e
  split at e
  · rename_i ds'
    obtain ⟨v, rfl, dw⟩ := one_of dv; clear dv
    cases q : bls ds' with
    | none => rw [q] at e; cases e
    | some bs =>
      rw [q] at e
      cases e
      have := bls_some q
      subst this
      cases dw with
      | lst h hs =>
        have := dvs_bls hs
        subst this
        exact ⟨_, bs, rfl, seqX R.same h, k M H _ (Same.refl _) R (.bl _)⟩
  · cases e
theorem cAny (hc : X.calm = true) : CallR X (.builtin "any") (rDs X.K anyD) := CallR.imp (cr_any hc) fun xs H Q ⟨M, fo, fv, ds, d, R, dv, e, k⟩ => by
  unfold anyD at e
  split at e
  · rename_i ds'
    obtain ⟨v, rfl, dw⟩ := one_of dv; clear dv
    cases q : bls ds' with
    | none => rw [q] at e; cases e
    | some bs =>
      rw [q] at e
      cases e
      have := bls_some q
      subst this
      cases dw with
      | lst h hs =>
        have := dvs_bls hs
        subst this
        exact ⟨_, bs, rfl, seqX R.same h, k M H _ (Same.refl _) R (.bl _)⟩
  · cases e
/-! ### items and slices -/
def ixD (x y : D) : Option D := match x, y with
  | .lst ds, .int i => atI ds i
  | .tup ds, .int i => atI ds i
  | .str z, .int i => if z.length ≤ sizeLine then (atI z.cps.toList i).map fun c => .str ⟨#[c]⟩ else none
  | _, _ => none
theorem atI_dvs {K : PySem.W.Frag} {M : Hp} {vs : List V} {ds : List D} {i : Int} {d : D} (h : Dvs K M vs ds) (e : atI ds i = some d) : ∃ v, atI vs i = some v ∧ Dv K M v d := by
  unfold atI at e ⊢
  rw [h.length]
  cases q : ixN ds.length i with
  | none => rw [q] at e; cases e
  | some j => rw [q, Option.bind_some] at e; obtain ⟨v, e1, e2⟩ := h.get e; exact ⟨v, by rw [Option.bind_some]; exact e1, e2⟩
theorem oIx : IxR X (rD X.K ixD) := IxR.imp ix_seq fun x y H Q ⟨M, fo, fv, dx, dy, d, R, d1, d2, e, k⟩ => by
  unfold ixD at e
  split at e
  · cases d2
    cases d1 with
    | lst h hs =>
      obtain ⟨v, e1, e2⟩ := atI_dvs hs e
      exact .inl ⟨_, _, _, v, rfl, rfl, seqX R.same h, e1, k M H _ (Same.refl _) R e2⟩
  · cases d2
    cases d1 with
    | tup h hs =>
      obtain ⟨v, e1, e2⟩ := atI_dvs hs e
      exact .inr (.inl ⟨_, _, _, v, rfl, rfl, sqT_same R.same h, e1, k M H _ (Same.refl _) R e2⟩)
  · rename_i z i
    cases d2
    cases d1
    split at e
    · cases q : atI z.cps.toList i with
      | none => rw [q] at e; cases e
      | some c =>
        rw [q] at e
        cases e
        exact .inr (.inr ⟨z, i, c, rfl, rfl, by assumption, q, k M H _ (Same.refl _) R (.str _)⟩)
    · cases e
  · cases e
/-- the items of xs[lo:hi] -/
def cutD {α : Type} (xs : List α) (lo hi : Option Int) : List α := (xs.drop (HT.sIx xs.length 0 lo)).take (HT.sIx xs.length xs.length hi - HT.sIx xs.length 0 lo)
def slD (x : D) (lo hi : Option Int) : Option D := match x with
  | .lst ds => some (.lst (cutD ds lo hi))
  | .str z => if z.length ≤ sizeLine then some (.str (cutS z lo hi)) else none
  | .tup ds => if HT.sIx ds.length 0 lo = 0 ∧ HT.sIx ds.length ds.length hi = ds.length then none else some (.tup (cutD ds lo hi))
  | _ => none
theorem cut_dvs {K : PySem.W.Frag} {M : Hp} {vs : List V} {ds : List D} {lo hi : Option Int} (h : Dvs K M vs ds) : Dvs K M (cutV vs lo hi) (cutD ds lo hi) := by
  unfold cutV cutD
  rw [h.length]
  exact (h.drop _).take _
def rDsl (K : PySem.W.Frag) (g : D → Option Int → Option Int → Option D) : V → Option Int → Option Int → Hp → VK → Prop := fun x lo hi H Q => ∃ M fo fv dx d, Rep K M H fo fv ∧ Dv K M x dx ∧ g dx lo hi = some d ∧
  ∀ M' H' v, Same M M' → Rep K M' H' fo fv → Dv K M' v d → Q v H'
theorem oSl : SlR X (rDsl X.K slD) := SlR.imp (sl_list.or (sl_str.or sl_tup)) fun x lo hi H Q ⟨M, fo, fv, dx, d, R, d1, e, k⟩ => by
  unfold slD at e
  split at e
  · cases e
    cases d1 with
    | lst h hs =>
      refine .inl ⟨_, _, rfl, seqX R.same h, fun p hp => ?_⟩
      have s := fun u => same_updM (u := u) (R.same.free hp)
      exact k _ _ _ (s _) (R.growM hp) (.lst (.inl (.inl upd_same)) ((cut_dvs hs).mono (s _)))
  · split at e
    · cases e
      cases d1
      exact .inr (.inl ⟨_, rfl, by assumption, k M H _ (Same.refl _) R (.str _)⟩)
    · cases e
  · split at e
    · cases e
    · rename_i hw
      cases e
      cases d1 with
      | tup h hs =>
        refine .inr (.inr ⟨_, _, rfl, sqT_same R.same h, by rw [hs.length]; exact hw, fun p hp => ?_⟩)
        have s := fun u => same_updM (u := u) (R.same.free hp)
        exact k _ _ _ (s _) (R.growM hp) (.tup (.inl (.inl upd_same)) ((cut_dvs hs).mono (s _)))
  · cases e
/-- a slice's part -/
def tPo (K : PySem.W.Frag) (f : Ev → Option (Option Int)) : TO := fun σ H Q => ∃ M ρ fo fv d, Rep K M H (ρ ++ fo) (σ ++ fv) ∧ σ.length = ρ.length ∧ f ρ = some d ∧ ∀ M' H', Same M M' → Rep K M' H' (ρ ++ fo) (σ ++ fv) → Q d H'
def noPart (_ : Ev) : Option (Option Int) := some none
def part (f : Ev → Option D) (ρ : Ev) : Option (Option Int) := match f ρ with
  | some (.int i) => some (some i)
  | _ => none
theorem poNone : PO X none (tPo X.K noPart) := ⟨fun p s σ H Q I ⟨M, ρ, fo, fv, d, R, l, e, k⟩ => by
  cases e
  exact po_none.run p s σ H Q I (k M H (Same.refl _) R)⟩
theorem poSome {e : Expr} {f : Ev → Option D} (h : PE X e (tP X.K f)) : PO X (some e) (tPo X.K (part f)) := ⟨fun p s σ H Q I ⟨M, ρ, fo, fv, d, R, l, e, k⟩ => by
  unfold part at e
  split at e
  · rename_i i q
    cases e
    exact (po_some h).run p s σ H Q I ⟨M, ρ, fo, fv, _, R, l, q, fun M1 H1 v s1 R1 d1 => by cases d1; exact ⟨i, rfl, k M1 H1 s1 R1⟩⟩
  · cases e⟩
def slc (f : Ev → Option D) (lo hi : Ev → Option (Option Int)) (ρ : Ev) : Option D := (f ρ).bind fun x => (lo ρ).bind fun a => (hi ρ).bind fun b => slD x a b
theorem pSl {e : Expr} {lo hi : Option Expr} {p2 pos : Pos} {f : Ev → Option D} {fl fh : Ev → Option (Option Int)} (he : PE X e (tP X.K f)) (hl : PO X lo (tPo X.K fl)) (hh : PO X hi (tPo X.K fh)) : PE X (.Subscript e (.Slice lo hi none p2) pos) (tP X.K (slc f fl fh)) :=
  PE.imp (pe_slice oSl he hl hh) fun σ H Q ⟨M, ρ, fo, fv, d, R, l, e, k⟩ => by
    unfold slc at e
    cases q1 : f ρ with
    | none => rw [q1] at e; cases e
    | some x =>
      cases q2 : fl ρ with
      | none => rw [q1, Option.bind_some, q2] at e; cases e
      | some a =>
        cases q3 : fh ρ with
        | none => rw [q1, Option.bind_some, q2, Option.bind_some, q3] at e; cases e
        | some b =>
          rw [q1, Option.bind_some, q2, Option.bind_some, q3, Option.bind_some] at e
          exact ⟨M, ρ, fo, fv, x, R, l, q1, fun M1 H1 v1 s1 R1 d1 => ⟨M1, ρ, fo, fv, a, R1, l, q2, fun M2 H2 s2 R2 => ⟨M2, ρ, fo, fv, b, R2, l, q3, fun M3 H3 s3 R3 =>
            ⟨M3, ρ ++ fo, σ ++ fv, x, d, R3, d1.mono (s2.trans s3), e, fun M4 H4 v s4 R4 d4 => k M4 H4 v (s1.trans (s2.trans (s3.trans s4))) R4 d4⟩⟩⟩⟩
/-! ### methods of texts -/
def rDm (K : PySem.W.Frag) (g : D → List D → Option D) : V → List V → Hp → VK → Prop := fun x xs H Q => ∃ M fo fv dx ds d, Rep K M H fo fv ∧ Dv K M x dx ∧ Dvs K M xs ds ∧ g dx ds = some d ∧
  ∀ M' H' v, Same M M' → Rep K M' H' fo fv → Dv K M' v d → Q v H'
def m1 (f g : Ev → Option D) (h : D → List D → Option D) (ρ : Ev) : Option D := match f ρ with
  | some (.str z) => (g ρ).bind fun y => h (.str z) [y]
  | _ => none
theorem tM1_of {K : PySem.W.Frag} {f g : Ev → Option D} {h : D → List D → Option D} {σ : L2.St} {H : Hp} {Q : VK} (hh : tP K (m1 f g h) σ H Q) : tM1 (rDm K h) (tP K f) (tP K g) σ H Q := by
  obtain ⟨M, ρ, fo, fv, d, R, l, e, k⟩ := hh
  unfold m1 at e
  split at e
  · rename_i z q
    cases q2 : g ρ with
    | none => rw [q2] at e; cases e
    | some y =>
      rw [q2, Option.bind_some] at e
      exact ⟨M, ρ, fo, fv, _, R, l, q, fun M1 H1 v1 s1 R1 d1 => by
        cases d1
        exact ⟨⟨z, rfl⟩, M1, ρ, fo, fv, y, R1, l, q2, fun M2 H2 v2 s2 R2 d2 => ⟨M2, ρ ++ fo, σ ++ fv, _, _, d, R2, .str z, .cons d2 .nil, e, fun M3 H3 v s3 R3 d3 => k M3 H3 v (s1.trans (s2.trans s3)) R3 d3⟩⟩⟩
  · cases e
def splitD (x : D) (ys : List D) : Option D := match x, ys with
  | .str a, [.str b] => if (b.length == 0) = false ∧ a.length + 2 ≤ sizeLine then some (.lst ((Txt.split a b).map .str)) else none
  | _, _ => none
theorem mSplit : MtR X "str.split" (rDm X.K splitD) := MtR.imp mt_split fun x xs H Q ⟨M, fo, fv, dx, ds, d, R, d1, d2, e, k⟩ => by
  unfold splitD at e
  split at e
  · rename_i a b
    split at e
    · rename_i hc
      cases e
      cases d1
      obtain ⟨w, rfl, dw⟩ := one_of d2; clear d2
      cases dw
      refine ⟨a, b, rfl, rfl, hc.1, hc.2, fun p hp => ?_⟩
      have s := same_updM (u := .lst ((Txt.split a b).map V.str)) (R.same.free hp)
      exact k _ _ _ s (R.growM hp) (.lst (.inl (.inl upd_same)) (strs_dvs _))
    · cases e
  · cases e
/-- a list of texts -/
def strsD : List D → Option (List Str)
  | [] => some []
  | .str b :: r => (strsD r).map (b :: ·)
  | _ => none
theorem strs_some : ∀ {ds : List D} {bs : List Str}, strsD ds = some bs → ds = bs.map .str
  | [], _, e => by cases e; rfl
  | .str b :: r, bs, e => by
    unfold strsD at e
    cases q : strsD r with
    | none => rw [q] at e; cases e
    | some cs => rw [q] at e; cases e; rw [strs_some q]; rfl
  | .non :: _, _, e => by cases e
  | .int _ :: _, _, e => by cases e
  | .bl _ :: _, _, e => by cases e
  | .lst _ :: _, _, e => by cases e
  | .tup _ :: _, _, e => by cases e
  | .dic _ _ :: _, _, e => by cases e
  | .obj _ _ _ :: _, _, e => by cases e
  | .exn _ _ _ _ _ :: _, _, e => by cases e
theorem strs_map : ∀ bs : List Str, strsD (bs.map .str) = some bs
  | [] => rfl
  | b :: r => by
    show (strsD (r.map .str)).map (b :: ·) = _
    rw [strs_map r]; rfl
def joinD (x : D) (ys : List D) : Option D := match x, ys with
  | .str a, [.lst ds] => (strsD ds).bind fun zs => if (zs.map (·.length)).sum + zs.length * a.length ≤ 16777216 then some (.str (Txt.join a zs)) else none
  | .str a, [.tup ds] => (strsD ds).bind fun zs => if (zs.map (·.length)).sum + zs.length * a.length ≤ 16777216 then some (.str (Txt.join a zs)) else none
  | _, _ => none
theorem mJoin : MtR X "str.join" (rDm X.K joinD) := MtR.imp mt_join fun x xs H Q ⟨M, fo, fv, dx, ds, d, R, d1, d2, e, k⟩ => by
  unfold joinD at e
  split at e
  · rename_i a ds'
    cases q : strsD ds' with
    | none => rw [q] at e; cases e
    | some zs =>
      rw [q, Option.bind_some] at e
      split at e
      · cases e
        have := strs_some q
        subst this
        cases d1
        obtain ⟨w, rfl, dw⟩ := one_of d2; clear d2
        cases dw with
        | lst h hs =>
          have := dvs_strs hs
          subst this
          exact ⟨a, _, zs, rfl, rfl, .inl (seqX R.same h), by assumption, k M H _ (Same.refl _) R (.str _)⟩
      · cases e
  · rename_i a ds'
    cases q : strsD ds' with
    | none => rw [q] at e; cases e
    | some zs =>
      rw [q, Option.bind_some] at e
      split at e
      · cases e
        have := strs_some q
        subst this
        cases d1
        obtain ⟨w, rfl, dw⟩ := one_of d2; clear d2
        cases dw with
        | tup h hs =>
          have := dvs_strs hs
          subst this
          exact ⟨a, _, zs, rfl, rfl, .inr (sqT_same R.same h), by assumption, k M H _ (Same.refl _) R (.str _)⟩
      · cases e
  · cases e
theorem pM1 {id : String} {name : Str} {o e : Expr} {apos pos : Pos} {f g : Ev → Option D} {h : D → List D → Option D} (slot : Slot "str" name id) (ty : typeOf (.builtin id) = pure (.type "method_descriptor")) (rule : MtR X id (rDm X.K h)) (ho : PE X o (tP X.K f)) (he : PE X e (tP X.K g))
    (hs : starEach [e] X.env = [(false, eval e X.env)] := by rfl) (hbase : attributeBase o name X.env (eval o X.env) = eval o X.env := by rfl) (hline : (apos.endLine == pos.line) = true := by rfl) : PE X (.Call (.Attribute o name apos) [e] [] pos) (tP X.K (m1 f g h)) :=
  PE.imp (pe_m1 slot ty rule ho he hs hbase hline) fun _ _ _ h => tM1_of h
theorem pSplit {o e : Expr} {apos pos : Pos} {f g : Ev → Option D} (ho : PE X o (tP X.K f)) (he : PE X e (tP X.K g)) (hs : starEach [e] X.env = [(false, eval e X.env)] := by rfl) (hbase : attributeBase o "split" X.env (eval o X.env) = eval o X.env := by rfl) (hline : (apos.endLine == pos.line) = true := by rfl) :
    PE X (.Call (.Attribute o "split" apos) [e] [] pos) (tP X.K (m1 f g splitD)) := pM1 F.slot_str_split F.type_str_split mSplit ho he hs hbase hline
theorem pJoin {o e : Expr} {apos pos : Pos} {f g : Ev → Option D} (ho : PE X o (tP X.K f)) (he : PE X e (tP X.K g)) (hs : starEach [e] X.env = [(false, eval e X.env)] := by rfl) (hbase : attributeBase o "join" X.env (eval o X.env) = eval o X.env := by rfl) (hline : (apos.endLine == pos.line) = true := by rfl) :
    PE X (.Call (.Attribute o "join" apos) [e] [] pos) (tP X.K (m1 f g joinD)) := pM1 F.slot_str_join F.type_str_join mJoin ho he hs hbase hline
/-! ### isinstance(x, T), T a built-in type -/
def tyD : D → Option String
  | .non => some "NoneType"
  | .bl _ => some "bool"
  | .int _ => some "int"
  | .str _ => some "str"
  | .lst _ => some "list"
  | .tup _ => some "tuple"
  | .dic _ _ => some "dict"
  | _ => none
def isiD (T : String) (x : D) : Option D := (tyD x).bind fun t => (kitB t T).map .bl
theorem tyX_of {K : PySem.W.Frag} {M : Hp} {v : V} {d : D} {t : String} (h : Dv K M v d) (e : tyD d = some t) : TyX K M v (.type t) := by
  cases h with
  | non => cases e; exact .base .non
  | bl b => cases e; exact .base (.bl b)
  | int b => cases e; exact .base (.int b)
  | str b => cases e; exact .base (.str b)
  | lst h hs =>
    cases e
    rcases h with (h | ⟨o, h⟩) | ⟨its, n, lk, _⟩
    · exact .base (.lst h)
    · exact .base (.frz h)
    · exact .kList lk rfl
  | tup h hs =>
    cases e
    rcases h with (h | ⟨o, h⟩) | ⟨o, its, n, lk, c, _⟩
    · exact .base (.tup h)
    · exact .fTuple h
    · exact .kTuple lk c
  | dic h _ _ =>
    cases e
    rcases h with h | ⟨o, h⟩
    · exact .base (.dK h)
    · exact .fDict h
  | obj _ _ _ _ => cases e
  | exn0 => cases e
  | exn1 _ _ _ => cases e
theorem tyX_mono {K : PySem.W.Frag} {M H : Hp} {v : V} {t : Value} (s : Same M H) (h : TyX K M v t) : TyX K H v t := by
  cases h with
  | base b =>
    cases b with
    | non => exact .base .non
    | bl b => exact .base (.bl b)
    | int b => exact .base (.int b)
    | str b => exact .base (.str b)
    | flt b => exact .base (.flt b)
    | lst e => exact .base (.lst (s _ _ e))
    | frz e => exact .base (.frz (s _ _ e))
    | tup e => exact .base (.tup (s _ _ e))
    | dK e => exact .base (.dK (s _ _ e))
    | dT e => exact .base (.dT (s _ _ e))
    | ins e cl ha hn htk hm => exact .base (.ins (s _ _ e) cl ha hn htk hm)
  | byt b => exact .byt b
  | set e => exact .set (s _ _ e)
  | kList e c => exact .kList e c
  | kTuple e c => exact .kTuple e c
  | kDict e c => exact .kDict e c
  | fTuple e => exact .fTuple (s _ _ e)
  | fDict e => exact .fDict (s _ _ e)
theorem pIsi {a : Expr} {p q pos : Pos} {fa : Ev → Option D} {T : String} {y : Str} (ha : PE X a (tP X.K fa)) (hm : X.mg "isinstance" = none) (hmT : X.mg y = none) (hv : bootBuiltins y = some (.type T) := by decide +kernel) (hg : Gl X "isinstance" := by rfl) (hgT : Gl X y := by rfl)
    (hn : y ≠ "__name__" := by decide) (hd : (y == ("__debug__" : Str)) = false := by decide)
    (hs : starEach [a, .Name y q] X.env = (false, eval a X.env) :: starEach [.Name y q] X.env := by rfl) (hs2 : starEach [.Name y q] X.env = (false, eval (.Name y q) X.env) :: starEach [] X.env := by rfl) (hpl : (backTo pos (starEach [.Name y q] X.env)).any (·.1) = false := by rfl) :
    PE X (.Call (.Name "isinstance" p) [a, .Name y q] [] pos) (tP X.K (b1 fa (isiD T))) :=
  PE.imp (pe_callB call_isi hg hm (by decide +kernel) (pa_cons ha (pa_cons (pe_bltn (v := .ty T) hgT hmT hv rfl hn hd) pa_nil hs2) hs) (by decide) (by decide) hs hpl) fun σ H Q ⟨M, ρ, fo, fv, d, R, l, e, k⟩ => by
    obtain ⟨x, ea, eg⟩ := b1_some e
    unfold isiD at eg
    cases q1 : tyD x with
    | none => rw [q1] at eg; cases eg
    | some t =>
      rw [q1, Option.bind_some] at eg
      cases q2 : kitB t T with
      | none => rw [q2] at eg; cases eg
      | some b =>
        rw [q2] at eg
        cases eg
        exact ⟨M, ρ, fo, fv, x, R, l, ea, fun M1 H1 v1 s1 R1 d1 => ⟨v1, .ty T, .type t, .type T, b, rfl, .ty T, tyX_mono R1.same (tyX_of d1 q1), kit_ty q2, k M1 H1 _ s1 R1 (.bl _)⟩⟩
/-- y = [..] on one line, y is not changed later -/
theorem setD_of {K : PySem.W.Frag} {W : WX} {J : List Nat} {i : Nat} {f : Ev → Option O} {E : Ends} {σ : L2.St} {H : Hp} (hJ : i ∉ J) (h : tS K W J (stV i (frz f)) E σ H) : tAsg (tO K f) (gName i) E σ H := by
  obtain ⟨M, ρ, fo, fv, r, σ0, R, l, e, k⟩ := h
  unfold stV frz at e
  cases q : f ρ with
  | none => rw [q] at e; cases e
  | some o =>
    rw [q, Option.bind_some] at e
    cases q2 : o.toD with
    | none => rw [q2] at e; cases e
    | some d =>
      rw [q2] at e
      cases e
      refine ⟨M, ρ, fo, fv, o, R, l.1, q, fun M1 H1 v s1 R1 => ?_⟩
      obtain ⟨M2, s2, R2, d2⟩ := R1.frz l.1 rfl q2
      exact k M2 H1 _ (s1.trans s2) ((R2.drop l.1).setD l.1 d2) (l.set hJ _ _)
theorem sLcD {W : WX} {J : List Nat} {i : Nat} {y : Str} {py spos pos : Pos} {tg iter elt : Expr} {ifs : List Expr} {scope : Scope} {fi : Ev → Option (List D)} {is kn : List Nat} {g : D → Ev → Option Ev} {t : Ev → Option Bool} {f : Ev → Option D} (own : List (Str × Nat)) (hc : X.calm = true) (hN : X.N.Nodup) (hi : PI X tg iter (tI X.K kn fi)) (bo : BlkOk X.N X.env.scope scope own)
    (hg : ∀ (s : Shared) (H : Hp) (C : Addr) (cl : List (Str × Addr)) (fp : List Addr), PG (X.blk s H scope (compEnvC scope cl C X.env) fp) tg (tG X.K is g)) (ht : ∀ (s : Shared) (H : Hp) (C : Addr) (cl : List (Str × Addr)) (fp : List Addr), PTs (X.blk s H scope (compEnvC scope cl C X.env) fp) ifs (tT X.K t))
    (he : ∀ (s : Shared) (H : Hp) (C : Addr) (cl : List (Str × Addr)) (fp : List Addr), PE (X.blk s H scope (compEnvC scope cl C X.env) fp) elt (tP X.K f)) (ok : TgOk is g) (hJ : i ∉ J := by decide) (hy : X.N[i]? = some y := by rfl) (hyl : X.env.scope.names.lookup y = some .local := by rfl)
    (hsw : swapsWith (.ListComp elt [⟨tg, iter, ifs, 0⟩] scope pos) (some (.Name y py)) spos.line X.env = pure true := by exact sw_true rfl rfl rfl (by decide +kernel)) (hv : ∀ i ∈ is, i ∈ own.map (·.2) := by decide) (hkn : ∀ ρ ds, fi ρ = some ds → ∀ k ∈ kn, k < ρ.length := by intro _ _ _ _ hk; cases hk) (hkv : ∀ k ∈ kn, k ∉ own.map (·.2) := by decide) (hs : ∀ x, foldedSetIterable iter X.env x = pure x := by intro _; rfl) :
    PS X (.Assign [.Name y py] (.ListComp elt [⟨tg, iter, ifs, 0⟩] scope pos) spos) (tS X.K W J (stV i (lcD fi g t f (own.map (·.2))))) := by
  have h := PS.imp (PS.imp (ps_setLc (i := i) (py := py) (pos := pos) (spos := spos) hc hN hy hyl hsw hi bo hg ht he hs) fun E σ H h => lc_of (f := f) (Q := fun x H1 => gName i x σ H1 E.nx) ok hv hkn hkv h) fun E σ H (h : tS X.K W J (stV i (frz (lcO fi g t f (own.map (·.2))))) E σ H) => setD_of hJ h
  rw [show frz (lcO fi g t f (own.map (·.2))) = lcD fi g t f (own.map (·.2)) from funext fun ρ => lcD_eq ρ _] at h
  exact h
end
/-- how a def binds when all its arguments come by name, in order -/
theorem kbn_of {K : PySem.W.Frag} {x qual : Str} {st : Stmt} {f : Addr} {fd : FuncData} {ps : List Str} (F : Fun K x qual st f fd)
    (h : ∀ (kV doc pm : Value) (an : Option Addr) (cdv ct : Value) (ws : List Value), ws.length = ps.length → bindArgs (PySem.W.fnOf x qual (defArgs st) (defBody st) (defScope st) .none kV doc pm an cdv ct) ⟨[], ps.zip ws⟩ = pure (ps.zip ws)) :
    KBn K fd ps 0 ps (fun us ws => us ++ ws) (fun vs zs => vs ++ zs) := by
  obtain ⟨oc, od, kV, doc, pm, an, cdv, ct, osl, rfl, lk, hcd⟩ := F.ex
  refine ⟨fun s us ws X h1 h2 => ?_, fun r1 r2 => r1.append r2⟩
  obtain rfl := List.length_eq_zero_iff.mp h1
  exact .of_eq (h kV doc pm an cdv ct ws h2)
end PD

namespace PD
open PySem PySem.Spec L2

/-! ### reckoning with mirrors -/
theorem loop_inv {g : D → Ev → Option Ev} {b : Ev → Option Fl} (I : Nat → Ev → Prop) : ∀ (ds : List D) (ρ : Ev) (n : Nat), I n ρ →
    (∀ i d ρ, ds[i]? = some d → I (n + i) ρ → ∃ ρ1 ρ2, g d ρ = some ρ1 ∧ (b ρ1 = some (.nx ρ2) ∨ b ρ1 = some (.ct ρ2)) ∧ I (n + i + 1) ρ2) → ∃ ρ', loop g b ds ρ = some (.nx ρ') ∧ I (n + ds.length) ρ'
  | [], ρ, n, h0, _ => ⟨ρ, rfl, h0⟩
  | d :: ds, ρ, n, h0, hs => by
    obtain ⟨ρ1, ρ2, e1, e2, h2⟩ := hs 0 d ρ rfl h0
    obtain ⟨ρ', e3, h3⟩ := loop_inv I ds ρ2 (n + 1) h2 (fun i d' ρ' e h => by
      have := hs (i + 1) d' ρ' (by simpa using e) (by rw [show n + (i + 1) = n + 1 + i by omega]; exact h)
      rw [show n + (i + 1) + 1 = n + 1 + i + 1 by omega] at this
      exact this)
    refine ⟨ρ', ?_, by rw [List.length_cons, show n + (ds.length + 1) = n + 1 + ds.length by omega]; exact h3⟩
    unfold loop
    rw [e1, Option.bind_some]
    rcases e2 with e2 | e2 <;> (rw [e2, Option.bind_some]; exact e3)
/-- a loop from the start -/
theorem loop_inv0 {g : D → Ev → Option Ev} {b : Ev → Option Fl} (I : Nat → Ev → Prop) (ds : List D) (ρ : Ev) (h0 : I 0 ρ)
    (hs : ∀ i d ρ, ds[i]? = some d → I i ρ → ∃ ρ1 ρ2, g d ρ = some ρ1 ∧ (b ρ1 = some (.nx ρ2) ∨ b ρ1 = some (.ct ρ2)) ∧ I (i + 1) ρ2) : ∃ ρ', loop g b ds ρ = some (.nx ρ') ∧ I ds.length ρ' := by
  obtain ⟨ρ', e, h⟩ := loop_inv I ds ρ 0 h0 (fun i d ρ e h => by rw [Nat.zero_add] at h ⊢; exact hs i d ρ e h)
  exact ⟨ρ', e, by rw [Nat.zero_add] at h; exact h⟩
/-- a loop that may leave by a return -/
theorem loop_ret {g : D → Ev → Option Ev} {b : Ev → Option Fl} (I : Nat → Ev → Prop) (R : O → Prop) : ∀ (ds : List D) (ρ : Ev) (n : Nat), I n ρ →
    (∀ i d ρ, ds[i]? = some d → I (n + i) ρ → ∃ ρ1, g d ρ = some ρ1 ∧ ((∃ ρ2, (b ρ1 = some (.nx ρ2) ∨ b ρ1 = some (.ct ρ2)) ∧ I (n + i + 1) ρ2) ∨ ∃ o ρ2, b ρ1 = some (.rt o ρ2) ∧ R o)) →
    (∃ ρ', loop g b ds ρ = some (.nx ρ') ∧ I (n + ds.length) ρ') ∨ ∃ o ρ', loop g b ds ρ = some (.rt o ρ') ∧ R o
  | [], ρ, n, h0, _ => .inl ⟨ρ, rfl, h0⟩
  | d :: ds, ρ, n, h0, hs => by
    obtain ⟨ρ1, e1, h⟩ := hs 0 d ρ rfl h0
    rcases h with ⟨ρ2, e2, h2⟩ | ⟨o, ρ2, e2, h2⟩
    · have ih := loop_ret I R ds ρ2 (n + 1) h2 (fun i d' ρ' e h => by
        have := hs (i + 1) d' ρ' (by simpa using e) (by rw [show n + (i + 1) = n + 1 + i by omega]; exact h)
        rw [show n + (i + 1) + 1 = n + 1 + i + 1 by omega] at this
        exact this)
      have el : loop g b (d :: ds) ρ = loop g b ds ρ2 := by
        conv => lhs; unfold loop
        rw [e1, Option.bind_some]
        rcases e2 with e2 | e2 <;> (rw [e2, Option.bind_some])
      rw [el, List.length_cons, show n + (ds.length + 1) = n + 1 + ds.length by omega]
      exact ih
    · refine .inr ⟨o, ρ2, ?_, h2⟩
      unfold loop
      rw [e1, Option.bind_some, e2, Option.bind_some]
theorem comp_map {g : D → Ev → Option Ev} {f : Ev → Option D} {ρ : Ev} {e : D → Ev} {h : D → D} : ∀ (ds : List D), (∀ d ∈ ds, g d ρ = some (e d) ∧ f (e d) = some (h d)) → comp g yes f ρ ds = some (ds.map h)
  | [], _ => rfl
  | d :: ds, H => by
    obtain ⟨e1, e2⟩ := H d List.mem_cons_self
    unfold comp
    rw [e1, Option.bind_some, show yes (e d) = some true from rfl, Option.bind_some, if_pos rfl, e2, Option.bind_some, comp_map ds fun d' hd => H d' (List.mem_cons_of_mem _ hd)]
    rfl
theorem comp_filter {g : D → Ev → Option Ev} {t : Ev → Option Bool} {f : Ev → Option D} {ρ : Ev} {e : D → Ev} {p : D → Bool} {h : D → D} : ∀ (ds : List D), (∀ d ∈ ds, g d ρ = some (e d) ∧ t (e d) = some (p d) ∧ (p d = true → f (e d) = some (h d))) → comp g t f ρ ds = some ((ds.filter p).map h)
  | [], _ => rfl
  | d :: ds, H => by
    obtain ⟨e1, e2, e3⟩ := H d List.mem_cons_self
    have ih := comp_filter ds fun d' hd => H d' (List.mem_cons_of_mem _ hd)
    unfold comp
    rw [e1, Option.bind_some, e2, Option.bind_some]
    cases q : p d with
    | true => rw [if_pos rfl, e3 q, Option.bind_some, ih, List.filter_cons_of_pos q]; rfl
    | false => rw [if_neg Bool.false_ne_true, ih, List.filter_cons_of_neg (by rw [q]; exact Bool.false_ne_true)]
/-- a comprehension with what each item gives, by place -/
theorem comp_ex {g : D → Ev → Option Ev} {f : Ev → Option D} {ρ : Ev} (R : Nat → D → Prop) : ∀ (ds : List D) (n : Nat), (∀ i d, ds[i]? = some d → ∃ ρ1 y, g d ρ = some ρ1 ∧ f ρ1 = some y ∧ R (n + i) y) → ∃ ys, comp g yes f ρ ds = some ys ∧ ys.length = ds.length ∧ ∀ i y, ys[i]? = some y → R (n + i) y
  | [], _, _ => ⟨[], rfl, rfl, fun i y h => by simp at h⟩
  | d :: ds, n, H => by
    obtain ⟨ρ1, y, e1, e2, r⟩ := H 0 d rfl
    obtain ⟨ys, e3, l, a⟩ := comp_ex R ds (n + 1) fun i d' h => by
      have := H (i + 1) d' (by simpa using h)
      rw [show n + (i + 1) = n + 1 + i by omega] at this
      exact this
    refine ⟨y :: ys, ?_, by simp [l], fun i z h => ?_⟩
    · unfold comp
      rw [e1, Option.bind_some, show yes ρ1 = some true from rfl, Option.bind_some, if_pos rfl, e2, Option.bind_some, e3]
      rfl
    · cases i with
      | zero => simp at h; subst h; exact r
      | succ i =>
        rw [show n + (i + 1) = n + 1 + i by omega]
        exact a i z (by simpa using h)

theorem line_big : (1000000 : Nat) ≤ sizeLine := by decide
theorem has_sign (z : Str) (c : Nat) : Txt.has z ⟨#[c]⟩ = decide (c ∈ z.cps.toList) := StrLaws.found_one z c
theorem signs_length (z : Str) : (signs z).length = z.length := by simp [signs, Str.length]
theorem str_len (z : Str) : z.cps.toList.length = z.length := by simp [Str.length]
theorem eq_str (x y : Str) : eqD (.str x) (.str y) = some (.bl (decide (x = y))) := rfl
theorem eq_int (x y : Int) : eqD (.int x) (.int y) = some (.bl (decide (x = y))) := rfl
theorem eq_bl (x y : Bool) : eqD (.bl x) (.bl y) = some (.bl (decide (x = y))) := rfl
theorem ne_str (x y : Str) : neD (.str x) (.str y) = some (.bl (!decide (x = y))) := rfl
theorem ne_int (x y : Int) : neD (.int x) (.int y) = some (.bl (!decide (x = y))) := rfl
theorem ne_bl (x y : Bool) : neD (.bl x) (.bl y) = some (.bl (!decide (x = y))) := rfl
/-! ### a text split at a sign -/
def sp (c : Nat) : List Nat → List (List Nat)
  | [] => [[]]
  | x :: xs => if x = c then [] :: sp c xs else match sp c xs with
    | p :: ps => (x :: p) :: ps
    | [] => [[x]]
theorem sp_ne (c : Nat) : ∀ l : List Nat, ∃ p ps, sp c l = p :: ps
  | [] => ⟨[], [], rfl⟩
  | x :: xs => by
    unfold sp
    by_cases h : x = c
    · rw [if_pos h]; exact ⟨_, _, rfl⟩
    · rw [if_neg h]
      obtain ⟨p, ps, e⟩ := sp_ne c xs
      rw [e]
      exact ⟨_, _, rfl⟩
theorem sp_free {c : Nat} : ∀ {l : List Nat}, c ∉ l → sp c l = [l]
  | [], _ => rfl
  | x :: xs, h => by
    unfold sp
    rw [if_neg fun z => h (by rw [z]; exact List.mem_cons_self), sp_free fun z => h (List.mem_cons_of_mem _ z)]
theorem sp_cut {c : Nat} (r : List Nat) : ∀ {p : List Nat}, c ∉ p → sp c (p ++ c :: r) = p :: sp c r
  | [], _ => by
    show (if c = c then [] :: sp c r else _) = _
    rw [if_pos rfl]
  | x :: p, h => by
    show (if x = c then [] :: sp c (p ++ c :: r) else match sp c (p ++ c :: r) with | q :: qs => (x :: q) :: qs | [] => [[x]]) = _
    rw [if_neg fun z => h (by rw [z]; exact List.mem_cons_self), sp_cut r fun z => h (List.mem_cons_of_mem _ z)]
theorem sub_at (x : Str) (a b : Nat) : (Builtin.Str.strSub x a b).cps.toList = (x.cps.toList.drop a).take (b - a) := StrLaws.strSub_toList x a b
theorem parts_sp (x : Str) (c : Nat) : ∀ (cuts : List Nat) (a f : Nat), StrLaws.ChainG x ⟨#[c]⟩ x.length a cuts f → (∀ k, f ≤ k → ¬ StrLaws.At x ⟨#[c]⟩ x.length k) →
    (StrLaws.partsFrom x 1 a cuts).map (·.cps.toList) = sp c (x.cps.toList.drop a)
  | [], a, f, h, hn => by
    have e : f = a := h
    subst e
    have hf := StrLaws.part_free x c f x.length (Nat.le_refl _) fun k h1 _ => hn k h1
    show [(Builtin.Str.strSub x f x.length).cps.toList] = _
    rw [← sp_free hf, sub_at, List.take_of_length_le (by rw [List.length_drop, str_len]; omega)]
  | d :: r, a, f, h, hn => by
    obtain ⟨h1, h2, h3, h4⟩ := h
    have hd : x.cps.toList[d]? = some c := (StrLaws.subAt_one x c d).mp h2
    have hdl : d < x.cps.toList.length := (List.getElem?_eq_some_iff.mp hd).1
    have hf := StrLaws.part_free x c a d (by rw [str_len] at hdl; omega) h3
    have ih := parts_sp x c r (d + 1) f h4 hn
    show (Builtin.Str.strSub x a d).cps.toList :: (StrLaws.partsFrom x 1 (d + 1) r).map (·.cps.toList) = _
    rw [ih]
    have e : x.cps.toList.drop a = (Builtin.Str.strSub x a d).cps.toList ++ c :: x.cps.toList.drop (d + 1) := by
      rw [sub_at]
      have e1 : x.cps.toList.drop d = c :: x.cps.toList.drop (d + 1) := by
        rw [List.drop_eq_getElem_cons hdl, (List.getElem?_eq_some_iff.mp hd).2]
      have e2 : x.cps.toList.drop d = (x.cps.toList.drop a).drop (d - a) := by rw [List.drop_drop]; congr 1; omega
      rw [← e1, e2, List.take_append_drop]
    rw [e, sp_cut _ hf]
theorem split_sp (t : Str) (c : Nat) : (Txt.split t ⟨#[c]⟩).map (·.cps.toList) = sp c t.cps.toList := by
  have free : c ∉ t.cps.toList → [t.cps.toList] = sp c t.cps.toList := fun h => (sp_free h).symm
  unfold Txt.split
  split
  · rename_i h
    rw [Bool.or_eq_true, decide_eq_true_eq, decide_eq_true_eq] at h
    refine free ?_
    rcases h with h | h
    · have : t.length = 0 := by
        have : (⟨#[c]⟩ : Str).length = 1 := rfl
        omega
      rw [← str_len] at this
      rw [List.length_eq_zero_iff.mp this]
      exact List.not_mem_nil
    · exact StrLaws.kind_free t c h
  · split
    · rename_i h
      refine free ?_
      obtain ⟨f, ch, hn⟩ := StrLaws.occ_tight t ⟨#[c]⟩ (Nat.le_refl 1)
      rw [List.isEmpty_iff.mp h] at ch
      have e : f = 0 := ch
      intro hm
      obtain ⟨j, hj⟩ := List.getElem?_of_mem hm
      exact hn j (by omega) ((StrLaws.subAt_one t c j).mpr hj)
    · obtain ⟨f, ch, hn⟩ := StrLaws.occ_tight t ⟨#[c]⟩ (Nat.le_refl 1)
      rw [StrLaws.partsBetween_eq]
      have := parts_sp t c _ 0 f ch hn
      rw [List.drop_zero] at this
      exact this
def toS (l : List Nat) : Str := ⟨l.toArray⟩
theorem toS_codes (l : List Nat) : (toS l).cps.toList = l := by simp [toS]
theorem codes_toS (t : Str) : toS t.cps.toList = t := by simp [toS]
theorem toS_len (l : List Nat) : (toS l).length = l.length := by simp [toS, Str.length]
theorem split_eq (t : Str) (c : Nat) : Txt.split t ⟨#[c]⟩ = (sp c t.cps.toList).map toS := by
  rw [← split_sp, List.map_map]
  conv => lhs; rw [← List.map_id (Txt.split t ⟨#[c]⟩)]
  apply List.map_congr_left
  intro x _
  exact (codes_toS x).symm
theorem sp_mem_len {c : Nat} : ∀ {l p : List Nat}, p ∈ sp c l → p.length ≤ l.length
  | [], p, h => by
    have : p = [] := by simpa [sp] using h
    subst this
    exact Nat.le_refl _
  | x :: xs, p, h => by
    unfold sp at h
    by_cases e : x = c
    · rw [if_pos e] at h
      rcases List.mem_cons.mp h with rfl | h
      · exact Nat.zero_le _
      · exact Nat.le_succ_of_le (sp_mem_len h)
    · rw [if_neg e] at h
      obtain ⟨q, qs, eq⟩ := sp_ne c xs
      rw [eq] at h
      rcases List.mem_cons.mp h with rfl | h
      · exact Nat.succ_le_succ (sp_mem_len (c := c) (by rw [eq]; exact List.mem_cons_self))
      · exact Nat.le_succ_of_le (sp_mem_len (c := c) (by rw [eq]; exact List.mem_cons_of_mem _ h))
theorem sp_length (c : Nat) : ∀ l : List Nat, (sp c l).length ≤ l.length + 1
  | [] => Nat.le_refl _
  | x :: xs => by
    unfold sp
    have ih := sp_length c xs
    by_cases e : x = c
    · rw [if_pos e]; simp; omega
    · rw [if_neg e]
      obtain ⟨q, qs, eq⟩ := sp_ne c xs
      rw [eq] at ih ⊢
      simp at ih ⊢
      omega
/-- the first c in l -/
theorem first_of {c : Nat} : ∀ {l : List Nat}, c ∈ l → ∃ p r, l = p ++ c :: r ∧ c ∉ p
  | x :: xs, h => by
    by_cases e : x = c
    · subst e; exact ⟨[], xs, rfl, List.not_mem_nil⟩
    · rcases List.mem_cons.mp h with h | h
      · exact absurd h.symm e
      · obtain ⟨p, r, e1, e2⟩ := first_of h
        exact ⟨x :: p, r, by rw [e1]; rfl, fun z => (List.mem_cons.mp z).elim (fun q => e q.symm) e2⟩
/-! ### running a mirror, by what holds at its end -/
def Rn (g : Ev → Option Fl) (ρ : Ev) (Q : Fl → Prop) : Prop := ∃ r, g ρ = some r ∧ Q r
def Nx (P : Ev → Prop) : Fl → Prop
  | .nx ρ => P ρ
  | _ => False
section
variable {f g b : Ev → Option Fl} {ρ : Ev} {Q : Fl → Prop} {P : Ev → Prop}
theorem Rn.mono {Q' : Fl → Prop} (h : Rn g ρ Q) (i : ∀ r, Q r → Q' r) : Rn g ρ Q' := let ⟨r, e, q⟩ := h; ⟨r, e, i r q⟩
theorem Rn.sq (h : Rn f ρ fun r => match r with | .nx ρ' => Rn g ρ' Q | r => Q r) : Rn (sq f g) ρ Q := by
  obtain ⟨r, e, h⟩ := h
  unfold Rn PD.sq
  rw [e, Option.bind_some]
  cases r with
  | nx ρ' => exact h
  | rt o ρ' => exact ⟨_, rfl, h⟩
  | bk ρ' => exact ⟨_, rfl, h⟩
  | ct ρ' => exact ⟨_, rfl, h⟩
  | ex x ρ' => exact ⟨_, rfl, h⟩
theorem Rn.sqN (h : Rn f ρ (Nx P)) (k : ∀ ρ', P ρ' → Rn g ρ' Q) : Rn (PD.sq f g) ρ Q := Rn.sq (h.mono fun r q => by
  cases r with
  | nx ρ' => exact k ρ' q
  | _ => exact q.elim)
theorem Rn.st {i : Nat} {e : Ev → Option D} {d : D} (h : e ρ = some d) (k : Q (.nx (ρ.set i (.dat d)))) : Rn (stV i e) ρ Q := ⟨_, by unfold stV; rw [h]; rfl, k⟩
theorem Rn.stO {i : Nat} {e : Ev → Option O} {o : O} (h : e ρ = some o) (k : Q (.nx (ρ.set i o))) : Rn (PD.stO i e) ρ Q := ⟨_, by unfold PD.stO; rw [h]; rfl, k⟩
theorem Rn.skip (k : Q (.nx ρ)) : Rn PD.skip ρ Q := ⟨_, rfl, k⟩
theorem Rn.ret {e : Ev → Option D} {d : D} (h : e ρ = some d) (k : Q (.rt (.dat d) ρ)) : Rn (rtV e) ρ Q := ⟨_, by unfold rtV; rw [h]; rfl, k⟩
theorem Rn.ite {c : Ev → Option Bool} {t : Bool} (h : c ρ = some t) (h1 : t = true → Rn f ρ Q) (h2 : t = false → Rn g ρ Q) : Rn (ifS c f g) ρ Q := by
  unfold Rn ifS
  rw [h]
  cases t with
  | true => exact h1 rfl
  | false => exact h2 rfl
theorem Rn.app {i : Nat} {e : Ev → Option D} {d : D} {os : List O} (h : e ρ = some d) (ho : ρ[i]? = some (.lst os)) (hl : os.length < sizeLine) (k : Q (.nx (ρ.set i (.lst (os ++ [.dat d]))))) : Rn (PD.app i e) ρ Q := by
  refine ⟨_, ?_, k⟩
  unfold PD.app
  rw [h, Option.bind_some, ho]
  simp only []
  rw [if_pos hl]
theorem Rn.fz {i : Nat} {o : O} {d : D} (ho : ρ[i]? = some o) (hd : o.toD = some d) (k : Rn g (ρ.set i (.dat d)) Q) : Rn (PD.fz i g) ρ Q := by
  unfold Rn PD.fz
  rw [ho]
  simp only [hd, Option.bind_some]
  exact k
/-- a for by an invariant -/
theorem Rn.for {fi : Ev → Option (List D)} {gt : D → Ev → Option Ev} {ds : List D} (h : fi ρ = some ds) (I : Nat → Ev → Prop) (h0 : I 0 ρ)
    (hs : ∀ i d ρ, ds[i]? = some d → I i ρ → ∃ ρ1, gt d ρ = some ρ1 ∧ Rn b ρ1 fun r => match r with | .nx ρ2 => I (i + 1) ρ2 | .ct ρ2 => I (i + 1) ρ2 | .bk ρ2 => Q (.nx ρ2) | r => Q r) (k : ∀ ρ', I ds.length ρ' → Q (.nx ρ')) : Rn (forS fi gt b) ρ Q := by
  unfold Rn forS
  rw [h, Option.bind_some]
  clear h
  have key : ∀ (es : List D) (n : Nat) (ρ : Ev), n + es.length = ds.length → (∀ i d, es[i]? = some d → ds[n + i]? = some d) → I n ρ → ∃ r, loop gt b es ρ = some r ∧ Q r := by
    intro es
    induction es with
    | nil => intro n ρ hn _ hi; exact ⟨_, rfl, k ρ (by rw [← hn]; exact hi)⟩
    | cons d es ih =>
      intro n ρ hn hd hi
      obtain ⟨ρ1, e1, r, e2, q⟩ := hs n d ρ (by have := hd 0 d rfl; simpa using this) hi
      unfold loop
      rw [e1, Option.bind_some, e2, Option.bind_some]
      have nxt : ∀ ρ2, I (n + 1) ρ2 → ∃ r, loop gt b es ρ2 = some r ∧ Q r := fun ρ2 h2 => ih (n + 1) ρ2 (by rw [← hn, List.length_cons]; omega) (fun i d' h' => by
        have := hd (i + 1) d' (by simpa using h')
        rw [show n + 1 + i = n + (i + 1) by omega]; exact this) h2
      cases r with
      | nx ρ2 => exact nxt ρ2 q
      | ct ρ2 => exact nxt ρ2 q
      | bk ρ2 => exact ⟨_, rfl, q⟩
      | rt o ρ2 => exact ⟨_, rfl, q⟩
      | ex x ρ2 => exact ⟨_, rfl, q⟩
  exact key ds 0 ρ (by simp) (fun i d h => by simpa using h) h0
theorem Rn.while {c : Ev → Option Bool} (μ : Ev → Nat) (I : Ev → Prop) (h0 : I ρ) (hs : ∀ ρ, I ρ → ∃ t, c ρ = some t ∧ (t = true → Rn b ρ fun r => match r with | .nx ρ2 => I ρ2 ∧ μ ρ2 < μ ρ | .ct ρ2 => I ρ2 ∧ μ ρ2 < μ ρ | .bk ρ2 => Q (.nx ρ2) | r => Q r) ∧ (t = false → Q (.nx ρ))) :
    Rn (whileS c b) ρ Q := by
  have key : ∀ (n : Nat) (ρ : Ev), μ ρ < n → I ρ → ∃ r, wl c b n ρ = some r ∧ Q r := by
    intro n
    induction n with
    | zero => intro ρ h _; omega
    | succ n ih =>
      intro ρ hm hi
      obtain ⟨t, ht, h1, h2⟩ := hs ρ hi
      unfold wl
      rw [ht, Option.bind_some]
      cases t with
      | false => exact ⟨_, rfl, h2 rfl⟩
      | true =>
        obtain ⟨r, e, q⟩ := h1 rfl
        rw [if_pos rfl, e, Option.bind_some]
        cases r with
        | nx ρ2 => exact ih ρ2 (by have := q.2; omega) q.1
        | ct ρ2 => exact ih ρ2 (by have := q.2; omega) q.1
        | bk ρ2 => exact ⟨_, rfl, q⟩
        | rt o ρ2 => exact ⟨_, rfl, q⟩
        | ex x ρ2 => exact ⟨_, rfl, q⟩
  obtain ⟨r, e, q⟩ := key _ ρ (Nat.lt_succ_self _) h0
  exact ⟨r, whileS_of e, q⟩
theorem runP_of {n : Nat} {ds : List D} {R : D → Prop} (h : Rn b (env0 n ds) fun r => ∃ o d, outO r = some o ∧ o.toD = some d ∧ R d) : ∃ d, runP n b ds = some d ∧ R d := by
  obtain ⟨r, e, o, d, e2, e3, hr⟩ := h
  exact ⟨d, by unfold runP runO; rw [e, Option.bind_some, e2, Option.bind_some, e3], hr⟩
theorem runP_eq {n : Nat} {ds : List D} {d : D} (h : Rn b (env0 n ds) fun r => ∃ o, outO r = some o ∧ o.toD = some d) : runP n b ds = some d := by
  obtain ⟨r, e, o, e2, e3⟩ := h
  unfold runP runO
  rw [e, Option.bind_some, e2, Option.bind_some, e3]
end
theorem lcD_of {fi : Ev → Option (List D)} {g : D → Ev → Option Ev} {t : Ev → Option Bool} {f : Ev → Option D} {vs : List Nat} {ρ ρw : Ev} {ds ys : List D} (hw : okW ρ vs = true) (hi : fi ρ = some ds) (hρ : wipeO ρ vs = ρw) (hc : comp g t f ρw ds = some ys) (hl : ys.length ≤ sizeLine) : lcD fi g t f vs ρ = some (.lst ys) := by
  unfold lcD
  rw [if_pos hw, hi, Option.bind_some, hρ, hc, Option.bind_some, if_pos hl]
theorem lcO_of {fi : Ev → Option (List D)} {g : D → Ev → Option Ev} {t : Ev → Option Bool} {f : Ev → Option D} {vs : List Nat} {ρ ρw : Ev} {ds ys : List D} (hw : okW ρ vs = true) (hi : fi ρ = some ds) (hρ : wipeO ρ vs = ρw) (hc : comp g t f ρw ds = some ys) (hl : ys.length ≤ sizeLine) : lcO fi g t f vs ρ = some (.lst (ys.map .dat)) := by
  unfold lcO
  rw [if_pos hw, hi, Option.bind_some, hρ, hc, Option.bind_some, if_pos hl]
theorem len_le {n : Nat} (h : n ≤ 1000000) : n ≤ sizeLine := Nat.le_trans h (by decide)
/-! ### values of mirrors, part by part -/
section
variable {ρ : Ev} {fa fb : Ev → Option D} {x y d : D}
theorem b2_of {g : D → D → Option D} (h1 : fa ρ = some x) (h2 : fb ρ = some y) : b2 fa fb g ρ = g x y := by unfold b2; rw [h1, h2]; rfl
theorem b1_of {g : D → Option D} (h1 : fa ρ = some x) : b1 fa g ρ = g x := by unfold b1; rw [h1]; rfl
theorem aC {g : Ev → Option (List D)} {ds : List D} (h1 : fa ρ = some x) (h2 : g ρ = some ds) : aCons fa g ρ = some (x :: ds) := by unfold aCons; rw [h1, h2]; rfl
theorem aC1 (h1 : fa ρ = some x) : aCons fa aNil ρ = some [x] := aC h1 rfl
theorem aC2 (h1 : fa ρ = some x) (h2 : fb ρ = some y) : aCons fa (aCons fb aNil) ρ = some [x, y] := aC h1 (aC1 h2)
theorem cB_of' {g : Ev → Option (List D)} {f : List D → Option D} {ds : List D} (h : g ρ = some ds) : cB g f ρ = f ds := by unfold cB; rw [h]; rfl
theorem len_of {n : Nat} {m : List D → Option D} {ds : List D} (h : ds.length = n) : len? n m ds = m ds := by unfold len?; rw [if_pos h]
theorem call_of {g : Ev → Option (List D)} {n : Nat} {m : List D → Option D} {ds : List D} (h : g ρ = some ds) (hl : ds.length = n) : cB g (len? n m) ρ = m ds := (cB_of' h).trans (len_of hl)
theorem int_of {i : Int} (h : fa ρ = some (.int i)) : cB (aCons fa aNil) intD ρ = some (.int i) := cB_of' (aC1 h)
theorem lenS_of {z : Str} (h : fa ρ = some (.str z)) (hl : z.length ≤ 1000000) : cB (aCons fa aNil) lenD ρ = some (.int z.length) := by
  rw [cB_of' (aC1 h)]
  show (if z.length ≤ sizeLine then _ else _) = _
  rw [if_pos (len_le hl)]
theorem lenL_of {ds : List D} (h : fa ρ = some (.lst ds)) : cB (aCons fa aNil) lenD ρ = some (.int ds.length) := cB_of' (aC1 h)
theorem add_of {i j : Int} (h1 : fa ρ = some (.int i)) (h2 : fb ρ = some (.int j)) : b2 fa fb addD ρ = some (.int (i + j)) := b2_of h1 h2
theorem sub_of {i j : Int} (h1 : fa ρ = some (.int i)) (h2 : fb ρ = some (.int j)) : b2 fa fb subI ρ = some (.int (i - j)) := b2_of h1 h2
theorem mul_of {i j : Int} (h1 : fa ρ = some (.int i)) (h2 : fb ρ = some (.int j)) (hc : okMul i j = true) : b2 fa fb mulI ρ = some (.int (i * j)) := by
  rw [b2_of h1 h2]
  show (if okMul i j = true then _ else _) = _
  rw [if_pos hc]
theorem mod_of {i j : Int} (h1 : fa ρ = some (.int i)) (h2 : fb ρ = some (.int j)) (hc : 0 < j) : b2 fa fb modI ρ = some (.int (i % j)) := by
  rw [b2_of h1 h2]
  show (if decide (0 < j) = true then _ else _) = _
  rw [if_pos (decide_eq_true hc)]
theorem div_of {i j : Int} (h1 : fa ρ = some (.int i)) (h2 : fb ρ = some (.int j)) (hc : 0 < j ∧ j < 1073741824) : b2 fa fb divI ρ = some (.int (i / j)) := by
  rw [b2_of h1 h2]
  show (if decide (0 < j ∧ j < 1073741824) = true then _ else _) = _
  rw [if_pos (decide_eq_true hc)]
theorem cat_of {i j : Str} (h1 : fa ρ = some (.str i)) (h2 : fb ρ = some (.str j)) (hc : i.length + j.length ≤ 1000000) : b2 fa fb addD ρ = some (.str (i ++ j)) := by
  rw [b2_of h1 h2]
  show (match addI (.str i) (.str j) with | some d => some d | none => addS (.str i) (.str j)) = _
  show (if decide (i.length + j.length ≤ sizeLine) = true then some (D.str (i ++ j)) else none) = _
  rw [if_pos (decide_eq_true (len_le hc))]
theorem ixL_of {ds : List D} {i : Int} (h1 : fa ρ = some (.lst ds)) (h2 : fb ρ = some (.int i)) : b2 fa fb ixD ρ = atI ds i := b2_of h1 h2
theorem ixS_of {z : Str} {i : Int} {c : Nat} (h1 : fa ρ = some (.str z)) (h2 : fb ρ = some (.int i)) (hl : z.length ≤ 1000000) (hc : atI z.cps.toList i = some c) : b2 fa fb ixD ρ = some (.str ⟨#[c]⟩) := by
  rw [b2_of h1 h2]
  show (if z.length ≤ sizeLine then (atI z.cps.toList i).map _ else none) = _
  rw [if_pos (len_le hl), hc]
  rfl
theorem slc_of {lo hi : Ev → Option (Option Int)} {a b : Option Int} (h : fa ρ = some x) (h1 : lo ρ = some a) (h2 : hi ρ = some b) : slc fa lo hi ρ = slD x a b := by unfold slc; rw [h, h1, h2]; rfl
theorem part_of {i : Int} (h : fa ρ = some (.int i)) : part fa ρ = some (some i) := by unfold part; rw [h]
theorem slS_of {lo hi : Ev → Option (Option Int)} {a b : Option Int} {z : Str} (h : fa ρ = some (.str z)) (h1 : lo ρ = some a) (h2 : hi ρ = some b) (hl : z.length ≤ 1000000) : slc fa lo hi ρ = some (.str (cutS z a b)) := by
  rw [slc_of h h1 h2]
  show (if z.length ≤ sizeLine then _ else _) = _
  rw [if_pos (len_le hl)]
theorem slL_of {lo hi : Ev → Option (Option Int)} {a b : Option Int} {ds : List D} (h : fa ρ = some (.lst ds)) (h1 : lo ρ = some a) (h2 : hi ρ = some b) : slc fa lo hi ρ = some (.lst (cutD ds a b)) := slc_of h h1 h2
theorem asB_of {b : Bool} (h : fa ρ = some (.bl b)) : asB fa ρ = some b := by unfold asB; rw [h]
theorem eqI_of {i j : Int} (h1 : fa ρ = some (.int i)) (h2 : fb ρ = some (.int j)) : b2 fa fb eqD ρ = some (.bl (decide (i = j))) := b2_of h1 h2
theorem neI_of {i j : Int} (h1 : fa ρ = some (.int i)) (h2 : fb ρ = some (.int j)) : b2 fa fb neD ρ = some (.bl (!decide (i = j))) := b2_of h1 h2
theorem eqS_of {i j : Str} (h1 : fa ρ = some (.str i)) (h2 : fb ρ = some (.str j)) : b2 fa fb eqD ρ = some (.bl (decide (i = j))) := b2_of h1 h2
theorem neS_of {i j : Str} (h1 : fa ρ = some (.str i)) (h2 : fb ρ = some (.str j)) : b2 fa fb neD ρ = some (.bl (!decide (i = j))) := b2_of h1 h2
theorem lt_of {i j : Int} (h1 : fa ρ = some (.int i)) (h2 : fb ρ = some (.int j)) : b2 fa fb ltI ρ = some (.bl (decide (i < j))) := b2_of h1 h2
theorem le_of {i j : Int} (h1 : fa ρ = some (.int i)) (h2 : fb ρ = some (.int j)) : b2 fa fb leI ρ = some (.bl (decide (i ≤ j))) := b2_of h1 h2
theorem gt_of {i j : Int} (h1 : fa ρ = some (.int i)) (h2 : fb ρ = some (.int j)) : b2 fa fb gtI ρ = some (.bl (decide (j < i))) := b2_of h1 h2
theorem ge_of {i j : Int} (h1 : fa ρ = some (.int i)) (h2 : fb ρ = some (.int j)) : b2 fa fb geI ρ = some (.bl (decide (j ≤ i))) := b2_of h1 h2
theorem andV_t (h1 : fa ρ = some (.bl true)) : andV fa fb ρ = fb ρ := by unfold andV; rw [h1]
theorem andV_f (h1 : fa ρ = some (.bl false)) : andV fa fb ρ = some (.bl false) := by unfold andV; rw [h1]
theorem orV_t (h1 : fa ρ = some (.bl true)) : orV fa fb ρ = some (.bl true) := by unfold orV; rw [h1]
theorem orV_f (h1 : fa ρ = some (.bl false)) : orV fa fb ρ = fb ρ := by unfold orV; rw [h1]
theorem andV_of {a b : Bool} (h1 : fa ρ = some (.bl a)) (h2 : a = true → fb ρ = some (.bl b)) : andV fa fb ρ = some (.bl (a && b)) := by
  cases a with
  | true => rw [andV_t h1, h2 rfl]; rfl
  | false => rw [andV_f h1]; rfl
theorem orV_of {a b : Bool} (h1 : fa ρ = some (.bl a)) (h2 : a = false → fb ρ = some (.bl b)) : orV fa fb ρ = some (.bl (a || b)) := by
  cases a with
  | true => rw [orV_t h1]; rfl
  | false => rw [orV_f h1, h2 rfl]; rfl
theorem notV_of {a : Bool} (h1 : fa ρ = some (.bl a)) : notV fa ρ = some (.bl (!a)) := by unfold notV; rw [h1]
theorem ifV_of {c : Ev → Option Bool} {b : Bool} (h : c ρ = some b) : ifV c fa fb ρ = if b = true then fa ρ else fb ρ := by
  unfold ifV; rw [h]; cases b <;> rfl
theorem andT_of {f g : Ev → Option Bool} {a b : Bool} (h1 : f ρ = some a) (h2 : a = true → g ρ = some b) : andT f g ρ = some (a && b) := by
  unfold andT; rw [h1]; cases a with
  | true => rw [Bool.true_and]; exact h2 rfl
  | false => rfl
theorem orT_of {f g : Ev → Option Bool} {a b : Bool} (h1 : f ρ = some a) (h2 : a = false → g ρ = some b) : orT f g ρ = some (a || b) := by
  unfold orT; rw [h1]; cases a with
  | true => rfl
  | false => rw [Bool.false_or]; exact h2 rfl
theorem notT_of {f : Ev → Option Bool} {a : Bool} (h1 : f ρ = some a) : notT f ρ = some (!a) := by unfold notT; rw [h1]; rfl
theorem rng1_of {n : Nat} (h : fa ρ = some (.int n)) (hn : n ≤ 1000000) : rng1 fa ρ = some (rangeD 0 n) := by
  unfold rng1
  rw [h]
  show (if _ then _ else _) = _
  rw [if_pos (by omega), Int.toNat_natCast]
theorem iOf_of {ds : List D} (h : fa ρ = some x) (hs : seqD x = some ds) : iOf fa ρ = some ds := by unfold iOf; rw [h]; exact hs
theorem mkL_of {g : Ev → Option (List D)} {ds : List D} (h : g ρ = some ds) (hl : ds.length ≤ 1000000) : mkLst g ρ = some (.lst ds) := by unfold mkLst; rw [h, Option.bind_some, if_pos (len_le hl)]
theorem mkT_of {g : Ev → Option (List D)} {ds : List D} (h : g ρ = some ds) (hl : ds.length ≤ 1000000) : mkTup g ρ = some (.tup ds) := by unfold mkTup; rw [h, Option.bind_some, if_pos (len_le hl)]
end
theorem cut_from {α : Type} (xs : List α) (k : Nat) : cutD xs (some (k : Int)) none = xs.drop k := by
  unfold cutD
  rw [HT.sIx_nat, HT.sIx_none]
  rw [List.take_of_length_le (by rw [List.length_drop]; omega)]
  by_cases h : k ≤ xs.length
  · rw [Nat.min_eq_left h]
  · rw [Nat.min_eq_right (by omega), List.drop_length, List.drop_eq_nil_of_le (by omega)]
theorem cut_to {α : Type} (xs : List α) (k : Nat) : cutD xs none (some (k : Int)) = xs.take k := by
  unfold cutD
  rw [HT.sIx_nat, HT.sIx_none, List.drop_zero, Nat.sub_zero]
  by_cases h : k ≤ xs.length
  · rw [Nat.min_eq_left h]
  · rw [Nat.min_eq_right (by omega), List.take_length, List.take_of_length_le (by omega)]
theorem cutS_codes (z : Str) (lo hi : Option Int) : (cutS z lo hi).cps.toList = cutD z.cps.toList lo hi := by
  unfold cutS cutD
  rw [str_len]
/-- the item at a place -/
theorem at_get {α : Type} {xs : List α} {j : Nat} (h : j < xs.length) : atI xs (j : Int) = some xs[j] := atI_nat (List.getElem?_eq_getElem h)
theorem at_ints {rs : List Int} {j : Nat} (h : j < rs.length) : atI (rs.map D.int) (j : Int) = some (.int rs[j]) := atI_nat (by rw [List.getElem?_map, List.getElem?_eq_getElem h]; rfl)
theorem mod_nat (x : Int) {m : Nat} (h : 0 < m) : ∃ n : Nat, x % (m : Int) = (n : Int) ∧ n < m := by
  obtain ⟨n, e⟩ := Int.eq_ofNat_of_zero_le (Int.emod_nonneg x (show (m : Int) ≠ 0 by omega))
  have := Int.emod_lt_of_pos x (show (0 : Int) < (m : Int) by omega)
  exact ⟨n, e, by omega⟩
theorem range_get {lo : Int} {n i : Nat} {d : D} (h : (rangeD lo n)[i]? = some d) : i < n ∧ d = .int (lo + i) := by
  unfold rangeD at h
  rw [List.getElem?_map] at h
  cases q : (List.range n)[i]? with
  | none => rw [q] at h; cases h
  | some j =>
    rw [q] at h
    have hl : i < n := by
      have := (List.getElem?_eq_some_iff.mp q).1
      simpa using this
    rw [List.getElem?_range hl] at q
    cases q
    exact ⟨hl, (Option.some.inj h).symm⟩
theorem rangeD_len (lo : Int) (n : Nat) : (rangeD lo n).length = n := by simp [rangeD]
theorem toDs_ints (rs : List Int) : O.toDs (rs.map fun r => .dat (.int r)) = some (rs.map .int) := by
  have := toDs_dat (rs.map D.int)
  rw [List.map_map] at this
  exact this
theorem okMulR {i j : Int} (h : -(2 ^ 64) < j ∧ j < 2 ^ 64) : okMul i j = true := by
  unfold okMul
  exact decide_eq_true (.inr h)
theorem okMulL {i j : Int} (h : -(2 ^ 64) < i ∧ i < 2 ^ 64) : okMul i j = true := by
  unfold okMul
  exact decide_eq_true (.inl h)
theorem str_eq (x y : Str) : x = y ↔ x.cps.toList = y.cps.toList := by
  constructor
  · rintro rfl; rfl
  · intro h
    cases x; cases y
    congr 1
    exact Array.toList_inj.mp h
theorem end_of {K : PySem.W.Frag} {H : Hp} {a : Addr} {m : List D → Option D} {n : Nat} {E : XK} (hm : ∀ ns : List Int, ns.length ≤ n → m [.lst (ns.map .int)] = some (.bl true)) {ns : List Int} (hl : ns.length ≤ n) (hS : SqX K H a (ns.map V.int)) : spP K 1 m [.ref a] H (fun v _ => v = .bl true) E :=
  ⟨rfl, H, [], [], [.lst (ns.map .int)], .bl true, ⟨Same.refl _, [], .nil, List.nodup_nil, fun _ h => nomatch h⟩, .cons (.lst hS (ints_dvs ns)) .nil, hm ns hl, fun _ _ v _ _ d => by cases d; rfl⟩
end PD

namespace PD
open PySem PySem.Spec L2

/-! ### own things looked at as data -/
def O.vw (o : O) : O := match o.toD with
  | some d => .dat d
  | none => .unk
def flatD : D → Bool
  | .non => true
  | .bl _ => true
  | .int _ => true
  | .str _ => true
  | _ => false
theorem Dv.flat {K : PySem.W.Frag} {M M' : Hp} {v : V} {d : D} (h : Dv K M v d) (f : flatD d = true) : Dv K M' v d := by
  cases h with
  | non => exact .non
  | bl b => exact .bl b
  | int i => exact .int i
  | str x => exact .str x
  | lst _ _ => cases f
  | tup _ _ => cases f
  | dic _ _ _ => cases f
  | obj _ _ _ _ => cases f
  | exn0 => cases f
  | exn1 _ _ _ => cases f
section
variable {K : PySem.W.Frag} {M H : Hp}
theorem Ows.view {Ma : Hp} (s : Same M Ma) : ∀ {os : List O} {vs : List (Option V)} {fp : List Addr}, Ows K M H os vs fp → (∀ a ∈ fp, Ma a = H a) → Ows K Ma H (os.map O.vw) vs []
  | _, _, _, .nil, _ => .nil
  | o :: _, _, _, .cons (v := v) (f1 := f1) h hs, k => by
    have t := Ows.view s hs fun a ha => k a (List.mem_append_right _ ha)
    have e : ([] : List Addr) = [] ++ [] := rfl
    rw [e, List.map_cons]
    refine .cons ?_ t
    unfold O.vw
    cases q : o.toD with
    | none => exact .unk
    | some d =>
      cases v with
      | none => cases h; unfold O.toD at q; cases q
      | some v => exact .dat (Ow.frz s h (fun a ha => k a (List.mem_append_left _ ha)) q)
theorem Rep.view {ρ fo : List O} {σ fv : List (Option V)} (R : Rep K M H (ρ ++ fo) (σ ++ fv)) (l : σ.length = ρ.length) :
    ∃ Ma, Same M Ma ∧ Rep K Ma H (ρ.map O.vw ++ []) (σ ++ []) ∧ ∀ M2 H', Same Ma M2 → Same M2 H' → Rep K M H' (ρ ++ fo) (σ ++ fv) := by
  obtain ⟨sm, fp, w, nd, nm⟩ := R
  obtain ⟨fa, fb, e, w1, w2⟩ := w.split l
  have s1 : Same M (fun a => if a ∈ fp then H a else M a) := fun b y q => by
    have : b ∉ fp := fun z => by rw [nm b z] at q; cases q
    show (if b ∈ fp then H b else M b) = some y
    rw [if_neg this]; exact q
  have s2 : Same (fun a => if a ∈ fp then H a else M a) H := fun b y q => by
    have q : (if b ∈ fp then H b else M b) = some y := q
    split at q
    · exact q
    · exact sm b y q
  refine ⟨_, s1, ⟨s2, [], ?_, List.nodup_nil, fun a ha => nomatch ha⟩, fun M2 H' k1 k2 => ⟨?_, fp, w.frame (Same.refl _) fun a ha => ?_, nd, nm⟩⟩
  · rw [List.append_nil, List.append_nil]
    exact Ows.view s1 w1 fun a ha => if_pos (by rw [e]; exact List.mem_append_left _ ha)
  · exact s1.trans (k1.trans k2)
  · have hd := w.dom a ha
    cases q : H a with
    | none => exact absurd q hd
    | some u => exact k2 _ _ (k1 _ _ (show (if a ∈ fp then H a else M a) = some u by rw [if_pos ha]; exact q))
end
def vwP (f : Ev → Option D) (ρ : Ev) : Option D := (f (ρ.map O.vw)).bind fun d => if flatD d = true then some d else none
def vwT (f : Ev → Option Bool) (ρ : Ev) : Option Bool := f (ρ.map O.vw)
section
variable {X : Cx} {W : WX} {pos : Pos} {e : Expr}
theorem pVw {f : Ev → Option D} (h : PE X e (tP X.K f)) : PE X e (tP X.K (vwP f)) := PE.imp h fun σ H Q ⟨M, ρ, fo, fv, d, R, l, e, k⟩ => by
  unfold vwP at e
  cases q : f (ρ.map O.vw) with
  | none => rw [q] at e; cases e
  | some d' =>
    rw [q, Option.bind_some] at e
    split at e
    · rename_i hf
      cases e
      obtain ⟨Ma, s1, R1, back⟩ := R.view l
      exact ⟨Ma, ρ.map O.vw, [], [], _, R1, by simpa using l, q, fun M2 H2 v s2 R2 d2 => k M H2 v (Same.refl _) (back M2 H2 s2 R2.same) (d2.flat hf)⟩
    · cases e
theorem tVw {f : Ev → Option Bool} (h : PT X e (tT X.K f)) : PT X e (tT X.K (vwT f)) := PT.imp h fun σ H Q ⟨M, ρ, fo, fv, d, R, l, e, k⟩ => by
  obtain ⟨Ma, s1, R1, back⟩ := R.view l
  exact ⟨Ma, ρ.map O.vw, [], [], d, R1, by simpa using l, e, fun M2 H2 s2 R2 => k M H2 (Same.refl _) (back M2 H2 s2 R2.same)⟩
end


/-! ### an own thing in a slot is changed -/
section
variable {K : PySem.W.Frag} {M H : Hp}
theorem Ows.at_ {os : List O} {vs : List (Option V)} {fp : List Addr} {k : Nat} {o : O} (w : Ows K M H os vs fp) (e : os[k]? = some o) : ∃ v fa f fb, vs[k]? = some v ∧ fp = fa ++ (f ++ fb) ∧ Ow K M H o v f ∧
    ∀ {M' H' : Hp} {o' : O} {f' : List Addr}, Same M M' → (∀ a ∈ fa ++ fb, H' a = H a) → Ow K M' H' o' v f' → Ows K M' H' (os.set k o') vs (fa ++ (f' ++ fb)) := by
  induction os generalizing k vs fp with
  | nil => simp at e
  | cons o1 os ih =>
    cases w with
    | cons h hs =>
      rename_i v f1 vs f2
      cases k with
      | zero =>
        simp at e
        subst e
        refine ⟨v, [], f1, f2, rfl, rfl, h, fun {M' H' o' f'} s k h' => ?_⟩
        show Ows K M' H' (o' :: os) (v :: vs) (f' ++ f2)
        exact .cons h' (hs.frame s fun a ha => k a ha)
      | succ k =>
        obtain ⟨v', fa, f, fb, e1, e2, h', up⟩ := ih hs (by simpa using e)
        refine ⟨v', f1 ++ fa, f, fb, by simpa using e1, by rw [e2, List.append_assoc], h', fun s kk h'' => ?_⟩
        have := Ows.cons (h.frame s fun a ha => kk a (by simp [ha])) (up s (fun a ha => kk a (by simp at ha ⊢; rcases ha with ha | ha <;> simp [ha])) h'')
        rw [List.append_assoc]
        exact this
/-- the thing in slot i, and temporaries that may go into it -/
theorem Rep.own {ρ tmp fo : List O} {σ tv fv : List (Option V)} (R : Rep K M H (ρ ++ (tmp ++ fo)) (σ ++ (tv ++ fv))) (l : σ.length = ρ.length) (lt : tv.length = tmp.length) {i : Nat} {o : O} (e : ρ[i]? = some o) :
    ∃ v f ft, σ[i]? = some v ∧ Ow K M H o v f ∧ Ows K M H tmp tv ft ∧ (f ++ ft).Nodup ∧ (∀ b ∈ f ++ ft, M b = none) ∧
      ∀ (M' H' : Hp) (o' : O) (f' : List Addr), Same M M' → Same M' H' → (∀ b, b ∉ f → H b ≠ none → H' b = H b) → Ow K M' H' o' v f' → (∀ b, f'.count b ≤ f.count b + ft.count b) → (∀ b, M b = none → H b ≠ none → M' b = none) → Rep K M' H' (ρ.set i o' ++ fo) (σ ++ fv) := by
  obtain ⟨s, fp, w, nd, nm⟩ := R
  obtain ⟨f1, f2, e1, w1, w2⟩ := w.split l
  obtain ⟨ft, f3, e2, w3, w4⟩ := w2.split lt
  obtain ⟨v, fa, f, fb, ev, e3, h, up⟩ := w1.at_ e
  subst e1; subst e2; subst e3
  rw [List.nodup_iff_count] at nd
  have cnt : ∀ b, fa.count b + f.count b + fb.count b + ft.count b + f3.count b ≤ 1 := fun b => by
    have := nd b
    simp only [List.count_append] at this
    omega
  have out : ∀ b, b ∈ fa ∨ b ∈ fb ∨ b ∈ f3 → b ∉ f := fun b hb hf => by
    have c := cnt b
    have c1 := List.count_pos_iff.mpr hf
    rcases hb with hb | hb | hb
    · have := List.count_pos_iff.mpr hb; omega
    · have := List.count_pos_iff.mpr hb; omega
    · have := List.count_pos_iff.mpr hb; omega
  refine ⟨v, f, ft, ev, h, w3, ?_, fun b hb => nm b ?_, fun M' H' o' f' sM s' kk h' hc hM => ⟨s', (fa ++ (f' ++ fb)) ++ f3, ?_, ?_, fun b hb => ?_⟩⟩
  · rw [List.nodup_iff_count]
    intro b
    have := cnt b
    rw [List.count_append]; omega
  · rcases List.mem_append.mp hb with hb | hb <;> simp [hb]
  · have d1 : ∀ b ∈ fa ++ fb, H b ≠ none := fun b hb => w1.dom b (by rcases List.mem_append.mp hb with hb | hb <;> simp [hb])
    have d3 : ∀ b ∈ f3, H b ≠ none := fun b hb => w4.dom b hb
    exact (up sM (fun b hb => kk b (out b (by rcases List.mem_append.mp hb with hb | hb <;> simp [hb])) (d1 b hb)) h').append (w4.frame sM fun b hb => kk b (out b (.inr (.inr hb))) (d3 b hb))
  · rw [List.nodup_iff_count]
    intro b
    have c1 := cnt b
    have c2 := hc b
    simp only [List.count_append]; omega
  · have hpos := List.count_pos_iff.mpr hb
    have c2 := hc b
    simp only [List.count_append] at hpos
    have : b ∈ (fa ++ (f ++ fb)) ++ (ft ++ f3) := by
      rw [← List.count_pos_iff]
      simp only [List.count_append]; omega
    exact hM b (nm b this) (w.dom b this)
end

/-! ### objects: self.f = e on an own one -/
def putO (f : Str) (y : O) : List Str → List O → List Str × List O
  | k :: ks, o :: os => if k = f then (k :: ks, y :: os) else (k :: (putO f y ks os).1, o :: (putO f y ks os).2)
  | _, _ => ([f], [y])
section
variable {K : PySem.W.Frag} {M H : Hp}
theorem putO_keys {f : Str} {v : V} {y : O} : ∀ (fs : List (Str × V)) (os : List O), os.length = fs.length → (putF f v fs).map (·.1) = (putO f y (fs.map (·.1)) os).1
  | [], [], _ => rfl
  | (g, x) :: fs, o :: os, h => by
    unfold putF putO
    simp only [List.map_cons]
    by_cases e : g = f
    · rw [if_pos e, if_pos e]; rfl
    · rw [if_neg e, if_neg e]
      simp only [List.map_cons]
      rw [putO_keys fs os (by simpa using h)]
theorem putO_ows {f : Str} {v : V} {y : O} {fy : List Addr} (hy : Ow K M H y (some v) fy) : ∀ {fs : List (Str × V)} {os : List O} {fp : List Addr}, Ows K M H os (fs.map fun p => some p.2) fp →
    ∃ fp', Ows K M H (putO f y (fs.map (·.1)) os).2 ((putF f v fs).map fun p => some p.2) fp' ∧ ∀ b, fp'.count b ≤ fp.count b + fy.count b
  | [], _, _, .nil => ⟨fy ++ [], .cons hy .nil, fun b => by simp⟩
  | (g, x) :: fs, _, _, .cons (o := o) (f1 := f1) (f2 := f2) (os := os) h hs => by
    unfold putF putO
    simp only [List.map_cons]
    by_cases e : g = f
    · rw [if_pos e, if_pos e]
      exact ⟨fy ++ f2, .cons hy hs, fun b => by simp only [List.count_append]; omega⟩
    · rw [if_neg e, if_neg e]
      obtain ⟨fp', w, c⟩ := putO_ows (f := f) hy hs
      exact ⟨f1 ++ fp', .cons h w, fun b => by have := c b; simp only [List.count_append]; omega⟩
end
def put (C : Addr) (i : Nat) (f : Str) (g : Ev → Option O) (ρ : Ev) : Option Fl := (g ρ).bind fun y => match ρ[i]? with
  | some (.obj C' ks os) => if C' = C ∧ os.length < 1000 then some (.nx (ρ.set i (.obj C (putO f y ks os).1 (putO f y ks os).2))) else none
  | _ => none
section
variable {X : Cx} {W : WX} {J : List Nat} {pos p p' : Pos} {e : Expr}
theorem sPut {C : Addr} {i : Nat} {x f : Str} {g : Ev → Option O} (c : Cls X.K C) (n : NoAttr X.K C f) (hv : PE X (.Name x p) (tVar i)) (he : PE X e (tO X.K g)) (hs : swapsWith e (some (.Attribute (.Name x p) f p')) pos.line X.env = pure false := by rfl) :
    PS X (.Assign [.Attribute (.Name x p) f p'] e pos) (tS X.K W J (put C i f g)) := PS.imp (ps_fld hv he hs) fun E σ H ⟨M, ρ, fo, fv, r, σ0, R, l, e, k⟩ => by
  unfold put at e
  cases q : g ρ with
  | none => rw [q] at e; cases e
  | some y =>
    rw [q, Option.bind_some] at e
    split at e
    · rename_i C' ks os eo
      split at e
      · rename_i hc
        obtain ⟨rfl, hlen⟩ := hc
        cases e
        refine ⟨M, ρ, fo, fv, y, R, l.1, q, fun M1 H1 v s1 R1 => ?_⟩
        have R1' : Rep X.K M1 H1 (ρ ++ ([y] ++ fo)) (σ ++ ([some v] ++ fv)) := R1
        obtain ⟨w, f1, ft, ew, h1, h2, nd, nm, up⟩ := R1'.own l.1 rfl eo
        cases h1 with
        | obj ha hdx hk ws =>
          rename_i a dx fs fp
          cases h2 with
          | cons hy hnil =>
            cases hnil
            rename_i fy
            refine ⟨.ref a, ew, a, C', dx, fs, rfl, ha, c, n, by rw [← List.length_map (f := fun p : Str × V => some p.2), ws.length]; exact hlen, ?_⟩
            have hd : ∀ b, b ∈ fp ∨ b ∈ fy → b ≠ a := fun b hb z => by
              subst z
              rw [List.nodup_iff_count] at nd
              have := nd b
              simp only [List.count_append, List.count_cons, beq_self_eq_true, if_true] at this
              rcases hb with hb | hb
              · have := List.count_pos_iff.mpr hb; omega
              · have := List.count_pos_iff.mpr hb; omega
            have hda : dx ≠ a := fun z => by
              rw [z, ha] at hdx; cases hdx
            have ma : M1 a = none := nm a (by simp)
            have sm : Same M1 (upd H1 a (.ins C' dx (putF f v fs))) := fun b u q => by
              rw [upd_ne (fun z => by subst z; rw [ma] at q; cases q)]; exact R1.same b u q
            obtain ⟨fp', w', cw⟩ := putO_ows (f := f) (hy.frame (Same.refl _) (H' := upd H1 a (.ins C' dx (putF f v fs))) fun b hb => upd_ne (hd b (.inr hb))) (ws.frame (Same.refl _) (H' := upd H1 a (.ins C' dx (putF f v fs))) fun b hb => upd_ne (hd b (.inl hb)))
            refine k M1 _ σ s1 (up M1 _ _ (a :: dx :: fp') (Same.refl _) sm (fun b hb _ => upd_ne fun z => hb (by simp [z])) (.obj upd_same (by rw [upd_ne hda]; exact hdx) ?_ ?_) (fun b => ?_) fun b hb _ => hb) (l.setR _)
            · rw [putO_keys (y := y) fs os (by rw [← ws.length]; simp), hk]
            · rw [hk] at w'; exact w'
            · have := cw b
              simp only [List.append_nil, List.count_cons, List.count_append] at this ⊢
              omega
      · cases e
    · cases e
end
end PD

namespace PD
open PySem PySem.Spec L2

section
variable {K : PySem.W.Frag} {M H : Hp}
theorem Rep.dropM {l m r : List O} {lv mv rv : List (Option V)} (R : Rep K M H (l ++ (m ++ r)) (lv ++ (mv ++ rv))) (e : lv.length = l.length) (e2 : mv.length = m.length) : Rep K M H (l ++ r) (lv ++ rv) := by
  obtain ⟨s, fp, w, nd, nm⟩ := R
  obtain ⟨fa, fb, e1, w1, w2⟩ := w.split e
  obtain ⟨fm, fr, e3, w3, w4⟩ := w2.split e2
  subst e1; subst e3
  refine ⟨s, fa ++ fr, w1.append w4, nd.sublist (List.Sublist.append (List.Sublist.refl _) (List.sublist_append_right _ _)), fun a ha => nm a ?_⟩
  rcases List.mem_append.mp ha with ha | ha <;> simp [ha]
theorem Rep.swap {l r : List O} {lv rv : List (Option V)} {o : O} {v : Option V} (R : Rep K M H (o :: (l ++ r)) (v :: (lv ++ rv))) (e : lv.length = l.length) : Rep K M H (l ++ o :: r) (lv ++ v :: rv) := by
  obtain ⟨s, fp, w, nd, nm⟩ := R
  cases w with
  | cons h hs =>
    rename_i f1 f2
    obtain ⟨fa, fb, e1, w1, w2⟩ := hs.split e
    subst e1
    have pm : (fa ++ (f1 ++ fb)).Perm (f1 ++ (fa ++ fb)) := by
      rw [← List.append_assoc, ← List.append_assoc]
      exact List.Perm.append_right fb List.perm_append_comm
    exact ⟨s, fa ++ (f1 ++ fb), w1.append (.cons h w2), pm.nodup_iff.mpr nd, fun a ha => nm a (pm.mem_iff.mp ha)⟩
/-- a new object -/
theorem Rep.newI {fo : List O} {fv : List (Option V)} (R : Rep K M H fo fv) {x dx C : Addr} (hx : H x = none) (hd : H dx = none) (ne : dx ≠ x) : Rep K M (upd (upd H dx (.own x)) x (.ins C dx [])) (.obj C [] [] :: fo) (some (.ref x) :: fv) := by
  obtain ⟨s, fp, w, nd, nm⟩ := R
  have xn : x ∉ fp := fun z => w.dom x z hx
  have dn : dx ∉ fp := fun z => w.dom dx z hd
  have ex : (upd H dx (.own x)) x = none := by rw [upd_ne ne.symm]; exact hx
  have kp : ∀ b, b ≠ x → b ≠ dx → (upd (upd H dx (.own x)) x (.ins C dx [])) b = H b := fun b h1 h2 => by rw [upd_ne h1, upd_ne h2]
  refine ⟨fun b u q => ?_, (x :: dx :: []) ++ fp, .cons (.obj upd_same (by rw [upd_ne ne]; exact upd_same) rfl .nil) (w.frame (Same.refl _) fun a ha => kp a (fun z => xn (z ▸ ha)) (fun z => dn (z ▸ ha))), ?_, fun a ha => ?_⟩
  · have q' := s b u q
    rw [kp b (ne_of_none q' hx) (ne_of_none q' hd)]; exact q'
  · show (x :: dx :: fp).Nodup
    rw [List.nodup_cons, List.nodup_cons]
    exact ⟨by simp [ne.symm, xn], dn, nd⟩
  · have ha : a ∈ x :: dx :: fp := ha
    rcases List.mem_cons.mp ha with rfl | ha
    · exact s.free hx
    · rcases List.mem_cons.mp ha with rfl | ha
      · exact s.free hd
      · exact nm a ha
end

/-! ### __init__ -/
def envI (C : Addr) (n : Nat) (ds : List D) : Ev := .obj C [] [] :: (ds.map .dat ++ List.replicate (n - (ds.length + 1)) .unk)
def outI (r : Fl) : Option O := match r with
  | .nx ρ => ρ[0]?
  | .rt (.dat .non) ρ => ρ[0]?
  | _ => none
def runI (C : Addr) (n : Nat) (b : Ev → Option Fl) (ds : List D) : Option O := (b (envI C n ds)).bind outI
def spI (K : PySem.W.Frag) (C : Addr) (n : Nat) (m : List D → Option O) : Sp := fun vs H Q _ => ∃ x ws M fo fv ds o, vs = .ref x :: ws ∧ ws.length + 1 = n ∧ Rep K M H (.obj C [] [] :: fo) (some (.ref x) :: fv) ∧ Dvs K M ws ds ∧ m ds = some o ∧
  ∀ M' H', Same M M' → Rep K M' H' (o :: fo) (some (.ref x) :: fv) → Q .non H'
section
variable {P : Program} {w : World} {K : PySem.W.Frag} {mg : Str → Option Value} {base : Heap}
theorem fnI {x qual : Str} {st : Stmt} {f C : Addr} {fd : FuncData} {N ps : List Str} {k : Nat} {b : Ev → Option Fl} (F : Fun K x qual st f fd) (S : FnScope N ps (defScope st))
    (hb : ∀ (cdv : Value) (A : Around) (outer : List Env) (s : Shared) (H : Hp) (E : XK), Room k (A.deeper (PyProof.Rows.envOfC qual (defScope st) s.heap.objs.size f cdv)) →
      PSs (cxOf CX0 P w K mg base N qual (defScope st) f cdv A outer s H E).nox (defBody st) (tS K W0 [0] b)) : FnOk P w K mg base CX0 (k + 1) f fd ps (spI K C ps.length (runI C N.length b)) := by
  refine F.ok S (fun vs H Q E h => ?_) fun cdv A outer s H vs Q E hr h => ⟨_, hb cdv A outer s H E hr, ?_⟩
  · obtain ⟨x, ws, M, fo, fv, ds, o, rfl, hl, _⟩ := h
    simpa using hl
  obtain ⟨x, ws, M, fo, fv, ds, o, rfl, hl, R, dv, e, kk⟩ := h
  have hlen := dv.length
  have R1 : Rep K M H (envI C N.length ds ++ fo) (L2.start N (.ref x :: ws) ++ fv) := by
    obtain ⟨s, fp, w, nd, nm⟩ := R
    cases w with
    | cons h1 h2 =>
      rename_i f1 f2
      refine ⟨s, f1 ++ (([] ++ []) ++ f2), ?_, by simpa using nd, fun a ha => nm a (by simpa using ha)⟩
      unfold envI L2.start
      rw [List.length_cons, hlen]
      exact .cons h1 (((ows_dat dv).append (ows_unk _)).append h2)
  have l1 : (L2.start N (.ref x :: ws)).length = (envI C N.length ds).length := by simp [L2.start, envI, hlen]
  unfold runI at e
  cases q : b (envI C N.length ds) with
  | none => rw [q] at e; cases e
  | some r =>
    rw [q, Option.bind_some] at e
    have fin : ∀ {ρ : Ev} {M1 H1 : Hp} {σ1 : L2.St} {tm : List O} {tv : List (Option V)}, ρ[0]? = some o → tv.length = tm.length → Same M M1 → Rep K M1 H1 (ρ ++ (tm ++ fo)) (σ1 ++ (tv ++ fv)) → Lk [0] (L2.start N (.ref x :: ws)) σ1 ρ → Q .non H1 := by
      intro ρ M1 H1 σ1 tm tv eo lt s1 R2 lk
      have h0 := lk.2 0 (by simp)
      have h0' : σ1[0]? = some (some (.ref x)) := h0.trans (by simp [L2.start])
      cases ρ with
      | nil => simp at eo
      | cons o' ρt =>
        cases σ1 with
        | nil => simp at h0'
        | cons v' σt =>
          simp at eo h0'
          subst eo; subst h0'
          have lt' : σt.length = ρt.length := by have := lk.1; simpa using this
          refine kk M1 H1 s1 ?_
          have R3 : Rep K M1 H1 ([o'] ++ ((ρt ++ tm) ++ fo)) ([some (.ref x)] ++ ((σt ++ tv) ++ fv)) := by simpa using R2
          exact R3.dropM rfl (by simp [lt', lt])
    refine ⟨M, _, fo, fv, r, L2.start N (.ref x :: ws), R1, ⟨l1, fun _ _ => rfl⟩, q, ?_⟩
    cases r with
    | nx ρ => exact fun M1 H1 σ1 s1 R2 lk => fin (tm := []) (tv := []) e rfl s1 R2 lk
    | rt o' ρ =>
      cases o' with
      | dat d =>
        cases d with
        | non =>
          have e : ρ[0]? = some o := e
          intro M1 H1 σ1 v s1 R2 lk
          obtain ⟨y, ey, dy⟩ := R2.datAt lk.1 rfl
          cases ey
          cases dy
          exact fin (tm := [.dat .non]) (tv := [some .non]) e rfl s1 R2 lk
        | _ => cases e
      | _ => cases e
    | bk ρ => cases e
    | ct ρ => cases e
    | ex x ρ => cases e
end
section
variable {X : Cx} {W : WX} {pos p : Pos} {e : Expr} {es : List Expr} {ga : Ev → Option (List D)} {k n : Nat} {f C : Addr} {fd : FuncData} {ps : List Str} {x : Str}
/-- what C(..) gives: from the data of the arguments -/
def cO (g : Ev → Option (List D)) (m : List D → Option O) (ρ : Ev) : Option O := (g ρ).bind m
def lenO? (n : Nat) (m : List D → Option O) (ds : List D) : Option O := if ds.length = n then m ds else none
theorem make_of {K : PySem.W.Frag} {m : List D → Option O} {ds : List D} {o : O} {M H : Hp} {fo : List O} {fv : List (Option V)} {l : List O} {lv : List (Option V)} {vs : List V} {Q : VK} {E : XK} (hl : lv.length = l.length) (R : Rep K M H (l ++ fo) (lv ++ fv)) (dv : Dvs K M vs ds) (hn : ds.length + 1 = n) (e : m ds = some o)
    (k : ∀ M' H' v, Same M M' → Rep K M' H' (l ++ o :: fo) (lv ++ some v :: fv) → Q v H') (x dx : Addr) (hx : H x = none) (hd : H dx = none) (ne : dx ≠ x) :
    spI K C n m (.ref x :: vs) (upd (upd H dx (.own x)) x (.ins C dx [])) (fun v H2 => v = .non ∧ Q (.ref x) H2) E :=
  ⟨x, vs, M, l ++ fo, lv ++ fv, ds, o, rfl, by rw [dv.length]; exact hn, R.newI hx hd ne, dv, e, fun M2 H2 s2 R2 => ⟨rfl, k M2 H2 _ s2 (R2.swap hl)⟩⟩
theorem oMake {m : List D → Option O} (Mc : Mk X.K C f) (F : FnOk X.prog X.w X.K X.mg X.base CX0 k f fd ps (spI X.K C (n + 1) m)) (hr : Room (k + 1) X.A) (hm : X.mg x = some (.ref C)) (hb : Binds X.K fd ps []) (ha : PA X (e :: es) (tAr X.K ga)) (hg : Gl X x := by rfl)
    (hdb : (x == ("__debug__" : Str)) = false := by decide) (he : starEach (e :: es) X.env = (false, eval e X.env) :: starEach es X.env := by rfl) (hpl : (backTo pos (starEach es X.env)).any (·.1) = false := by rfl) :
    PE X (.Call (.Name x p) (e :: es) [] pos) (tO X.K (cO ga (lenO? n m))) := PE.imp (pe_make Mc F hr hg hm hb .nil (E := E0) pass0 ha hdb he hpl) fun σ H Q ⟨M, ρ, fo, fv, o, R, l, e, k⟩ => by
  unfold cO lenO? at e
  cases q : ga ρ with
  | none => rw [q] at e; cases e
  | some ds =>
    rw [q, Option.bind_some] at e
    split at e
    · rename_i hn
      refine ⟨M, ρ, fo, fv, ds, R, l, q, fun M1 H1 vs s1 R1 d1 x dx hx hd ne => ?_⟩
      rw [List.append_nil]
      exact make_of l R1 d1 (by rw [hn]) e (fun M2 H2 v s2 R2 => k M2 H2 v (s1.trans s2) R2) x dx hx hd ne
    · cases e
/-! ### a field of a frozen object -/
def fldD (C : Addr) (f : Str) : D → Option D
  | .obj C' ks ds => if C' = C then (ks.zip ds).lookup f else none
  | _ => none
theorem fld_get {K : PySem.W.Frag} {M : Hp} {f : Str} {d : D} : ∀ {fs : List (Str × V)} {ds : List D}, Dvs K M (fs.map (·.2)) ds → ((fs.map (·.1)).zip ds).lookup f = some d → ∃ v, fs.lookup f = some v ∧ Dv K M v d
  | [], _, .nil, e => by cases e
  | (g, x) :: fs, _, .cons h hs, e => by
    simp only [List.map_cons, List.zip_cons_cons, List.lookup] at e ⊢
    by_cases z : f = g
    · subst z
      simp only [beq_self_eq_true] at e ⊢
      cases e
      exact ⟨x, rfl, h⟩
    · have z' : (f == g) = false := by simpa using z
      rw [z'] at e ⊢
      exact fld_get hs e
theorem pFld {fe : Ev → Option D} {f : Str} (c : Cls X.K C) (na : NoAttr X.K C f) (he : PE X e (tP X.K fe)) (hb : attributeBase e f X.env (eval e X.env) = eval e X.env := by rfl) : PE X (.Attribute e f pos) (tP X.K (b1 fe (fldD C f))) :=
  PE.imp (pe_fld he hb) fun σ H Q ⟨M, ρ, fo, fv, d, R, l, e, k⟩ => by
    obtain ⟨x, ea, eg⟩ := b1_some e
    unfold fldD at eg
    split at eg
    · rename_i C' ks ds
      split at eg
      · rename_i hC
        subst hC
        refine ⟨M, ρ, fo, fv, _, R, l, ea, fun M1 H1 v1 s1 R1 d1 => ?_⟩
        cases d1 with
        | obj ha hdx hk hs =>
          subst hk
          obtain ⟨v, ev, dv⟩ := fld_get hs eg
          exact ⟨_, _, _, _, v, rfl, R1.same _ _ ha, c, na, ev, k M1 H1 v s1 R1 dv⟩
      · cases eg
    · cases eg

/-! ### methods, properties, operators of frozen objects -/
def selfC (C : Addr) : D → Bool
  | .obj C' _ _ => decide (C' = C)
  | _ => false
/-- o.m(..): from the data of o and of the arguments -/
def mC (C : Addr) (nm : Str) (fo : Ev → Option D) (ga : Ev → Option (List D)) (n : Nat) (m : List D → Option D) (ρ : Ev) : Option D := (fo ρ).bind fun x => match x with
  | .obj C' ks ds => if C' = C ∧ (ks.zip ds).lookup nm = none then (ga ρ).bind fun as => if as.length + 1 = n then m (.obj C' ks ds :: as) else none else none
  | _ => none
theorem fld_none {K : PySem.W.Frag} {M : Hp} {f : Str} : ∀ {fs : List (Str × V)} {ds : List D}, Dvs K M (fs.map (·.2)) ds → ((fs.map (·.1)).zip ds).lookup f = none → fs.lookup f = none
  | [], _, .nil, e => rfl
  | (g, x) :: fs, _, .cons h hs, e => by
    simp only [List.map_cons, List.zip_cons_cons, List.lookup] at e ⊢
    by_cases z : f = g
    · subst z
      simp only [beq_self_eq_true] at e
      cases e
    · have z' : (f == g) = false := by simpa using z
      rw [z'] at e ⊢
      exact fld_none hs e
theorem meth_of {K : PySem.W.Frag} {C : Addr} {nm : Str} {fo : Ev → Option D} {ga : Ev → Option (List D)} {n : Nat} {m : List D → Option D} {σ : L2.St} {H : Hp} {Q : VK} (h : tP K (mC C nm fo ga n m) σ H Q) : tMeth C nm (spP K n m) [] E0 (tP K fo) (tAr K ga) σ H Q := by
  obtain ⟨M, ρ, fr, fv, d, R, l, e, k⟩ := h
  unfold mC at e
  cases q : fo ρ with
  | none => rw [q] at e; cases e
  | some x =>
    rw [q, Option.bind_some] at e
    cases x with
    | obj C' ks ds =>
      change (if C' = C ∧ (ks.zip ds).lookup nm = none then (ga ρ).bind fun as => if as.length + 1 = n then m (.obj C' ks ds :: as) else none else none) = some d at e
      split at e
      · rename_i hc
        obtain ⟨rfl, hno⟩ := hc
        refine ⟨M, ρ, fr, fv, _, R, l, q, fun M1 H1 v1 s1 R1 d1 => ?_⟩
        cases q2 : ga ρ with
        | none => rw [q2] at e; cases e
        | some as =>
          rw [q2, Option.bind_some] at e
          split at e
          · rename_i hn
            have d1' := d1
            cases d1 with
            | obj ha hdx hk hs =>
              subst hk
              refine ⟨_, _, _, rfl, R1.same _ _ ha, fld_none hs hno, M1, ρ, fr, fv, as, R1, l, q2, fun M2 H2 vs s2 R2 d2 => ⟨?_, M2, ρ ++ fr, σ ++ fv, _, d, R2, .cons (d1'.mono s2) (by rw [List.append_nil]; exact d2), e, fun M3 H3 v s3 R3 d3 => k M3 H3 v (s1.trans (s2.trans s3)) R3 d3⟩⟩
              rw [List.append_nil, List.length_cons, d2.length]; exact hn
          · cases e
      · cases e
    | _ => cases e
theorem pMeth {nm : Str} {o : Expr} {fo : Ev → Option D} {apos : Pos} {m : List D → Option D} {pl : Sem Bool} (c : Cls X.K C) (hm : Meth X.K C nm f) (F : FnOk X.prog X.w X.K X.mg X.base CX0 k f fd ps (spP X.K n m)) (hr : Room k X.A) (hb : Binds X.K fd ps []) (he : PE X o (tP X.K fo)) (ha : PA X (e :: es) (tAr X.K ga))
    (hst : starEach (e :: es) X.env = (false, eval e X.env) :: starEach es X.env := by rfl) (hpl : (backTo pos (starEach es X.env)).any (·.1) = false := by rfl)
    (ht : eval (.Call (.Attribute o nm apos) (e :: es) [] pos) X.env = (do
      let ov ← eval o X.env
      standAt apos.atName
      let (f, first) ← holding [ov] (getMethod ov nm pl)
      callWith pos f first (backTo pos (starEach (e :: es) X.env)) (backToKw pos (keywordEach [] X.env))) := by rfl) :
    PE X (.Call (.Attribute o nm apos) (e :: es) [] pos) (tP X.K (mC C nm fo ga n m)) := PE.imp (pe_meth he c hm F hr hb .nil pass0 ha hst hpl ht) fun _ _ _ h => meth_of h
theorem pMeth0 {nm : Str} {o : Expr} {fo : Ev → Option D} {apos : Pos} {m : List D → Option D} {pl : Sem Bool} (c : Cls X.K C) (hm : Meth X.K C nm f) (F : FnOk X.prog X.w X.K X.mg X.base CX0 k f fd ps (spP X.K n m)) (hr : Room k X.A) (hb : Binds X.K fd ps []) (he : PE X o (tP X.K fo))
    (ht : eval (.Call (.Attribute o nm apos) [] [] pos) X.env = (do
      let ov ← eval o X.env
      standAt apos.atName
      let (f, first) ← holding [ov] (getMethod ov nm pl)
      callWith pos f first (backTo pos (starEach [] X.env)) (backToKw pos (keywordEach [] X.env))) := by rfl) :
    PE X (.Call (.Attribute o nm apos) [] [] pos) (tP X.K (mC C nm fo aNil n m)) := PE.imp (pe_meth0 he c hm F hr hb .nil pass0 ht) fun σ H Q h => by
  obtain ⟨M, ρ, fr, fv, d, R, l, e, k⟩ := meth_of h
  refine ⟨M, ρ, fr, fv, d, R, l, e, fun M1 H1 v s1 R1 d1 => ?_⟩
  obtain ⟨a, dx, fs, ev, ea, hn, M2, ρ2, fr2, fv2, as, R2, l2, e2, k2⟩ := k M1 H1 v s1 R1 d1
  cases e2
  exact ⟨a, dx, fs, ev, ea, hn, k2 M2 H1 [] (Same.refl _) R2 .nil⟩
/-- o.f, a property -/
def prC (C : Addr) (m : List D → Option D) (x : D) : Option D := match x with
  | .obj C' ks ds => if C' = C then m [.obj C' ks ds] else none
  | _ => none
theorem pProp {nm : Str} {g pa : Addr} {fo : Ev → Option D} {m : List D → Option D} (c : Cls X.K C) (hp : PropOf X.K C nm pa g) (F : FnOk X.prog X.w X.K X.mg X.base CX0 k g fd ps (spP X.K 1 m)) (hr : Room (k + 1) X.A) (hb : Binds X.K fd ps []) (he : PE X e (tP X.K fo))
    (hab : attributeBase e nm X.env (eval e X.env) = eval e X.env := by rfl) : PE X (.Attribute e nm pos) (tP X.K (b1 fo (prC C m))) := PE.imp (pe_prop he c hp F hr hb .nil (E := E0) pass0 hab) fun σ H Q ⟨M, ρ, fr, fv, d, R, l, e, k⟩ => by
  obtain ⟨x, ea, eg⟩ := b1_some e
  unfold prC at eg
  split at eg
  · rename_i C' ks ds
    split at eg
    · rename_i hC
      subst hC
      refine ⟨M, ρ, fr, fv, _, R, l, ea, fun M1 H1 v1 s1 R1 d1 => ?_⟩
      have d1' := d1
      cases d1 with
      | obj ha hdx hk hs => exact ⟨_, _, _, rfl, R1.same _ _ ha, rfl, M1, ρ ++ fr, σ ++ fv, _, d, R1, .cons d1' .nil, eg, fun M3 H3 v s3 R3 d3 => k M3 H3 v (s1.trans s3) R3 d3⟩
    · cases eg
  · cases eg
/-- x op y, both of the class C -/
def opC (C : Addr) (m : List D → Option D) (x y : D) : Option D := if selfC C x = true ∧ selfC C y = true then (m [x, y]).bind fun d => some d else none
theorem obj_at {pins : List (Addr × Obj)} {σ : L2.St} {H : Hp} {s : Shared} (I : Inv X pins σ H s) {M : Hp} {fo : List O} {fv : List (Option V)} {v : V} {u : Value} {d : D} (R : Rep X.K M H fo fv) (dv : Dv X.K M v d) (hc : selfC C d = true) (r : RelV v u) :
    ∃ a ox od, u = .ref a ∧ v = .ref a ∧ PySem.W.InstAt s.heap a ox C (some od) := by
  cases dv with
  | obj ha hdx hk hs =>
    rename_i a C' dx fs ks ds
    have : C' = C := by simpa [selfC] using hc
    subst this
    obtain rfl : u = Value.ref a := r
    obtain ⟨mA, O, _, _, _, _⟩ := ins_get I.hok (R.same _ _ ha)
    obtain ⟨od, J, _⟩ := O.look
    exact ⟨a, _, od, rfl, rfl, J⟩
  | _ => cases hc
/-- what the number slots of the class are -/
structure OpOf (K : PySem.W.Frag) (C : Addr) (op : Operator) (f : Addr) : Prop where
  first : PySem.W.selfFirst K C = true
  at_ : PySem.W.findIn K (.ref C) (PySem.dunder op.info.2) = some (some (.ref f))
  fn : PySem.W.isFn K (.ref f) = true
theorem notImpl {v : V} {u : Value} (r : RelV v u) : u ≠ .notImplemented := fun z => by
  subst z
  cases v <;> first | (obtain ⟨_, h⟩ := r; cases h) | cases r
theorem ep_back {pins : List (Addr × Obj)} {σ : L2.St} {Q : VK} {u : Value} {s' : Shared} (h : EP X pins σ Q u s') : PySem.W.CmpBack (EP X pins σ Q) u s' := by
  obtain ⟨v, H', I', r, q⟩ := h
  have := notImpl r
  unfold PySem.W.CmpBack
  split
  · exact this rfl
  · exact ⟨v, H', I', r, q⟩
theorem oOpC {op : Operator} {m : List D → Option D} (hop : OpOf X.K C op f) (F : FnOk X.prog X.w X.K X.mg X.base CX0 k f fd ps (spP X.K 2 m)) (hr : Room k X.A) (hb : Binds X.K fd ps []) : OpR X (binaryOp op) (rD X.K (opC C m)) := by
  intro pins s σ H x y v u Q I rx ry ⟨M, fo, fv, dx, dy, d, R, d1, d2, e, kk⟩
  unfold opC at e
  split at e
  · rename_i hc
    obtain ⟨a, ox, od, ea, _, Ia⟩ := obj_at I R d1 hc.1 rx
    obtain ⟨b, oy, oe, eb, _, Ib⟩ := obj_at I R d2 hc.2 ry
    cases q : m [dx, dy] with
    | none => rw [q] at e; cases e
    | some d' =>
      rw [q] at e
      cases e
      subst ea
      obtain ⟨mm, fr⟩ := I.fr
      refine PySem.W.binop_K fr I.ok.mod.kin Ia (by rw [eb]; exact Ib.type) hop.first hop.at_ hop.fn ?_
      refine wpAny_mono (run_fn (us := [.ref a, u]) (vs := [x, y]) (ds := []) (dvs := []) (E := E0) F hr hb .nil pass0 I (.cons rx (.cons ry .nil)) ?_) (fun _ _ h => ep_back h) fun _ _ h => h
      exact ⟨rfl, M, fo, fv, [dx, dy], _, R, .cons d1 (.cons d2 .nil), q, kk⟩
  · cases e

/-- x op i, i an int -/
def opCI (C : Addr) (m : List D → Option D) (x y : D) : Option D := match y with
  | .int i => if selfC C x = true then m [x, .int i] else none
  | _ => none
structure OpOfI (K : PySem.W.Frag) (C : Addr) (op : Operator) (f : Addr) : Prop extends OpOf K C op f where
  back : ∃ rc, PySem.W.findIn K (.ref C) (dunderR op.info.2) = some rc ∧ (rc = none ∨ ∃ g : Addr, rc = some (.ref g))
  int1 : ∃ fo, PySem.W.findIn K (.type "int") (PySem.dunder op.info.2) = some fo
  int2 : ∃ ro, PySem.W.findIn K (.type "int") (dunderR op.info.2) = some ro
  sub : PySem.W.subIn K (.type "int") (.ref C) = some false
theorem oOpCI {op : Operator} {m : List D → Option D} (hop : OpOfI X.K C op f) (F : FnOk X.prog X.w X.K X.mg X.base CX0 k f fd ps (spP X.K 2 m)) (hr : Room k X.A) (hb : Binds X.K fd ps []) : OpR X (binaryOp op) (rD X.K (opCI C m)) := by
  intro pins s σ H x y v u Q I rx ry ⟨M, fo, fv, dx, dy, d, R, d1, d2, e, kk⟩
  unfold opCI at e
  split at e
  · rename_i j
    split at e
    · rename_i hc
      obtain ⟨a, ox, od, ea, _, Ia⟩ := obj_at I R d1 hc rx
      cases d2
      obtain ⟨t, rfl⟩ := ry
      subst ea
      obtain ⟨mm, fr⟩ := I.fr
      obtain ⟨rc, b1, b2⟩ := hop.back
      obtain ⟨fo', b3⟩ := hop.int1
      obtain ⟨ro', b4⟩ := hop.int2
      refine PySem.W.ksp_binT (T := "int") fr I.ok.mod.kin Ia (by rfl) hop.first hop.at_ hop.fn b1 b2 b3 b4 hop.sub ?_
      refine wpAny_mono (run_fn (us := [.ref a, .int j t]) (vs := [x, .int j]) (ds := []) (dvs := []) (E := E0) F hr hb .nil pass0 I (.cons rx (.cons ⟨t, rfl⟩ .nil)) ?_) (fun _ _ h => ep_back h) fun _ _ h => h
      exact ⟨rfl, M, fo, fv, [dx, .int j], d, R, .cons d1 (.cons (.int j) .nil), e, kk⟩
    · cases e
  · cases e
/-- ~x -/
def inC (C : Addr) (m : List D → Option D) (x : D) : Option D := if selfC C x = true then m [x] else none
theorem oInvC {m : List D → Option D} (h1 : PySem.W.findIn X.K (.ref C) "__invert__" = some (some (.ref f))) (h2 : PySem.W.isFn X.K (.ref f) = true) (F : FnOk X.prog X.w X.K X.mg X.base CX0 k f fd ps (spP X.K 1 m)) (hr : Room k X.A) (hb : Binds X.K fd ps []) : UnR X (unaryOp .Invert) (rD1 X.K (inC C m)) := by
  intro pins s σ H x v Q I rx ⟨M, fo, fv, dx, d, R, d1, e, kk⟩
  unfold inC at e
  split at e
  · rename_i hc
    obtain ⟨a, ox, od, ea, _, Ia⟩ := obj_at I R d1 hc rx
    subst ea
    obtain ⟨mm, fr⟩ := I.fr
    refine PySem.W.ksp_inv fr I.ok.mod.kin Ia h1 h2 ?_
    exact run_fn (us := [.ref a]) (vs := [x]) (ds := []) (dvs := []) (E := E0) F hr hb .nil pass0 I (.cons rx .nil) ⟨rfl, M, fo, fv, [dx], d, R, .cons d1 .nil, e, kk⟩
  · cases e
/-- what isinstance and == ask of an own class -/
structure ClsX (K : PySem.W.Frag) (C : Addr) : Prop where
  c : Cls K C
  ha : PySem.W.findIn K (.ref C) "__class__" = some (some (.builtin "object.__class__"))
  hn : PySem.W.specialIn K (.builtin "object.__class__") "__get__" = some (some (.builtin "getset_descriptor.__get__"))
  htk : PySem.W.takesIn K (.builtin "object.__class__") = some true
  hm : PySem.W.mroIn K C (.type "object") = some true
  ty : PySem.W.typeIn K (.ref C) = some (.type "type")
theorem sub_blt {K : PySem.W.Frag} {C : Addr} {d : D} {t : String} (e : tyD d = some t) : PySem.W.subIn K (.type t) (.ref C) = some false := by
  cases d <;> cases e <;> rfl

theorem ClsX.tyx {K : PySem.W.Frag} {M : Hp} {v : V} {C : Addr} {ks : List Str} {ds : List D} (c : ClsX K C) (h : Dv K M v (.obj C ks ds)) : TyX K M v (.ref C) := by
  cases h with
  | obj ha hdx hk hs => exact .base (.ins ha c.c c.ha c.hn c.htk c.hm)
/-- isinstance(x, C), C an own class: cs says what the own classes are to it -/
def isiC (cs : List (Addr × Bool)) (x : D) : Option D := match x with
  | .obj C' _ _ => (cs.lookup C').map .bl
  | x => (tyD x).map fun _ => .bl false
theorem isiC_cases {cs : List (Addr × Bool)} {x d : D} (h : isiC cs x = some d) : (∃ C' ks ds b, x = .obj C' ks ds ∧ cs.lookup C' = some b ∧ d = .bl b) ∨ ∃ t, tyD x = some t ∧ d = .bl false := by
  cases x with
  | obj C' ks ds =>
    left
    have h : (cs.lookup C').map D.bl = some d := h
    cases q : cs.lookup C' with
    | none => rw [q] at h; cases h
    | some b => rw [q] at h; cases h; exact ⟨C', ks, ds, b, rfl, q, rfl⟩
  | exn _ _ _ _ _ => cases h
  | _ =>
    right
    cases h
    exact ⟨_, rfl, rfl⟩
structure IsC (K : PySem.W.Frag) (C : Addr) (cs : List (Addr × Bool)) : Prop where
  cl : (PySem.W.clsIn K C).isSome = true
  ty : PySem.W.typeIn K (.ref C) = some (.type "type")
  own : ∀ C' b, cs.lookup C' = some b → ClsX K C' ∧ PySem.W.kitOne K (.ref C') (.ref C) = some b
theorem pIsiC {a : Expr} {q : Pos} {fa : Ev → Option D} {y : Str} {cs : List (Addr × Bool)} (I : IsC X.K C cs) (hmC : X.mg y = some (.ref C)) (ha : PE X a (tP X.K fa)) (hm : X.mg "isinstance" = none) (hg : Gl X "isinstance" := by rfl) (hgT : Gl X y := by rfl)
    (hd : (y == ("__debug__" : Str)) = false := by decide)
    (hs : starEach [a, .Name y q] X.env = (false, eval a X.env) :: starEach [.Name y q] X.env := by rfl) (hs2 : starEach [.Name y q] X.env = (false, eval (.Name y q) X.env) :: starEach [] X.env := by rfl) (hpl : (backTo pos (starEach [.Name y q] X.env)).any (·.1) = false := by rfl) :
    PE X (.Call (.Name "isinstance" p) [a, .Name y q] [] pos) (tP X.K (b1 fa (isiC cs))) :=
  PE.imp (pe_callB call_isi hg hm (by decide +kernel) (pa_cons ha (pa_cons (pe_glob (v := .ref C) hgT hmC rfl hd) pa_nil hs2) hs) (by decide) (by decide) hs hpl) fun σ H Q ⟨M, ρ, fo, fv, d, R, l, e, k⟩ => by
    obtain ⟨x, ea, eg⟩ := b1_some e
    refine ⟨M, ρ, fo, fv, x, R, l, ea, fun M1 H1 v1 s1 R1 d1 => ?_⟩
    have blt : ∀ t, tyD x = some t → d = .bl false → ∃ (x c : V) (t u : Value) (b : Bool), [v1, V.ref C] = [x, c] ∧ ClsV c u ∧ TyX X.K H1 x t ∧ PySem.W.kitOne X.K t u = some b ∧ Q (.bl b) H1 := fun t ht hd => by
      subst hd
      refine ⟨v1, .ref C, .type t, .ref C, false, rfl, .own C, tyX_mono R1.same (tyX_of d1 ht), ?_, k M1 H1 _ s1 R1 (.bl _)⟩
      unfold PySem.W.kitOne
      rw [if_neg (by simp)]
      show (if ((PySem.W.clsIn X.K C).isSome && PySem.W.typeIn X.K (.ref C) == some (.type "type")) = true then PySem.W.subIn X.K (.type t) (.ref C) else none) = some false
      rw [I.ty, I.cl, if_pos (by simp)]
      exact sub_blt ht
    rcases isiC_cases eg with ⟨C', ks, ds, b, rfl, q, rfl⟩ | ⟨t, ht, hd⟩
    · obtain ⟨c', hk⟩ := I.own C' b q
      exact ⟨v1, .ref C, .ref C', .ref C, b, rfl, .own C, tyX_mono R1.same (c'.tyx d1), hk, k M1 H1 _ s1 R1 (.bl _)⟩
    · exact blt t ht hd
/-- x == y, x of the class C that has its own __eq__ -/
def eqC (C : Addr) (os : List Addr) (m : List D → Option D) (x y : D) : Option D := if selfC C x = true then match y with
  | .obj C' ks ds => if C' = C ∨ C' ∈ os then m [x, .obj C' ks ds] else none
  | y => (tyD y).bind fun _ => m [x, y] else none
theorem eqC_cases {C : Addr} {os : List Addr} {m : List D → Option D} {x y d : D} (h : eqC C os m x y = some d) : selfC C x = true ∧ m [x, y] = some d ∧ ((∃ C' ks ds, y = .obj C' ks ds ∧ (C' = C ∨ C' ∈ os)) ∨ ∃ t, tyD y = some t) := by
  unfold eqC at h
  split at h
  · rename_i hc
    refine ⟨hc, ?_⟩
    cases y with
    | obj C' ks ds =>
      change (if C' = C ∨ C' ∈ os then m [x, .obj C' ks ds] else none) = some d at h
      split at h
      · exact ⟨h, .inl ⟨C', ks, ds, rfl, by assumption⟩⟩
      · cases h
    | exn _ _ _ _ _ => cases h
    | _ => exact ⟨h, .inr ⟨_, rfl⟩⟩
  · cases h
structure EqOf (K : PySem.W.Frag) (C f : Addr) (os : List Addr) : Prop where
  at_ : PySem.W.findIn K (.ref C) "__eq__" = some (some (.ref f))
  fn : PySem.W.isFn K (.ref f) = true
  cx : ClsX K C
  own : ∀ C' ∈ os, ClsX K C' ∧ PySem.W.subIn K (.ref C') (.ref C) = some false
theorem oEqC {m : List D → Option D} {os : List Addr} (hop : EqOf X.K C f os) (F : FnOk X.prog X.w X.K X.mg X.base CX0 k f fd ps (spP X.K 2 m)) (hr : Room k X.A) (hb : Binds X.K fd ps []) : OpR X (compareOp .Eq) (rD X.K (eqC C os m)) := by
  intro pins s σ H x y v u Q I rx ry ⟨M, fo, fv, dx, dy, d, R, d1, d2, e, kk⟩
  obtain ⟨hc, em, hy⟩ := eqC_cases e
  obtain ⟨a, ox, od, ea, _, Ia⟩ := obj_at I R d1 hc rx
  subst ea
  obtain ⟨mm, fr⟩ := I.fr
  have fin : ∀ tb, PySem.W.Looks (model X.prog X.w) s.heap (typeOf u) tb → PySem.W.notFirst X.K C tb = true → wpAny (model X.prog X.w) X.A (compareOp .Eq (.ref a) u) (EP X pins σ Q) X.xe s := fun tb L hn => by
    refine PySem.W.cmp_ofEq (PySem.W.cmp_K hr.units0 fr I.ok.mod.kin Ia L hn hop.at_ hop.fn ?_)
    refine wpAny_mono (run_fn (us := [.ref a, u]) (vs := [x, y]) (ds := []) (dvs := []) (E := E0) F hr hb .nil pass0 I (.cons rx (.cons ry .nil)) ?_) (fun _ _ h => ep_back h) fun _ _ h => h
    exact ⟨rfl, M, fo, fv, [dx, dy], d, R, .cons d1 (.cons d2 .nil), em, kk⟩
  have look : ∀ t, TyX X.K M y t → PySem.W.Looks (model X.prog X.w) s.heap (typeOf u) t := fun t ty => by
    obtain ⟨P, Z, p, _⟩ := kit_of I ry (tyX_mono R.same ty)
    exact Z.ty _ _ I.kIn p
  rcases hy with ⟨C', ks, ds, rfl, hC⟩ | ⟨t, ht⟩
  · by_cases z : C' = C
    · subst z
      exact fin _ (look _ (hop.cx.tyx d2)) (by unfold PySem.W.notFirst; simp)
    · obtain ⟨c', hs⟩ := hop.own C' (hC.resolve_left z)
      exact fin _ (look _ (c'.tyx d2)) (by unfold PySem.W.notFirst; rw [hs]; simp)
  · exact fin _ (look _ (tyX_of d2 ht)) (by unfold PySem.W.notFirst; rw [sub_blt ht]; simp)
end
end PD

namespace PD
open PySem PySem.Spec L2

section
variable {X : Cx} {W : WX} {J : List Nat} {pos p : Pos} {e : Expr} {es : List Expr} {ga : Ev → Option (List D)}
/-! ### calls of built-ins that give a new thing -/
theorem tCB_O {K : PySem.W.Frag} {g : Ev → Option (List D)} {f : List D → Option O} {σ : L2.St} {H : Hp} {Q : VK} (h : tO K (cO g f) σ H Q) : tCB (rOs K f) (tAr K g) σ H Q := by
  obtain ⟨M, ρ, fo, fv, o, R, l, e, k⟩ := h
  unfold cO at e
  cases q : g ρ with
  | none => rw [q] at e; cases e
  | some ds =>
    rw [q, Option.bind_some] at e
    exact ⟨M, ρ, fo, fv, ds, R, l, q, fun M1 H1 vs s1 R1 d1 => ⟨M1, ρ ++ fo, σ ++ fv, ds, o, R1, d1, e, fun M2 H2 v s2 R2 => k M2 H2 v (s1.trans s2) (R2.swap l)⟩⟩
theorem oCallB {id : String} {x : Str} {f : List D → Option O} (hc : CallR X (.builtin id) (rOs X.K f)) (hm : X.mg x = none) (hv : bootBuiltins x = some (.builtin id)) (ha : PA X (e :: es) (tAr X.K ga)) (hg : Gl X x := by rfl) (hn : x ≠ "__name__" := by decide) (hdb : (x == ("__debug__" : Str)) = false := by decide)
    (hpl : (backTo pos (starEach es X.env)).any (·.1) = false := by rfl) (hs : starEach (e :: es) X.env = (false, eval e X.env) :: starEach es X.env := by rfl) : PE X (.Call (.Name x p) (e :: es) [] pos) (tO X.K (cO ga f)) :=
  PE.imp (pe_callB hc hg hm hv ha hn hdb hs hpl) fun _ _ _ h => tCB_O h
theorem oCallT {T : String} {x : Str} {f : List D → Option O} (hc : CallR X (.type T) (rOs X.K f)) (hm : X.mg x = none) (hv : bootBuiltins x = some (.type T)) (ha : PA X (e :: es) (tAr X.K ga)) (hg : Gl X x := by rfl) (hn : x ≠ "__name__" := by decide) (hdb : (x == ("__debug__" : Str)) = false := by decide)
    (hpl : (backTo pos (starEach es X.env)).any (·.1) = false := by rfl) (hs : starEach (e :: es) X.env = (false, eval e X.env) :: starEach es X.env := by rfl) : PE X (.Call (.Name x p) (e :: es) [] pos) (tO X.K (cO ga f)) :=
  PE.imp (pe_callTy hc hg hm hv ha hn hdb hs hpl) fun _ _ _ h => tCB_O h
/-! ### list(x), tuple(x) -/
def listO : List D → Option O
  | [.lst ds] => some (.lst (ds.map .dat))
  | [.tup ds] => some (.lst (ds.map .dat))
  | _ => none
theorem cList : CallR X (.type "list") (rOs X.K listO) := CallR.imp call_list_of fun xs H Q ⟨M, fo, fv, ds, o, R, dv, e, k⟩ => by
  unfold listO at e
  split at e
  · cases e
    cases dv with
    | cons d1 dn =>
      cases dn
      cases d1 with
      | lst hs hd => exact ⟨_, _, rfl, .inl (seqX R.same hs), fun l hl => k M _ _ (Same.refl _) (Rep.newL (l := []) (lv := []) R rfl hl hd)⟩
  · cases e
    cases dv with
    | cons d1 dn =>
      cases dn
      cases d1 with
      | tup hs hd => exact ⟨_, _, rfl, .inr (sqT_same R.same hs), fun l hl => k M _ _ (Same.refl _) (Rep.newL (l := []) (lv := []) R rfl hl hd)⟩
  · cases e
def tupD : List D → Option D
  | [.lst ds] => some (.tup ds)
  | [.tup ds] => some (.tup ds)
  | _ => none
theorem cTup : CallR X (.type "tuple") (rDs X.K tupD) := CallR.imp call_tuple_of fun xs H Q ⟨M, fo, fv, ds, o, R, dv, e, k⟩ => by
  unfold tupD at e
  split at e
  · cases e
    cases dv with
    | cons d1 dn =>
      cases dn
      cases d1 with
      | @lst a xs _ hs hd =>
        refine ⟨_, _, rfl, .inl ⟨seqX R.same hs, fun l hl => ?_⟩⟩
        have s2 := same_updM (u := .tup xs) (R.same.free hl)
        exact k _ _ _ s2 (R.growM hl) (.tup (.inl (.inl upd_same)) (hd.mono s2))
  · cases e
    cases dv with
    | cons d1 dn =>
      cases dn
      have d1' := d1
      cases d1 with
      | tup hs hd => exact ⟨_, _, rfl, .inr ⟨sqT_same R.same hs, k M H _ (Same.refl _) R d1'⟩⟩
  · cases e
/-! ### sorted(x) -/
def pyT (d : D) : PyData := d.py.getD .none
def leD : D → D → Bool := PySem.W.dataLe false pyT
def SortOk (ds : List D) : Prop := (∀ d ∈ ds, d.py = some (pyT d) ∧ (pyT d).depth ≤ 60) ∧ PySem.W.AllAlike (ds.map pyT) ∧ PySem.W.Sortable (ds.map pyT) ∧ ds.length ≤ sizeLine
open Classical in
noncomputable def srtO : List D → Option O
  | [.lst ds] => if SortOk ds then some (.lst ((ds.mergeSort leD).map .dat)) else none
  | _ => none
theorem each_of {K : PySem.W.Frag} {M : Hp} : ∀ {vs : List V} {ds : List D} {us : List Value}, Dvs K M vs ds → Vals vs us → PySem.W.EachIs (fun u (d : D) => ∃ v, RelV v u ∧ Dv K M v d) us ds
  | _, _, _, .nil, .nil => .nil
  | _, _, _, .cons d ds, .cons r rs => .cons ⟨_, r, d⟩ (each_of ds rs)
theorem of_each {K : PySem.W.Frag} {M : Hp} : ∀ {us : List Value} {ds : List D}, PySem.W.EachIs (fun u (d : D) => ∃ v, RelV v u ∧ Dv K M v d) us ds → ∃ vs, Vals vs us ∧ Dvs K M vs ds
  | _, _, .nil => ⟨[], .nil, .nil⟩
  | _, _, .cons ⟨v, r, d⟩ t => by
    obtain ⟨vs, rs, ds⟩ := of_each t
    exact ⟨v :: vs, .cons r rs, .cons d ds⟩
theorem cSorted (hu : X.A.units + 64 < cLine) : CallR X (.builtin "sorted") (rOs X.K srtO) := by
  intro pins s σ H xs us Q I r ⟨M, fo, fv, ds, o, R, dv, e, k⟩
  unfold srtO at e
  split at e
  · rename_i ds
    split at e
    · rename_i ok
      cases e
      cases dv with
      | cons d1 dn =>
        cases dn
        cases d1 with
        | lst hs hd =>
          obtain ⟨its, rv, hl, _⟩ := I.list (seqX R.same hs)
          rw [Vals.ref1 r]
          obtain ⟨o1, o2, o3, o4⟩ := ok
          refine PySem.W.sorted_data (bs := ds) (enc := pyT) hl.isList (each_of hd rv) ?_ o2 o3 o4 (fun b hb => by have := (o1 b hb).2; omega) fun out hlen eo => ?_
          · have key : ∀ {vs : List V} {es : List D} {us : List Value}, (∀ d ∈ es, d.py = some (pyT d)) → Dvs X.K M vs es → Vals vs us → PySem.W.EachIs (fun u (d : D) => ∃ as, Reads s.heap u (pyT d) as) us es := by
              intro vs es
              induction es generalizing vs with
              | nil => intro us _ h2 h3; cases h2; cases h3; exact .nil
              | cons d es ih =>
                intro us h1 h2 h3
                cases h2 with
                | cons a b =>
                  cases h3 with
                  | cons c c' => exact .cons (Dp.reads I _ _ _ (dp_mono R.same (a.dp (h1 d List.mem_cons_self))) c) (ih (fun x hx => h1 x (List.mem_cons_of_mem _ hx)) b c')
            exact key (fun d hd => (o1 d hd).1) hd rv
          · obtain ⟨ep, he'⟩ := PyProof.Rows.sortedAll_at s.heap its out.toArray
            obtain ⟨vs, rs, dvs⟩ := of_each eo
            have hlen' : vs.length ≤ sizeLine := by rw [rs.length, hlen]; exact o4
            have hf := I.hok.fresh (Nat.le_succ s.heap.objs.size)
            exact ⟨.ref _, upd H (s.heap.objs.size + 1) (.lst vs), I.laid (t' := s.toks) (fun _ _ => PyProof.Rows.sortedAll_old) (Nat.le_succ _) ⟨hlen', out, ep, rs, by simpa using he'⟩, rfl, k M _ _ (Same.refl _) (Rep.newL (l := []) (lv := []) R rfl hf dvs)⟩
    · cases e
  · cases e
end
end PD

namespace PD
open PySem PySem.Spec L2

section
variable {X : Cx} {W : WX} {J : List Nat} {pos p cpos apos : Pos} {e : Expr} {es : List Expr} {ga : Ev → Option (List D)} {te : TE}
/-! ### list(d.values()) -/
def tListVals (te : TE) : TE := fun σ H Q => te σ H fun x H1 => ∃ d kvs, x = .ref d ∧ Rd H1 d (.dK kvs) ∧ ∀ p, H1 p = none → Q (.ref p) (upd H1 p (.lst (kvs.map (·.2))))
theorem kv_val : ∀ {kvs : List (Key × V)} {vs : List (Key × Value)} {j : Nat} {x : V}, KV kvs vs → (kvs.map (·.2))[j]? = some x → ∃ k u, vs[j]? = some (k, u) ∧ RelV x u
  | _, _, _, _, .nil, e => by simp at e
  | (k, x) :: _, (k', u) :: _, 0, y, .cons r _, e => by
    simp at e; subst e
    exact ⟨k', u, rfl, r.2⟩
  | _ :: _, _ :: _, j + 1, y, .cons _ t, e => by
    obtain ⟨k, u, h1, h2⟩ := kv_val (j := j) t (by simpa using e)
    exact ⟨k, u, by simpa using h1, h2⟩
theorem pe_listVals (hc : X.calm = true) (he : PE X e te) (hg : Gl X "list") (hm : X.mg "list" = none) (hv : bootBuiltins "list" = some (.type "list")) (hbase : attributeBase e "values" X.env (eval e X.env) = eval e X.env := by rfl) (hline : (apos.endLine == cpos.line) = true := by rfl)
    (hs : starEach [.Call (.Attribute e "values" apos) [] [] cpos] X.env = (false, eval (.Call (.Attribute e "values" apos) [] [] cpos) X.env) :: starEach [] X.env := by rfl) :
    PE X (.Call (.Name "list" p) [.Call (.Attribute e "values" apos) [] [] cpos] [] pos) (tListVals te) := by
  refine ⟨fun pins s σ H Q I hq => ?_⟩
  refine wpAny_Call_Name_kw (ld_blt I hg hm hv ?_)
  refine PyProof.Rows.callWith_type1 ?_ hs rfl
  rw [hs]
  show wpAny _ _ (spliced ((false, eval (.Call (.Attribute e "values" apos) [] [] cpos) X.env) :: backTo pos (starEach [] X.env))) _ _ s
  refine Calls.spliced_cons ?_
  refine wpAny_Call_method (T := "dict") (id := "dict.values") hbase rfl hline F.plainAttrs_dict F.slot_dict_values F.type_dict_values (thn (he.run pins s σ H _ I hq) fun u s1 ⟨x, H1, I1, rx, d, kvs, ex, hd, q⟩ => ?_)
  subst ex
  obtain rfl : u = Value.ref d := rx
  obtain ⟨hz, hs0, vs, kv, hdo⟩ := dk_rd I1.hok hd
  have lk : kvs.length = vs.length := Paired.length kv
  have I2 : Inv X pins σ H1 { s1 with heap := s1.heap.push { cls := .type "dict_values", data := .fields #[.ref d] } } := I1.kept (t' := s1.toks) fun b ob q => Heap.get?_push_of_some _ q
  refine ⟨hdo.typeIs, hdo.mapOf.noDict, ?_⟩
  show wpAny _ _ (callWith cpos (.builtin "dict.values") [.ref d] [] []) _ X.xe s1
  refine method_meetsIn F.slot_dict_values F.entry_dict_values rfl (PySem.evalArgs_none ⟨rfl, hdo.typeIs, F.args_dict_values_1 _, _, meets_dict_values (mixKind X.prog X.w) d hs0, ⟨vs, hdo⟩, ?_⟩)
  refine Calls.spliced_nil ?_
  obtain ⟨es, ep, hraw, hsz, hat⟩ := hdo.raw
  refine PySem.W.kdl_call (T := "dict_values") (PySem.KdlSrc.rawValues (d := d) (es := es) (ep := ep)) (I1.ok.hd hc) ⟨⟨_, Heap.get?_push_size _ rfl, rfl, rfl⟩, hraw.at fun o z => Heap.get?_push_of_some _ z⟩ (by rw [hsz, ← lk]; exact hz) fun h' tk acc' c' hkeep hS hacc => ?_
  have J := I2.laid (t' := tk) (a := (s1.heap.push { cls := .type "dict_values", data := .fields #[.ref d] }).objs.size) (o := .lst (kvs.map (·.2))) (h' := h') hkeep (Nat.le_refl _) (show ObjOk X.prog X.w _ _ _ (.lst (kvs.map (·.2))) from ⟨by rw [List.length_map]; exact hz, acc'.toList, c', ?_, ?_⟩)
  · exact ⟨.ref _, _, J, rfl, q _ (I2.hok.fresh (Nat.le_refl _))⟩
  · have el : acc'.toList.length = acc'.size := by simp
    refine vals_of_at (by rw [List.length_map, el, hacc.1, hsz, lk]) fun j x w h1 h2 => ?_
    obtain ⟨hi, e2⟩ := hacc.2 j w (by rw [← Array.getElem?_toList]; exact h2)
    obtain ⟨k, u, e3, r3⟩ := kv_val kv h1
    obtain ⟨_, e4⟩ := hat j hi k u e3
    rw [e2, e4]; exact r3
  · rw [Array.toArray_toList]; exact hS

theorem dget_rd {H : Hp} {a : Addr} {kvs : List (Key × V)} {k : Key} (e : Rd H a (.dK kvs)) : DGet H a (kV k) (valV kvs k) := .inl ⟨kvs, k, e, rfl, rfl⟩
def keyD : D → Option Key
  | .int i => some (.inl i)
  | .str x => some (.inr x)
  | _ => none
theorem key_of {K : PySem.W.Frag} {M : Hp} {v : V} {d : D} {k : Key} (h : Dv K M v d) (e : keyD d = some k) : v = kV k := by
  cases h <;> cases e <;> rfl
/-- {} -/
def dic0 (_ : Ev) : Option O := some (.dic [] [])
theorem Rep.newD {K : PySem.W.Frag} {M H : Hp} {l r : List O} {lv rv : List (Option V)} (R : Rep K M H (l ++ r) (lv ++ rv)) (e : lv.length = l.length) {p : Addr} (hp : H p = none) : Rep K M (upd H p (.dK [])) (l ++ .dic [] [] :: r) (lv ++ some (.ref p) :: rv) := by
  obtain ⟨s, fp, w, nd, nm⟩ := R
  have pn : p ∉ fp := fun z => w.dom p z hp
  have w' : Ows K M (upd H p (.dK [])) (l ++ r) (lv ++ rv) fp := w.frame (Same.refl _) fun a ha => upd_ne fun z => pn (z ▸ ha)
  obtain ⟨fa, fb, e1, wa, wb⟩ := w'.split e
  subst e1
  refine ⟨fun b u q => ?_, fa ++ ([p] ++ fb), wa.append (.cons (.dic upd_same rfl .nil) wb), ?_, fun a ha => ?_⟩
  · have q' := s b u q
    rw [upd_ne (ne_of_none q' hp)]; exact q'
  · rw [List.nodup_append] at nd ⊢
    obtain ⟨n1, n2, n3⟩ := nd
    refine ⟨n1, List.nodup_cons.mpr ⟨fun z => pn (List.mem_append_right _ z), n2⟩, fun a ha b hb => ?_⟩
    rcases List.mem_cons.mp hb with rfl | hb
    · exact fun z => pn (z ▸ List.mem_append_left _ ha)
    · exact n3 a ha b hb
  · simp only [List.mem_append, List.mem_singleton] at ha
    rcases ha with ha | rfl | ha
    · exact nm a (List.mem_append_left _ ha)
    · exact s.free hp
    · exact nm a (List.mem_append_right _ ha)
theorem oDic0 : PE X (.Dict [] [] pos) (tO X.K dic0) := PE.imp pe_dnewK fun σ H Q ⟨M, ρ, fo, fv, o, R, l, e, k⟩ => by
  cases e
  exact fun p hp => k M _ _ (Same.refl _) (R.newD l hp)
/-- list(d.values()) -/
def valsO (f : Ev → Option D) (ρ : Ev) : Option O := (f ρ).bind fun d => match d with
  | .dic _ ds => some (.lst (ds.map .dat))
  | _ => none
theorem oVals {f : Ev → Option D} (hc : X.calm = true) (he : PE X e (tP X.K f)) (hm : X.mg "list" = none) (hg : Gl X "list" := by rfl) (hbase : attributeBase e "values" X.env (eval e X.env) = eval e X.env := by rfl) (hline : (apos.endLine == cpos.line) = true := by rfl)
    (hs : starEach [.Call (.Attribute e "values" apos) [] [] cpos] X.env = (false, eval (.Call (.Attribute e "values" apos) [] [] cpos) X.env) :: starEach [] X.env := by rfl) :
    PE X (.Call (.Name "list" p) [.Call (.Attribute e "values" apos) [] [] cpos] [] pos) (tO X.K (valsO f)) := PE.imp (pe_listVals hc he hg hm (by decide +kernel) hbase hline hs) fun σ H Q ⟨M, ρ, fo, fv, o, R, l, e, k⟩ => by
  unfold valsO at e
  cases q : f ρ with
  | none => rw [q] at e; cases e
  | some d =>
    rw [q, Option.bind_some] at e
    split at e
    · cases e
      refine ⟨M, ρ, fo, fv, _, R, l, q, fun M1 H1 v s1 R1 d1 => ?_⟩
      cases d1 with
      | dic ha hk hd => exact ⟨_, _, rfl, Rd.up R1.same ha, fun p hp => k M1 _ _ s1 (R1.newL l hp hd)⟩
    · cases e
/-- d[k] of a frozen dict -/
def dlook (k : Key) : List Key → List D → Option D
  | k' :: ks, d :: ds => if k' = k then some d else dlook k ks ds
  | _, _ => none
theorem dlook_val {K : PySem.W.Frag} {M : Hp} {k : Key} : ∀ {kvs : List (Key × V)} {ds : List D}, Dvs K M (kvs.map (·.2)) ds → match dlook k (kvs.map (·.1)) ds with
    | some d => ∃ v, valV kvs k = some v ∧ Dv K M v d
    | none => valV kvs k = none
  | [], _, .nil => rfl
  | (k', v) :: kvs, _, .cons (d := d) (ds := ds) h hs => by
    simp only [List.map_cons, dlook]
    by_cases e : k' = k
    · rw [if_pos e]; exact ⟨v, valV_pos e, h⟩
    · rw [if_neg e]
      have ih := dlook_val (k := k) hs
      have ev : valV ((k', v) :: kvs) k = valV kvs k := valV_neg e
      rw [ev]
      exact ih
def dgetD (x y : D) : Option D := match x with
  | .dic ks ds => (keyD y).bind fun k => dlook k ks ds
  | _ => none
theorem pDget {a b : Expr} {fa fb : Ev → Option D} (hu : X.A.units + 64 < cLine) (ha : PE X a (tP X.K fa)) (hb : PE X b (tP X.K fb)) (hs : NoSl b := by exact fun _ _ => rfl) : PE X (.Subscript a b pos) (tP X.K (b2 fa fb dgetD)) := PE.imp (pe_dget (by omega) ha hb hs) fun σ H Q h => by
  obtain ⟨M, ρ, fo, fv, d, R, l, e, k⟩ := h
  obtain ⟨x, y, ea, eb, eg⟩ := b2_some e
  refine ⟨M, ρ, fo, fv, x, R, l, ea, fun M1 H1 v1 s1 R1 d1 => ⟨M1, ρ, fo, fv, y, R1, l, eb, fun M2 H2 v2 s2 R2 d2 => ?_⟩⟩
  unfold dgetD at eg
  split at eg
  · rename_i ks ds
    cases q : keyD y with
    | none => rw [q] at eg; cases eg
    | some kk =>
      rw [q, Option.bind_some] at eg
      have d1 := d1.mono s2
      cases d1 with
      | dic h1 hk hd =>
        subst hk
        have := dlook_val (k := kk) hd
        rw [eg] at this
        obtain ⟨v, ev, dv⟩ := this
        refine ⟨_, v, rfl, ?_, k M2 H2 v (s1.trans s2) R2 dv⟩
        rw [key_of d2 q, ← ev]
        exact dget_rd (Rd.up R2.same h1)
  · cases eg
def dinD (x y : D) : Option D := match y with
  | .dic ks ds => if ds.length = ks.length then (keyD x).map fun k => .bl (dlook k ks ds).isSome else none
  | _ => none
theorem din_of {K : PySem.W.Frag} {fa fb : Ev → Option D} {σ : L2.St} {H : Hp} {Q : VK} (h : tP K (b2 fa fb dinD) σ H Q) : tDIn (tP K fa) (tP K fb) σ H Q := by
  obtain ⟨M, ρ, fo, fv, d, R, l, e, k⟩ := h
  obtain ⟨x, y, ea, eb, eg⟩ := b2_some e
  refine ⟨M, ρ, fo, fv, x, R, l, ea, fun M1 H1 v1 s1 R1 d1 => ⟨M1, ρ, fo, fv, y, R1, l, eb, fun M2 H2 v2 s2 R2 d2 => ?_⟩⟩
  unfold dinD at eg
  split at eg
  · rename_i ks ds
    split at eg
    · cases q : keyD x with
      | none => rw [q] at eg; cases eg
      | some kk =>
        rw [q] at eg
        cases eg
        cases d2 with
        | dic h1 hk hd =>
          subst hk
          have hv := dlook_val (k := kk) hd
          rw [key_of d1 q]
          refine ⟨_, _, rfl, dget_rd (Rd.up R2.same h1), ?_⟩
          cases q2 : dlook kk _ ds with
          | none => rw [q2] at hv; rw [show valV _ kk = none from hv]; exact k M2 H2 _ (s1.trans s2) R2 (by simp only [q2]; exact .bl _)
          | some z => rw [q2] at hv; obtain ⟨v, ev, _⟩ := hv; rw [ev]; exact k M2 H2 _ (s1.trans s2) R2 (by simp only [q2]; exact .bl _)
    · cases eg
  · cases eg
theorem pDin {a b : Expr} {fa fb : Ev → Option D} (hu : X.A.units + 64 < cLine) (ha : PE X a (tP X.K fa)) (hb : PE X b (tP X.K fb)) (hm : behindInMarks .In b = false := by rfl) : PE X (.Compare a [.In] [b] pos) (tP X.K (b2 fa fb dinD)) := PE.imp (pe_cmp (pc_din (by omega) ha hb) hm) fun _ _ _ h => din_of h
theorem tDin' {a b : Expr} {fa fb : Ev → Option D} (hu : X.A.units + 64 < cLine) (ha : PE X a (tP X.K fa)) (hb : PE X b (tP X.K fb)) (hm : behindInMarks .In b = false := by rfl) : PT X (.Compare a [.In] [b] pos) (tT X.K (asB (b2 fa fb dinD))) :=
  PT.imp (pt_cmp (pc_din (by omega) ha hb) hm) fun σ H Q ⟨M, ρ, fo, fv, b, R, l, e, k⟩ => din_of (K := X.K) (Q := fun x H' => ∃ k, x = .bl k ∧ Q k H') ⟨M, ρ, fo, fv, .bl b, R, l, asB_some e, fun M' H' v s R' dv => by cases dv; exact ⟨b, rfl, k M' H' s R'⟩⟩

/-! ### an own dict in a slot -/
def olook (k : Key) : List Key → List O → Option O
  | k' :: ks, d :: ds => if k' = k then some d else olook k ks ds
  | _, _ => none
theorem olook_val {K : PySem.W.Frag} {M H : Hp} {k : Key} : ∀ {kvs : List (Key × V)} {os : List O} {fp : List Addr}, Ows K M H os (kvs.map fun p => some p.2) fp → match olook k (kvs.map (·.1)) os with
    | some o => ∃ v f, valV kvs k = some v ∧ Ow K M H o (some v) f
    | none => valV kvs k = none
  | [], _, _, .nil => rfl
  | (k', v) :: kvs, _, _, .cons (o := o) (os := os) h hs => by
    simp only [List.map_cons, olook]
    by_cases e : k' = k
    · rw [if_pos e]; exact ⟨v, _, valV_pos e, h⟩
    · rw [if_neg e]
      have ih := olook_val (k := k) hs
      have ev : valV ((k', v) :: kvs) k = valV kvs k := valV_neg e
      rw [ev]
      exact ih
def dgetO (i : Nat) (fk : Ev → Option D) (ρ : Ev) : Option D := (fk ρ).bind fun y => (keyD y).bind fun k => match ρ[i]? with
  | some (.dic ks os) => match olook k ks os with
    | some (.dat d) => some d
    | _ => none
  | _ => none
theorem pDgetO {i : Nat} {x : Str} {p' : Pos} {b : Expr} {fk : Ev → Option D} (hu : X.A.units + 64 < cLine) (hv : PE X (.Name x p') (tVar i)) (hb : PE X b (tP X.K fk)) (hs : NoSl b := by exact fun _ _ => rfl) : PE X (.Subscript (.Name x p') b pos) (tP X.K (dgetO i fk)) := PE.imp (pe_dget (by omega) hv hb hs) fun σ H Q h => by
  obtain ⟨M, ρ, fo, fv, d, R, l, e, k⟩ := h
  unfold dgetO at e
  cases q : fk ρ with
  | none => rw [q] at e; cases e
  | some y =>
    rw [q, Option.bind_some] at e
    cases q2 : keyD y with
    | none => rw [q2] at e; cases e
    | some kk =>
      rw [q2, Option.bind_some] at e
      split at e
      · rename_i ks os eo
        split at e
        · rename_i d' el
          cases e
          have R' : Rep X.K M H (ρ ++ ([] ++ fo)) (σ ++ ([] ++ fv)) := R
          obtain ⟨w, f1, ft, ew, h1, _, _, _, _⟩ := R'.own l rfl eo
          cases h1 with
          | @dic a kvs _ _ fp ha hk ws =>
            refine ⟨.ref a, ew, M, ρ, fo, fv, y, R, l, q, fun M1 H1 v1 s1 R1 d1 => ?_⟩
            have R1' : Rep X.K M1 H1 (ρ ++ ([] ++ fo)) (σ ++ ([] ++ fv)) := R1
            obtain ⟨w', f1', ft', ew', h1', _, _, _, _⟩ := R1'.own l rfl eo
            rw [ew] at ew'
            cases ew'
            cases h1' with
            | dic ha' hk' ws' =>
              have hv' := olook_val (k := kk) ws'
              rw [hk', el] at hv'
              obtain ⟨v, f, ev, ov⟩ := hv'
              refine ⟨a, v, rfl, ?_, ?_⟩
              · rw [key_of d1 q2, ← ev]; exact DGet.k ha'
              · cases ov with
                | dat dv => exact k M1 H1 v s1 R1 dv
        · cases e
      · cases e
def putKD (k : Key) (d : D) (ks : List Key) (os : List O) : List Key × List O := if (ks.any fun k' => decide (k' = k)) = true then (ks, List.zipWith (fun k' o => if k' = k then .dat d else o) ks os) else (ks ++ [k], os ++ [.dat d])
def dput (i : Nat) (fk fv : Ev → Option D) (ρ : Ev) : Option Fl := (fv ρ).bind fun d => (fk ρ).bind fun y => (keyD y).bind fun k => match ρ[i]? with
  | some (.dic ks os) => if os.length < sizeLine then some (.nx (ρ.set i (.dic (putKD k d ks os).1 (putKD k d ks os).2))) else none
  | _ => none
theorem putKD_keys {k : Key} {v : V} {d : D} {kvs : List (Key × V)} {os : List O} : (putK kvs k v).map (·.1) = (putKD k d (kvs.map (·.1)) os).1 := by
  unfold putK putKD
  rw [List.any_map]
  have : ((fun k' => decide (k' = k)) ∘ fun x : Key × V => x.1) = fun kv => decide (kv.1 = k) := rfl
  rw [this]
  split
  · rw [List.map_map]
    apply List.map_congr_left
    intro p _
    simp only [Function.comp]
    split <;> rfl
  · simp
theorem zip_ows {K : PySem.W.Frag} {M H : Hp} {k : Key} {v : V} {d : D} (dv : Dv K M v d) : ∀ {kvs : List (Key × V)} {os : List O} {fp : List Addr}, Ows K M H os (kvs.map fun p => some p.2) fp →
    ∃ fp', Ows K M H (List.zipWith (fun k' o => if k' = k then O.dat d else o) (kvs.map (·.1)) os) ((kvs.map fun kv => if kv.1 = k then (kv.1, v) else kv).map fun p => some p.2) fp' ∧ ∀ b, fp'.count b ≤ fp.count b
  | [], _, _, .nil => ⟨[], .nil, fun b => Nat.le_refl _⟩
  | (k', x) :: kvs, _, _, .cons (o := o) (os := os) (f1 := f1) (f2 := f2) h hs => by
    obtain ⟨fp', w, c⟩ := zip_ows dv hs
    simp only [List.map_cons, List.zipWith_cons_cons]
    by_cases e : k' = k
    · rw [if_pos e, if_pos e]
      exact ⟨[] ++ fp', .cons (.dat dv) w, fun b => by have := c b; simp only [List.nil_append, List.count_append]; omega⟩
    · rw [if_neg e, if_neg e]
      exact ⟨f1 ++ fp', .cons h w, fun b => by have := c b; simp only [List.count_append]; omega⟩
theorem putKD_ows {K : PySem.W.Frag} {M H : Hp} {k : Key} {v : V} {d : D} (dv : Dv K M v d) {kvs : List (Key × V)} {os : List O} {fp : List Addr} (w : Ows K M H os (kvs.map fun p => some p.2) fp) :
    ∃ fp', Ows K M H (putKD k d (kvs.map (·.1)) os).2 ((putK kvs k v).map fun p => some p.2) fp' ∧ ∀ b, fp'.count b ≤ fp.count b := by
  unfold putK putKD
  rw [List.any_map]
  have : ((fun k' => decide (k' = k)) ∘ fun x : Key × V => x.1) = fun kv => decide (kv.1 = k) := rfl
  rw [this]
  split
  · exact zip_ows dv w
  · refine ⟨fp ++ ([] ++ []), ?_, fun b => by simp⟩
    rw [List.map_append]
    exact w.append (.cons (.dat dv) .nil)
theorem sDput {i : Nat} {x : Str} {p' pp : Pos} {b value : Expr} {fk fvl : Ev → Option D} (hu : X.A.units + 64 < cLine) (hv : PE X (.Name x p') (tVar i)) (hb : PE X b (tP X.K fk)) (he : PE X value (tP X.K fvl)) (hs : swapsWith value (some (.Subscript (.Name x p') b pp)) pos.line X.env = pure false := by rfl) :
    PS X (.Assign [.Subscript (.Name x p') b pp] value pos) (tS X.K W J (dput i fk fvl)) := PS.imp (ps_dput (by omega) hv hb he hs) fun E σ H ⟨M, ρ, fo, fv, r, σ0, R, l, e, k⟩ => by
  unfold dput at e
  cases q : fvl ρ with
  | none => rw [q] at e; cases e
  | some d =>
    rw [q, Option.bind_some] at e
    cases q1 : fk ρ with
    | none => rw [q1] at e; cases e
    | some y =>
      rw [q1, Option.bind_some] at e
      cases q2 : keyD y with
      | none => rw [q2] at e; cases e
      | some kk =>
        rw [q2, Option.bind_some] at e
        split at e
        · rename_i ks os eo
          split at e
          · rename_i hlen
            cases e
            refine ⟨M, ρ, fo, fv, d, R, l.1, q, fun M1 H1 v s1 R1 d1 => ?_⟩
            have R1' : Rep X.K M1 H1 (ρ ++ ([] ++ fo)) (σ ++ ([] ++ fv)) := R1
            obtain ⟨w, f1, ft, ew, h1, _, _, _, _⟩ := R1'.own l.1 rfl eo
            cases h1 with
            | @dic a kvs _ _ fp ha hk ws =>
              refine ⟨.ref a, ew, M1, ρ, fo, fv, y, R1, l.1, q1, fun M2 H2 v2 s2 R2 d2 => ?_⟩
              have R2' : Rep X.K M2 H2 (ρ ++ ([] ++ fo)) (σ ++ ([] ++ fv)) := R2
              obtain ⟨w', f1', ft', ew', h1', h2', nd, nm, up⟩ := R2'.own l.1 rfl eo
              cases h2'
              rw [ew] at ew'
              cases ew'
              cases h1' with
              | @dic _ kvs' _ _ fp' ha' hk' ws' =>
                have hlk : kvs'.length = os.length := by rw [← ws'.length, List.length_map]
                refine ⟨a, upd H2 a (.dK (putK kvs' kk v)), rfl, ?_, ?_⟩
                · rw [key_of d2 q2]
                  exact DPut.k ha' (by rw [hlk]; exact hlen)
                · have hd : ∀ b ∈ fp', b ≠ a := fun b hb z => by
                    subst z
                    rw [List.nodup_iff_count] at nd
                    have := nd b
                    simp only [List.append_nil, List.count_cons, beq_self_eq_true, if_true] at this
                    have := List.count_pos_iff.mpr hb
                    omega
                  have ma : M2 a = none := nm a (by simp)
                  have sm : Same M2 (upd H2 a (.dK (putK kvs' kk v))) := fun b u z => by
                    rw [upd_ne (fun y => by subst y; rw [ma] at z; cases z)]; exact R2.same b u z
                  obtain ⟨fp2, w2, c2⟩ := putKD_ows (k := kk) (d1.mono s2) (ws'.frame (Same.refl _) (H' := upd H2 a (.dK (putK kvs' kk v))) fun b hb => upd_ne (hd b hb))
                  refine k M2 _ σ (s1.trans s2) (up M2 _ _ (a :: fp2) (Same.refl _) sm (fun b hb _ => upd_ne fun z => hb (by simp [z])) (.dic upd_same ?_ ?_) (fun b => ?_) fun b hb _ => hb) (l.setR _)
                  · rw [putKD_keys (d := d) (os := os), hk']
                  · rw [hk'] at w2; exact w2
                  · have := c2 b
                    simp only [List.count_cons, List.count_nil] at this ⊢
                    omega
          · cases e
        · cases e
end
end PD

namespace PD
open PySem PySem.Spec L2

theorem Dvs.rev {K : PySem.W.Frag} {M : Hp} : ∀ {vs : List V} {ds : List D}, Dvs K M vs ds → Dvs K M vs.reverse ds.reverse
  | _, _, .nil => .nil
  | _, _, .cons h t => by
    rw [List.reverse_cons, List.reverse_cons]
    exact (Dvs.rev t).append (.cons h .nil)
section
variable {X : Cx} {W : WX} {J : List Nat} {pos p cpos apos : Pos} {e a b : Expr} {es : List Expr} {fa fb : Ev → Option D}
theorem Inv.listX {pins : List (Addr × Obj)} {σ : L2.St} {H : Hp} {s : Shared} {l : Addr} {xs : List V} (I : Inv X pins σ H s) (h : SqX X.K H l xs) : ∃ (its : List Value) (n : Nat), Vals xs its ∧ s.heap.get? l = some ({ cls := .type "list", data := .seq its.toArray n } : Obj) := by
  rcases h with h | ⟨its, n, lk, hz, r⟩
  · obtain ⟨z, its, n, r, e⟩ := h.ok I.hok
    exact ⟨its, n, r, e⟩
  · refine ⟨its.toList, n, r, ?_⟩
    rw [Array.toArray_toList]; exact I.kIn _ _ lk
/-! ### list + list -/
def rCatX (K : PySem.W.Frag) : R2 := fun x y H Q => ∃ l b xs zs, x = .ref l ∧ y = .ref b ∧ SqX K H l xs ∧ SqX K H b zs ∧ xs.length + zs.length ≤ sizeLine ∧ ∀ p, H p = none → Q (.ref p) (upd H p (.lst (xs ++ zs)))
theorem op_catX : OpR X (binaryOp .Add) (rCatX X.K) := by
  intro pins s σ H x y v u Q I rx ry h
  obtain ⟨l, b, xs, zs, rfl, rfl, hH, hB, hz, q⟩ := h
  cases rx
  cases ry
  obtain ⟨its, n, r, e⟩ := Inv.listX I hH
  obtain ⟨its2, n2, r2, e2⟩ := Inv.listX I hB
  have l1 := r.length
  have l2 := r2.length
  refine PySem.P.add_list e e2 ?_ (by rw [List.size_toArray, List.size_toArray]; omega)
  have ea : its.toArray ++ its2.toArray = (its ++ its2).toArray := by simp
  rw [ea]
  exact ⟨.ref _, _, I.lnew (t' := s.toks) (r.append r2) (by rw [List.length_append]; omega), rfl, q _ I.fresh⟩
def catL (x y : D) : Option D := match x, y with
  | .lst xs, .lst ys => if xs.length + ys.length ≤ sizeLine then some (.lst (xs ++ ys)) else none
  | _, _ => none
theorem oCatL : OpR X (binaryOp .Add) (rD X.K catL) := OpR.imp op_catX fun x y H Q ⟨M, fo, fv, dx, dy, d, R, d1, d2, e, k⟩ => by
  unfold catL at e
  split at e
  · rename_i xs ys
    split at e
    · rename_i hz
      cases e
      cases d1 with
      | @lst l ws _ h1 g1 =>
        cases d2 with
        | @lst b zs _ h2 g2 =>
          refine ⟨l, b, ws, zs, rfl, rfl, sqX_same R.same h1, sqX_same R.same h2, by rw [g1.length, g2.length]; exact hz, fun p hp => ?_⟩
          have s2 := same_updM (u := .lst (ws ++ zs)) (R.same.free hp)
          exact k _ _ _ s2 (R.growM hp) (.lst (.inl (.inl upd_same)) ((g1.append g2).mono s2))
    · cases e
  · cases e
/-- tuple + tuple -/
def catT (x y : D) : Option D := match x, y with
  | .tup xs, .tup ys => if xs.length + ys.length ≤ sizeLine then some (.tup (xs ++ ys)) else none
  | _, _ => none
theorem oCatT : OpR X (binaryOp .Add) (rD X.K catT) := OpR.imp op_catA fun x y H Q ⟨M, fo, fv, dx, dy, d, R, d1, d2, e, k⟩ => by
  unfold catT at e
  split at e
  · rename_i xs ys
    split at e
    · rename_i hz
      cases e
      have e1 := d1
      have e2 := d2
      cases d1 with
      | @tup l ws _ h1 g1 =>
        cases d2 with
        | @tup b zs _ h2 g2 =>
          refine ⟨l, b, ws, zs, rfl, rfl, sqT_same R.same h1, sqT_same R.same h2, by rw [g1.length, g2.length]; exact hz, fun z => ?_, fun _ z => ?_, fun _ _ p hp => ?_⟩
          · subst z
            cases g1
            exact k M H _ (Same.refl _) R e2
          · subst z
            cases g2
            rw [List.append_nil] at k
            exact k M H _ (Same.refl _) R e1
          · have s2 := same_updM (u := .tup (ws ++ zs)) (R.same.free hp)
            exact k _ _ _ s2 (R.growM hp) (.tup (.inl (.inl upd_same)) ((g1.append g2).mono s2))
    · cases e
  · cases e
/-- + of ints, texts, lists, tuples -/
abbrev addA : D → D → Option D := orD addD (orD catL catT)
theorem oAddA : OpR X (binaryOp .Add) (rD X.K addA) := op_orD oAdd (op_orD oCatL oCatT)
/-! ### xs[::-1] -/
def revD : D → Option D
  | .lst xs => some (.lst xs.reverse)
  | _ => none
theorem pRev {k : Nat} {p1 p2 p3 : Pos} (he : PE X e (tP X.K fa)) : PE X (.Subscript e (.Slice none none (some (.UnaryOp .USub (.Constant (.int 1) k p1) p2)) p3) pos) (tP X.K (b1 fa revD)) := PE.imp (pe_revL he) fun σ H Q ⟨M, ρ, fo, fv, d, R, l, e, k⟩ => by
  obtain ⟨x, ea, eg⟩ := b1_some e
  unfold revD at eg
  split at eg
  · rename_i xs
    cases eg
    refine ⟨M, ρ, fo, fv, _, R, l, ea, fun M1 H1 v1 s1 R1 d1 => ?_⟩
    cases d1 with
    | @lst a ws _ h1 g1 =>
      refine ⟨a, ws, rfl, seqX R1.same h1, fun p hp => ?_⟩
      have s2 := same_updM (u := .lst ws.reverse) (R1.same.free hp)
      exact k _ _ _ (s1.trans s2) (R1.growM hp) (.lst (.inl (.inl upd_same)) ((Dvs.rev g1).mono s2))
  · cases eg
/-- C(k=v, ..) -/
theorem run_makeK {CX : CXT} {kk : Nat} {f C : Addr} {fd : FuncData} {ps ks : List Str} {sp : Sp} {x : Str} {kws : List Keyword} {tk : TA} {g : List Value → List Value → List Value} {gV : List V → List V → List V} {E : XK} (Mc : Mk X.K C f) (F : FnOk X.prog X.w X.K X.mg X.base CX kk f fd ps sp) (hr : Room (kk + 1) X.A) (hg : Gl X x) (hm : X.mg x = some (.ref C)) (hb : KBn X.K fd ps 1 ks g gV) (hx : Passes CX X E)
    (hkw : PK X kws tk) (hall : (backToKw pos (keywordEach kws X.env)).all (·.1.isSome) = true := by rfl) (hks : (backToKw pos (keywordEach kws X.env)).filterMap (·.1) = ks := by rfl)
    (hdb : (x == ("__debug__" : Str)) = false := by decide)
    (hpl : ((backTo pos (starEach [] X.env)).any (·.1) || (backToKw pos (keywordEach kws X.env)).any (·.1.isNone)) = false := by rfl) :
    PE X (.Call (.Name x p) [] kws pos) (fun σ H Q => tk σ H fun zs H2 => zs.length = ks.length ∧ ∀ x dx, H2 x = none → H2 dx = none → dx ≠ x → sp (gV [.ref x] zs) (upd (upd H2 dx (.own x)) x (.ins C dx [])) (fun v H3 => v = .non ∧ Q (.ref x) H3) E) := by
  refine ⟨fun pins s σ H Q I h => ?_⟩
  refine wpAny_Call_Name_kw (ld_glob I hg hm ?_ hdb)
  refine PySem.W.callWith_KW0 (h₀ := X.base) I.ok.mod.kin Mc.kp hall ?_ hpl
  refine thn (hkw.run pos pins s σ H _ I h) fun ws s2 ⟨zs, H2, I2, rz, l2, q2⟩ => ⟨I2.kIn, ?_⟩
  rw [hks]
  exact run_makeN (n := 0) (us := []) (vs := []) Mc F hr hb hx I2 .nil rz rfl l2 q2
theorem oMakeK {kk n : Nat} {f C : Addr} {fd : FuncData} {ps ks : List Str} {x : Str} {kws : List Keyword} {ga : Ev → Option (List D)} {m : List D → Option O} {g : List Value → List Value → List Value} (Mc : Mk X.K C f) (F : FnOk X.prog X.w X.K X.mg X.base CX0 kk f fd ps (spI X.K C (n + 1) m)) (hr : Room (kk + 1) X.A) (hm : X.mg x = some (.ref C)) (hb : KBn X.K fd ps 1 ks g (fun vs zs => vs ++ zs)) (hn : ks.length = n)
    (hkw : PK X kws (tAr X.K ga)) (hg : Gl X x := by rfl) (hall : (backToKw pos (keywordEach kws X.env)).all (·.1.isSome) = true := by rfl) (hks : (backToKw pos (keywordEach kws X.env)).filterMap (·.1) = ks := by rfl)
    (hdb : (x == ("__debug__" : Str)) = false := by decide)
    (hpl : ((backTo pos (starEach [] X.env)).any (·.1) || (backToKw pos (keywordEach kws X.env)).any (·.1.isNone)) = false := by rfl) :
    PE X (.Call (.Name x p) [] kws pos) (tO X.K (cO ga (lenO? n m))) := PE.imp (run_makeK (E := E0) Mc F hr hg hm hb pass0 hkw hall hks hdb hpl) fun σ H Q ⟨M, ρ, fo, fv, o, R, l, e, k⟩ => by
  unfold cO lenO? at e
  cases q : ga ρ with
  | none => rw [q] at e; cases e
  | some ds =>
    rw [q, Option.bind_some] at e
    split at e
    · rename_i hn'
      refine ⟨M, ρ, fo, fv, ds, R, l, q, fun M1 H1 vs s1 R1 d1 => ⟨by rw [d1.length, hn', hn], fun x dx hx hd ne => ?_⟩⟩
      exact make_of l R1 d1 (by rw [hn']) e (fun M2 H2 v s2 R2 => k M2 H2 v (s1.trans s2) R2) x dx hx hd ne
    · cases e
end

/-! ### the law's end -/
/-- the law's promise, whatever its mirror -/
def spT (K : PySem.W.Frag) : Sp := fun vs H Q _ => ∃ (a : Addr) (ns : List Int), vs = [.ref a] ∧ ns.length ≤ 63 ∧ SqX K H a (ns.map V.int) ∧ ∀ H', Q (.bl true) H'
theorem spT_of {K : PySem.W.Frag} {m : List D → Option D} (hm : ∀ ns : List Int, ns.length ≤ 63 → m [.lst (ns.map .int)] = some (.bl true)) {vs : List V} {H : Hp} {Q : VK} {E : XK} (h : spT K vs H Q E) : spP K 1 m vs H Q E := by
  obtain ⟨a, ns, rfl, hl, hS, q⟩ := h
  exact ⟨rfl, H, [], [], [.lst (ns.map .int)], .bl true, ⟨Same.refl _, [], .nil, List.nodup_nil, fun _ h => nomatch h⟩, .cons (.lst hS (ints_dvs ns)) .nil, hm ns hl, fun M' H' v _ _ d => by cases d; exact q H'⟩
theorem walk_ofD {l : PySem.W.OpenLaw} {n k : Nat} {q : Program} {loose : List Str} {XP : (Str → Option Value) → Heap → Prop} {YP : World → Heap → Prop} {d : DefRec} {K : Params → PySem.W.Frag} {CX : World → CXT} {x : Str}
    (hn : l.most = some n) (h63 : n ≤ 63) (hdf : d.params.defaults = []) (hr : Room k callerA)
    (hY : ∀ (w : World) (h : Heap), YP w h → (K w.params).In h)
    (F : ∀ (w : World) (mg : Str → Option Value) (fa : Addr) (h : Heap), (K w.params).In h → h.Ns mainGlobals mg → mg d.name = some (.ref fa) →
      ∃ fd : FuncData, (∀ (s : Shared) (u : Value), BindsTo s fd ⟨[u], []⟩ [(x, u)]) ∧
        ∀ base : Heap, (K w.params).In base → base.Ns mainGlobals mg → FnOk l.prog w (K w.params) mg base (CX w) k fa fd [x] (spT (K w.params)))
    (hCX : ∀ (w : World) (H : Hp) (s : Shared) (e : Value) (s' : Shared), CX w [] H s (fun _ _ _ => False) e s' → False) :
    PySem.W.WalkO q loose XP YP l.row.toRowW d [] (fun f vs => PySem.call f vs) := by
  refine Att.attach_callB hn hdf fun w s₀ s₁ mg mb fa o pm cd doc a vs ns G Y ho hd hcd hmg hobj hints hlen hbits hg => ?_
  have KX := hY w _ Y
  obtain ⟨fd, hb, hF⟩ := F w mg fa _ KX G.T.g hmg
  have n63 : ns.length ≤ sizeLine := by rw [sizeLine_eq]; omega
  refine law_call KX G.T.g G.T.b G.T.builtins G.T.nolimit hg hobj hints n63 hr hF hb (fun H hO hS => ?_) fun H e s' => hCX w H s₁ e s'
  refine ⟨a, ns, rfl, Nat.le_trans hlen h63, ?_, fun _ => rfl⟩
  rcases hS with hS | ⟨o', its, m, lk, hc, hdd, hdt, hz, r⟩
  · exact .inl hS
  · have e1 := KX _ _ lk
    rw [hobj] at e1
    cases e1
    cases hdt
    exact .inr ⟨_, _, lk, hz, r⟩
end PD

namespace PD
open PySem PySem.Spec L2

/-! ### roots in another order -/
section
variable {K : PySem.W.Frag} {M H : Hp}
theorem Ows.perm {l l' : List (O × Option V)} (p : l.Perm l') : ∀ {fp : List Addr}, Ows K M H (l.map (·.1)) (l.map (·.2)) fp → ∃ fp', fp.Perm fp' ∧ Ows K M H (l'.map (·.1)) (l'.map (·.2)) fp' := by
  induction p with
  | nil => exact fun w => ⟨_, .refl _, w⟩
  | cons x _ ih =>
    intro fp w
    cases w with
    | cons h hs =>
      obtain ⟨f', q, w'⟩ := ih hs
      exact ⟨_, q.append_left _, .cons h w'⟩
  | swap x y l =>
    intro fp w
    cases w with
    | cons h hs =>
      rename_i f1 f2
      cases hs with
      | cons h' hs' =>
        rename_i f3 f4
        refine ⟨f3 ++ (f1 ++ f4), ?_, .cons h' (.cons h hs')⟩
        rw [← List.append_assoc, ← List.append_assoc]
        exact List.Perm.append_right _ List.perm_append_comm
  | trans _ _ ih1 ih2 =>
    intro fp w
    obtain ⟨f1, q1, w1⟩ := ih1 w
    obtain ⟨f2, q2, w2⟩ := ih2 w1
    exact ⟨f2, q1.trans q2, w2⟩
theorem zip_fst {α β : Type} : ∀ {as : List α} {bs : List β}, bs.length = as.length → (as.zip bs).map (·.1) = as
  | [], [], _ => rfl
  | a :: as, b :: bs, h => by simp only [List.zip_cons_cons, List.map_cons]; rw [zip_fst (by simpa using h)]
theorem zip_snd {α β : Type} : ∀ {as : List α} {bs : List β}, bs.length = as.length → (as.zip bs).map (·.2) = bs
  | [], [], _ => rfl
  | a :: as, b :: bs, h => by simp only [List.zip_cons_cons, List.map_cons]; rw [zip_snd (by simpa using h)]
theorem Rep.perm {os os' : List O} {vs vs' : List (Option V)} (R : Rep K M H os vs) (l : vs.length = os.length) (l' : vs'.length = os'.length) (p : (os.zip vs).Perm (os'.zip vs')) : Rep K M H os' vs' := by
  obtain ⟨s, fp, w, nd, nm⟩ := R
  have w0 : Ows K M H ((os.zip vs).map (·.1)) ((os.zip vs).map (·.2)) fp := by rw [zip_fst l, zip_snd l]; exact w
  obtain ⟨fp', q, w'⟩ := Ows.perm p w0
  rw [zip_fst l', zip_snd l'] at w'
  exact ⟨s, fp', w', q.nodup_iff.mp nd, fun a ha => nm a (q.mem_iff.mpr ha)⟩
theorem split_at {α : Type} {xs : List α} {k : Nat} {x : α} (e : xs[k]? = some x) (y : α) : ∃ a b, xs = a ++ x :: b ∧ a.length = k ∧ xs.set k y = a ++ y :: b := by
  obtain ⟨hk, e⟩ := List.getElem?_eq_some_iff.mp e
  refine ⟨xs.take k, xs.drop (k + 1), ?_, by simp; omega, ?_⟩
  · rw [← e, ← List.drop_eq_getElem_cons hk, List.take_append_drop]
  · rw [List.set_eq_take_append_cons_drop, if_pos hk]
/-- slot k is handed over -/
theorem Rep.pull {l ρ r : List O} {lv σ rv : List (Option V)} {k : Nat} {o : O} {v : Option V} (R : Rep K M H (l ++ (ρ ++ r)) (lv ++ (σ ++ rv))) (el : lv.length = l.length) (e : σ.length = ρ.length) (er : rv.length = r.length) (eo : ρ[k]? = some o) (ev : σ[k]? = some v) :
    Rep K M H (l ++ (o :: (ρ.set k .unk ++ r))) (lv ++ (v :: (σ ++ rv))) := by
  obtain ⟨a, b, e1, e2, e3⟩ := split_at eo O.unk
  obtain ⟨c, d, f1, f2, _⟩ := split_at ev v
  have hac : c.length = a.length := by omega
  rw [e3]
  subst e1; subst f1
  have R1 : Rep K M H ((l ++ a) ++ (.unk :: (o :: b ++ r))) ((lv ++ c) ++ (v :: (v :: d ++ rv))) := by
    have R0 : Rep K M H ((l ++ a) ++ (o :: b ++ r)) ((lv ++ c) ++ (v :: d ++ rv)) := by simpa using R
    exact R0.pushU (by simp [el, hac]) v
  have hbd : d.length = b.length := by simp at e; omega
  refine R1.perm (by simp [el, hac, hbd, er]) (by simp [el, hac, hbd, er]) ?_
  have z1 : ((l ++ a) ++ (.unk :: (o :: b ++ r))).zip ((lv ++ c) ++ (v :: (v :: d ++ rv))) = l.zip lv ++ (a.zip c ++ ((O.unk, v) :: (o, v) :: (b.zip d ++ r.zip rv))) := by
    rw [List.zip_append (by simp [el, hac]), List.zip_append el.symm]
    simp only [List.zip_cons_cons, List.cons_append]
    rw [List.zip_append hbd.symm, List.append_assoc]
  have z2 : (l ++ (o :: ((a ++ .unk :: b) ++ r))).zip (lv ++ (v :: ((c ++ v :: d) ++ rv))) = l.zip lv ++ ((o, v) :: (a.zip c ++ ((O.unk, v) :: (b.zip d ++ r.zip rv)))) := by
    rw [List.zip_append el.symm]
    simp only [List.zip_cons_cons, List.cons_append, List.append_assoc]
    rw [List.zip_append hac.symm]
    simp only [List.zip_cons_cons]
    rw [List.zip_append hbd.symm]
  rw [z1, z2]
  refine List.Perm.append_left _ ?_
  refine List.Perm.trans (List.Perm.append_left _ (List.Perm.swap _ _ _)) ?_
  exact List.perm_middle
/-- .. and given back -/
theorem Rep.back {l ρ r : List O} {lv σ rv : List (Option V)} {k : Nat} {o z : O} {v : Option V} (R : Rep K M H (l ++ (o :: (ρ ++ r))) (lv ++ (v :: (σ ++ rv)))) (el : lv.length = l.length) (e : σ.length = ρ.length) (er : rv.length = r.length) (eo : ρ[k]? = some z) (ev : σ[k]? = some v) :
    Rep K M H (l ++ (ρ.set k o ++ r)) (lv ++ (σ ++ rv)) := by
  obtain ⟨a, b, e1, e2, e3⟩ := split_at eo o
  obtain ⟨c, d, f1, f2, _⟩ := split_at ev v
  have hac : c.length = a.length := by omega
  rw [e3]
  subst e1; subst f1
  have hbd : d.length = b.length := by simp at e; omega
  -- the old thing of the slot goes
  have R1 : Rep K M H (l ++ (o :: (a ++ b ++ r))) (lv ++ (v :: (c ++ d ++ rv))) := by
    have R0 : Rep K M H ((l ++ (o :: a)) ++ z :: (b ++ r)) ((lv ++ (v :: c)) ++ v :: (d ++ rv)) := by simpa using R
    have := R0.drop (by simp [el, hac])
    simpa using this
  refine R1.perm (by simp [el, hac, hbd, er]) (by simp [el, hac, hbd, er]) ?_
  have z1 : (l ++ (o :: (a ++ b ++ r))).zip (lv ++ (v :: (c ++ d ++ rv))) = l.zip lv ++ ((o, v) :: (a.zip c ++ (b.zip d ++ r.zip rv))) := by
    rw [List.zip_append el.symm]
    simp only [List.zip_cons_cons, List.append_assoc]
    rw [List.zip_append hac.symm, List.zip_append hbd.symm]
  have z2 : (l ++ ((a ++ o :: b) ++ r)).zip (lv ++ ((c ++ v :: d) ++ rv)) = l.zip lv ++ (a.zip c ++ ((o, v) :: (b.zip d ++ r.zip rv))) := by
    rw [List.zip_append el.symm]
    simp only [List.append_assoc, List.cons_append]
    rw [List.zip_append hac.symm]
    simp only [List.zip_cons_cons]
    rw [List.zip_append hbd.symm]
  rw [z1, z2]
  exact List.Perm.append_left _ List.perm_middle.symm
end

/-! ### arguments that are lent -/
inductive Arg where
  | val (f : Ev → Option D) | own (k : Nat)
def O.known : O → Bool
  | .unk => false
  | _ => true
theorem Ow.known {K : PySem.W.Frag} {M H : Hp} {o : O} {v : Option V} {f : List Addr} (h : Ow K M H o v f) (k : o.known = true) : ∃ x, v = some x := by
  cases h <;> first | exact ⟨_, rfl⟩ | cases k
def argsO : List Arg → Ev → Option (List O × Ev)
  | [], ρ => some ([], ρ)
  | .val f :: as, ρ => (f ρ).bind fun d => (argsO as ρ).map fun p => (.dat d :: p.1, p.2)
  | .own k :: as, ρ => match ρ[k]? with
    | some o => if o.known = true then (argsO as (ρ.set k .unk)).map fun p => (o :: p.1, p.2) else none
    | none => none
/-- what was lent comes back -/
def giveB : List Arg → List O → Ev → Ev
  | .val _ :: as, _ :: os, ρ => giveB as os ρ
  | .own k :: as, o :: os, ρ => (giveB as os ρ).set k o
  | _, _, ρ => ρ
inductive Bor (σ : L2.St) : List Arg → List V → Prop
  | nil : Bor σ [] []
  | val {f : Ev → Option D} {as : List Arg} {v : V} {vs : List V} : Bor σ as vs → Bor σ (.val f :: as) (v :: vs)
  | own {k : Nat} {as : List Arg} {v : V} {vs : List V} : σ[k]? = some (some v) → Bor σ as vs → Bor σ (.own k :: as) (v :: vs)
theorem argsO_val {f : Ev → Option D} {as : List Arg} {ρ ρ1 : Ev} {os : List O} (h : argsO (.val f :: as) ρ = some (os, ρ1)) : ∃ d os', f ρ = some d ∧ argsO as ρ = some (os', ρ1) ∧ os = .dat d :: os' := by
  unfold argsO at h
  cases q : f ρ with
  | none => rw [q] at h; cases h
  | some d =>
    rw [q, Option.bind_some] at h
    cases q2 : argsO as ρ with
    | none => rw [q2] at h; cases h
    | some p => rw [q2] at h; cases h; exact ⟨d, p.1, rfl, rfl, rfl⟩
theorem argsO_own {k : Nat} {as : List Arg} {ρ ρ1 : Ev} {os : List O} (h : argsO (.own k :: as) ρ = some (os, ρ1)) : ∃ o os', ρ[k]? = some o ∧ o.known = true ∧ argsO as (ρ.set k .unk) = some (os', ρ1) ∧ os = o :: os' := by
  unfold argsO at h
  cases q : ρ[k]? with
  | none => rw [q] at h; cases h
  | some o =>
    rw [q] at h
    change (if o.known = true then (argsO as (ρ.set k .unk)).map fun p => (o :: p.1, p.2) else none) = some (os, ρ1) at h
    split at h
    · rename_i hk
      cases q2 : argsO as (ρ.set k .unk) with
      | none => rw [q2] at h; cases h
      | some p => rw [q2] at h; cases h; exact ⟨o, p.1, rfl, hk, rfl, rfl⟩
    · cases h
theorem argsO_len : ∀ {as : List Arg} {ρ ρ1 : Ev} {os : List O}, argsO as ρ = some (os, ρ1) → ρ1.length = ρ.length ∧ os.length = as.length
  | [], _, _, _, h => by cases h; exact ⟨rfl, rfl⟩
  | .val f :: as, ρ, ρ1, os, h => by
    obtain ⟨d, os', _, h2, rfl⟩ := argsO_val h
    obtain ⟨a, b⟩ := argsO_len h2
    exact ⟨a, by simp [b]⟩
  | .own k :: as, ρ, ρ1, os, h => by
    obtain ⟨o, os', _, _, h2, rfl⟩ := argsO_own h
    obtain ⟨a, b⟩ := argsO_len h2
    exact ⟨by rw [a]; simp, by simp [b]⟩
theorem argsO_back : ∀ {as : List Arg} {ρ ρ1 : Ev} {os : List O}, argsO as ρ = some (os, ρ1) → giveB as os ρ1 = ρ
  | [], _, _, _, h => by cases h; rfl
  | .val f :: as, ρ, ρ1, os, h => by
    obtain ⟨d, os', _, h2, rfl⟩ := argsO_val h
    show giveB as os' ρ1 = ρ
    exact argsO_back h2
  | .own k :: as, ρ, ρ1, os, h => by
    obtain ⟨o, os', e, _, h2, rfl⟩ := argsO_own h
    show (giveB as os' ρ1).set k o = ρ
    rw [argsO_back h2, List.set_set]
    obtain ⟨hk, e⟩ := List.getElem?_eq_some_iff.mp e
    rw [← e, List.set_getElem_self]
def tAB (K : PySem.W.Frag) (as : List Arg) : TA := fun σ H Q => ∃ M ρ fo fv os ρ1, Rep K M H (ρ ++ fo) (σ ++ fv) ∧ σ.length = ρ.length ∧ argsO as ρ = some (os, ρ1) ∧
  ∀ M' H' vs, Same M M' → Rep K M' H' (os ++ (ρ1 ++ fo)) (vs.map some ++ (σ ++ fv)) → Bor σ as vs → Q vs H'
section
variable {K : PySem.W.Frag} {M H : Hp}
theorem Rep.lens {ρ fo : List O} {σ fv : List (Option V)} (R : Rep K M H (ρ ++ fo) (σ ++ fv)) (l : σ.length = ρ.length) : fv.length = fo.length := by
  have := R.length
  simp at this; omega
theorem Rep.front {a b : List O} {av bv : List (Option V)} {o : O} {v : Option V} (R : Rep K M H (a ++ o :: b) (av ++ v :: bv)) (e : av.length = a.length) (e2 : bv.length = b.length) : Rep K M H (o :: (a ++ b)) (v :: (av ++ bv)) := by
  refine R.perm (by simp [e, e2]) (by simp [e, e2]) ?_
  rw [List.zip_append e.symm]
  simp only [List.zip_cons_cons]
  rw [List.zip_append e.symm]
  exact List.perm_middle
theorem giveB_len : ∀ {as : List Arg} {os : List O} {ρ : Ev}, (giveB as os ρ).length = ρ.length
  | [], _, _ => by unfold giveB; rfl
  | .val _ :: as, [], ρ => rfl
  | .own _ :: as, [], ρ => rfl
  | .val _ :: as, _ :: os, ρ => giveB_len (as := as) (os := os)
  | .own k :: as, o :: os, ρ => by
    show ((giveB as os ρ).set k o).length = ρ.length
    rw [List.length_set]; exact giveB_len
/-- the lent things go back into their slots -/
theorem Rep.give : ∀ {as : List Arg} {os l r : List O} {vs : List V} {lv σ rv : List (Option V)} {ρ : Ev}, Rep K M H (l ++ (os ++ (ρ ++ r))) (lv ++ (vs.map some ++ (σ ++ rv))) → lv.length = l.length → σ.length = ρ.length → rv.length = r.length → os.length = as.length → Bor σ as vs →
    Rep K M H (l ++ (giveB as os ρ ++ r)) (lv ++ (σ ++ rv))
  | _, os, l, r, _, lv, σ, rv, ρ, R, _, _, _, h, .nil => by
    have : os = [] := List.length_eq_zero_iff.mp h
    subst this
    exact R
  | .val _ :: as, o :: os, l, r, v :: vs, lv, σ, rv, ρ, R, el, e, er, h, .val b => by
    have R1 : Rep K M H (l ++ (os ++ (ρ ++ r))) (lv ++ (vs.map some ++ (σ ++ rv))) := Rep.drop (l := l) (lv := lv) (by simpa using R) el
    exact Rep.give (as := as) R1 el e er (by simpa using h) b
  | .own k :: as, o :: os, l, r, v :: vs, lv, σ, rv, ρ, R, el, e, er, h, .own ek b => by
    have R0 : Rep K M H ((l ++ [o]) ++ (os ++ (ρ ++ r))) ((lv ++ [some v]) ++ (vs.map some ++ (σ ++ rv))) := by simpa using R
    have R1 := Rep.give (as := as) R0 (by simp [el]) e er (by simpa using h) b
    have hk : k < (giveB as os ρ).length := by
      rw [giveB_len, ← e]; exact (List.getElem?_eq_some_iff.mp ek).1
    have R2 : Rep K M H (l ++ (o :: (giveB as os ρ ++ r))) (lv ++ (some v :: (σ ++ rv))) := by simpa using R1
    exact R2.back el (by rw [giveB_len]; exact e) er (List.getElem?_eq_getElem hk) ek
end
section
variable {X : Cx} {e : Expr} {es : List Expr} {as : List Arg} {f : Ev → Option D}
theorem bNil : PA X [] (tAB X.K []) := PA.imp pa_nil fun σ H Q ⟨M, ρ, fo, fv, os, ρ1, R, l, e, k⟩ => by
  cases e
  exact k M H [] (Same.refl _) R .nil
theorem bVal (ha : PE X e (tP X.K f)) (hr : PA X es (tAB X.K as)) (hs : starEach (e :: es) X.env = (false, eval e X.env) :: starEach es X.env := by rfl) : PA X (e :: es) (tAB X.K (.val f :: as)) := PA.imp (pa_cons ha hr hs) fun σ H Q ⟨M, ρ, fo, fv, os, ρ1, R, l, e, k⟩ => by
  obtain ⟨d, os', ed, eo, rfl⟩ := argsO_val e
  refine ⟨M, ρ, fo, fv, d, R, l, ed, fun M1 H1 v s1 R1 d1 => ⟨M1, ρ, fo, fv, os', ρ1, R1, l, eo, fun M2 H2 vs s2 R2 b2 => k M2 H2 (v :: vs) (s1.trans s2) ?_ (.val b2)⟩⟩
  exact Rep.push (l := []) (lv := []) R2 rfl (d1.mono s2)
theorem bOwn {k : Nat} {x : Str} {p : Pos} (hv : PE X (.Name x p) (tVar k)) (hr : PA X es (tAB X.K as)) (hs : starEach (.Name x p :: es) X.env = (false, eval (.Name x p) X.env) :: starEach es X.env := by rfl) : PA X (.Name x p :: es) (tAB X.K (.own k :: as)) := PA.imp (pa_cons hv hr hs) fun σ H Q ⟨M, ρ, fo, fv, os, ρ1, R, l, e, kk⟩ => by
  obtain ⟨o, os', eo, ho, e2, rfl⟩ := argsO_own e
  have lf := R.lens l
  have R' : Rep X.K M H (ρ ++ ([] ++ fo)) (σ ++ ([] ++ fv)) := R
  obtain ⟨v, f1, ft, ev, h1, _, _, _, _⟩ := R'.own l rfl eo
  obtain ⟨x', rfl⟩ := h1.known ho
  have R1 : Rep X.K M H (ρ.set k .unk ++ (o :: fo)) (σ ++ (some x' :: fv)) := (Rep.pull (l := []) (lv := []) R rfl l lf eo ev).swap (by simp [l])
  refine ⟨x', ev, M, ρ.set k .unk, o :: fo, some x' :: fv, os', ρ1, R1, by simp [l], e2, fun M2 H2 vs s2 R2 b2 => kk M2 H2 (x' :: vs) s2 ?_ (.own ev b2)⟩
  have hlen := argsO_len e2
  have lv : (vs.map some).length = os'.length := by
    have a := R2.length
    simp only [List.length_append, List.length_cons] at a
    have b := hlen.1
    simp at b
    omega
  have R3 : Rep X.K M2 H2 ((os' ++ ρ1) ++ o :: fo) ((vs.map some ++ σ) ++ some x' :: fv) := by simpa using R2
  have := R3.front (by simp at lv ⊢; rw [hlen.1]; simp [lv, l]) lf
  simpa using this
end
/-! ### a def by things: parameters may be lent -/
def runB (n : Nat) (J : List Nat) (b : Ev → Option Fl) (os : List O) : Option (O × List O) := (b (os ++ List.replicate (n - os.length) .unk)).bind fun r => match r with
  | .nx ρ => if os.length ≤ ρ.length then some (.dat .non, (List.range os.length).map fun j => if j ∈ J then ρ.getD j .unk else match os.getD j .unk with | .dat d => .dat d | _ => .unk) else none
  | .rt o ρ => if os.length ≤ ρ.length then some (o, (List.range os.length).map fun j => if j ∈ J then ρ.getD j .unk else match os.getD j .unk with | .dat d => .dat d | _ => .unk) else none
  | _ => none
def spB (K : PySem.W.Frag) (n : Nat) (m : List O → Option (O × List O)) : Sp := fun vs H Q _ => ∃ M fo fv os o os', vs.length = n ∧ os.length = n ∧ Rep K M H (os ++ fo) (vs.map some ++ fv) ∧ m os = some (o, os') ∧
  ∀ M' H' v, Same M M' → Rep K M' H' (o :: (os' ++ fo)) (some v :: (vs.map some ++ fv)) → Q v H'

section
variable {P : Program} {w : World} {K : PySem.W.Frag} {mg : Str → Option Value} {base : Heap}
theorem Ows.take {M H : Hp} : ∀ (n : Nat) {os : List O} {vs : List (Option V)} {fp : List Addr}, Ows K M H os vs fp → ∃ f1 f2, fp = f1 ++ f2 ∧ Ows K M H (os.take n) (vs.take n) f1
  | 0, _, _, fp, _ => ⟨[], fp, rfl, .nil⟩
  | _ + 1, _, _, _, .nil => ⟨[], [], rfl, .nil⟩
  | n + 1, _, _, _, .cons (f1 := f1) h hs => by
    obtain ⟨a, b, e, w⟩ := Ows.take n hs
    exact ⟨f1 ++ a, b, by rw [e, List.append_assoc], .cons h w⟩
/-- the parameters at the end of the def -/
theorem Rep.params {M M1 H0 H1 : Hp} {J : List Nat} {os fo tm ρ : List O} {vs : List V} {fv tv σ σ0 : List (Option V)} (R0 : Rep K M H0 (os ++ fo) (vs.map some ++ fv)) (hl : vs.length = os.length) (s1 : Same M M1) (R : Rep K M1 H1 (ρ ++ (tm ++ fo)) (σ ++ (tv ++ fv))) (lt : tv.length = tm.length) (lk : Lk J σ0 σ ρ) (h0 : ∀ j < os.length, σ0[j]? = (vs.map some)[j]?) (hn : os.length ≤ ρ.length) :
    Rep K M1 H1 (tm ++ (((List.range os.length).map fun j => if j ∈ J then ρ.getD j .unk else match os.getD j .unk with | .dat d => .dat d | _ => .unk) ++ fo)) (tv ++ (vs.map some ++ fv)) := by
  obtain ⟨s, fp, w, nd, nm⟩ := R
  obtain ⟨fa, fb, e1, w1, w2⟩ := w.split lk.1
  obtain ⟨ft, fr, e2, w3, w4⟩ := w2.split lt
  obtain ⟨f1, f2, e3, w5⟩ := Ows.take os.length w1
  obtain ⟨f', sb, w6⟩ := w5.restore (ρ := (List.range os.length).map fun j => if j ∈ J then ρ.getD j .unk else match os.getD j .unk with | .dat d => .dat d | _ => .unk) (σ := vs.map some) (by simp; omega) (by simp [hl]) fun j => by
    by_cases hj : j < os.length
    · rw [List.getElem?_map, List.getElem?_range hj]
      simp only [Option.map_some]
      by_cases hJ : j ∈ J
      · left
        rw [if_pos hJ]
        constructor
        · rw [List.getElem?_take_of_lt hj, List.getElem?_eq_getElem (by omega), List.getD_eq_getElem?_getD, List.getElem?_eq_getElem (by omega)]
          rfl
        · rw [List.getElem?_take_of_lt hj, lk.2 j hJ, h0 j hj]
      · rw [if_neg hJ]
        right
        split
        · rename_i d hd
          left
          rw [List.getD_eq_getElem?_getD, List.getElem?_eq_getElem hj] at hd
          obtain ⟨x, ex, dx⟩ := R0.slot (by simp [hl]) (i := j) (d := d) (by rw [List.getElem?_eq_getElem hj]; simpa using hd)
          exact ⟨d, x, rfl, ex, dx.mono s1⟩
        · right; rfl
    · left
      have h1 : (List.map some vs)[j]? = none := List.getElem?_eq_none (by simp [hl]; omega)
      constructor
      · rw [List.getElem?_eq_none (by simp; omega), List.getElem?_eq_none (by simp; omega)]
      · rw [h1, List.getElem?_eq_none (by simp; omega)]
  subst e1; subst e2; subst e3
  refine ⟨s, ft ++ (f' ++ fr), w3.append (w6.append w4), ?_, fun a ha => nm a ?_⟩
  · rw [List.nodup_iff_count] at nd ⊢
    intro a
    have h1 := nd a
    have h2 := sb.count_le a
    simp only [List.count_append] at h1 ⊢
    omega
  · simp only [List.mem_append] at ha ⊢
    rcases ha with ha | ha | ha
    · exact .inr (.inl ha)
    · exact .inl (.inl (sb.subset ha))
    · exact .inr (.inr ha)
theorem fnB {x qual : Str} {st : Stmt} {f : Addr} {fd : FuncData} {N ps : List Str} {k : Nat} {J : List Nat} {b : Ev → Option Fl} (F : Fun K x qual st f fd) (S : FnScope N ps (defScope st))
    (hb : ∀ (cdv : Value) (A : Around) (outer : List Env) (s : Shared) (H : Hp) (E : XK), Room k (A.deeper (PyProof.Rows.envOfC qual (defScope st) s.heap.objs.size f cdv)) →
      PSs (cxOf CX0 P w K mg base N qual (defScope st) f cdv A outer s H E).nox (defBody st) (tS K W0 J b)) : FnOk P w K mg base CX0 (k + 1) f fd ps (spB K ps.length (runB N.length J b)) := by
  refine F.ok S (fun vs H Q E h => ?_) fun cdv A outer s H vs Q E hr h => ⟨_, hb cdv A outer s H E hr, ?_⟩
  · obtain ⟨M, fo, fv, os, o, os', hl, _⟩ := h
    exact hl
  obtain ⟨M, fo, fv, os, o, os', hl, ho, R, e, kk⟩ := h
  have hlv : vs.length = os.length := by omega
  have R1 : Rep K M H ((os ++ List.replicate (N.length - os.length) .unk) ++ fo) (L2.start N vs ++ fv) := by
    obtain ⟨sm, fp, w, nd, nm⟩ := R
    obtain ⟨fa, fb, e1, w1, w2⟩ := w.split (by simp [hlv])
    subst e1
    refine ⟨sm, (fa ++ []) ++ fb, ?_, by simpa using nd, fun a ha => nm a (by simpa using ha)⟩
    unfold L2.start
    rw [hlv]
    exact (w1.append (ows_unk _)).append w2
  have l1 : (L2.start N vs).length = (os ++ List.replicate (N.length - os.length) O.unk).length := by simp [L2.start, hlv]
  have st0 : ∀ j < os.length, (L2.start N vs)[j]? = (vs.map some)[j]? := fun j hj => by
    unfold L2.start
    rw [List.getElem?_append_left (by simp [hlv]; exact hj)]
  unfold runB at e
  cases q : b (os ++ List.replicate (N.length - os.length) .unk) with
  | none => rw [q] at e; cases e
  | some r =>
    rw [q, Option.bind_some] at e
    refine ⟨M, _, fo, fv, r, L2.start N vs, R1, ⟨l1, fun _ _ => rfl⟩, q, ?_⟩
    cases r with
    | nx ρ =>
      change (if os.length ≤ ρ.length then _ else none) = some (o, os') at e
      split at e
      case isFalse => cases e
      rename_i hle
      cases e
      intro M1 H1 σ1 s1 R2 lk
      have R3 := Rep.params (tm := [.dat .non]) (tv := [some .non]) R hlv s1 (R2.push lk.1 .non) rfl lk st0 hle
      exact kk M1 H1 _ s1 R3
    | rt o' ρ =>
      change (if os.length ≤ ρ.length then _ else none) = some (o, os') at e
      split at e
      case isFalse => cases e
      rename_i hle
      cases e
      intro M1 H1 σ1 v s1 R2 lk
      have R3 := Rep.params (tm := [o]) (tv := [some v]) R hlv s1 R2 rfl lk st0 hle
      exact kk M1 H1 v s1 R3
    | bk ρ => cases e
    | ct ρ => cases e
    | ex x ρ => cases e
end

/-! ### calls with lent arguments -/
open Classical in
/-- the call leaves what was lent as it was -/
noncomputable def cB0 (as : List Arg) (n : Nat) (m : List O → Option (O × List O)) (ρ : Ev) : Option O := (argsO as ρ).bind fun p => if p.1.length = n then (m p.1).bind fun r => if r.2 = p.1 then some r.1 else none else none
theorem cB0_some {as : List Arg} {n : Nat} {m : List O → Option (O × List O)} {ρ : Ev} {o : O} (h : cB0 as n m ρ = some o) : ∃ os ρ1, argsO as ρ = some (os, ρ1) ∧ os.length = n ∧ m os = some (o, os) := by
  unfold cB0 at h
  cases q : argsO as ρ with
  | none => rw [q] at h; cases h
  | some p =>
    rw [q, Option.bind_some] at h
    split at h
    · rename_i hn
      cases q2 : m p.1 with
      | none => rw [q2] at h; cases h
      | some r =>
        rw [q2, Option.bind_some] at h
        split at h
        · rename_i hr
          cases h
          exact ⟨p.1, p.2, rfl, hn, by rw [q2, ← hr]⟩
        · cases h
    · cases h
section
variable {X : Cx} {W : WX} {pos p : Pos} {e : Expr} {es : List Expr} {as : List Arg} {k n : Nat} {f C : Addr} {fd : FuncData} {ps : List Str} {x : Str}
theorem oCallL {m : List O → Option (O × List O)} (F : FnOk X.prog X.w X.K X.mg X.base CX0 k f fd ps (spB X.K n m)) (hr : Room k X.A) (hm : X.mg x = some (.ref f)) (hk : PySem.W.keepIn X.K (.ref f) = true) (hb : Binds X.K fd ps []) (ha : PA X (e :: es) (tAB X.K as)) (hg : Gl X x := by rfl)
    (hdb : (x == ("__debug__" : Str)) = false := by decide) (he : starEach (e :: es) X.env = (false, eval e X.env) :: starEach es X.env := by rfl) (hpl : (backTo pos (starEach es X.env)).any (·.1) = false := by rfl) : PE X (.Call (.Name x p) (e :: es) [] pos) (tO X.K (cB0 as n m)) :=
  PE.imp (pe_call (E := E0) F hr hg hm hk hb .nil pass0 ha hdb he hpl) fun σ H Q ⟨M, ρ, fo, fv, o, R, l, e, kk⟩ => by
    obtain ⟨os, ρ1, e1, hn, e2⟩ := cB0_some e
    have lf := R.lens l
    have hlen := argsO_len e1
    refine ⟨M, ρ, fo, fv, os, ρ1, R, l, e1, fun M1 H1 vs s1 R1 b1 => ?_⟩
    have lv : vs.length = os.length := by
      have a := R1.length
      simp only [List.length_append, List.length_map] at a
      have := hlen.1
      omega
    refine ⟨M1, ρ1 ++ fo, σ ++ fv, os, o, os, by rw [List.append_nil]; omega, hn, by rw [List.append_nil]; exact R1, e2, fun M2 H2 v s2 R2 => kk M2 H2 v (s1.trans s2) ?_⟩
    rw [List.append_nil] at R2
    have R3 := Rep.give (as := as) (l := [o]) (lv := [some v]) R2 rfl (by rw [hlen.1]; exact l) lf hlen.2 b1
    rw [argsO_back e1] at R3
    have R4 : Rep X.K M2 H2 (o :: (ρ ++ fo)) (some v :: (σ ++ fv)) := R3
    exact R4.swap l
/-- C(..) with lent arguments -/
noncomputable def cI0 (C : Addr) (as : List Arg) (n : Nat) (m : List O → Option (O × List O)) (ρ : Ev) : Option O := (argsO as ρ).bind fun p => if p.1.length + 1 = n then (m (.obj C [] [] :: p.1)).bind fun r => match r.2 with
  | o :: os => open Classical in if r.1 = .dat .non ∧ os = p.1 then some o else none
  | [] => none else none
theorem cI0_some {as : List Arg} {n : Nat} {m : List O → Option (O × List O)} {ρ : Ev} {o : O} (h : cI0 C as n m ρ = some o) : ∃ os ρ1, argsO as ρ = some (os, ρ1) ∧ os.length + 1 = n ∧ m (.obj C [] [] :: os) = some (.dat .non, o :: os) := by
  unfold cI0 at h
  cases q : argsO as ρ with
  | none => rw [q] at h; cases h
  | some p =>
    rw [q, Option.bind_some] at h
    split at h
    · rename_i hn
      cases q2 : m (.obj C [] [] :: p.1) with
      | none => rw [q2] at h; cases h
      | some r =>
        rw [q2, Option.bind_some] at h
        split at h
        · rename_i o' os hr
          split at h
          · rename_i hc
            cases h
            exact ⟨p.1, p.2, rfl, hn, by rw [q2, ← hc.1, ← hc.2, ← hr]⟩
          · cases h
        · cases h
    · cases h
theorem oMakeL {m : List O → Option (O × List O)} (Mc : Mk X.K C f) (F : FnOk X.prog X.w X.K X.mg X.base CX0 k f fd ps (spB X.K n m)) (hr : Room (k + 1) X.A) (hm : X.mg x = some (.ref C)) (hb : Binds X.K fd ps []) (ha : PA X (e :: es) (tAB X.K as)) (hg : Gl X x := by rfl)
    (hdb : (x == ("__debug__" : Str)) = false := by decide) (he : starEach (e :: es) X.env = (false, eval e X.env) :: starEach es X.env := by rfl) (hpl : (backTo pos (starEach es X.env)).any (·.1) = false := by rfl) :
    PE X (.Call (.Name x p) (e :: es) [] pos) (tO X.K (cI0 C as n m)) := PE.imp (pe_make Mc F hr hg hm hb .nil (E := E0) pass0 ha hdb he hpl) fun σ H Q ⟨M, ρ, fo, fv, o, R, l, e, kk⟩ => by
  obtain ⟨os, ρ1, e1, hn, e2⟩ := cI0_some e
  have lf := R.lens l
  have hlen := argsO_len e1
  refine ⟨M, ρ, fo, fv, os, ρ1, R, l, e1, fun M1 H1 vs s1 R1 b1 x dx hx hd ne => ?_⟩
  have lv : vs.length = os.length := by
    have a := R1.length
    simp only [List.length_append, List.length_map] at a
    have := hlen.1
    omega
  refine ⟨M1, ρ1 ++ fo, σ ++ fv, .obj C [] [] :: os, _, _, by simp; omega, by simpa using hn, ?_, e2, fun M2 H2 v s2 R2 => ?_⟩
  · have := R1.newI (C := C) hx hd ne
    simpa using this
  · have R2' : Rep X.K M2 H2 ([] ++ O.dat .non :: (o :: (os ++ (ρ1 ++ fo)))) ([] ++ some v :: (some (.ref x) :: (vs.map some ++ (σ ++ fv)))) := by simpa using R2
    obtain ⟨y, ey, dy⟩ := R2'.datAt rfl rfl
    cases ey
    cases dy
    have R3 := R2'.drop rfl
    have R4 := Rep.give (as := as) (l := [o]) (lv := [some (.ref x)]) (os := os) (ρ := ρ1) (r := fo) (vs := vs) (σ := σ) (rv := fv) (by simpa using R3) rfl (by rw [hlen.1]; exact l) lf hlen.2 b1
    rw [argsO_back e1] at R4
    have R5 : Rep X.K M2 H2 (o :: (ρ ++ fo)) (some (.ref x) :: (σ ++ fv)) := R4
    exact ⟨rfl, kk M2 H2 _ (s1.trans s2) (R5.swap l)⟩
end
end PD

namespace PD
open PySem PySem.Spec L2

section
variable {X : Cx} {W : WX} {J : List Nat} {pos p : Pos} {tg e : Expr}
/-! ### an own list in a slot is walked -/
def ownL (k : Nat) (ρ : Ev) : Option (List D) := match ρ[k]? with
  | some (.lst os) => O.toDs os
  | _ => none
theorem toDs_all : ∀ {os : List O} {ds : List D}, O.toDs os = some ds → ds.length = os.length
  | [], ds, h => by cases h; rfl
  | o :: os, ds, h => by
    unfold O.toDs at h
    cases q : O.toD o with
    | none => rw [q] at h; cases h
    | some d =>
      cases q2 : O.toDs os with
      | none => rw [q, q2] at h; cases h
      | some ds' => rw [q, q2] at h; cases h; simp [toDs_all q2]
/-- all items are frozen -/
def datsO : List O → Option (List D)
  | [] => some []
  | .dat d :: os => (datsO os).map (d :: ·)
  | _ => none
theorem dats_of {K : PySem.W.Frag} {M H : Hp} : ∀ {os : List O} {ds : List D} {xs : List V} {fp : List Addr}, datsO os = some ds → Ows K M H os (xs.map some) fp → Dvs K M xs ds
  | [], _, [], _, h, .nil => by cases h; exact .nil
  | .dat d :: os, ds, x :: xs, _, h, .cons w ws => by
    unfold datsO at h
    cases q : datsO os with
    | none => rw [q] at h; cases h
    | some ds' =>
      rw [q] at h
      cases h
      cases w with
      | dat dv => exact .cons dv (dats_of q ws)
def ownI (k : Nat) (ρ : Ev) : Option (List D) := match ρ[k]? with
  | some (.lst os) => datsO os
  | _ => none
theorem ownI_some {k : Nat} {ρ : Ev} {ds : List D} (h : ownI k ρ = some ds) : ∃ os, ρ[k]? = some (.lst os) ∧ datsO os = some ds := by
  unfold ownI at h
  split at h
  · rename_i os e; exact ⟨os, e, h⟩
  · cases h
theorem ownI_lt {k : Nat} (ρ : Ev) (ds : List D) (h : ownI k ρ = some ds) : ∀ j ∈ [k], j < ρ.length := by
  obtain ⟨os, e, _⟩ := ownI_some h
  intro j hj
  simp at hj; subst hj
  exact (List.getElem?_eq_some_iff.mp e).1
theorem mem_split {α : Type} {x : α} {xs : List α} (h : x ∈ xs) : ∃ a b, xs = a ++ x :: b := List.append_of_mem h
theorem ows_at {K : PySem.W.Frag} {M H : Hp} {o : O} {v : Option V} : ∀ {os : List O} {vs : List (Option V)} {fp : List Addr}, Ows K M H os vs fp → (o, v) ∈ os.zip vs → ∃ f, Ow K M H o v f
  | _, _, _, .nil, h => by simp at h
  | _, _, _, .cons h1 hs, h => by
    simp only [List.zip_cons_cons, List.mem_cons] at h
    rcases h with h | h
    · cases h; exact ⟨_, h1⟩
    · exact ows_at hs h
theorem rep_at {K : PySem.W.Frag} {M H : Hp} {os : List O} {vs : List (Option V)} {o : O} {v : Option V} (R : Rep K M H os vs) (h : (o, v) ∈ os.zip vs) : ∃ f, Ow K M H o v f := by
  obtain ⟨s, fp, w, nd, nm⟩ := R
  exact ows_at w h
theorem iOwn {k : Nat} {x : Str} (hv : PE X (.Name x p) (tVar k)) : PI X tg (.Name x p) (tI X.K [k] (ownI k)) := PI.imp (pi_list hv) fun σ H R ⟨M, ρ, fo, fv, ds, R0, l, e, kk⟩ => by
  obtain ⟨os, eo, ed⟩ := ownI_some e
  have R' : Rep X.K M H (ρ ++ ([] ++ fo)) (σ ++ ([] ++ fv)) := R0
  obtain ⟨v, f1, ft, ev, h1, _, _, _, _⟩ := R'.own l rfl eo
  cases h1 with
  | @lst a xs _ fp ha ws =>
    refine ⟨.ref a, ev, a, rfl, ⟨xs, .inl (.inl ha)⟩, kk M H _ (Same.refl _) R0 ?_⟩
    have z1 : ρ.getD k .unk = .lst os := by rw [List.getD_eq_getElem?_getD, eo]; rfl
    have z2 : σ.getD k none = some (.ref a) := by rw [List.getD_eq_getElem?_getD, ev]; rfl
    intro i M1 H1 os1 vs1 s1 R1 hn
    have hm := hn (.lst os, some (.ref a)) (by simp only [List.map_cons, List.map_nil, List.mem_singleton, z1, z2])
    obtain ⟨f, hw⟩ := rep_at R1 hm
    cases hw with
    | @lst _ xs1 _ fp1 ha1 ws1 =>
      have dv := dats_of ed ws1
      have w := walk_list (K := X.K) (a := a) (xs := xs1)
      have q : SqL X.K H1 a xs1 := .inl (.inl ha1)
      have hl := dv.length
      refine ⟨fun hi => w.goes i H1 (by omega) q, fun hi => by subst hi; rw [← hl]; exact w.stops H1 q, fun d hd y H' hy => ?_⟩
      have hi : i < xs1.length := by rw [hl]; exact (List.getElem?_eq_some_iff.mp hd).1
      obtain ⟨rfl, ex⟩ := w.yields i H1 y H' hi q hy
      obtain ⟨e', he', dd⟩ := dv.getV ex
      rw [hd] at he'; cases he'
      exact ⟨M1, Same.refl _, R1, dd⟩
/-! ### for over an own list that the body leaves as it is -/
open Classical in
noncomputable def loopO (k : Nat) (z : Option O) (g : D → Ev → Option Ev) (body : Ev → Option Fl) : List D → Ev → Option Fl
  | [], ρ => some (.nx ρ)
  | d :: ds, ρ => (g d ρ).bind fun ρ1 => (body ρ1).bind fun r => match r with
    | .nx ρ' => if ρ'[k]? = z then loopO k z g body ds ρ' else none
    | .ct ρ' => if ρ'[k]? = z then loopO k z g body ds ρ' else none
    | .bk ρ' => some (.nx ρ')
    | r => some r
noncomputable def forO (k : Nat) (g : D → Ev → Option Ev) (body : Ev → Option Fl) (ρ : Ev) : Option Fl := (ownI k ρ).bind fun ds => loopO k ρ[k]? g body ds ρ
theorem sForO {k : Nat} {x : Str} {body : List Stmt} {is : List Nat} {g : D → Ev → Option Ev} {b : Ev → Option Fl} (hp : PassesOwn (model X.prog X.w) X.A X.env X.xe) (hc : X.calm = true) (hv : PE X (.Name x p) (tVar k)) (hg : PG X tg (tG X.K is g)) (ok : TgOk is g) (hb : PSs X body (tS X.K W J b)) (hk : k ∈ J := by decide) (hJ : ∀ i ∈ is, i ∉ J := by decide)
    (hs : ∀ y, foldedSetIterable (.Name x p) X.env y = pure y := by intro _; rfl) : PS X (.For tg (.Name x p) body [] pos) (tS X.K W J (forO k g b)) := PS.imp (ps_for hp hc (iOwn hv) hg hb hs) fun E σ H ⟨M, ρ, fo, fv, r, σ0, R, l, e, kk⟩ => by
  unfold forO at e
  cases q : ownI k ρ with
  | none => rw [q] at e; cases e
  | some ds =>
    rw [q, Option.bind_some] at e
    have kl : k < ρ.length := ownI_lt ρ ds q k (by simp)
    refine ⟨M, ρ, fo, fv, ds, R, l.1, q, fun M0 H0 JJ s0 R0 y => ?_⟩
    refine ⟨fun i m σ1 H => m = ds.length - i ∧ i ≤ ds.length ∧ ∃ M1 ρ1, Same M0 M1 ∧ Rep X.K M1 H (ρ1 ++ fo) (σ1 ++ fv) ∧ Lk J σ0 σ1 ρ1 ∧ ρ1[k]? = ρ[k]? ∧ loopO k ρ[k]? g b (ds.drop i) ρ1 = some r, ⟨ds.length, by omega, Nat.zero_le _, M0, ρ, Same.refl _, R0, l, rfl, by simpa using e⟩, ?_⟩
    rintro i m σ1 H ⟨rfl, hi, M1, ρ1, s1, R1, l1, z1, e1⟩
    have need : ∀ rr ∈ [k].map (fun k => (ρ.getD k .unk, σ.getD k none)), rr ∈ (ρ1 ++ fo).zip (σ1 ++ fv) := by
      intro rr hr
      simp only [List.map_cons, List.map_nil, List.mem_singleton] at hr
      subst hr
      refine List.mem_of_getElem? (i := k) ?_
      have kl1 : k < ρ1.length := by
        rw [List.getElem?_eq_getElem kl] at z1
        exact (List.getElem?_eq_some_iff.mp z1).1
      have kls : k < σ.length := by rw [l.1]; exact kl
      rw [List.getElem?_zip_eq_some]
      refine ⟨?_, ?_⟩
      · rw [List.getElem?_append_left kl1, z1, List.getD_eq_getElem?_getD, List.getElem?_eq_getElem kl]; rfl
      · rw [List.getElem?_append_left (by rw [l1.1]; exact kl1), l1.2 k hk, ← l.2 k hk, List.getElem?_eq_getElem kls]
        show some σ[k] = some (σ.getD k none)
        rw [List.getD_eq_getElem?_getD, List.getElem?_eq_getElem kls]; rfl
    obtain ⟨go, stop, yl⟩ := y i M1 H _ _ s1 R1 need
    by_cases hlt : i < ds.length
    · have ed : ds.drop i = ds[i] :: ds.drop (i + 1) := List.drop_eq_getElem_cons hlt
      rw [ed] at e1
      unfold loopO at e1
      cases q1 : g ds[i] ρ1 with
      | none => rw [q1] at e1; cases e1
      | some ρ2 =>
        rw [q1, Option.bind_some] at e1
        cases q2 : b ρ2 with
        | none => rw [q2] at e1; cases e1
        | some r2 =>
          rw [q2, Option.bind_some] at e1
          refine .inr ⟨go hlt, fun σ' H' => ∃ M1 ρ1, Same M0 M1 ∧ Rep X.K M1 H' (ρ1 ++ fo) (σ' ++ fv) ∧ Lk J σ0 σ' ρ1 ∧ ρ1[k]? = ρ[k]? ∧ loopO k ρ[k]? g b (ds.drop (i + 1)) ρ1 = some r, fun σ' H' h => ⟨ds.length - (i + 1), by omega, rfl, hlt, h⟩, fun x H' hy => ?_⟩
          obtain ⟨M2, s2, R2, d2⟩ := yl ds[i] (List.getElem?_eq_getElem hlt) x H' hy
          refine ⟨M2, ρ1, fo, fv, ds[i], ρ2, R2, l1.1, d2, q1, fun σ3 a3 l3 r3 R3 => ?_⟩
          have s02 : Same M M2 := s0.trans (s1.trans s2)
          refine ⟨M2, ρ2, fo, fv, r2, σ0, R3, l1.to l3 r3 a3 hJ, q2, ?_⟩
          cases r2 with
          | nx ρ4 =>
            change (open Classical in if ρ4[k]? = ρ[k]? then loopO k ρ[k]? g b (ds.drop (i + 1)) ρ4 else none) = some r at e1
            split at e1
            · rename_i hz; exact fun M4 H4 σ4 s4 R4 l4 => ⟨M4, ρ4, s1.trans (s2.trans s4), R4, l4, hz, e1⟩
            · cases e1
          | ct ρ4 =>
            change (open Classical in if ρ4[k]? = ρ[k]? then loopO k ρ[k]? g b (ds.drop (i + 1)) ρ4 else none) = some r at e1
            split at e1
            · rename_i hz; exact fun M4 H4 σ4 s4 R4 l4 => ⟨M4, ρ4, s1.trans (s2.trans s4), R4, l4, hz, e1⟩
            · cases e1
          | bk ρ4 => cases e1; exact fun M4 H4 σ4 s4 R4 l4 => kk M4 H4 σ4 (s02.trans s4) R4 l4
          | rt o ρ4 => cases e1; exact fun M4 H4 σ4 v s4 R4 l4 => kk M4 H4 σ4 v (s02.trans s4) R4 l4
          | ex x ρ4 => cases e1; exact fun M4 H4 σ4 cls d s4 R4 l4 => kk M4 H4 σ4 cls d (s02.trans s4) R4 l4
    · have ei : i = ds.length := by omega
      rw [ei, List.drop_length] at e1
      cases e1
      exact .inl ⟨stop ei, kk M1 H σ1 (s0.trans s1) R1 l1⟩
end

/-! ### what is never reached; recursion's ground -/
theorem sStuck {X : Cx} {W : WX} {J : List Nat} {st : Stmt} : PS X st (tS X.K W J fun _ => none) := ⟨fun p s σ H D I ⟨M, ρ, fo, fv, r, σ0, R, l, e, k⟩ => by cases e⟩
theorem fnNone {P : Program} {w : World} {K : PySem.W.Frag} {mg : Str → Option Value} {base : Heap} {CX : CXT} {k n : Nat} {f : Addr} {fd : FuncData} {ps : List Str} (hn : n = ps.length := by rfl) : FnOk P w K mg base CX k f fd ps (spP K n fun _ => none) :=
  ⟨fun vs H Q E h => hn ▸ h.1, fun A outer s H args us vs Q E _ _ _ _ h => by
    obtain ⟨_, M, fo, fv, ds, d, _, _, e, _⟩ := h
    cases e⟩
theorem isC_one {K : PySem.W.Frag} {C : Addr} (cx : ClsX K C) (h : (PySem.W.clsIn K C).isSome = true) : IsC K C [(C, true)] := ⟨h, cx.ty, fun C' b e => by
  simp only [List.lookup] at e
  split at e
  · rename_i z
    cases e
    have : C' = C := by simpa using z
    subst this
    exact ⟨cx, by unfold PySem.W.kitOne; rw [if_pos (by simp)]⟩
  · cases e⟩
/-- how a method binds when the arguments behind self come by name, in order -/
theorem kbn_of1 {K : PySem.W.Frag} {x qual : Str} {st : Stmt} {f : Addr} {fd : FuncData} {ps ks : List Str} (F : Fun K x qual st f fd)
    (h : ∀ (kV doc pm : Value) (an : Option Addr) (cdv ct : Value) (us ws : List Value), us.length = 1 → ws.length = ks.length → bindArgs (PySem.W.fnOf x qual (defArgs st) (defBody st) (defScope st) .none kV doc pm an cdv ct) ⟨us, ks.zip ws⟩ = pure (ps.zip (us ++ ws))) :
    KBn K fd ps 1 ks (fun us ws => us ++ ws) (fun vs zs => vs ++ zs) := by
  obtain ⟨oc, od, kV, doc, pm, an, cdv, ct, osl, rfl, lk, hcd⟩ := F.ex
  exact ⟨fun s us ws X h1 h2 => .of_eq (h kV doc pm an cdv ct us ws h1 h2), fun r1 r2 => r1.append r2⟩
end PD

namespace PD
open PySem PySem.Spec L2

/-! ### the evaluator: a simp set (word_snoc) that runs mirrors upon a written environment -/
/-- no rfl-lemma: the kernel must not run what stands behind it -/
theorem nrfl {α : Type} {a b : α} (h : a = b) : a = b := h
def toB : D → Option Bool
  | .bl b => some b
  | _ => none
def toI : D → Option Int
  | .int b => some b
  | _ => none
def andO (x y : Option Bool) : Option Bool := x.bind fun b => if b = true then y else some false
def orO (x y : Option Bool) : Option Bool := x.bind fun b => if b = true then some true else y
def iteO {α : Type} (c : Option Bool) (x y : Option α) : Option α := c.bind fun b => if b = true then x else y
def andW (y : Option D) : D → Option D
  | .bl true => y
  | .bl false => some (.bl false)
  | _ => none
def orW (y : Option D) : D → Option D
  | .bl true => some (.bl true)
  | .bl false => y
  | _ => none
def notW : D → Option D
  | .bl b => some (.bl (!b))
  | _ => none
def O.dats (ds : List D) : O := .lst (ds.map .dat)
theorem toD_dats (ds : List D) : (O.dats ds).toD = some (.lst ds) := by
  unfold O.dats O.toD
  rw [toDs_dat]; rfl
theorem line_of {n : Nat} (h : n ≤ 1000000) : n ≤ sizeLine := Nat.le_trans h (by decide)
section
variable {ρ r : Ev} {fa fb : Ev → Option D} {c c2 : Ev → Option Bool} {g : D → D → Option D} {h : D → Option D} {x y : D} {i : Nat} {o : O}
theorem ev_bind {α β : Type} (a : α) (f : α → Option β) : (some a).bind f = f a := nrfl rfl
theorem ev_map {α β : Type} (a : α) (f : α → β) : (some a).map f = some (f a) := nrfl rfl
theorem ev_gv0 : gv 0 (.dat x :: r) = some x := nrfl rfl
theorem ev_gvS : gv (i + 1) (o :: r) = gv i r := nrfl rfl
theorem ev_b2 : b2 fa fb g ρ = (fa ρ).bind fun x => (fb ρ).bind fun y => g x y := nrfl rfl
theorem ev_b1 : b1 fa h ρ = (fa ρ).bind h := nrfl rfl
theorem ev_kI (k : Int) : kI k ρ = some (.int k) := nrfl rfl
theorem ev_kS (k : Str) : kS k ρ = some (.str k) := nrfl rfl
theorem ev_kB (k : Bool) : kB k ρ = some (.bl k) := nrfl rfl
theorem ev_kN : kN ρ = some .non := nrfl rfl
theorem ev_aCons {f : Ev → Option (List D)} : aCons fa f ρ = (fa ρ).bind fun d => (f ρ).bind fun ds => some (d :: ds) := nrfl rfl
theorem ev_aNil : aNil ρ = some [] := nrfl rfl
theorem ev_cB {f : Ev → Option (List D)} {m : List D → Option D} : cB f m ρ = (f ρ).bind m := nrfl rfl
theorem ev_cO {f : Ev → Option (List D)} {m : List D → Option O} : cO f m ρ = (f ρ).bind m := nrfl rfl
theorem ev_asB : asB fa ρ = (fa ρ).bind toB := by
  unfold asB
  cases fa ρ with
  | none => rfl
  | some d => cases d <;> rfl
theorem ev_toB (b : Bool) : toB (.bl b) = some b := nrfl rfl
theorem ev_andT : andT c c2 ρ = andO (c ρ) (c2 ρ) := by
  unfold andT andO
  cases c ρ with
  | none => rfl
  | some b => cases b <;> rfl
theorem ev_orT : orT c c2 ρ = orO (c ρ) (c2 ρ) := by
  unfold orT orO
  cases c ρ with
  | none => rfl
  | some b => cases b <;> rfl
theorem ev_notT : notT c ρ = (c ρ).map (!·) := nrfl rfl
theorem ev_andO_t (y : Option Bool) : andO (some true) y = y := nrfl rfl
theorem ev_andO_f (y : Option Bool) : andO (some false) y = some false := nrfl rfl
theorem ev_andO (a b : Bool) : andO (some a) (some b) = some (a && b) := by cases a <;> rfl
theorem ev_orO_t (y : Option Bool) : orO (some true) y = some true := nrfl rfl
theorem ev_orO_f (y : Option Bool) : orO (some false) y = y := nrfl rfl
theorem ev_orO (a b : Bool) : orO (some a) (some b) = some (a || b) := by cases a <;> rfl
theorem ev_andV : andV fa fb ρ = (fa ρ).bind (andW (fb ρ)) := by
  unfold andV
  cases fa ρ with
  | none => rfl
  | some d => cases d with
    | bl b => cases b <;> rfl
    | _ => rfl
theorem ev_orV : orV fa fb ρ = (fa ρ).bind (orW (fb ρ)) := by
  unfold orV
  cases fa ρ with
  | none => rfl
  | some d => cases d with
    | bl b => cases b <;> rfl
    | _ => rfl
theorem ev_notV : notV fa ρ = (fa ρ).bind notW := by
  unfold notV
  cases fa ρ with
  | none => rfl
  | some d => cases d <;> rfl
theorem ev_andW_t (y : Option D) : andW y (.bl true) = y := nrfl rfl
theorem ev_andW_f (y : Option D) : andW y (.bl false) = some (.bl false) := nrfl rfl
theorem ev_andW (a b : Bool) : andW (some (.bl b)) (.bl a) = some (.bl (a && b)) := by cases a <;> rfl
theorem ev_orW_t (y : Option D) : orW y (.bl true) = some (.bl true) := nrfl rfl
theorem ev_orW_f (y : Option D) : orW y (.bl false) = y := nrfl rfl
theorem ev_orW (a b : Bool) : orW (some (.bl b)) (.bl a) = some (.bl (a || b)) := by cases a <;> rfl
theorem ev_notW (b : Bool) : notW (.bl b) = some (.bl (!b)) := nrfl rfl
theorem ev_ifV : ifV c fa fb ρ = iteO (c ρ) (fa ρ) (fb ρ) := by
  unfold ifV iteO
  cases c ρ with
  | none => rfl
  | some b => cases b <;> rfl
theorem ev_iteO {α : Type} (b : Bool) (x y : Option α) : iteO (some b) x y = if b = true then x else y := nrfl rfl
theorem ev_ite_some {α : Type} {p : Prop} [Decidable p] (x y : α) : (if p then some x else some y) = some (if p then x else y) := by split <;> rfl
theorem ev_ite_int {p : Prop} [Decidable p] (x y : Int) : (if p then D.int x else D.int y) = .int (if p then x else y) := by split <;> rfl
theorem ev_ite_str {p : Prop} [Decidable p] (x y : Str) : (if p then D.str x else D.str y) = .str (if p then x else y) := by split <;> rfl
theorem ev_dec {p : Prop} [Decidable p] : (decide p = true) = p := by simp
theorem ev_true {α : Type} (x y : α) : (if True then x else y) = x := nrfl rfl
theorem ev_false {α : Type} (x y : α) : (if False then x else y) = y := nrfl rfl
theorem ev_ft : (false = true) = False := by simp
theorem ev_tt : (true = true) = True := by simp
theorem ev_not {p : Prop} [Decidable p] : (!decide p) = decide (¬ p) := by simp
theorem ev_and {p q : Prop} [Decidable p] [Decidable q] : (decide p && decide q) = decide (p ∧ q) := by simp
theorem ev_or {p q : Prop} [Decidable p] [Decidable q] : (decide p || decide q) = decide (p ∨ q) := by simp
theorem ev_nt : (!true) = false := nrfl rfl
theorem ev_nf : (!false) = true := nrfl rfl
/-! things made -/
theorem ev_ba1 (b : Bool) : (b && true) = b := by cases b <;> rfl
theorem ev_ba2 (b : Bool) : (b && false) = false := by cases b <;> rfl
theorem ev_ba3 (b : Bool) : (true && b) = b := nrfl rfl
theorem ev_ba4 (b : Bool) : (false && b) = false := nrfl rfl
theorem ev_bo1 (b : Bool) : (b || true) = true := by cases b <;> rfl
theorem ev_bo2 (b : Bool) : (b || false) = b := by cases b <;> rfl
theorem ev_bo3 (b : Bool) : (true || b) = true := nrfl rfl
theorem ev_bo4 (b : Bool) : (false || b) = b := nrfl rfl
theorem ev_len?1 (m : List D → Option D) (a : D) : len? 1 m [a] = m [a] := nrfl rfl
theorem ev_lenO?1 (m : List D → Option O) (a : D) : lenO? 1 m [a] = m [a] := nrfl rfl
theorem ev_len?2 (m : List D → Option D) (a b : D) : len? 2 m [a, b] = m [a, b] := nrfl rfl
theorem ev_lenO?2 (m : List D → Option O) (a b : D) : lenO? 2 m [a, b] = m [a, b] := nrfl rfl
theorem ev_gT2 (h : List D → Ev → Option Ev) (a b : D) (ρ : Ev) : gT 2 h (.tup [a, b]) ρ = h [a, b] ρ := nrfl rfl
theorem ev_len?3 (m : List D → Option D) (a b c : D) : len? 3 m [a, b, c] = m [a, b, c] := nrfl rfl
theorem ev_lenO?3 (m : List D → Option O) (a b c : D) : lenO? 3 m [a, b, c] = m [a, b, c] := nrfl rfl
theorem ev_gT3 (h : List D → Ev → Option Ev) (a b c : D) (ρ : Ev) : gT 3 h (.tup [a, b, c]) ρ = h [a, b, c] ρ := nrfl rfl
theorem ev_len?4 (m : List D → Option D) (a b c d : D) : len? 4 m [a, b, c, d] = m [a, b, c, d] := nrfl rfl
theorem ev_lenO?4 (m : List D → Option O) (a b c d : D) : lenO? 4 m [a, b, c, d] = m [a, b, c, d] := nrfl rfl
theorem ev_gT4 (h : List D → Ev → Option Ev) (a b c d : D) (ρ : Ev) : gT 4 h (.tup [a, b, c, d]) ρ = h [a, b, c, d] ρ := nrfl rfl
theorem ev_len?5 (m : List D → Option D) (a b c d e : D) : len? 5 m [a, b, c, d, e] = m [a, b, c, d, e] := nrfl rfl
theorem ev_lenO?5 (m : List D → Option O) (a b c d e : D) : lenO? 5 m [a, b, c, d, e] = m [a, b, c, d, e] := nrfl rfl
theorem ev_gT5 (h : List D → Ev → Option Ev) (a b c d e : D) (ρ : Ev) : gT 5 h (.tup [a, b, c, d, e]) ρ = h [a, b, c, d, e] ρ := nrfl rfl
theorem ev_len?6 (m : List D → Option D) (a b c d e f : D) : len? 6 m [a, b, c, d, e, f] = m [a, b, c, d, e, f] := nrfl rfl
theorem ev_lenO?6 (m : List D → Option O) (a b c d e f : D) : lenO? 6 m [a, b, c, d, e, f] = m [a, b, c, d, e, f] := nrfl rfl
theorem ev_gT6 (h : List D → Ev → Option Ev) (a b c d e f : D) (ρ : Ev) : gT 6 h (.tup [a, b, c, d, e, f]) ρ = h [a, b, c, d, e, f] ρ := nrfl rfl
theorem ev_len?7 (m : List D → Option D) (a b c d e f g : D) : len? 7 m [a, b, c, d, e, f, g] = m [a, b, c, d, e, f, g] := nrfl rfl
theorem ev_lenO?7 (m : List D → Option O) (a b c d e f g : D) : lenO? 7 m [a, b, c, d, e, f, g] = m [a, b, c, d, e, f, g] := nrfl rfl
theorem ev_gT7 (h : List D → Ev → Option Ev) (a b c d e f g : D) (ρ : Ev) : gT 7 h (.tup [a, b, c, d, e, f, g]) ρ = h [a, b, c, d, e, f, g] ρ := nrfl rfl
theorem ev_len?8 (m : List D → Option D) (a b c d e f g h : D) : len? 8 m [a, b, c, d, e, f, g, h] = m [a, b, c, d, e, f, g, h] := nrfl rfl
theorem ev_lenO?8 (m : List D → Option O) (a b c d e f g h : D) : lenO? 8 m [a, b, c, d, e, f, g, h] = m [a, b, c, d, e, f, g, h] := nrfl rfl
theorem ev_gT8 (hh : List D → Ev → Option Ev) (a b c d e f g h : D) (ρ : Ev) : gT 8 hh (.tup [a, b, c, d, e, f, g, h]) ρ = hh [a, b, c, d, e, f, g, h] ρ := nrfl rfl
theorem ev_len?0 (m : List D → Option D) : len? 0 m [] = m [] := nrfl rfl
theorem ev_mkTup {f : Ev → Option (List D)} : mkTup f ρ = (f ρ).bind fun ds => if ds.length ≤ sizeLine then some (.tup ds) else none := nrfl rfl
theorem ev_mkLst {f : Ev → Option (List D)} : mkLst f ρ = (f ρ).bind fun ds => if ds.length ≤ sizeLine then some (.lst ds) else none := nrfl rfl
theorem ev_mkLstO {f : Ev → Option (List D)} : mkLstO f ρ = (f ρ).bind fun ds => if ds.length ≤ sizeLine then some (O.dats ds) else none := nrfl rfl
theorem ev_line {n : Nat} {α : Type} {x y : α} (h : n ≤ 1000000) : (if n ≤ sizeLine then x else y) = x := if_pos (line_of h)
theorem ev_isi_bool_non : isiD "bool" .non = some (.bl false) := nrfl rfl
theorem ev_isi_bool_bl (b : Bool) : isiD "bool" (.bl b) = some (.bl true) := nrfl rfl
theorem ev_isi_bool_int (k : Int) : isiD "bool" (.int k) = some (.bl false) := nrfl rfl
theorem ev_isi_bool_str (z : Str) : isiD "bool" (.str z) = some (.bl false) := nrfl rfl
theorem ev_isi_bool_lst (l : List D) : isiD "bool" (.lst l) = some (.bl false) := nrfl rfl
theorem ev_isi_bool_tup (l : List D) : isiD "bool" (.tup l) = some (.bl false) := nrfl rfl
theorem ev_isi_bool_dic (ks : List Key) (l : List D) : isiD "bool" (.dic ks l) = some (.bl false) := nrfl rfl
theorem ev_isi_int_non : isiD "int" .non = some (.bl false) := nrfl rfl
theorem ev_isi_int_bl (b : Bool) : isiD "int" (.bl b) = some (.bl true) := nrfl rfl
theorem ev_isi_int_int (k : Int) : isiD "int" (.int k) = some (.bl true) := nrfl rfl
theorem ev_isi_int_str (z : Str) : isiD "int" (.str z) = some (.bl false) := nrfl rfl
theorem ev_isi_int_lst (l : List D) : isiD "int" (.lst l) = some (.bl false) := nrfl rfl
theorem ev_isi_int_tup (l : List D) : isiD "int" (.tup l) = some (.bl false) := nrfl rfl
theorem ev_isi_int_dic (ks : List Key) (l : List D) : isiD "int" (.dic ks l) = some (.bl false) := nrfl rfl
theorem ev_isi_str_non : isiD "str" .non = some (.bl false) := nrfl rfl
theorem ev_isi_str_bl (b : Bool) : isiD "str" (.bl b) = some (.bl false) := nrfl rfl
theorem ev_isi_str_int (k : Int) : isiD "str" (.int k) = some (.bl false) := nrfl rfl
theorem ev_isi_str_str (z : Str) : isiD "str" (.str z) = some (.bl true) := nrfl rfl
theorem ev_isi_str_lst (l : List D) : isiD "str" (.lst l) = some (.bl false) := nrfl rfl
theorem ev_isi_str_tup (l : List D) : isiD "str" (.tup l) = some (.bl false) := nrfl rfl
theorem ev_isi_str_dic (ks : List Key) (l : List D) : isiD "str" (.dic ks l) = some (.bl false) := nrfl rfl
theorem ev_isi_tuple_non : isiD "tuple" .non = some (.bl false) := nrfl rfl
theorem ev_isi_tuple_bl (b : Bool) : isiD "tuple" (.bl b) = some (.bl false) := nrfl rfl
theorem ev_isi_tuple_int (k : Int) : isiD "tuple" (.int k) = some (.bl false) := nrfl rfl
theorem ev_isi_tuple_str (z : Str) : isiD "tuple" (.str z) = some (.bl false) := nrfl rfl
theorem ev_isi_tuple_lst (l : List D) : isiD "tuple" (.lst l) = some (.bl false) := nrfl rfl
theorem ev_isi_tuple_tup (l : List D) : isiD "tuple" (.tup l) = some (.bl true) := nrfl rfl
theorem ev_isi_tuple_dic (ks : List Key) (l : List D) : isiD "tuple" (.dic ks l) = some (.bl false) := nrfl rfl
theorem ev_isi_list_non : isiD "list" .non = some (.bl false) := nrfl rfl
theorem ev_isi_list_bl (b : Bool) : isiD "list" (.bl b) = some (.bl false) := nrfl rfl
theorem ev_isi_list_int (k : Int) : isiD "list" (.int k) = some (.bl false) := nrfl rfl
theorem ev_isi_list_str (z : Str) : isiD "list" (.str z) = some (.bl false) := nrfl rfl
theorem ev_isi_list_lst (l : List D) : isiD "list" (.lst l) = some (.bl true) := nrfl rfl
theorem ev_isi_list_tup (l : List D) : isiD "list" (.tup l) = some (.bl false) := nrfl rfl
theorem ev_isi_list_dic (ks : List Key) (l : List D) : isiD "list" (.dic ks l) = some (.bl false) := nrfl rfl
theorem ev_isi_dict_non : isiD "dict" .non = some (.bl false) := nrfl rfl
theorem ev_isi_dict_bl (b : Bool) : isiD "dict" (.bl b) = some (.bl false) := nrfl rfl
theorem ev_isi_dict_int (k : Int) : isiD "dict" (.int k) = some (.bl false) := nrfl rfl
theorem ev_isi_dict_str (z : Str) : isiD "dict" (.str z) = some (.bl false) := nrfl rfl
theorem ev_isi_dict_lst (l : List D) : isiD "dict" (.lst l) = some (.bl false) := nrfl rfl
theorem ev_isi_dict_tup (l : List D) : isiD "dict" (.tup l) = some (.bl false) := nrfl rfl
theorem ev_isi_dict_dic (ks : List Key) (l : List D) : isiD "dict" (.dic ks l) = some (.bl true) := nrfl rfl
/-! numbers -/
theorem ev_addA (i j : Int) : addA (.int i) (.int j) = some (.int (i + j)) := nrfl rfl
theorem ev_addD (i j : Int) : addD (.int i) (.int j) = some (.int (i + j)) := nrfl rfl
theorem ev_subI (i j : Int) : subI (.int i) (.int j) = some (.int (i - j)) := nrfl rfl
theorem ev_mulL {i j : Int} (h : -18446744073709551616 < i ∧ i < 18446744073709551616) : mulI (.int i) (.int j) = some (.int (i * j)) := by
  show (if okMul i j = true then _ else _) = _
  rw [if_pos]
  unfold okMul
  rw [decide_eq_true]
  exact .inl (by simpa using h)
theorem ev_mulR {i j : Int} (h : -18446744073709551616 < j ∧ j < 18446744073709551616) : mulI (.int i) (.int j) = some (.int (i * j)) := by
  show (if okMul i j = true then _ else _) = _
  rw [if_pos]
  unfold okMul
  rw [decide_eq_true]
  exact .inr (by simpa using h)
theorem ev_modI {i j : Int} (h : 0 < j) : modI (.int i) (.int j) = some (.int (i % j)) := by
  show (if decide (0 < j) = true then _ else _) = _
  rw [if_pos (decide_eq_true h)]
theorem ev_divI {i j : Int} (h : 0 < j ∧ j < 1073741824) : divI (.int i) (.int j) = some (.int (i / j)) := by
  show (if decide (0 < j ∧ j < 1073741824) = true then _ else _) = _
  rw [if_pos (decide_eq_true h)]
theorem ev_neg (i : Int) : negI (.int i) = some (.int (-i)) := nrfl rfl
theorem ev_intD (i : Int) : intD [.int i] = some (.int i) := nrfl rfl
theorem ev_max2 (i j : Int) : max2 [.int i, .int j] = some (.int (max i j)) := by
  show some (D.int (if j > i then j else i)) = _
  congr 2
  split <;> omega
theorem ev_min2 (i j : Int) : min2 [.int i, .int j] = some (.int (min i j)) := by
  show some (D.int (if j < i then j else i)) = _
  congr 2
  split <;> omega
theorem ev_eqI (i j : Int) : eqD (.int i) (.int j) = some (.bl (decide (i = j))) := nrfl rfl
theorem ev_eqB (i j : Bool) : eqD (.bl i) (.bl j) = some (.bl (decide (i = j))) := nrfl rfl
theorem ev_eqS (i j : Str) : eqD (.str i) (.str j) = some (.bl (decide (i = j))) := nrfl rfl
theorem ev_neI (i j : Int) : neD (.int i) (.int j) = some (.bl (decide (i ≠ j))) := by
  show some (D.bl (!decide (i = j))) = _
  simp
theorem ev_neS (i j : Str) : neD (.str i) (.str j) = some (.bl (decide (i ≠ j))) := by
  show some (D.bl (!decide (i = j))) = _
  simp
theorem ev_lt (i j : Int) : ltI (.int i) (.int j) = some (.bl (decide (i < j))) := nrfl rfl
theorem ev_le (i j : Int) : leI (.int i) (.int j) = some (.bl (decide (i ≤ j))) := nrfl rfl
theorem ev_gt (i j : Int) : gtI (.int i) (.int j) = some (.bl (decide (j < i))) := nrfl rfl
theorem ev_ge (i j : Int) : geI (.int i) (.int j) = some (.bl (decide (j ≤ i))) := nrfl rfl
theorem ev_isN_non : isN .non .non = some (.bl true) := nrfl rfl
theorem ev_isN_bl (b : Bool) : isN (.bl b) .non = some (.bl false) := nrfl rfl
theorem ev_isN_int (k : Int) : isN (.int k) .non = some (.bl false) := nrfl rfl
theorem ev_isN_str (k : Str) : isN (.str k) .non = some (.bl false) := nrfl rfl
theorem ev_isN_lst (k : List D) : isN (.lst k) .non = some (.bl false) := nrfl rfl
theorem ev_isN_tup (k : List D) : isN (.tup k) .non = some (.bl false) := nrfl rfl
theorem ev_isN_obj (C : Addr) (ks : List Str) (k : List D) : isN (.obj C ks k) .non = some (.bl false) := nrfl rfl
theorem ev_notN_non : notN .non .non = some (.bl false) := nrfl rfl
theorem ev_notN_int (k : Int) : notN (.int k) .non = some (.bl true) := nrfl rfl
theorem ev_notN_str (k : Str) : notN (.str k) .non = some (.bl true) := nrfl rfl
theorem ev_notN_lst (k : List D) : notN (.lst k) .non = some (.bl true) := nrfl rfl
theorem ev_notN_tup (k : List D) : notN (.tup k) .non = some (.bl true) := nrfl rfl
theorem ev_notN_obj (C : Addr) (ks : List Str) (k : List D) : notN (.obj C ks k) .non = some (.bl true) := nrfl rfl
/-! lists -/
theorem ev_lenC {α : Type} (a : α) (l : List α) : (a :: l).length = l.length + 1 := nrfl rfl
theorem ev_lenN {α : Type} : ([] : List α).length = 0 := nrfl rfl
theorem ev_lenM {α β : Type} (f : α → β) (l : List α) : (l.map f).length = l.length := List.length_map f
theorem ev_lenL (l : List D) : lenD [.lst l] = some (.int l.length) := nrfl rfl
theorem ev_lenT (l : List D) : lenD [.tup l] = some (.int l.length) := nrfl rfl
theorem ev_lenS {z : Str} (h : z.length ≤ 1000000) : lenD [.str z] = some (.int z.length) := if_pos (line_of h)
theorem ev_tupL (l : List D) : tupD [.lst l] = some (.tup l) := nrfl rfl
theorem ev_tupT (l : List D) : tupD [.tup l] = some (.tup l) := nrfl rfl
theorem ev_listL (l : List D) : listO [.lst l] = some (.dats l) := nrfl rfl
theorem ev_listT (l : List D) : listO [.tup l] = some (.dats l) := nrfl rfl
theorem ev_frz {f : Ev → Option O} : frz f ρ = (f ρ).bind O.toD := nrfl rfl
theorem ev_thaw : thaw fa ρ = (fa ρ).map .dat := nrfl rfl
theorem ev_toD (ds : List D) : (O.dats ds).toD = some (.lst ds) := toD_dats ds
theorem ev_toDd (d : D) : (O.dat d).toD = some d := nrfl rfl
theorem ev_iOf : iOf fa ρ = (fa ρ).bind seqD := nrfl rfl
theorem ev_seqL (l : List D) : seqD (.lst l) = some l := nrfl rfl
theorem ev_seqT (l : List D) : seqD (.tup l) = some l := nrfl rfl
theorem ev_seqS (z : Str) : seqD (.str z) = some (signs z) := nrfl rfl
def rngI (n : D) : Option (List D) := match n with
  | .int n => if n < 2 ^ 62 ∧ -(2 ^ 62) ≤ n then some (rangeD 0 n.toNat) else none
  | _ => none
def rngJ (m n : D) : Option (List D) := match m, n with
  | .int m, .int n => if (n < 2 ^ 62 ∧ -(2 ^ 62) ≤ n) ∧ m < 2 ^ 62 ∧ -(2 ^ 62) ≤ m then some (rangeD m (n - m).toNat) else none
  | _, _ => none
theorem ev_rng1 : rng1 fa ρ = (fa ρ).bind rngI := by
  unfold rng1
  cases fa ρ with
  | none => rfl
  | some d => cases d <;> rfl
theorem ev_rng2 : rng2 fa fb ρ = (fa ρ).bind fun m => (fb ρ).bind fun n => rngJ m n := by
  unfold rng2
  cases fa ρ with
  | none => rfl
  | some d => cases fb ρ with
    | none => cases d <;> rfl
    | some e => cases d <;> cases e <;> rfl
theorem ev_rngI {n : Int} (h : n < 4611686018427387904 ∧ -4611686018427387904 ≤ n) : rngI (.int n) = some (rangeD 0 n.toNat) := if_pos (by simpa using h)
theorem ev_rngJ {m n : Int} (h : (n < 4611686018427387904 ∧ -4611686018427387904 ≤ n) ∧ m < 4611686018427387904 ∧ -4611686018427387904 ≤ m) : rngJ (.int m) (.int n) = some (rangeD m (n - m).toNat) := if_pos (by simpa using h)
theorem ev_slc {lo hi : Ev → Option (Option Int)} : slc fa lo hi ρ = (fa ρ).bind fun x => (lo ρ).bind fun a => (hi ρ).bind fun b => slD x a b := nrfl rfl
theorem ev_noPart : noPart ρ = some none := nrfl rfl
theorem ev_part : part fa ρ = ((fa ρ).bind toI).map some := by
  unfold part
  cases fa ρ with
  | none => rfl
  | some d => cases d <;> rfl
theorem ev_toI (b : Int) : toI (.int b) = some b := nrfl rfl
theorem ev_slL (l : List D) (a b : Option Int) : slD (.lst l) a b = some (.lst (cutD l a b)) := nrfl rfl
theorem ev_slS {z : Str} (h : z.length ≤ 1000000) (a b : Option Int) : slD (.str z) a b = some (.str (cutS z a b)) := if_pos (line_of h)
theorem ev_catL {l m : List D} (h : l.length + m.length ≤ 1000000) : addA (.lst l) (.lst m) = some (.lst (l ++ m)) := by
  have : catL (.lst l) (.lst m) = some (.lst (l ++ m)) := if_pos (line_of h)
  show orD addD (orD catL catT) (.lst l) (.lst m) = _
  simp only [orD, addD, addI, addS, i2, s2, this]
theorem ev_catT {l m : List D} (h : l.length + m.length ≤ 1000000) : addA (.tup l) (.tup m) = some (.tup (l ++ m)) := by
  have : catT (.tup l) (.tup m) = some (.tup (l ++ m)) := if_pos (line_of h)
  have h0 : catL (.tup l) (.tup m) = none := rfl
  show orD addD (orD catL catT) (.tup l) (.tup m) = _
  simp only [orD, addD, addI, addS, i2, s2, this, h0]
theorem ev_catS {a b : Str} (h : a.length + b.length ≤ 1000000) : addA (.str a) (.str b) = some (.str (a ++ b)) := by
  have hz : a.length + b.length ≤ sizeLine := line_of h
  show orD addD (orD catL catT) (.str a) (.str b) = _
  simp only [orD, addD, addI, addS, i2, s2, decide_eq_true hz, if_true]
theorem ev_catSD {a b : Str} (h : a.length + b.length ≤ 1000000) : addD (.str a) (.str b) = some (.str (a ++ b)) := by
  have hz : a.length + b.length ≤ sizeLine := line_of h
  simp only [orD, addD, addI, addS, i2, s2, decide_eq_true hz, if_true]
theorem ev_strlen (a b : Str) : (a ++ b).length = a.length + b.length := by
  show (a.cps ++ b.cps).size = _
  rw [Array.size_append]; rfl
theorem ev_rev (l : List D) : revD (.lst l) = some (.lst l.reverse) := nrfl rfl
/-! by place -/
instance : Inhabited D := ⟨.non⟩
def nth {α : Type} [Inhabited α] (xs : List α) (k : Int) : α := xs.getD k.toNat default
theorem nth_eq {α : Type} [Inhabited α] {xs : List α} {k : Int} (h0 : 0 ≤ k) (h1 : k < xs.length) : nth xs k = xs[k.toNat]'(by omega) := by
  unfold nth
  rw [List.getD_eq_getElem?_getD, List.getElem?_eq_getElem (by omega)]; rfl
theorem nth_nat {α : Type} [Inhabited α] {xs : List α} {k : Nat} (h1 : k < xs.length) : nth xs (k : Int) = xs[k] := nth_eq (by omega) (by omega)
theorem nth_mem {α : Type} [Inhabited α] {xs : List α} {k : Int} (h0 : 0 ≤ k) (h1 : k < xs.length) : nth xs k ∈ xs := by
  rw [nth_eq h0 h1]; exact List.getElem_mem _
theorem nth_map {α β : Type} [Inhabited α] [Inhabited β] {f : α → β} {xs : List α} {k : Int} (h0 : 0 ≤ k) (h1 : k < xs.length) : nth (xs.map f) k = f (nth xs k) := by
  rw [nth_eq h0 (by rw [List.length_map]; exact h1), nth_eq h0 h1, List.getElem_map]
/-- each item of a list of bounded ints, in or out of the list -/
theorem nth_rng {rs : List Int} (hr : ∀ r ∈ rs, 0 ≤ r ∧ r < 1000) (k : Int) : 0 ≤ nth rs k ∧ nth rs k < 1000 := by
  unfold nth
  rw [List.getD_eq_getElem?_getD]
  by_cases h : k.toNat < rs.length
  · rw [List.getElem?_eq_getElem h]; exact hr _ (List.getElem_mem h)
  · rw [List.getElem?_eq_none (by omega)]; exact ⟨by decide, by decide⟩
theorem at_nth {α : Type} [Inhabited α] {xs : List α} {k : Int} (h0 : 0 ≤ k) (h1 : k < xs.length) : atI xs k = some (nth xs k) := by
  obtain ⟨j, rfl⟩ := Int.eq_ofNat_of_zero_le h0
  rw [nth_nat (by omega)]
  exact atI_nat (List.getElem?_eq_getElem _)
theorem ev_ix0L (a : D) (l : List D) : ixD (.lst (a :: l)) (.int 0) = some a := by
  show atI (a :: l) 0 = _
  exact atI_nat (j := 0) rfl
theorem ev_ix1L (a b : D) (l : List D) : ixD (.lst (a :: b :: l)) (.int 1) = some b := by
  show atI (a :: b :: l) 1 = _
  exact atI_nat (j := 1) rfl
theorem ev_ix0T (a : D) (l : List D) : ixD (.tup (a :: l)) (.int 0) = some a := by
  show atI (a :: l) 0 = _
  exact atI_nat (j := 0) rfl
theorem ev_ix1T (a b : D) (l : List D) : ixD (.tup (a :: b :: l)) (.int 1) = some b := by
  show atI (a :: b :: l) 1 = _
  exact atI_nat (j := 1) rfl
theorem ev_ix2T (a b c : D) (l : List D) : ixD (.tup (a :: b :: c :: l)) (.int 2) = some c := by
  show atI (a :: b :: c :: l) 2 = _
  exact atI_nat (j := 2) rfl
theorem ev_ix3T (a b c d : D) (l : List D) : ixD (.tup (a :: b :: c :: d :: l)) (.int 3) = some d := by
  show atI (a :: b :: c :: d :: l) 3 = _
  exact atI_nat (j := 3) rfl
theorem ev_ix4T (a b c d e : D) (l : List D) : ixD (.tup (a :: b :: c :: d :: e :: l)) (.int 4) = some e := by
  show atI (a :: b :: c :: d :: e :: l) 4 = _
  exact atI_nat (j := 4) rfl
theorem ev_ixML {α : Type} [Inhabited α] {f : α → D} {xs : List α} {k : Int} (h0 : 0 ≤ k) (h1 : k < xs.length) : ixD (.lst (xs.map f)) (.int k) = some (f (nth xs k)) := by
  show atI (xs.map f) k = _
  rw [at_nth h0 (by rw [List.length_map]; exact h1), nth_map h0 h1]
theorem ev_ixMT {α : Type} [Inhabited α] {f : α → D} {xs : List α} {k : Int} (h0 : 0 ≤ k) (h1 : k < xs.length) : ixD (.tup (xs.map f)) (.int k) = some (f (nth xs k)) := by
  show atI (xs.map f) k = _
  rw [at_nth h0 (by rw [List.length_map]; exact h1), nth_map h0 h1]
theorem cut_map {α β : Type} (f : α → β) (xs : List α) (a b : Option Int) : cutD (xs.map f) a b = (cutD xs a b).map f := by
  unfold cutD
  rw [List.length_map, List.map_take, List.map_drop]
theorem cut_mid {α : Type} (xs : List α) (a b : Nat) (hb : b ≤ xs.length) (hab : a ≤ b) : cutD xs (some (a : Int)) (some (b : Int)) = (xs.drop a).take (b - a) := by
  unfold cutD
  rw [HT.sIx_nat, HT.sIx_nat, Nat.min_eq_left (show a ≤ xs.length by omega), Nat.min_eq_left hb]
theorem cut_sub {α : Type} {xs : List α} {a b : Option Int} {x : α} (h : x ∈ cutD xs a b) : x ∈ xs := List.mem_of_mem_drop (List.mem_of_mem_take h)
theorem cut_len {α : Type} {xs : List α} {a b : Int} (h0 : 0 ≤ a) (h1 : a ≤ b) (h2 : b ≤ xs.length) : ((cutD xs (some a) (some b)).length : Int) = b - a := by
  obtain ⟨m, rfl⟩ := Int.eq_ofNat_of_zero_le h0
  obtain ⟨n, rfl⟩ := Int.eq_ofNat_of_zero_le (show 0 ≤ b by omega)
  rw [cut_mid xs m n (by omega) (by omega), List.length_take, List.length_drop]
  omega
/-! targets -/
theorem ev_wipe0 : wipeO ρ [] = ρ := nrfl rfl
theorem ev_wipeS (v : Nat) (vs : List Nat) : wipeO ρ (v :: vs) = (wipeO ρ vs).set v .unk := nrfl rfl
theorem ev_gN (d : D) : gN i d ρ = some (ρ.set i (.dat d)) := nrfl rfl
theorem ev_gsN : gsN [] ρ = some ρ := nrfl rfl
theorem ev_gsC {g : D → Ev → Option Ev} {h : List D → Ev → Option Ev} (d : D) (r : List D) : gsC g h (d :: r) ρ = (g d ρ).bind (h r) := nrfl rfl
theorem ev_set0 (a b : O) (l : Ev) : (a :: l).set 0 b = b :: l := nrfl rfl
theorem ev_setS (a b : O) (l : Ev) (n : Nat) : (a :: l).set (n + 1) b = a :: l.set n b := nrfl rfl
end
/-! ### running a body, statement by statement -/
section
variable {f g b : Ev → Option Fl} {ρ : Ev} {Q : Fl → Prop} {P : Ev → Prop}
theorem Rn.assoc {f1 f2 : Ev → Option Fl} (h : Rn (PD.sq f1 (PD.sq f2 g)) ρ Q) : Rn (PD.sq (PD.sq f1 f2) g) ρ Q := by
  obtain ⟨r, e, q⟩ := h
  refine ⟨r, ?_, q⟩
  rw [← e]
  unfold PD.sq
  cases f1 ρ with
  | none => rfl
  | some r1 => cases r1 <;> rfl
theorem Rn.sqst {i : Nat} {e : Ev → Option D} {d : D} (h : e ρ = some d) (k : Rn g (ρ.set i (.dat d)) Q) : Rn (PD.sq (stV i e) g) ρ Q := Rn.sq (Rn.st h k)
theorem Rn.sqstO {i : Nat} {e : Ev → Option O} {o : O} (h : e ρ = some o) (k : Rn g (ρ.set i o) Q) : Rn (PD.sq (PD.stO i e) g) ρ Q := Rn.sq (Rn.stO h k)
theorem Rn.sqskip (k : Rn g ρ Q) : Rn (PD.sq PD.skip g) ρ Q := Rn.sq (Rn.skip k)
theorem Rn.sqret {e : Ev → Option D} {d : D} (h : e ρ = some d) (k : Q (.rt (.dat d) ρ)) : Rn (PD.sq (rtV e) g) ρ Q := Rn.sq (Rn.ret h k)
theorem Rn.appD {i : Nat} {e : Ev → Option D} {d : D} {ds : List D} (h : e ρ = some d) (ho : ρ[i]? = some (O.dats ds)) (hl : ds.length < 1000000) (k : Q (.nx (ρ.set i (O.dats (ds ++ [d]))))) : Rn (PD.app i e) ρ Q := by
  refine Rn.app h ho (by rw [List.length_map]; exact Nat.lt_of_lt_of_le hl (by decide)) ?_
  have : O.dats (ds ++ [d]) = .lst (ds.map .dat ++ [.dat d]) := by unfold O.dats; rw [List.map_append]; rfl
  rw [← this]; exact k
theorem Rn.sqapp {i : Nat} {e : Ev → Option D} {d : D} {ds : List D} (h : e ρ = some d) (ho : ρ[i]? = some (O.dats ds)) (hl : ds.length < 1000000) (k : Rn g (ρ.set i (O.dats (ds ++ [d]))) Q) : Rn (PD.sq (PD.app i e) g) ρ Q := Rn.sq (Rn.appD h ho hl k)
theorem Rn.asg {e : Ev → Option D} {t : D → Ev → Option Ev} {d : D} {ρ' : Ev} (h : e ρ = some d) (ht : t d ρ = some ρ') (k : Q (.nx ρ')) : Rn (PD.asg e t) ρ Q := ⟨_, by unfold PD.asg; rw [h, Option.bind_some, ht]; rfl, k⟩
theorem Rn.sqasg {e : Ev → Option D} {t : D → Ev → Option Ev} {d : D} {ρ' : Ev} (h : e ρ = some d) (ht : t d ρ = some ρ') (k : Rn g ρ' Q) : Rn (PD.sq (PD.asg e t) g) ρ Q := Rn.sq (Rn.asg h ht k)
/-- an if whose test is a proposition -/
theorem Rn.iteP {c : Ev → Option Bool} {p : Prop} [Decidable p] (h : c ρ = some (decide p)) (h1 : p → Rn f ρ Q) (h2 : ¬ p → Rn b ρ Q) : Rn (ifS c f b) ρ Q := Rn.ite h (fun q => h1 (of_decide_eq_true q)) fun q => h2 (of_decide_eq_false q)
theorem sq_ifS {c : Ev → Option Bool} : PD.sq (ifS c f b) g = ifS c (PD.sq f g) (PD.sq b g) := by
  funext ρ
  unfold PD.sq ifS
  cases c ρ with
  | none => rfl
  | some t => cases t <;> rfl
theorem Rn.sqif {c : Ev → Option Bool} {p : Prop} [Decidable p] (h : c ρ = some (decide p)) (h1 : p → Rn (PD.sq f g) ρ Q) (h2 : ¬ p → Rn (PD.sq b g) ρ Q) : Rn (PD.sq (ifS c f b) g) ρ Q := by
  rw [sq_ifS]
  exact Rn.iteP h h1 h2
/-- an if whose way is known -/
theorem Rn.sqifT {c : Ev → Option Bool} (h : c ρ = some true) (h1 : Rn (PD.sq f g) ρ Q) : Rn (PD.sq (ifS c f b) g) ρ Q := by
  rw [sq_ifS]
  exact Rn.ite h (fun _ => h1) fun z => nomatch z
theorem Rn.sqifF {c : Ev → Option Bool} (h : c ρ = some false) (h1 : Rn (PD.sq b g) ρ Q) : Rn (PD.sq (ifS c f b) g) ρ Q := by
  rw [sq_ifS]
  exact Rn.ite h (fun z => nomatch z) fun _ => h1
/-- if not good: return False -/
theorem Rn.chk {c : Ev → Option Bool} (h : c ρ = some false) (h1 : Rn g ρ Q) : Rn (PD.sq (ifS c f PD.skip) g) ρ Q := Rn.sqifF h (Rn.sqskip h1)
/-- a for by an invariant; its items are those of a typed list -/
theorem Rn.forT {α : Type} {fi : Ev → Option (List D)} {gt : D → Ev → Option Ev} {xs : List α} {φ : α → D} (h : fi ρ = some (xs.map φ)) (I : Nat → Ev → Prop) (h0 : I 0 ρ)
    (hs : ∀ (i : Nat) (hi : i < xs.length) ρ, I i ρ → ∃ ρ1, gt (φ xs[i]) ρ = some ρ1 ∧ Rn b ρ1 fun r => match r with | .nx ρ2 => I (i + 1) ρ2 | .ct ρ2 => I (i + 1) ρ2 | .bk ρ2 => Q (.nx ρ2) | r => Q r) (k : ∀ ρ', I xs.length ρ' → Q (.nx ρ')) : Rn (forS fi gt b) ρ Q := by
  refine Rn.for h I h0 (fun i d ρ hd hI => ?_) (fun ρ' hI => k ρ' (by rw [List.length_map] at hI; exact hI))
  rw [List.getElem?_map] at hd
  obtain ⟨x, hx, rfl⟩ := Option.map_eq_some_iff.mp hd
  obtain ⟨hi, rfl⟩ := List.getElem?_eq_some_iff.mp hx
  exact hs i hi ρ hI
/-- the same, with what follows -/
theorem Rn.sqfor {α : Type} {fi : Ev → Option (List D)} {gt : D → Ev → Option Ev} {xs : List α} {φ : α → D} (h : fi ρ = some (xs.map φ)) (I : Nat → Ev → Prop) (h0 : I 0 ρ)
    (hs : ∀ (i : Nat) (hi : i < xs.length) ρ, I i ρ → ∃ ρ1, gt (φ xs[i]) ρ = some ρ1 ∧ Rn b ρ1 fun r => match r with | .nx ρ2 => I (i + 1) ρ2 | .ct ρ2 => I (i + 1) ρ2 | .bk ρ2 => Rn g ρ2 Q | r => Q r) (k : ∀ ρ', I xs.length ρ' → Rn g ρ' Q) : Rn (PD.sq (forS fi gt b) g) ρ Q := by
  refine Rn.sq (Rn.forT h I h0 (fun i hi ρ hI => ?_) k)
  obtain ⟨ρ1, e, r, er, q⟩ := hs i hi ρ hI
  refine ⟨ρ1, e, r, er, ?_⟩
  cases r <;> exact q
/-- over range(n) -/
theorem rangeD_map (lo : Int) (n : Nat) : rangeD lo n = (List.range n).map fun i : Nat => .int (lo + (i : Int)) := rfl
theorem Rn.sqforR {fi : Ev → Option (List D)} {gt : D → Ev → Option Ev} {lo : Int} {n : Nat} (h : fi ρ = some (rangeD lo n)) (I : Nat → Ev → Prop) (h0 : I 0 ρ)
    (hs : ∀ (i : Nat) (hi : i < n) ρ, I i ρ → ∃ ρ1, gt (.int (lo + (i : Int))) ρ = some ρ1 ∧ Rn b ρ1 fun r => match r with | .nx ρ2 => I (i + 1) ρ2 | .ct ρ2 => I (i + 1) ρ2 | .bk ρ2 => Rn g ρ2 Q | r => Q r) (k : ∀ ρ', I n ρ' → Rn g ρ' Q) : Rn (PD.sq (forS fi gt b) g) ρ Q := by
  refine Rn.sqfor (xs := List.range n) (φ := fun i : Nat => .int (lo + (i : Int))) h I h0 (fun i hi ρ hI => ?_) (fun ρ' hI => k ρ' (by rw [List.length_range] at hI; exact hI))
  rw [List.getElem_range]
  exact hs i (by simpa using hi) ρ hI
theorem Rn.fzD {i : Nat} {ds : List D} (ho : ρ[i]? = some (O.dats ds)) (k : Rn g (ρ.set i (.dat (.lst ds))) Q) : Rn (PD.fz i g) ρ Q := Rn.fz ho (toD_dats ds) k
/-- a join: what holds behind a part, whichever way was taken -/
theorem Rn.join (h : Rn f ρ (Nx P)) (k : ∀ ρ', P ρ' → Rn g ρ' Q) : Rn (PD.sq f g) ρ Q := Rn.sqN h k
end
/-! ### comprehensions over typed lists -/
section
variable {ρ : Ev} {fi : Ev → Option (List D)} {gt : D → Ev → Option Ev} {t : Ev → Option Bool} {f : Ev → Option D} {vs : List Nat}
theorem comp_mapT {α : Type} {φ ψ : α → D} {ρw : Ev} : ∀ {xs : List α}, (∀ x ∈ xs, ∃ ρ1, gt (φ x) ρw = some ρ1 ∧ f ρ1 = some (ψ x)) → comp gt yes f ρw (xs.map φ) = some (xs.map ψ)
  | [], _ => rfl
  | x :: xs, H => by
    obtain ⟨ρ1, e1, e2⟩ := H x List.mem_cons_self
    rw [List.map_cons, List.map_cons]
    unfold comp
    rw [e1, Option.bind_some, show yes ρ1 = some true from rfl, Option.bind_some, if_pos rfl, e2, Option.bind_some, comp_mapT fun x' hx => H x' (List.mem_cons_of_mem _ hx)]
    rfl
theorem comp_filT {α : Type} {φ ψ : α → D} {p : α → Bool} {ρw : Ev} : ∀ {xs : List α}, (∀ x ∈ xs, ∃ ρ1, gt (φ x) ρw = some ρ1 ∧ t ρ1 = some (p x) ∧ (p x = true → f ρ1 = some (ψ x))) → comp gt t f ρw (xs.map φ) = some ((xs.filter p).map ψ)
  | [], _ => rfl
  | x :: xs, H => by
    obtain ⟨ρ1, e1, e2, e3⟩ := H x List.mem_cons_self
    have ih := comp_filT (xs := xs) fun x' hx => H x' (List.mem_cons_of_mem _ hx)
    rw [List.map_cons]
    unfold comp
    rw [e1, Option.bind_some, e2, Option.bind_some]
    cases q : p x with
    | true => rw [if_pos rfl, e3 q, Option.bind_some, ih, List.filter_cons_of_pos q]; rfl
    | false => rw [if_neg Bool.false_ne_true, ih, List.filter_cons_of_neg (by rw [q]; exact Bool.false_ne_true)]
/-- [e for x in xs] -/
theorem lc_map {α : Type} {φ : α → D} (ψ : α → D) {xs : List α} (hw : okW ρ vs = true) (hi : fi ρ = some (xs.map φ)) (hl : xs.length ≤ 1000000) (H : ∀ x ∈ xs, ∃ ρ1, gt (φ x) (wipeO ρ vs) = some ρ1 ∧ f ρ1 = some (ψ x)) : lcD fi gt yes f vs ρ = some (.lst (xs.map ψ)) :=
  lcD_of hw hi rfl (comp_mapT H) (by rw [List.length_map]; exact line_of hl)
theorem lc_fil {α : Type} {φ : α → D} (ψ : α → D) (p : α → Bool) {xs : List α} (hw : okW ρ vs = true) (hi : fi ρ = some (xs.map φ)) (hl : xs.length ≤ 1000000) (H : ∀ x ∈ xs, ∃ ρ1, gt (φ x) (wipeO ρ vs) = some ρ1 ∧ t ρ1 = some (p x) ∧ (p x = true → f ρ1 = some (ψ x))) : lcD fi gt t f vs ρ = some (.lst ((xs.filter p).map ψ)) :=
  lcD_of hw hi rfl (comp_filT H) (by rw [List.length_map]; exact Nat.le_trans (List.length_filter_le _ _) (line_of hl))
theorem lcO_map {α : Type} {φ : α → D} (ψ : α → D) {xs : List α} (hw : okW ρ vs = true) (hi : fi ρ = some (xs.map φ)) (hl : xs.length ≤ 1000000) (H : ∀ x ∈ xs, ∃ ρ1, gt (φ x) (wipeO ρ vs) = some ρ1 ∧ f ρ1 = some (ψ x)) : lcO fi gt yes f vs ρ = some (.dats (xs.map ψ)) :=
  lcO_of hw hi rfl (comp_mapT H) (by rw [List.length_map]; exact line_of hl)
theorem lcO_fil {α : Type} {φ : α → D} (ψ : α → D) (p : α → Bool) {xs : List α} (hw : okW ρ vs = true) (hi : fi ρ = some (xs.map φ)) (hl : xs.length ≤ 1000000) (H : ∀ x ∈ xs, ∃ ρ1, gt (φ x) (wipeO ρ vs) = some ρ1 ∧ t ρ1 = some (p x) ∧ (p x = true → f ρ1 = some (ψ x))) : lcO fi gt t f vs ρ = some (.dats ((xs.filter p).map ψ)) :=
  lcO_of hw hi rfl (comp_filT H) (by rw [List.length_map]; exact Nat.le_trans (List.length_filter_le _ _) (line_of hl))
end
theorem mp_lenA {α : Type} (a b : List α) : (a ++ b).length = a.length + b.length := List.length_append
theorem mp_mapC {α β : Type} (f : α → β) (a : α) (l : List α) : (a :: l).map f = f a :: l.map f := rfl
theorem mp_mapN {α β : Type} (f : α → β) : ([] : List α).map f = [] := rfl
theorem mp_mapA {α β : Type} (f : α → β) (a b : List α) : (a ++ b).map f = a.map f ++ b.map f := List.map_append
/-- all of them, for simp -/
def MV := And.intro (And.intro (And.intro (And.intro (And.intro (And.intro (And.intro (@ev_bind) (And.intro (@ev_map) (@ev_gv0))) (And.intro (@ev_gvS) (And.intro (@ev_b2) (@ev_b1)))) (And.intro (And.intro (@ev_kI) (And.intro (@ev_kS) (@ev_kB))) (And.intro (And.intro (@ev_kN) (@ev_aCons)) (And.intro (@ev_aNil) (@ev_cB))))) (And.intro (And.intro (And.intro (@ev_cO) (And.intro (@ev_asB) (@ev_toB))) (And.intro (@ev_andT) (And.intro (@ev_orT) (@ev_notT)))) (And.intro (And.intro (@ev_andO_t) (And.intro (@ev_andO_f) (@ev_andO))) (And.intro (And.intro (@ev_orO_t) (@ev_orO_f)) (And.intro (@ev_orO) (@ev_andV)))))) (And.intro (And.intro (And.intro (And.intro (@ev_orV) (And.intro (@ev_notV) (@ev_andW_t))) (And.intro (@ev_andW_f) (And.intro (@ev_andW) (@ev_orW_t)))) (And.intro (And.intro (@ev_orW_f) (And.intro (@ev_orW) (@ev_notW))) (And.intro (And.intro (@ev_ifV) (@ev_iteO)) (And.intro (@ev_ite_some) (@ev_ite_int))))) (And.intro (And.intro (And.intro (@ev_ite_str) (And.intro (@ev_dec) (@ev_true))) (And.intro (And.intro (@ev_false) (@ev_ft)) (And.intro (@ev_tt) (@ev_not)))) (And.intro (And.intro (@ev_and) (And.intro (@ev_or) (@ev_nt))) (And.intro (And.intro (@ev_nf) (@ev_ba1)) (And.intro (@ev_ba2) (@ev_ba3))))))) (And.intro (And.intro (And.intro (And.intro (And.intro (@ev_ba4) (And.intro (@ev_bo1) (@ev_bo2))) (And.intro (@ev_bo3) (And.intro (@ev_bo4) (@ev_len?1)))) (And.intro (And.intro (@ev_lenO?1) (And.intro (@ev_len?2) (@ev_lenO?2))) (And.intro (And.intro (@ev_gT2) (@ev_len?3)) (And.intro (@ev_lenO?3) (@ev_gT3))))) (And.intro (And.intro (And.intro (@ev_len?4) (And.intro (@ev_lenO?4) (@ev_gT4))) (And.intro (And.intro (@ev_len?5) (@ev_lenO?5)) (And.intro (@ev_gT5) (@ev_len?6)))) (And.intro (And.intro (@ev_lenO?6) (And.intro (@ev_gT6) (@ev_len?7))) (And.intro (And.intro (@ev_lenO?7) (@ev_gT7)) (And.intro (@ev_len?8) (@ev_lenO?8)))))) (And.intro (And.intro (And.intro (And.intro (@ev_gT8) (And.intro (@ev_len?0) (@ev_mkTup))) (And.intro (@ev_mkLst) (And.intro (@ev_mkLstO) (@ev_line)))) (And.intro (And.intro (@ev_isi_bool_non) (And.intro (@ev_isi_bool_bl) (@ev_isi_bool_int))) (And.intro (And.intro (@ev_isi_bool_str) (@ev_isi_bool_lst)) (And.intro (@ev_isi_bool_tup) (@ev_isi_bool_dic))))) (And.intro (And.intro (And.intro (@ev_isi_int_non) (And.intro (@ev_isi_int_bl) (@ev_isi_int_int))) (And.intro (And.intro (@ev_isi_int_str) (@ev_isi_int_lst)) (And.intro (@ev_isi_int_tup) (@ev_isi_int_dic)))) (And.intro (And.intro (@ev_isi_str_non) (And.intro (@ev_isi_str_bl) (@ev_isi_str_int))) (And.intro (And.intro (@ev_isi_str_str) (@ev_isi_str_lst)) (And.intro (@ev_isi_str_tup) (@ev_isi_str_dic)))))))) (And.intro (And.intro (And.intro (And.intro (And.intro (And.intro (@ev_isi_tuple_non) (And.intro (@ev_isi_tuple_bl) (@ev_isi_tuple_int))) (And.intro (@ev_isi_tuple_str) (And.intro (@ev_isi_tuple_lst) (@ev_isi_tuple_tup)))) (And.intro (And.intro (@ev_isi_tuple_dic) (And.intro (@ev_isi_list_non) (@ev_isi_list_bl))) (And.intro (And.intro (@ev_isi_list_int) (@ev_isi_list_str)) (And.intro (@ev_isi_list_lst) (@ev_isi_list_tup))))) (And.intro (And.intro (And.intro (@ev_isi_list_dic) (And.intro (@ev_isi_dict_non) (@ev_isi_dict_bl))) (And.intro (And.intro (@ev_isi_dict_int) (@ev_isi_dict_str)) (And.intro (@ev_isi_dict_lst) (@ev_isi_dict_tup)))) (And.intro (And.intro (@ev_isi_dict_dic) (And.intro (@ev_addA) (@ev_addD))) (And.intro (And.intro (@ev_subI) (@ev_mulL)) (And.intro (@ev_mulR) (@ev_modI)))))) (And.intro (And.intro (And.intro (And.intro (@ev_divI) (And.intro (@ev_neg) (@ev_intD))) (And.intro (@ev_max2) (And.intro (@ev_min2) (@ev_eqI)))) (And.intro (And.intro (@ev_eqB) (And.intro (@ev_eqS) (@ev_neI))) (And.intro (And.intro (@ev_neS) (@ev_lt)) (And.intro (@ev_le) (@ev_gt))))) (And.intro (And.intro (And.intro (@ev_ge) (And.intro (@ev_isN_non) (@ev_isN_bl))) (And.intro (And.intro (@ev_isN_int) (@ev_isN_str)) (And.intro (@ev_isN_lst) (@ev_isN_tup)))) (And.intro (And.intro (@ev_isN_obj) (And.intro (@ev_notN_non) (@ev_notN_int))) (And.intro (And.intro (@ev_notN_str) (@ev_notN_lst)) (And.intro (@ev_notN_tup) (@ev_notN_obj))))))) (And.intro (And.intro (And.intro (And.intro (And.intro (@ev_lenC) (And.intro (@ev_lenN) (@ev_lenM))) (And.intro (@ev_lenL) (And.intro (@ev_lenT) (@ev_lenS)))) (And.intro (And.intro (@ev_tupL) (And.intro (@ev_tupT) (@ev_listL))) (And.intro (And.intro (@ev_listT) (@ev_frz)) (And.intro (@ev_thaw) (@ev_toD))))) (And.intro (And.intro (And.intro (@ev_toDd) (And.intro (@ev_iOf) (@ev_seqL))) (And.intro (And.intro (@ev_seqT) (@ev_seqS)) (And.intro (@ev_rng1) (@ev_rng2)))) (And.intro (And.intro (@ev_rngI) (And.intro (@ev_rngJ) (@ev_slc))) (And.intro (And.intro (@ev_noPart) (@ev_part)) (And.intro (@ev_toI) (@ev_slL)))))) (And.intro (And.intro (And.intro (And.intro (@ev_slS) (And.intro (@ev_catL) (@ev_catT))) (And.intro (@ev_catS) (And.intro (@ev_catSD) (@ev_strlen)))) (And.intro (And.intro (@ev_rev) (And.intro (@ev_ix0L) (@ev_ix1L))) (And.intro (And.intro (@ev_ix0T) (@ev_ix1T)) (And.intro (@ev_ix2T) (@ev_ix3T))))) (And.intro (And.intro (And.intro (@ev_ix4T) (And.intro (@ev_ixML) (@ev_ixMT))) (And.intro (And.intro (@ev_wipe0) (@ev_wipeS)) (And.intro (@ev_gN) (@ev_gsN)))) (And.intro (And.intro (@ev_gsC) (And.intro (@ev_set0) (@ev_setS))) (And.intro (And.intro (@mp_lenA) (@mp_mapC)) (And.intro (@mp_mapN) (@mp_mapA))))))))
end PD

namespace PD
open PySem PySem.Spec L2

/-! ### own error classes: super().__init__('..'); self.f = f; .. -/
abbrev superSt (p0 p1 p2 p3 p4 p5 : Pos) (x : Str) (j : Nat) : Stmt := .Expr (.Call (.Attribute (.Call (.Name "super" p0) [] [] p1) "__init__" p2) [.Constant (.str x) j p3] [] p4) p5
abbrev fldSt (f : Str) (q1 q2 q3 q4 : Pos) : Stmt := .Assign [.Attribute (.Name "self" q1) f q2] (.Name f q3) q4
inductive Flds : List Stmt → List Str → Prop
  | nil : Flds [] []
  | cons {f : Str} {q1 q2 q3 q4 : Pos} {r : List Stmt} {fs : List Str} : Flds r fs → Flds (fldSt f q1 q2 q3 q4 :: r) (f :: fs)

abbrev xEnv (qual : Str) (scope : Scope) (L f cda cc : Addr) : Env := PySem.W.envX qual scope L f (.ref cda) [("__class__", cc)]
abbrev xObj (C t1 : Addr) (dv : Option Addr) : Obj := { cls := .ref C, dict := dv, data := .fields #[.ref t1, .none, .none, .none, .bool false, .none] }

/-- what stands in the dict of an exception in the making -/
def XDic (hp : Heap) (e L : Addr) (done : List (Str × Value)) (h : Heap) : Option Addr → Prop
  | none => done = []
  | some dx => hp.objs.size ≤ dx ∧ dx ≠ e ∧ dx ≠ L ∧ ∃ mA, h.Ns1 dx mA ∧ Within mA (done.map (·.1)) ∧ ∀ y, mA y = done.lookup y
section
variable {prog : Program} {w : World} {A : Around} {E : Value → Shared → Prop} {K : PySem.W.Frag} {hp : Heap} {C e L f cda cc t1 : Addr} {qual : Str} {scope : Scope} {m : Str → Option Value} {os : OsState} {g : Array GenState} {d : Drawn}
/-- one store -/
theorem store_run {cd : ClassData} {fl : Str} {v : Value} {dv : Option Addr} {done : List (Str × Value)} {h : Heap} {t : Nat} {Q : Unit → Shared → Prop} (X : K.In hp) (hcd : PySem.W.clsIn K C = some cd) (hm : PySem.HandSPX.refsVE cd.mro = true) (hh : cd.hasDict = true)
    (sa : PySem.W.findIn K (.ref C) "__setattr__" = some (some (.builtin "object.__setattr__"))) (ha : PySem.W.findIn K (.ref C) fl = some none) (hl : done.length ≤ 900) (he : hp.objs.size ≤ e)
    (kp : ∀ b o, hp.get? b = some o → h.get? b = some o) (hx : h.get? e = some (xObj C t1 dv)) (hL : L ≠ e) (hn : h.Ns L m)
    (hdv : XDic hp e L done h dv)
    (hq : ∀ h' tk dx, (∀ b o, hp.get? b = some o → h'.get? b = some o) → h'.get? e = some (xObj C t1 (some dx)) → h'.Ns L m → hp.objs.size ≤ dx → dx ≠ e → dx ≠ L → (∃ mA, h'.Ns1 dx mA ∧ Within mA (((fl, v) :: done).map (·.1)) ∧ ∀ y, mA y = ((fl, v) :: done).lookup y) → Q () ⟨h', g, d, tk, os⟩) :
    wpAny (model prog w) A (setAttr (.ref e) fl v) Q E ⟨h, g, d, t, os⟩ := by
  have XK : K.In h := X.keeps kp
  have hpe : ∀ b o, hp.get? b = some o → b ≠ e := fun b o q => Nat.ne_of_lt (Nat.lt_of_lt_of_le (Heap.lt_size q) he)
  have look : ∀ y, (if y = fl then some v else done.lookup y) = ((fl, v) :: done).lookup y := fun y => by
    by_cases hy : y = fl
    · subst hy; simp [List.lookup]
    · have e' : (y == fl) = false := by simpa using hy
      rw [if_neg hy]; simp [List.lookup, e']
  cases dv with
  | none =>
    have hdv : done = [] := hdv
    subst hdv
    refine PySem.W.set_plain XK (ox := xObj C t1 none) (od := none) ⟨hx, rfl, rfl, trivial⟩ sa ?_
    refine PySem.HandSPX.exc_osa XK hx hcd hm hh ha (fun h' tk' dx k dn dne hx' hn' => ?_)
    obtain ⟨oL, es, ep, hoL, rL⟩ := hn
    have hdL : dx ≠ L := fun z => by
      have y := Heap.lt_size hoL
      rw [← z] at y
      exact absurd y (Nat.not_lt.mpr dn)
    have hsz : hp.objs.size ≤ dx := Nat.le_trans he (Nat.le_trans (Nat.le_of_lt (Heap.lt_size hx)) dn)
    exact hq h' tk' dx (fun b o q => k b o (hpe b o q) (kp b o q)) hx' ⟨oL, es, ep, k _ _ hL hoL, rL⟩ hsz dne hdL ⟨_, hn', Within.cons fl v Within.nil, fun y => by rw [← look]; rfl⟩
  | some dx =>
    obtain ⟨hsz, dne, hdL, mA, hns, hw, hlk⟩ := hdv
    obtain ⟨oD, _, _, hoD, _, _⟩ := hns.count hw
    refine PySem.W.set_plain XK (ox := xObj C t1 (some dx)) (od := some oD) ⟨hx, rfl, rfl, hoD⟩ sa ?_
    refine PySem.OEX.osa_old XK hx hns hw (by rw [List.length_map]; omega) hcd hm hh ha (fun h' tk' k hn' => ?_)
    obtain ⟨oL, es, ep, hoL, rL⟩ := hn
    have hpd : ∀ b o, hp.get? b = some o → b ≠ dx := fun b o q => Nat.ne_of_lt (Nat.lt_of_lt_of_le (Heap.lt_size q) hsz)
    exact hq h' tk' dx (fun b o q => k b o (hpd b o q) (kp b o q)) (k _ _ dne.symm hx) ⟨oL, es, ep, k _ _ hdL.symm hoL, rL⟩ hsz dne hdL ⟨_, hn', Within.cons fl v hw, fun y => by rw [← look, hlk y]⟩

theorem ldLoc {h : Heap} {t : Nat} {x : Str} {pos : Pos} {v : Value} {Q : Value → Shared → Prop} (hk : scope.kind = .function) (hl : scope.names.lookup x = some .local) (hd : (x == ("__debug__" : Str)) = false) (hn : h.Ns L m) (hv : m x = some v) (q : Q v ⟨h, g, d, t, os⟩) :
    wpAny (model prog w) A (eval (.Name x pos) (xEnv qual scope L f cda cc)) Q E ⟨h, g, d, t, os⟩ := wpAny_Name (wpAny_loadName_local hk hl hn hv q) hd

/-- the stores -/
theorem flds_run {cd : ClassData} (X : K.In hp) (hcd : PySem.W.clsIn K C = some cd) (hm : PySem.HandSPX.refsVE cd.mro = true) (hh : cd.hasDict = true)
    (sa : PySem.W.findIn K (.ref C) "__setattr__" = some (some (.builtin "object.__setattr__"))) (he : hp.objs.size ≤ e) (hL : L ≠ e) (hk : scope.kind = .function) (hself : scope.names.lookup ("self" : Str) = some .local) (ms : m "self" = some (.ref e)) :
    ∀ {rest : List Stmt} {fs : List Str} (F : Flds rest fs) (val : Str → Value) {dv : Option Addr} {done : List (Str × Value)} {h : Heap} {t : Nat} {Q : Flow → Shared → Prop},
    (∀ x ∈ fs, PySem.W.findIn K (.ref C) x = some none ∧ scope.names.lookup x = some .local ∧ (x == ("__debug__" : Str)) = false ∧ m x = some (val x)) → done.length + fs.length ≤ 900 →
    (∀ b o, hp.get? b = some o → h.get? b = some o) → h.get? e = some (xObj C t1 dv) → h.Ns L m →
    XDic hp e L done h dv →
    (∀ h' tk dv', (∀ b o, hp.get? b = some o → h'.get? b = some o) → h'.get? e = some (xObj C t1 dv') →
      XDic hp e L ((fs.map fun x => (x, val x)).reverse ++ done) h' dv' → Q .next ⟨h', g, d, tk, os⟩) →
    wpAny (model prog w) A (execs rest (xEnv qual scope L f cda cc)) Q E ⟨h, g, d, t, os⟩
  | _, _, .nil, val, dv, done, h, t, Q, _, _, kp, hx, hn, hdv, hq => wpAny_execs_nil (hq h t dv kp hx hdv)
  | _, _, .cons (f := fl) (q1 := q1) (q2 := q2) (q3 := q3) (q4 := q4) (fs := fs) F, val, dv, done, h, t, Q, hf, hl, kp, hx, hn, hdv, hq => by
    obtain ⟨h1, h2, h3, h4⟩ := hf fl List.mem_cons_self
    simp only [List.length_cons] at hl
    refine wpAny_execs_cons ?_
    refine plainObj_wpAny_Assign_Attribute ?_ (by rfl)
    refine ldLoc hk h2 h3 hn h4 ?_
    refine ldLoc hk hself (by decide) hn ms ?_
    refine store_run X hcd hm hh sa h1 (by omega) he kp hx hL hn hdv fun h' tk dx k1 k2 k3 k4 k5 k6 k7 => ?_
    refine flds_run X hcd hm hh sa he hL hk hself ms F val (dv := some dx) (done := (fl, val fl) :: done) (fun x hx => hf x (List.mem_cons_of_mem _ hx)) (by simp only [List.length_cons]; omega) k1 k2 k3 ⟨k4, k5, k6, k7⟩ fun h'' tk' dv' j1 j2 j3 => hq h'' tk' dv' j1 j2 ?_
    rw [List.map_cons, List.reverse_cons, List.append_assoc]
    exact j3
/-- ValueError.__init__ bound to the object, called -/
theorem call_bwV {nm q : Str} {N : Addr} {bs bm : List Value} {hdct : Bool} {sn : List Str} {sub : List Value} {ab : Bool} {col : Option Bool} {dd : Option Addr} {k0 k1 k2 k3 k5 : Option Value} {h : Heap} {t : Nat} {u t0 : Addr} {rest : List Value} {Q : Value → Shared → Prop}
    (hC : h.get? C = some (excClassObj nm q C N bs bm hdct sn sub ab col dd k0 k1 k2 k3 k5 "ValueError.__new__")) (he : h.get? e = some (xObj C t0 none)) (hu : h.get? u = some (PySem.W.kxs_mw "ValueError.__init__" e)) (hrest : rest.length ≤ sizeLine)
    (hq : ∀ h' t1, (∀ b o, b ≠ e → h.get? b = some o → h'.get? b = some o) → h'.get? e = some (xObj C t1 none) → Q .none ⟨h', g, d, t, os⟩) :
    wpAny (model prog w) A (call (.ref u) rest) Q E ⟨h, g, d, t, os⟩ := by
  refine wpAny_call (codeAny_of_tree ?_)
  show wpAny _ A.in1 (callAny (.ref u) ⟨rest, []⟩) _ _ _
  simp only [callAny]
  refine wpAny_bind (wpAny_load hu ?_)
  simp only [PySem.W.kxs_mw, show (Value.type "method-wrapper" == Value.type "method" || Value.type "method-wrapper" == Value.type "builtin_function_or_method" || Value.type "method-wrapper" == Value.type "method-wrapper") = true by decide, if_true]
  refine PySem.W.KFB.if_so (by decide) ?_
  refine wpAny_bind (PySem.W.check_bound_init F.excBase_ValueError.toExcCallFacts hC he rfl ?_)
  refine wpAny_bind (wpAny_pure (wpAny_pure ?_))
  refine ⟨plainId_quiet F.excBase_ValueError.init.plain _, codeAny_builtin F.excBase_ValueError.initEntry ?_⟩
  exact PySem.W.exc_init_tree (cls := .ref C) (t0 := t0) (dv := none) (c2 := .none) (c3 := .none) (b4 := .bool false) he hrest fun h' k1 k2 k3 => hq h' _ k1 k2

/-- the call is the ordinary one (the places of the text tell it) -/
def SupEv (qual : Str) (scope : Scope) (p0 p1 p2 p3 p4 : Pos) (x : Str) (j : Nat) : Prop := ∀ L f cda cc : Addr, ∃ pl : Sem Bool,
  eval (.Call (.Attribute (.Call (.Name "super" p0) [] [] p1) "__init__" p2) [.Constant (.str x) j p3] [] p4) (xEnv qual scope L f cda cc) = (do
    let ov ← attributeBase (.Call (.Name "super" p0) [] [] p1) "__init__" (xEnv qual scope L f cda cc) (eval (.Call (.Name "super" p0) [] [] p1) (xEnv qual scope L f cda cc))
    standAt p2.atName
    let (fn, first) ← holding [ov] (getMethod ov "__init__" pl)
    callWith p4 fn first (backTo p4 (starEach [.Constant (.str x) j p3] (xEnv qual scope L f cda cc))) [])
/-- super().__init__('..') -/
theorem super_run {mg : Str → Option Value} {D : Addr} {cdD : ClassData} {ar : PySem.Arg} {fd : FuncData} {vs : Array Value} {file : Str} {tf : Tok} {oc ccl cl : Value} {od cdd cld : Option Addr} {osl ccs csl : Array (Option Value)} {body : List Stmt} {p0 p1 p2 p3 p4 p5 : Pos} {x : Str} {j : Nat}
    {nm q : Str} {N : Addr} {bs bm : List Value} {sn : List Str} {sub : List Value} {ab : Bool} {col : Option Bool} {dd : Option Addr} {k0 k1 k2 k3 k5 : Option Value} {h : Heap} {t : Nat} {t0 : Addr} {Q : Flow → Shared → Prop} {E : Value → Shared → Prop}
    (hev : SupEv qual scope p0 p1 p2 p3 p4 x j) (X : K.In hp) (hG : hp.Ns mainGlobals mg) (hB : ∃ mb, hp.Ns builtinsNs mb ∧ ∀ x : Str, x ≠ "__name__" → mb x = bootBuiltins x) (hsup : mg "super" = none)
    (lf : K.lookup f = some ⟨oc, od, .func fd, osl⟩) (hp1 : (fd.params.posonlyargs ++ fd.params.args).head? = some ar) (har : ar.arg = "self")
    (hcode : K.lookup cda = some ⟨ccl, cdd, .fields vs, ccs⟩) (hvs : vs[2]? = some (.str file tf)) (hfile : ((prog.main.file : Str) == file) = true)
    (hcell : K.lookup cc = some ⟨cl, cld, .cell (some (.ref D)), csl⟩) (hD : PySem.W.clsIn K D = some cdD) (hsub : PySem.W.mroIn K C (.ref D) = some true) (ho : PySem.W.nsIn K cStatics "thirdparty.any" = some none)
    (hms : PySem.W.ks_superIn K C D "__init__" = some (some (.builtin "ValueError.__init__"))) (hVE : PySem.W.subIn K (.ref C) (.type "ValueError") = some true)
    (hC : K.lookup C = some (excClassObj nm q C N bs bm true sn sub ab col dd k0 k1 k2 k3 k5 "ValueError.__new__"))
    (hks : scope.names.lookup ("super" : Str) = some .globalImplicit) (hkc : scope.names.lookup ("__class__" : Str) = some .free) (hk : scope.kind = .function) (hself : scope.names.lookup ("self" : Str) = some .local)
    (htop : (prog.main.scope.names.lookup ("super" : Str)).isSome = false)
    (he : hp.objs.size ≤ e) (hL : L ≠ e) (kp : ∀ b o, hp.get? b = some o → h.get? b = some o) (hx : h.get? e = some (xObj C t0 none)) (hn : h.Ns L m) (ms : m "self" = some (.ref e))
    (hq : ∀ h' tk t1, (∀ b o, hp.get? b = some o → h'.get? b = some o) → h'.get? e = some (xObj C t1 none) → h'.Ns L m → Q .next ⟨h', g, d, tk, os⟩) :
    _root_.PySem.wpAt (model prog w) A (.func body (xEnv qual scope L f cda cc)) (exec (superSt p0 p1 p2 p3 p4 p5 x j) (xEnv qual scope L f cda cc)) Q E ⟨h, g, d, t, os⟩ := by
  have XK : K.In h := X.keeps kp
  obtain ⟨mb, hmb, hbt⟩ := hB
  obtain ⟨oD, hD1, hD2⟩ : ∃ oD, h.get? D = some oD ∧ oD.data = .cls cdD := by
    unfold PySem.W.clsIn at hD
    split at hD
    · rename_i c d cd' sl ho
      cases hD
      exact ⟨_, XK _ _ ho, rfl⟩
    · cases hD
  obtain ⟨cd, hcd⟩ : ∃ cd, PySem.W.clsIn K C = some cd := by
    cases z : PySem.W.clsIn K C with
    | none => unfold PySem.W.ks_superIn at hms; rw [z] at hms; cases hms
    | some cd => exact ⟨cd, rfl⟩
  have hms' : PySem.W.alongIn K "__init__" ((cd.mro.dropWhile (· != .ref D)).drop 1) = some (some (.builtin "ValueError.__init__")) := by
    unfold PySem.W.ks_superIn at hms
    rw [hcd] at hms
    exact hms
  have hint : interactive (xEnv qual scope L f cda cc) = false := by
    show (scope.kind == .module && _) = false
    rw [hk]; rfl
  obtain ⟨pl, hev⟩ := hev L f cda cc
  refine ks_wpAt_Expr_any (ks_wpAt_MethodCall (pl := pl) ?_ hev) hint (by rfl)
  refine ks_wpAt_super_base (env := xEnv qual scope L f cda cc) hks hkc (by decide) rfl (XK _ _ lf) rfl hp1 rfl (XK _ _ hcode) rfl hvs hfile htop ?_
  refine PySem.W.ks_loadName_global hk hks (Calls.loadGlobal_builtin (env := xEnv qual scope L f cda cc) (hG.keeps kp) hsup (hmb.keeps kp) ((hbt _ (by decide)).trans PyProof.Rows.Boot.«super») ⟨rfl, ?_⟩)
  refine wpAny_loadName_free hk hkc rfl ⟨_, XK _ _ hcell, rfl⟩ ?_
  rw [har]
  refine wpAny_loadName_local hk hself hn ms ?_
  refine ks_wpAny_isType_cls hD1 hD2 ⟨rfl, ?_⟩
  refine ks_wpAny_call_super hD1 hD2 hx rfl (fun c e => by cases e) (PySem.W.looks_mroIn XK hsub) (fun h1 es k1 => ?_)
  have XK1 : K.In h1 := XK.keeps k1
  have I1 : PySem.W.InstAt h1 e (xObj C t0 none) C none := ⟨k1 _ _ hx, rfl, rfl, trivial⟩
  refine PySem.W.kxs_getMethod PySem.W.kxs_ValueError es (PySem.W.looks_opaque XK1 ho) (l₀ := cd.mro) ?_ rfl XK1 hms' (I1.type.andThen (PySem.W.looks_subIn XK1 hVE)) (PySem.W.ks_ne XK1 I1 hcd) (by decide) ?_
  · exact fun A Q E s k q => wpAny_bind ((PySem.W.looks_clsIn XK1 hcd) A _ E s k (wpAny_pure q))
  · have up : ∀ b o, h1.get? b = some o → (h1.push (PySem.W.kxs_mw "ValueError.__init__" e)).get? b = some o := fun b o z => Heap.get?_push_of_some _ z
    have hu : (h1.push (PySem.W.kxs_mw "ValueError.__init__" e)).get? h1.objs.size = some (PySem.W.kxs_mw "ValueError.__init__" e) := Heap.get?_push_at rfl rfl
    refine PySem.W.kxs_callWith (i := "ValueError.__init__") (x := e) (by rfl) ?_
    refine Calls.evalArgs_plain (Calls.spliced_cons (x := eval (.Constant (.str x) j p3) (xEnv qual scope L f cda cc)) (Calls.Constant_str (Calls.spliced_nil ⟨hu, ?_⟩)))
    refine call_bwV (up _ _ (XK1 _ _ hC)) (up _ _ (k1 _ _ hx)) hu (by rw [sizeLine_eq]; exact (by decide : 1 ≤ 16777216)) fun h' t1 k2 hx' => ?_
    have pe : ∀ b o, hp.get? b = some o → b ≠ e := fun b o q => Nat.ne_of_lt (Nat.lt_of_lt_of_le (Heap.lt_size q) he)
    obtain ⟨oL, es', ep, hoL, rL⟩ := hn
    exact hq h' _ t1 (fun b o z => k2 b o (pe b o z) (up b o (k1 b o (kp b o z)))) hx' ⟨oL, es', ep, k2 _ _ hL (up _ _ (k1 _ _ hoL)), rL⟩

end
/-- the name of the first parameter is self, and the rest fs; what the top has written of the class C, its __init__ and its cell -/
structure XCls (prog : Program) (K : PySem.W.Frag) (mg : Str → Option Value) (C : Addr) (fs : List Str) : Prop where
  oex : OexC K C
  ve : PySem.W.subIn K (.ref C) (.type "ValueError") = some true
  ex : ∃ (f cc cda D : Addr) (qual nm : Str) (params : Arguments) (body : List Stmt) (scope : Scope) (dV kV doc pm ct oc ccl cl : Value) (an od cdd cld : Option Addr) (osl ccs csl : Array (Option Value)) (vs : Array Value) (file : Str) (tf : Tok) (cdD : ClassData) (ar : PySem.Arg)
      (p0 p1 p2 p3 p4 p5 : Pos) (x : Str) (j : Nat) (rest : List Stmt),
    PySem.W.findIn K (.ref C) "__init__" = some (some (.ref f)) ∧ PySem.W.typeIn K (.ref f) = some (.type "function") ∧
    K.lookup f = some ⟨oc, od, .func (PySem.W.fnX nm qual params body scope [("__class__", cc)] dV kV doc pm an (.ref cda) ct), osl⟩ ∧ PySem.W.codeIn K (.ref cda) qual = true ∧
    (params.posonlyargs ++ params.args).head? = some ar ∧ ar.arg = "self" ∧ K.lookup cda = some ⟨ccl, cdd, .fields vs, ccs⟩ ∧ vs[2]? = some (.str file tf) ∧ ((prog.main.file : Str) == file) = true ∧
    K.lookup cc = some ⟨cl, cld, .cell (some (.ref D)), csl⟩ ∧ PySem.W.clsIn K D = some cdD ∧ PySem.W.mroIn K C (.ref D) = some true ∧ PySem.W.nsIn K cStatics "thirdparty.any" = some none ∧
    PySem.W.ks_superIn K C D "__init__" = some (some (.builtin "ValueError.__init__")) ∧
    scope.names.lookup ("super" : Str) = some .globalImplicit ∧ scope.names.lookup ("__class__" : Str) = some .free ∧ scope.kind = .function ∧ scope.names.lookup ("self" : Str) = some .local ∧ scope.isCoroutine = false ∧ scope.isGenerator = false ∧ (∀ y ∈ scope.names, y.2 ≠ .cell) ∧
    body = superSt p0 p1 p2 p3 p4 p5 x j :: rest ∧ SupEv qual scope p0 p1 p2 p3 p4 x j ∧ Flds rest fs ∧
    (∀ us : List Value, us.length = fs.length + 1 → bindArgs (PySem.W.fnX nm qual params body scope [("__class__", cc)] dV kV doc pm an (.ref cda) ct) ⟨us, []⟩ = pure ((("self" : Str) :: fs).zip us)) ∧
    (∀ y ∈ fs, PySem.W.findIn K (.ref C) y = some none ∧ scope.names.lookup y = some .local ∧ (y == ("__debug__" : Str)) = false) ∧ (("self" : Str) :: fs).Nodup ∧ fs.length ≤ 800
  sup : mg "super" = none
  top : (prog.main.scope.names.lookup ("super" : Str)).isSome = false

theorem lookup_rev {α : Type} (y : Str) : ∀ l : List (Str × α), (l.map (·.1)).Nodup → l.reverse.lookup y = l.lookup y
  | [], _ => rfl
  | (k, v) :: l, h => by
    rw [List.map_cons, List.nodup_cons] at h
    rw [List.reverse_cons, List.lookup_append, lookup_rev y l h.2]
    by_cases e : y = k
    · subst e
      have : l.lookup y = none := by
        rw [List.lookup_eq_none_iff]
        intro p hp
        simp only [bne_iff_ne, ne_eq, beq_eq_false_iff_ne]
        intro z
        rw [z] at h
        exact h.1 (List.mem_map_of_mem (f := (·.1)) hp)
      rw [this]
      simp [List.lookup]
    · have e' : (y == k) = false := by simpa using e
      simp [List.lookup, e']
theorem zip_keys {α : Type} : ∀ (ks : List Str) (us : List α), us.length = ks.length → (ks.zip us).map (·.1) = ks
  | [], [], _ => rfl
  | k :: ks, u :: us, h => by simp only [List.zip_cons_cons, List.map_cons]; rw [zip_keys ks us (by simpa using h)]
theorem zip_get {α : Type} : ∀ {ks : List Str} {us : List α} {y : Str}, us.length = ks.length → y ∈ ks → ∃ u, (ks.zip us).lookup y = some u
  | k :: ks, u :: us, y, h, hy => by
    by_cases e : y = k
    · subst e; exact ⟨u, by simp [List.lookup]⟩
    · have e' : (y == k) = false := by simpa using e
      rcases List.mem_cons.mp hy with z | z
      · exact absurd z e
      · obtain ⟨v, hv⟩ := zip_get (us := us) (by simpa using h) z
        exact ⟨v, by simp [List.lookup, e', hv]⟩
theorem zip_vals {α : Type} (val : Str → α) : ∀ (ks : List Str) (us : List α), us.length = ks.length → ks.Nodup → (∀ y ∈ ks, (ks.zip us).lookup y = some (val y)) → ks.map (fun y => (y, val y)) = ks.zip us
  | [], [], _, _, _ => rfl
  | k :: ks, u :: us, h, nd, hv => by
    rw [List.nodup_cons] at nd
    have h1 := hv k List.mem_cons_self
    simp only [List.zip_cons_cons] at h1
    have h2 : val k = u := by
      simp [List.lookup] at h1
      exact h1.symm
    simp only [List.map_cons, List.zip_cons_cons]
    rw [h2, zip_vals val ks us (by simpa using h) nd.2 fun y hy => ?_]
    have h3 := hv y (List.mem_cons_of_mem _ hy)
    have e' : (y == k) = false := by
      simp only [beq_eq_false_iff_ne]
      intro z; exact nd.1 (z ▸ hy)
    simp only [List.zip_cons_cons, List.lookup, e'] at h3
    exact h3

section
variable {prog : Program} {w : World} {A : Around} {E : Value → Shared → Prop} {K : PySem.W.Frag} {mg : Str → Option Value} {C : Addr} {fs : List Str}
/-- the dict of the new exception -/
def XFin (hp : Heap) (e : Addr) (fs : List Str) (us : List Value) (h : Heap) : Option Addr → Prop
  | none => fs = []
  | some dx => hp.objs.size ≤ dx ∧ dx ≠ e ∧ ∃ mA, h.Ns1 dx mA ∧ ∀ y, mA y = (fs.zip us).lookup y
/-- C(e, ..) at the heap -/
theorem call_x (T : XCls prog K mg C fs) {us : List Value} {s : Shared} {R : Result → Shared → Prop} (X : K.In s.heap) (hG : s.heap.Ns mainGlobals mg) (hB : ∃ mb, s.heap.Ns builtinsNs mb ∧ ∀ x : Str, x ≠ "__name__" → mb x = bootBuiltins x) (hnl : s.heap.NoLimit)
    (hroom : (A.under (.builtin "type.__call__" ⟨.ref C :: us, []⟩)).depth < recursionLimit) (hl : us.length = fs.length)
    (hq : ∀ h' tk e t1 dv, (∀ b o, s.heap.get? b = some o → h'.get? b = some o) → s.heap.objs.size ≤ e → h'.get? e = some (xObj C t1 dv) → XFin s.heap e fs us h' dv → R (.ok (.ret (.ref e))) { s with heap := h', toks := tk }) :
    codeAny (model prog w) A (.call (.ref C) ⟨us, []⟩) R s := by
  obtain ⟨nm, q, N, bs, bm, sn, sub, ab, col, dd, k0, k1, k2, k3, k5, hC, hbm⟩ := T.oex.cls
  obtain ⟨f, cc, cda, D, qual, nmF, params, body, scope, dV, kV, doc, pm, ct, oc, ccl, cl, an, od, cdd, cld, osl, ccs, csl, vs, file, tf, cdD, ar, p0, p1, p2, p3, p4, p5, x, j, rest, iC, tI, lf, hcd, hpar, har, hcode, hvs, hfile, hcell, hD, hsub, ho, hms, hks, hkc, hk, hself, hco, hgen, hnc, hbody, hev, FF, hbind, hfld, hnd, hlen⟩ := T.ex
  subst hbody
  obtain ⟨hp, g, dr, tk, os⟩ := s
  have kk : ∀ b o, hp.get? b = some o → ((hp.push (PySem.W.kdv_tup us)).push (PySem.HandSPX.excO C hp.objs.size)).get? b = some o := fun b o e => Heap.get?_push_of_some _ (Heap.get?_push_of_some _ e)
  have hget : ((hp.push (PySem.W.kdv_tup us)).push (PySem.HandSPX.excO C hp.objs.size)).get? (hp.objs.size + 1) = some (PySem.HandSPX.excO C hp.objs.size) := by heap_get
  have hsz : us.length ≤ sizeLine := by rw [sizeLine_eq]; omega
  refine PySem.HandSPX.call_own F.excBase_ValueError (fun Y => PySem.HandSPX.refsVE_contains Y bm hbm) (X _ _ hC) (PySem.W.looks_findIn X iC) (fun self => PySem.W.bind_fn X self tI) hsz ?_
  have X2 : K.In ((hp.push (PySem.W.kdv_tup us)).push (PySem.HandSPX.excO C hp.objs.size)) := X.keeps kk
  refine ks_codeAny_call_defAt (fd := PySem.W.fnX nmF qual params (superSt p0 p1 p2 p3 p4 p5 x j :: rest) scope [("__class__", cc)] dV kV doc pm an (.ref cda) ct) (body := superSt p0 p1 p2 p3 p4 p5 x j :: rest) (binds := (("self" : Str) :: fs).zip (.ref (hp.objs.size + 1) :: us))
    hroom (X2 _ _ lf) rfl (hnl.keeps kk) (PySem.W.codeRec_of X2 hcd) rfl (.of_eq (hbind _ (by simp [hl]))) hnc ?_ (fun h₁ hns hk₁ => ?_) hco hgen hk
  · intro y hy
    have := List.of_mem_zip (show (y.1, y.2) ∈ _ from hy)
    rcases List.mem_cons.mp this.1 with z | z
    · rw [z]; exact hself
    · exact (hfld _ z).2.1
  · have he : hp.objs.size ≤ hp.objs.size + 1 := Nat.le_succ _
    have hsz2 : ((hp.push (PySem.W.kdv_tup us)).push (PySem.HandSPX.excO C hp.objs.size)).objs.size = hp.objs.size + 2 := by rw [Heap.size_push, Heap.size_push]
    have hLe : ((hp.push (PySem.W.kdv_tup us)).push (PySem.HandSPX.excO C hp.objs.size)).objs.size ≠ hp.objs.size + 1 := by rw [hsz2]; exact Nat.succ_ne_self _
    have kp1 : ∀ b o, hp.get? b = some o → h₁.get? b = some o := fun b o z => hk₁ b o (kk b o z)
    have hl' : (Value.ref (hp.objs.size + 1) :: us).length = (("self" : Str) :: fs).length := by simp [hl]
    have keys := zip_keys (("self" : Str) :: fs) (Value.ref (hp.objs.size + 1) :: us) hl'
    have ndz : (((("self" : Str) :: fs).zip (Value.ref (hp.objs.size + 1) :: us)).map (·.1)).Nodup := by rw [keys]; exact hnd
    have mlook : ∀ y, ((("self" : Str) :: fs).zip (Value.ref (hp.objs.size + 1) :: us)).reverse.lookup y = ((("self" : Str) :: fs).zip (Value.ref (hp.objs.size + 1) :: us)).lookup y := fun y => lookup_rev y _ ndz
    rw [List.nodup_cons] at hnd
    have fl : ∀ y ∈ fs, ((("self" : Str) :: fs).zip (Value.ref (hp.objs.size + 1) :: us)).lookup y = (fs.zip us).lookup y := fun y hy => by
      have e' : (y == ("self" : Str)) = false := by
        simp only [beq_eq_false_iff_ne]
        intro z; exact hnd.1 (z ▸ hy)
      simp only [List.zip_cons_cons, List.lookup, e']
    have val : ∀ y ∈ fs, (fs.zip us).lookup y = some (((fs.zip us).lookup y).getD .none) := fun y hy => by
      obtain ⟨u, hu⟩ := zip_get (us := us) hl hy
      rw [hu]; rfl
    refine ks_wpAt_execs_cons (super_run (hp := hp) (m := fun y => ((("self" : Str) :: fs).zip (Value.ref (hp.objs.size + 1) :: us)).reverse.lookup y) hev X hG hB T.sup lf hpar har hcode hvs hfile hcell hD hsub ho hms T.ve hC hks hkc hk hself T.top he hLe kp1 (hk₁ _ _ hget) hns (by rw [mlook]; rfl) fun h2 tk2 t2 q1 q2 q3 => ?_)
    obtain ⟨cd0, hcl⟩ : ∃ cd, PySem.W.clsIn K C = some cd ∧ PySem.HandSPX.refsVE cd.mro = true ∧ cd.hasDict = true := by
      refine ⟨{ name := nm, bases := bs, mro := .ref C :: bm, ns := N, qualname := q, hasDict := true, slotNames := sn, subclasses := sub, abstract := ab, collection := col, hasDel := false }, ?_, hbm, rfl⟩
      unfold PySem.W.clsIn; rw [hC] <;> rfl
    refine wpAt_of_wpAny (flds_run (hp := hp) X hcl.1 hcl.2.1 hcl.2.2 T.oex.sa he hLe hk hself (by show List.lookup _ _ = _; rw [mlook]; rfl) FF (fun y => ((fs.zip us).lookup y).getD .none) (dv := none) (done := []) (fun y hy => ?_) (by simp; omega) q1 q2 q3 rfl fun h3 tk3 dv3 j1 j2 j3 => ?_)
    · obtain ⟨a, b, c⟩ := hfld y hy
      refine ⟨a, b, c, ?_⟩
      show List.lookup _ _ = _
      rw [mlook, fl y hy]; exact val y hy
    · refine ⟨rfl, hq h3 tk3 _ t2 dv3 j1 he j2 ?_⟩
      rw [List.append_nil, zip_vals (fun y => ((fs.zip us).lookup y).getD Value.none) fs us hl hnd.2 val] at j3
      cases dv3 with
      | none =>
        have z : (fs.zip us).reverse = [] := j3
        have y := zip_keys fs us hl
        rw [List.reverse_eq_nil_iff.mp z] at y
        exact y.symm
      | some dx =>
        obtain ⟨a, b, c, mA, r1, r2, r3⟩ := j3
        exact ⟨a, b, mA, r1, fun y => by rw [r3 y, lookup_rev y _ (by rw [zip_keys fs us hl]; exact hnd.2)]⟩
end

theorem relO_zip : ∀ (fs : List Str) {vs : List V} {us : List Value}, Vals vs us → ∀ f, RelO ((fs.zip vs).lookup f) ((fs.zip us).lookup f)
  | [], _, _, _, _ => True.intro
  | _ :: _, _, _, .nil, _ => True.intro
  | k :: fs, _, _, .cons r rs, f => by
    simp only [List.zip_cons_cons, List.lookup]
    by_cases e : f = k
    · subst e; simp only [beq_self_eq_true]; exact r
    · have e' : (f == k) = false := by simpa using e
      rw [e']
      exact relO_zip fs rs f
/-- C(e, ..), C an own error class -/
def tMkX (C : Addr) (fs : List Str) (ta : TA) : L2.St → Hp → XK → Prop := fun σ H Q => ta σ H fun vs H1 => vs.length = fs.length ∧ ∀ dx, H1 dx = none → Q (.ref C) (some dx) (upd H1 dx (.xd (fs.zip vs)))
theorem pmk_x {X : Cx} {x : Str} {C : Addr} {fs : List Str} {e : Expr} {es : List Expr} {p pos : Pos} {ta : TA} (T : XCls X.prog X.K X.mg C fs) (hne : fs ≠ []) (hr : Room 1 X.A) (hm : X.mg x = some (.ref C)) (ha : PA X (e :: es) ta) (hg : Gl X x := by rfl)
    (hdb : (x == ("__debug__" : Str)) = false := by decide) (he : starEach (e :: es) X.env = (false, eval e X.env) :: starEach es X.env := by rfl) (hpl : (backTo pos (starEach es X.env)).any (·.1) = false := by rfl) :
    PMk X (.Call (.Name x p) (e :: es) [] pos) (tMkX C fs ta) := by
  intro pins s σ H Q I h
  refine wpAny_Call_Name_kw (ld_glob I hg hm ?_ hdb)
  refine PySem.W.callWith_K (h₀ := X.base) I.ok.mod.kin T.oex.kC (thn (ha.run pos pins s σ H _ I h) fun us s1 ⟨vs, H1, I1, r1, hz, q1⟩ => ⟨I1.kIn, ?_⟩) he hpl
  show wpAny _ _ (call (.ref C) us) _ _ _
  have hl : us.length = fs.length := by rw [← r1.length, hz]
  obtain ⟨mb, hmb, hbt⟩ := I1.mod.blt
  refine wpAny_call (call_x T I1.kIn (I1.mod.glob.keeps I1.bk) ⟨mb, hmb.keeps I1.bk, hbt⟩ I1.nolimit (hr.make C us []).depth hl fun h' tk e1 t1 dv k1 he1 hx hd => ?_)
  cases dv with
  | none => exact absurd hd hne
  | some dx =>
    obtain ⟨hdz, hde, mA, hns, hmA⟩ := hd
    obtain ⟨G, g1', g2'⟩ := restrict h' fun b => decide (b ≠ e1)
    have gk : ∀ b, b ≠ e1 → G.get? b = h'.get? b := fun b hb => g1' b (decide_eq_true hb)
    have ge : G.get? e1 = none := g2' e1 (by simp)
    have kG : ∀ b o, s1.heap.get? b = some o → G.get? b = some o := fun b o z => (gk b (Nat.ne_of_lt (Nat.lt_of_lt_of_le (Heap.lt_size z) he1))).trans (k1 b o z)
    have J := I1.laid (t' := tk) (a := dx) (o := .xd (fs.zip vs)) (h' := G) kG hdz ⟨mA, hns.at fun o y => (gk dx hde).trans y, fun f => by rw [hmA f]; exact relO_zip fs r1 f⟩
    refine ⟨e1, _, _, _, _, .ref C, some dx, rfl, J, fun b o z => ?_, ge, hx, ⟨rfl, rfl⟩, rfl, rfl, ?_, rfl, I1.bare, raises_own T.oex.exC T.oex.tyC, q1 dx (I1.hok.fresh hdz)⟩
    · by_cases hb : b = e1
      · have z' : G.get? b = some o := z
        rw [hb, ge] at z'; cases z'
      · exact (gk b hb).symm.trans z
    · rw [upd_ne (Ne.symm hde)]; exact I1.hok.fresh he1
end PD

namespace PD
open PySem PySem.Spec L2

/-! ### things that nobody can change -/
mutual
def immD : D → Bool
  | .non => true
  | .bl _ => true
  | .int _ => true
  | .str _ => true
  | .tup ds => immDs ds
  | _ => false
def immDs : List D → Bool
  | [] => true
  | d :: ds => immD d && immDs ds
end
mutual
def immO : O → Bool
  | .unk => true
  | .dat d => immD d
  | .lst os => immOs os
  | .tup os => immOs os
  | .dic _ os => immOs os
  | .obj _ _ os => immOs os
def immOs : List O → Bool
  | [] => true
  | o :: os => immO o && immOs os
end
section
variable {K : PySem.W.Frag} {M M' H : Hp}
mutual
theorem Dv.rebase (k : ∀ a xs, SqT K M a xs → SqT K M' a xs) : ∀ {v : V} {d : D}, Dv K M v d → immD d = true → Dv K M' v d
  | _, _, .non, _ => .non
  | _, _, .bl b, _ => .bl b
  | _, _, .int i, _ => .int i
  | _, _, .str x, _ => .str x
  | _, _, .lst _ _, h => nomatch h
  | _, _, .tup h hs, e => .tup (k _ _ h) (Dvs.rebase k hs e)
  | _, _, .dic _ _ _, h => nomatch h
  | _, _, .obj _ _ _ _, h => nomatch h
  | _, _, .exn0, h => nomatch h
  | _, _, .exn1 _ _ _, h => nomatch h
theorem Dvs.rebase (k : ∀ a xs, SqT K M a xs → SqT K M' a xs) : ∀ {vs : List V} {ds : List D}, Dvs K M vs ds → immDs ds = true → Dvs K M' vs ds
  | _, _, .nil, _ => .nil
  | _, _, .cons h hs, e => by
    unfold immDs at e
    rw [Bool.and_eq_true] at e
    exact .cons (Dv.rebase k h e.1) (Dvs.rebase k hs e.2)
end
mutual
theorem Ow.rebase (k : ∀ a xs, SqT K M a xs → SqT K M' a xs) (k2 : ∀ a xs, M a = some (.tup xs) → M' a = some (.tup xs)) : ∀ {o : O} {v : Option V} {fp : List Addr}, Ow K M H o v fp → immO o = true → Ow K M' H o v fp
  | _, _, _, .unk, _ => .unk
  | _, _, _, .dat h, e => .dat (h.rebase k e)
  | _, _, _, .lst h hs, e => .lst h (Ows.rebase k k2 hs e)
  | _, _, _, .tup h hs, e => .tup (k2 _ _ h) (Ows.rebase k k2 hs e)
  | _, _, _, .dic h q hs, e => .dic h q (Ows.rebase k k2 hs e)
  | _, _, _, .obj h h2 q hs, e => .obj h h2 q (Ows.rebase k k2 hs e)
theorem Ows.rebase (k : ∀ a xs, SqT K M a xs → SqT K M' a xs) (k2 : ∀ a xs, M a = some (.tup xs) → M' a = some (.tup xs)) : ∀ {os : List O} {vs : List (Option V)} {fp : List Addr}, Ows K M H os vs fp → immOs os = true → Ows K M' H os vs fp
  | _, _, _, .nil, _ => .nil
  | _, _, _, .cons h hs, e => by
    unfold immOs at e
    rw [Bool.and_eq_true] at e
    exact .cons (Ow.rebase k k2 h e.1) (Ows.rebase k k2 hs e.2)
end
def MutO (u : HO) : Prop := (∃ xs, u = .lst xs) ∨ (∃ xs, u = .dK xs) ∨ (∃ C d fs, u = .ins C d fs) ∨ ∃ a, u = .own a
mutual
theorem Ow.muts : ∀ {o : O} {v : Option V} {fp : List Addr}, Ow K M H o v fp → ∀ a ∈ fp, ∃ u, H a = some u ∧ MutO u
  | _, _, _, .unk, _, h => nomatch h
  | _, _, _, .dat _, _, h => nomatch h
  | _, _, _, .lst h hs, a, ha => by
    rcases List.mem_cons.mp ha with rfl | ha
    · exact ⟨_, h, .inl ⟨_, rfl⟩⟩
    · exact Ows.muts hs a ha
  | _, _, _, .tup h hs, a, ha => Ows.muts hs a ha
  | _, _, _, .dic h _ hs, a, ha => by
    rcases List.mem_cons.mp ha with rfl | ha
    · exact ⟨_, h, .inr (.inl ⟨_, rfl⟩)⟩
    · exact Ows.muts hs a ha
  | _, _, _, .obj h h2 _ hs, a, ha => by
    rcases List.mem_cons.mp ha with rfl | ha
    · exact ⟨_, h, .inr (.inr (.inl ⟨_, _, _, rfl⟩))⟩
    · rcases List.mem_cons.mp ha with rfl | ha
      · exact ⟨_, h2, .inr (.inr (.inr ⟨_, rfl⟩))⟩
      · exact Ows.muts hs a ha
theorem Ows.muts : ∀ {os : List O} {vs : List (Option V)} {fp : List Addr}, Ows K M H os vs fp → ∀ a ∈ fp, ∃ u, H a = some u ∧ MutO u
  | _, _, _, .nil, _, h => nomatch h
  | _, _, _, .cons h hs, a, ha => (List.mem_append.mp ha).elim (Ow.muts h a) (Ows.muts hs a)
end
theorem mut_tup {u : HO} (h : MutO u) {xs : List V} : u ≠ .tup xs ∧ ∀ o, u ≠ .frz o (.tup xs) := by
  refine ⟨fun z => ?_, fun _ z => ?_⟩ <;> (subst z; rcases h with ⟨_, h⟩ | ⟨_, h⟩ | ⟨_, _, _, h⟩ | ⟨_, h⟩ <;> cases h)
mutual
theorem Ow.det {M1 M2 : Hp} (s1 : Same M1 H) (s2 : Same M2 H) : ∀ {o : O} {v : Option V} {f g : List Addr}, Ow K M1 H o v f → Ow K M2 H o v g → f = g
  | _, _, _, _, .unk, .unk => rfl
  | _, _, _, _, .dat _, .dat _ => rfl
  | _, _, _, _, .lst h hs, .lst h' hs' => by rw [h] at h'; cases h'; rw [Ows.det s1 s2 hs hs']
  | _, _, _, _, .tup h hs, .tup h' hs' => by
    have a := s1 _ _ h
    rw [s2 _ _ h'] at a; cases a
    rw [Ows.det s1 s2 hs hs']
  | _, _, _, _, .dic h _ hs, .dic h' _ hs' => by rw [h] at h'; cases h'; rw [Ows.det s1 s2 hs hs']
  | _, _, _, _, .obj h _ _ hs, .obj h' _ _ hs' => by rw [h] at h'; cases h'; rw [Ows.det s1 s2 hs hs']
theorem Ows.det {M1 M2 : Hp} (s1 : Same M1 H) (s2 : Same M2 H) : ∀ {os : List O} {vs : List (Option V)} {f g : List Addr}, Ows K M1 H os vs f → Ows K M2 H os vs g → f = g
  | _, _, _, _, .nil, .nil => rfl
  | _, _, _, _, .cons h hs, .cons h' hs' => by rw [Ow.det s1 s2 h h', Ows.det s1 s2 hs hs']
end
/-- own things looked at, for a while -/
theorem Rep.look {ρ fo : List O} {σ fv : List (Option V)} (R : Rep K M H (ρ ++ fo) (σ ++ fv)) (l : σ.length = ρ.length) :
    ∃ Ma, Same M Ma ∧ Rep K Ma H (ρ.map O.vw ++ []) (σ ++ []) ∧
      (∀ M2 H', Same Ma M2 → Same M2 H' → ∃ M3, Same M M3 ∧ Rep K M3 H' (ρ ++ fo) (σ ++ fv) ∧ ∀ v d, Dv K M2 v d → immD d = true → Dv K M3 v d) ∧
      (∀ M2 H' o v, Same Ma M2 → Rep K M2 H' (ρ.map O.vw ++ [o]) (σ ++ [v]) → immO o = true → ∃ M3, Same M M3 ∧ Rep K M3 H' (ρ ++ o :: fo) (σ ++ v :: fv)) ∧
      (∀ (i : Nat) (o : O) (v : Option V) (f : List Addr), ρ[i]? = some o → σ[i]? = some v → Ow K M H o v f → ∀ a ∈ f, Ma a = H a) := by
  obtain ⟨sm, fp, w, nd, nm⟩ := R
  obtain ⟨fa, fb, e, w1, w2⟩ := w.split l
  have s1 : Same M (fun a => if a ∈ fp then H a else M a) := fun b y q => by
    have : b ∉ fp := fun z => by rw [nm b z] at q; cases q
    show (if b ∈ fp then H b else M b) = some y
    rw [if_neg this]; exact q
  have s2 : Same (fun a => if a ∈ fp then H a else M a) H := fun b y q => by
    have q : (if b ∈ fp then H b else M b) = some y := q
    split at q
    · exact q
    · exact sm b y q
  have base : ∀ M2 H' : Hp, Same (fun a => if a ∈ fp then H a else M a) M2 → Same M2 H' → ∃ M3, Same M M3 ∧ Same M3 H' ∧ Ows K M3 H' (ρ ++ fo) (σ ++ fv) fp ∧ (∀ a ∈ fp, M3 a = none ∧ M2 a ≠ none) ∧ (∀ a, M2 a = none → M3 a = none) ∧
      (∀ a xs, SqT K M2 a xs → SqT K M3 a xs) ∧ ∀ a xs, M2 a = some (.tup xs) → M3 a = some (.tup xs) := fun M2 H' k1 k2 => by
    have at2 : ∀ a ∈ fp, ∃ u, M2 a = some u ∧ H a = some u ∧ MutO u := fun a ha => by
      obtain ⟨u, hu, mu⟩ := w.muts a ha
      exact ⟨u, k1 _ _ (show (if a ∈ fp then H a else M a) = some u by rw [if_pos ha]; exact hu), hu, mu⟩
    have nt : ∀ a xs, M2 a = some (.tup xs) → a ∉ fp := fun a xs q ha => by
      obtain ⟨u, hu, _, mu⟩ := at2 a ha
      rw [hu] at q; cases q
      exact (mut_tup mu (xs := xs)).1 rfl
    have nf : ∀ a xs o, M2 a = some (.frz o (.tup xs)) → a ∉ fp := fun a xs o q ha => by
      obtain ⟨u, hu, _, mu⟩ := at2 a ha
      rw [hu] at q; cases q
      exact (mut_tup mu (xs := xs)).2 o rfl
    have s3 : Same M (fun a => if a ∈ fp then none else M2 a) := fun b y q => by
      have : b ∉ fp := fun z => by rw [nm b z] at q; cases q
      show (if b ∈ fp then none else M2 b) = some y
      rw [if_neg this]
      exact k1 _ _ (s1 _ _ q)
    refine ⟨_, s3, fun b y q => ?_, w.frame s3 fun a ha => ?_, fun a ha => ⟨if_pos ha, ?_⟩, fun a ha => ?_, fun a xs hq => ?_, fun a xs hq => (if_neg (nt a xs hq)).trans hq⟩
    · have q : (if b ∈ fp then none else M2 b) = some y := q
      split at q
      · cases q
      · exact k2 _ _ q
    · obtain ⟨u, hu, hh, _⟩ := at2 a ha
      rw [hh]; exact k2 _ _ hu
    · obtain ⟨u, hu, _⟩ := at2 a ha
      rw [hu]; exact fun z => nomatch z
    · show (if a ∈ fp then none else M2 a) = none
      split
      · rfl
      · exact ha
    · rcases hq with (h | ⟨o, h⟩) | h
      · exact .inl (.inl ((if_neg (nt a xs h)).trans h))
      · exact .inl (.inr ⟨o, (if_neg (nf a xs o h)).trans h⟩)
      · exact .inr h
  refine ⟨_, s1, ⟨s2, [], ?_, List.nodup_nil, fun a ha => nomatch ha⟩, fun M2 H' k1 k2 => ?_, fun M2 H' o v k1 R2 io => ?_, fun i o v f eo ev h a ha => ?_⟩
  · rw [List.append_nil, List.append_nil]
    exact Ows.view s1 w1 fun a ha => if_pos (by rw [e]; exact List.mem_append_left _ ha)
  · obtain ⟨M3, a1, a2, a3, a4, a5, a6, a7⟩ := base M2 H' k1 k2
    exact ⟨M3, a1, ⟨a2, fp, a3, nd, fun a ha => (a4 a ha).1⟩, fun v d dv im => dv.rebase a6 im⟩
  · obtain ⟨t1, gp, u, gnd, gnm⟩ := R2
    obtain ⟨M3, a1, a2, a3, a4, a5, a6, a7⟩ := base M2 H' k1 t1
    obtain ⟨ga, gb, e2, u1, u2⟩ := u.split (by simpa using l)
    cases u2 with
    | cons u3 u4 =>
      cases u4
      rename_i g1
      have u5 := u3.rebase a6 a7 io
      subst e2
      obtain ⟨fa', fb', e3, w3, w4⟩ := a3.split l
      refine ⟨M3, a1, a2, fa' ++ (g1 ++ fb'), w3.append (.cons u5 w4), ?_, fun a ha => ?_⟩
      · rw [List.nodup_iff_count]
        intro b
        rw [List.nodup_iff_count] at nd gnd
        have c1 := nd b
        have c2 := gnd b
        rw [e3] at c1
        simp only [List.count_append, List.append_nil] at c1 c2 ⊢
        by_cases hb : b ∈ g1
        · have hn := gnm b (by simp [hb])
          have : b ∉ fp := fun z => (a4 b z).2 hn
          rw [e3, List.mem_append] at this
          have z1 := List.count_eq_zero.mpr fun z => this (.inl z)
          have z2 := List.count_eq_zero.mpr fun z => this (.inr z)
          omega
        · have z1 := List.count_eq_zero.mpr hb
          omega
      · simp only [List.mem_append] at ha
        rcases ha with ha | ha | ha
        · exact (a4 a (by rw [e3]; simp [ha])).1
        · exact a5 a (gnm a (by simp [ha]))
        · exact (a4 a (by rw [e3]; simp [ha])).1
  · obtain ⟨v', ga, g, gb, ev', e2, h', _⟩ := w1.at_ eo
    rw [ev] at ev'; cases ev'
    rw [Ow.det sm sm h h'] at ha
    exact if_pos (by rw [e, e2]; simp [ha])
end
def vwI (f : Ev → Option D) (ρ : Ev) : Option D := (f (ρ.map O.vw)).bind fun d => if immD d = true then some d else none
def vwO (f : Ev → Option O) (ρ : Ev) : Option O := (f (ρ.map O.vw)).bind fun d => if immO d = true then some d else none
section
variable {X : Cx} {W : WX} {pos : Pos} {e : Expr}
theorem pVwI {f : Ev → Option D} (h : PE X e (tP X.K f)) : PE X e (tP X.K (vwI f)) := PE.imp h fun σ H Q ⟨M, ρ, fo, fv, d, R, l, e, k⟩ => by
  unfold vwI at e
  cases q : f (ρ.map O.vw) with
  | none => rw [q] at e; cases e
  | some d' =>
    rw [q, Option.bind_some] at e
    split at e
    · rename_i hf
      cases e
      obtain ⟨Ma, s1, R1, back, _⟩ := R.look l
      refine ⟨Ma, ρ.map O.vw, [], [], _, R1, by simpa using l, q, fun M2 H2 v s2 R2 d2 => ?_⟩
      obtain ⟨M3, s3, R3, dd⟩ := back M2 H2 s2 R2.same
      exact k M3 H2 v s3 R3 (dd _ _ d2 hf)
    · cases e
theorem oVw {f : Ev → Option O} (h : PE X e (tO X.K f)) : PE X e (tO X.K (vwO f)) := PE.imp h fun σ H Q ⟨M, ρ, fo, fv, d, R, l, e, k⟩ => by
  unfold vwO at e
  cases q : f (ρ.map O.vw) with
  | none => rw [q] at e; cases e
  | some d' =>
    rw [q, Option.bind_some] at e
    split at e
    · rename_i hf
      cases e
      obtain ⟨Ma, s1, R1, _, back, _⟩ := R.look l
      refine ⟨Ma, ρ.map O.vw, [], [], _, R1, by simpa using l, q, fun M2 H2 v s2 R2 => ?_⟩
      obtain ⟨M3, s3, R3⟩ := back M2 H2 _ _ s2 R2 hf
      exact k M3 H2 v s3 R3
    · cases e
end

/-! ### expressions that take things out of slots -/
def tM (K : PySem.W.Frag) (f : Ev → Option (O × Ev)) : TE := fun σ H Q => ∃ M ρ fo fv o ρ1, Rep K M H (ρ ++ fo) (σ ++ fv) ∧ σ.length = ρ.length ∧ f ρ = some (o, ρ1) ∧
  ∀ M' H' v, Same M M' → Rep K M' H' (ρ1 ++ o :: fo) (σ ++ some v :: fv) → Q v H'
def tAM (K : PySem.W.Frag) (f : Ev → Option (List O × Ev)) : TA := fun σ H Q => ∃ M ρ fo fv os ρ1, Rep K M H (ρ ++ fo) (σ ++ fv) ∧ σ.length = ρ.length ∧ f ρ = some (os, ρ1) ∧
  ∀ M' H' vs, Same M M' → Rep K M' H' (ρ1 ++ (os ++ fo)) (σ ++ (vs.map some ++ fv)) → vs.length = os.length → Q vs H'
def stay (f : Ev → Option O) (ρ : Ev) : Option (O × Ev) := (f ρ).map fun o => (o, ρ)
def mv (k : Nat) (ρ : Ev) : Option (O × Ev) := match ρ[k]? with
  | some o => if o.known = true then some (o, ρ.set k .unk) else none
  | none => none
def mNil (ρ : Ev) : Option (List O × Ev) := some ([], ρ)
def mCons (f : Ev → Option (O × Ev)) (g : Ev → Option (List O × Ev)) (ρ : Ev) : Option (List O × Ev) := (f ρ).bind fun p => (g p.2).map fun q => (p.1 :: q.1, q.2)
def mTup (g : Ev → Option (List O × Ev)) (ρ : Ev) : Option (O × Ev) := (g ρ).bind fun p => if p.1.length ≤ sizeLine then some (.tup p.1, p.2) else none
def mLst (g : Ev → Option (List O × Ev)) (ρ : Ev) : Option (O × Ev) := (g ρ).bind fun p => if p.1.length ≤ sizeLine then some (.lst p.1, p.2) else none
section
variable {K : PySem.W.Frag} {M H : Hp}
/-- things become a new list -/
theorem Rep.packL {l os r : List O} {lv rv : List (Option V)} {vs : List V} (R : Rep K M H (l ++ (os ++ r)) (lv ++ (vs.map some ++ rv))) (e : lv.length = l.length) (e2 : vs.length = os.length) {p : Addr} (hp : H p = none) :
    Rep K M (upd H p (.lst vs)) (l ++ .lst os :: r) (lv ++ some (.ref p) :: rv) := by
  have R1 := R.grow (u := .lst vs) hp
  obtain ⟨s, fp, w, nd, nm⟩ := R
  obtain ⟨s1, _, _, _, _⟩ := R1
  have pn : p ∉ fp := fun z => w.dom p z hp
  have w' := w.frame (H' := upd H p (.lst vs)) (Same.refl _) fun a ha => upd_ne fun z => pn (z ▸ ha)
  obtain ⟨fa, fb, e1, wa, wb⟩ := w'.split e
  obtain ⟨fc, fd, e3, wc, wd⟩ := wb.split (by simp [e2])
  subst e1; subst e3
  refine ⟨s1, fa ++ ((p :: fc) ++ fd), wa.append (.cons (.lst upd_same wc) wd), ?_, fun a ha => ?_⟩
  · have pm : (fa ++ ((p :: fc) ++ fd)).Perm (p :: (fa ++ (fc ++ fd))) := by simp only [List.cons_append]; exact List.perm_middle
    rw [pm.nodup_iff]
    exact List.nodup_cons.mpr ⟨pn, nd⟩
  · simp only [List.mem_append, List.mem_cons] at ha
    rcases ha with ha | (rfl | ha) | ha
    · exact nm a (by simp [ha])
    · exact s.free hp
    · exact nm a (by simp [ha])
    · exact nm a (by simp [ha])
theorem Rep.packT {l os r : List O} {lv rv : List (Option V)} {vs : List V} (R : Rep K M H (l ++ (os ++ r)) (lv ++ (vs.map some ++ rv))) (e : lv.length = l.length) (e2 : vs.length = os.length) {p : Addr} (hp : H p = none) :
    Rep K (upd M p (.tup vs)) (upd H p (.tup vs)) (l ++ .tup os :: r) (lv ++ some (.ref p) :: rv) := by
  have R1 := R.growM (u := .tup vs) hp
  obtain ⟨s1, fp, w', nd, nm⟩ := R1
  obtain ⟨fa, fb, e1, wa, wb⟩ := w'.split e
  obtain ⟨fc, fd, e3, wc, wd⟩ := wb.split (by simp [e2])
  subst e1; subst e3
  exact ⟨s1, fa ++ (fc ++ fd), wa.append (.cons (.tup upd_same wc) wd), nd, nm⟩
end
section
variable {X : Cx} {W : WX} {J : List Nat} {pos p : Pos} {e : Expr} {es : List Expr} {f : Ev → Option (O × Ev)} {g : Ev → Option (List O × Ev)}
theorem mO {f : Ev → Option O} (h : PE X e (tO X.K f)) : PE X e (tM X.K (stay f)) := PE.imp h fun σ H Q ⟨M, ρ, fo, fv, o, ρ1, R, l, e, k⟩ => by
  unfold stay at e
  cases q : f ρ with
  | none => rw [q] at e; cases e
  | some o => rw [q] at e; cases e; exact ⟨M, ρ, fo, fv, o, R, l, q, k⟩
theorem mName {k : Nat} {x : Str} (hv : PE X (.Name x p) (tVar k)) : PE X (.Name x p) (tM X.K (mv k)) := PE.imp hv fun σ H Q ⟨M, ρ, fo, fv, o, ρ1, R, l, e, kk⟩ => by
  unfold mv at e
  split at e
  · rename_i o' eo
    split at e
    · rename_i ho
      cases e
      have lf := R.lens l
      have R' : Rep X.K M H (ρ ++ ([] ++ fo)) (σ ++ ([] ++ fv)) := R
      obtain ⟨v, f1, ft, ev, h1, _, _, _, _⟩ := R'.own l rfl eo
      obtain ⟨x', rfl⟩ := h1.known ho
      exact ⟨x', ev, kk M H x' (Same.refl _) ((Rep.pull (l := []) (lv := []) R rfl l lf eo ev).swap (by simp [l]))⟩
    · cases e
  · cases e
theorem mNil' : PA X [] (tAM X.K mNil) := PA.imp pa_nil fun σ H Q ⟨M, ρ, fo, fv, os, ρ1, R, l, e, k⟩ => by
  cases e
  exact k M H [] (Same.refl _) R rfl
theorem mCons' (ha : PE X e (tM X.K f)) (hr : PA X es (tAM X.K g)) (hs : starEach (e :: es) X.env = (false, eval e X.env) :: starEach es X.env := by rfl) : PA X (e :: es) (tAM X.K (mCons f g)) := PA.imp (pa_cons ha hr hs) fun σ H Q ⟨M, ρ, fo, fv, os, ρ1, R, l, e, k⟩ => by
  unfold mCons at e
  cases q : f ρ with
  | none => rw [q] at e; cases e
  | some p1 =>
    rw [q, Option.bind_some] at e
    cases q2 : g p1.2 with
    | none => rw [q2] at e; cases e
    | some p2 =>
      rw [q2] at e
      cases e
      have lf := R.lens l
      refine ⟨M, ρ, fo, fv, p1.1, p1.2, R, l, q, fun M1 H1 v s1 R1 => ?_⟩
      have l1 : σ.length = p1.2.length := by have := R1.length; simp at this; omega
      refine ⟨M1, p1.2, p1.1 :: fo, some v :: fv, p2.1, p2.2, R1, l1, q2, fun M2 H2 vs s2 R2 lv => k M2 H2 (v :: vs) (s1.trans s2) ?_ (by simp [lv])⟩
      have l2 : σ.length = p2.2.length := by have := R2.length; simp at this; omega
      refine R2.perm (by simp [l2, lv, lf]) (by simp [l2, lv, lf]) ?_
      rw [List.zip_append l2.symm, List.zip_append l2.symm]
      refine List.Perm.append_left _ ?_
      rw [List.zip_append (by simp [lv])]
      simp only [List.map_cons, List.cons_append, List.zip_cons_cons]
      rw [List.zip_append (by simp [lv])]
      exact List.perm_middle
theorem mTup' {k : Nat} (h : PA X es (tAM X.K g)) : PE X (.Tuple es k pos) (tM X.K (mTup g)) := PE.imp (pe_tup h) fun σ H Q ⟨M, ρ, fo, fv, o, ρ1, R, l, e, k⟩ => by
  unfold mTup at e
  cases q : g ρ with
  | none => rw [q] at e; cases e
  | some p =>
    rw [q, Option.bind_some] at e
    split at e
    · rename_i hl
      cases e
      have lf := R.lens l
      refine ⟨M, ρ, fo, fv, p.1, p.2, R, l, q, fun M1 H1 vs s1 R1 lv => ⟨by rw [lv]; exact hl, fun a ha => ?_⟩⟩
      have l1 : σ.length = p.2.length := by have := R1.length; simp at this; omega
      exact k _ _ _ (s1.trans (same_updM (R1.same.free ha))) (R1.packT l1 lv ha)
    · cases e
theorem mLst' (h : PA X es (tAM X.K g)) : PE X (.List es pos) (tM X.K (mLst g)) := PE.imp (pe_lst h) fun σ H Q ⟨M, ρ, fo, fv, o, ρ1, R, l, e, k⟩ => by
  unfold mLst at e
  cases q : g ρ with
  | none => rw [q] at e; cases e
  | some p =>
    rw [q, Option.bind_some] at e
    split at e
    · rename_i hl
      cases e
      have lf := R.lens l
      refine ⟨M, ρ, fo, fv, p.1, p.2, R, l, q, fun M1 H1 vs s1 R1 lv => ⟨by rw [lv]; exact hl, fun a ha => ?_⟩⟩
      have l1 : σ.length = p.2.length := by have := R1.length; simp at this; omega
      exact k _ _ _ s1 (R1.packL l1 lv ha)
    · cases e
def rtM (f : Ev → Option (O × Ev)) (ρ : Ev) : Option Fl := (f ρ).map fun p => .rt p.1 p.2
def stM (i : Nat) (f : Ev → Option (O × Ev)) (ρ : Ev) : Option Fl := (f ρ).map fun p => .nx (p.2.set i p.1)
theorem Lk.lens {σ0 : L2.St} {σ : L2.St} {ρ ρ1 : Ev} (l : Lk J σ0 σ ρ) (h : ρ1.length = ρ.length) : Lk J σ0 σ ρ1 := ⟨by rw [l.1, h], l.2⟩
theorem sRetM (h : PE X e (tM X.K f)) : PS X (.Return (some e) pos) (tS X.K W J (rtM f)) := PS.imp (ps_ret h) fun E σ H ⟨M, ρ, fo, fv, r, σ0, R, l, e, k⟩ => by
  unfold rtM at e
  cases q : f ρ with
  | none => rw [q] at e; cases e
  | some p =>
    rw [q] at e
    cases e
    have lf := R.lens l.1
    refine ⟨M, ρ, fo, fv, p.1, p.2, R, l.1, q, fun M1 H1 v s1 R1 => ?_⟩
    have l1 : p.2.length = ρ.length := by have a := R1.length; have b := l.1; simp at a; omega
    exact k M1 H1 σ v s1 R1 (l.lens l1)
theorem sSetM {i : Nat} {x : Str} {pos' : Pos} (hN : X.N.Nodup) (he : PE X e (tM X.K f)) (hJ : i ∉ J := by decide) (hi : X.N[i]? = some x := by rfl) (hx : Loc X.env.scope x := by first | exact Or.inl rfl | exact Or.inr rfl) (hs : swapsWith e (some (.Name x pos')) pos.line X.env = pure false := by rfl)
    (hf : X.fn x = true ∨ X.env.scope.names.lookup x = some .local := by first | exact .inl rfl | exact .inr rfl) : PS X (.Assign [.Name x pos'] e pos) (tS X.K W J (stM i f)) := PS.imp (ps_set (i := i) hN hi hx he hs hf) fun E σ H ⟨M, ρ, fo, fv, r, σ0, R, l, e, k⟩ => by
  unfold stM at e
  cases q : f ρ with
  | none => rw [q] at e; cases e
  | some p =>
    rw [q] at e
    cases e
    have lf := R.lens l.1
    refine ⟨M, ρ, fo, fv, p.1, p.2, R, l.1, q, fun M1 H1 v s1 R1 => ?_⟩
    have l1 : p.2.length = ρ.length := by have a := R1.length; have b := l.1; simp at a; omega
    exact k M1 H1 _ s1 (R1.into (by rw [l.1, l1])) ((l.lens l1).set hJ _ _)
end

/-! ### defs that give new things, called -/
def cO' (ga : Ev → Option (List D)) (n : Nat) (m : List D → Option O) (ρ : Ev) : Option O := (ga ρ).bind fun ds => if ds.length = n then m ds else none
section
variable {X : Cx} {k n : Nat} {f : Addr} {fd : FuncData} {ps : List Str} {x : Str} {p pos : Pos} {e : Expr} {es : List Expr} {ga : Ev → Option (List D)}
theorem tCall_O {K : PySem.W.Frag} {m : List D → Option O} {σ : L2.St} {H : Hp} {Q : VK} (h : tO K (cO' ga n m) σ H Q) : tCall (spO K n m) [] E0 (tAr K ga) σ H Q := by
  obtain ⟨M, ρ, fo, fv, o, R, l, e, kk⟩ := h
  unfold cO' at e
  cases q : ga ρ with
  | none => rw [q] at e; cases e
  | some ds =>
    rw [q, Option.bind_some] at e
    split at e
    · rename_i hl
      have lf := R.lens l
      refine ⟨M, ρ, fo, fv, ds, R, l, q, fun M1 H1 vs s1 R1 d1 => ⟨by simp [d1.length, hl], M1, ρ ++ fo, σ ++ fv, ds, o, R1, by simpa using d1, e, fun M2 H2 v s2 R2 => kk M2 H2 v (s1.trans s2) (R2.swap l)⟩⟩
    · cases e
theorem oCall {m : List D → Option O} (F : FnOk X.prog X.w X.K X.mg X.base CX0 k f fd ps (spO X.K n m)) (hr : Room k X.A) (hm : X.mg x = some (.ref f)) (hk : PySem.W.keepIn X.K (.ref f) = true) (hb : Binds X.K fd ps []) (ha : PA X (e :: es) (tAr X.K ga)) (hg : Gl X x := by rfl)
    (hdb : (x == ("__debug__" : Str)) = false := by decide) (he : starEach (e :: es) X.env = (false, eval e X.env) :: starEach es X.env := by rfl) (hpl : (backTo pos (starEach es X.env)).any (·.1) = false := by rfl) : PE X (.Call (.Name x p) (e :: es) [] pos) (tO X.K (cO' ga n m)) :=
  PE.imp (pe_call (E := E0) F hr hg hm hk hb .nil pass0 ha hdb he hpl) fun _ _ _ h => tCall_O h
end
end PD

namespace PD
open PySem PySem.Spec L2

/-! ### places inside own things -/
def kidV (H : Hp) (v : V) (k : Nat) : Option V := match v with
  | .ref a => match H a with
    | some (.lst xs) => xs[k]?
    | some (.tup xs) => xs[k]?
    | some (.dK kvs) => (kvs.map (·.2))[k]?
    | some (.ins _ _ fs) => (fs.map (·.2))[k]?
    | _ => none
  | _ => none
def atV (H : Hp) : V → List Nat → Option V
  | v, [] => some v
  | v, k :: p => (kidV H v k).bind fun u => atV H u p
def O.kid (o : O) (k : Nat) : Option O := match o with
  | .lst os => os[k]?
  | .tup os => os[k]?
  | .dic _ os => os[k]?
  | .obj _ _ os => os[k]?
  | _ => none
def O.setKid (o : O) (k : Nat) (y : O) : O := match o with
  | .lst os => .lst (os.set k y)
  | .tup os => .tup (os.set k y)
  | .dic ks os => .dic ks (os.set k y)
  | .obj C ks os => .obj C ks (os.set k y)
  | o => o
def O.sub : O → List Nat → Option O
  | o, [] => some o
  | o, k :: p => (o.kid k).bind fun o1 => o1.sub p
def O.put : O → List Nat → O → O
  | _, [], y => y
  | o, k :: p, y => match o.kid k with
    | some o1 => o.setKid k (o1.put p y)
    | none => o
section
variable {K : PySem.W.Frag} {M H : Hp}
theorem sub_known : ∀ {p : List Nat} {o o' : O}, o.sub p = some o' → o'.known = true → o.known = true
  | [], o, o', e, h => by cases e; exact h
  | k :: p, o, o', e, h => by
    unfold O.sub at e
    cases o with
    | unk => cases e
    | _ => rfl
/-- one step down -/
theorem Ow.kid {o o1 : O} {v : V} {f : List Addr} {k : Nat} (w : Ow K M H o (some v) f) (s : Same M H) (nd : f.Nodup) (e : o.kid k = some o1) (h : o1.known = true) :
    ∃ v1 f1, kidV H v k = some v1 ∧ Ow K M H o1 (some v1) f1 ∧ (∀ b, f1.count b ≤ f.count b) ∧ ∀ (M' H' : Hp) (y : O) (f2 : List Addr), Same M M' → Same M' H' → (∀ b ∈ f, b ∉ f1 → H' b = H b) → Ow K M' H' y (some v1) f2 →
      ∃ g, Ow K M' H' (o.setKid k y) (some v) g ∧ ∀ b, g.count b + f1.count b = f.count b + f2.count b := by
  rw [List.nodup_iff_count] at nd
  cases w with
  | unk => cases e
  | dat _ => cases e
  | lst ha ws =>
    rename_i a xs os fp
    obtain ⟨v', fa, f1, fb, ev, ef, h1, up⟩ := ws.at_ e
    obtain ⟨x, rfl⟩ := h1.known h
    have hx : xs[k]? = some x := by rw [List.getElem?_map] at ev; cases q : xs[k]? with | none => rw [q] at ev; cases ev | some z => rw [q] at ev; cases ev; rfl
    refine ⟨x, f1, ?_, h1, fun b => by rw [ef]; simp only [List.count_cons, List.count_append]; omega, fun M' H' y f2 s1 s2 kk hy => ?_⟩
    · unfold kidV; simp only [ha]; exact hx
    have na : a ∉ f1 := fun z => by
      have := nd a
      have c := List.count_pos_iff.mpr z
      rw [ef] at this
      simp only [List.count_cons, List.count_append, beq_self_eq_true, if_true] at this
      omega
    have out : ∀ b ∈ fa ++ fb, H' b = H b := fun b hb => kk b (by rw [ef]; rcases List.mem_append.mp hb with hb | hb <;> simp [hb]) fun z => by
      have := nd b
      have c := List.count_pos_iff.mpr z
      have c2 := List.count_pos_iff.mpr hb
      rw [ef] at this
      simp only [List.count_cons, List.count_append] at this c2
      omega
    exact ⟨_, .lst ((kk a List.mem_cons_self na).trans ha) (up s1 out hy), fun b => by rw [ef]; simp only [List.count_cons, List.count_append]; omega⟩
  | tup ha ws =>
    rename_i a xs os
    obtain ⟨v', fa, f1, fb, ev, ef, h1, up⟩ := ws.at_ e
    obtain ⟨x, rfl⟩ := h1.known h
    have hx : xs[k]? = some x := by rw [List.getElem?_map] at ev; cases q : xs[k]? with | none => rw [q] at ev; cases ev | some z => rw [q] at ev; cases ev; rfl
    refine ⟨x, f1, ?_, h1, fun b => by rw [ef]; simp only [List.count_append]; omega, fun M' H' y f2 s1 s2 kk hy => ?_⟩
    · unfold kidV; simp only [s _ _ ha]; exact hx
    have out : ∀ b ∈ fa ++ fb, H' b = H b := fun b hb => kk b (by rw [ef]; rcases List.mem_append.mp hb with hb | hb <;> simp [hb]) fun z => by
      have := nd b
      have c := List.count_pos_iff.mpr z
      have c2 := List.count_pos_iff.mpr hb
      rw [ef] at this
      simp only [List.count_append] at this c2
      omega
    exact ⟨_, .tup (s1 _ _ ha) (up s1 out hy), fun b => by rw [ef]; simp only [List.count_append]; omega⟩
  | dic ha hk ws =>
    rename_i a kvs ks os fp
    obtain ⟨v', fa, f1, fb, ev, ef, h1, up⟩ := ws.at_ e
    obtain ⟨x, rfl⟩ := h1.known h
    have hx : (kvs.map (·.2))[k]? = some x := by rw [List.getElem?_map] at ev ⊢; cases q : kvs[k]? with | none => rw [q] at ev; cases ev | some z => rw [q] at ev; cases ev; rfl
    refine ⟨x, f1, ?_, h1, fun b => by rw [ef]; simp only [List.count_cons, List.count_append]; omega, fun M' H' y f2 s1 s2 kk hy => ?_⟩
    · unfold kidV; simp only [ha]; exact hx
    have na : a ∉ f1 := fun z => by
      have := nd a
      have c := List.count_pos_iff.mpr z
      rw [ef] at this
      simp only [List.count_cons, List.count_append, beq_self_eq_true, if_true] at this
      omega
    have out : ∀ b ∈ fa ++ fb, H' b = H b := fun b hb => kk b (by rw [ef]; rcases List.mem_append.mp hb with hb | hb <;> simp [hb]) fun z => by
      have := nd b
      have c := List.count_pos_iff.mpr z
      have c2 := List.count_pos_iff.mpr hb
      rw [ef] at this
      simp only [List.count_cons, List.count_append] at this c2
      omega
    exact ⟨_, .dic ((kk a List.mem_cons_self na).trans ha) hk (up s1 out hy), fun b => by rw [ef]; simp only [List.count_cons, List.count_append]; omega⟩
  | obj ha hd hk ws =>
    rename_i a C dx kvs ks os fp
    obtain ⟨v', fa, f1, fb, ev, ef, h1, up⟩ := ws.at_ e
    obtain ⟨x, rfl⟩ := h1.known h
    have hx : (kvs.map (·.2))[k]? = some x := by rw [List.getElem?_map] at ev ⊢; cases q : kvs[k]? with | none => rw [q] at ev; cases ev | some z => rw [q] at ev; cases ev; rfl
    refine ⟨x, f1, ?_, h1, fun b => by rw [ef]; simp only [List.count_cons, List.count_append]; omega, fun M' H' y f2 s1 s2 kk hy => ?_⟩
    · unfold kidV; simp only [ha]; exact hx
    have na : a ∉ f1 ∧ dx ∉ f1 := by
      constructor
      · intro z
        have := nd a
        have c := List.count_pos_iff.mpr z
        rw [ef] at this
        simp only [List.count_cons, List.count_append, beq_self_eq_true, if_true] at this
        omega
      · intro z
        have := nd dx
        have c := List.count_pos_iff.mpr z
        rw [ef] at this
        simp only [List.count_cons, List.count_append, beq_self_eq_true, if_true] at this
        omega
    have out : ∀ b ∈ fa ++ fb, H' b = H b := fun b hb => kk b (by rw [ef]; rcases List.mem_append.mp hb with hb | hb <;> simp [hb]) fun z => by
      have := nd b
      have c := List.count_pos_iff.mpr z
      have c2 := List.count_pos_iff.mpr hb
      rw [ef] at this
      simp only [List.count_cons, List.count_append] at this c2
      omega
    exact ⟨_, .obj ((kk a (by simp) na.1).trans ha) ((kk dx (by simp) na.2).trans hd) hk (up s1 out hy), fun b => by rw [ef]; simp only [List.count_cons, List.count_append]; omega⟩
theorem nodup_le {f1 f : List Addr} (h : ∀ b, f1.count b ≤ f.count b) (nd : f.Nodup) : f1.Nodup := by
  rw [List.nodup_iff_count] at nd ⊢
  exact fun b => Nat.le_trans (h b) (nd b)
theorem Ow.sub : ∀ (p : List Nat) {o o' : O} {v : V} {f : List Addr}, Ow K M H o (some v) f → Same M H → f.Nodup → o.sub p = some o' → o'.known = true →
    ∃ v1 f1, atV H v p = some v1 ∧ Ow K M H o' (some v1) f1 ∧ (∀ b, f1.count b ≤ f.count b) ∧ ∀ (M' H' : Hp) (y : O) (f2 : List Addr), Same M M' → Same M' H' → (∀ b ∈ f, b ∉ f1 → H' b = H b) → Ow K M' H' y (some v1) f2 →
      ∃ g, Ow K M' H' (o.put p y) (some v) g ∧ ∀ b, g.count b + f1.count b = f.count b + f2.count b
  | [], o, o', v, f, w, s, nd, e, h => by
    cases e
    exact ⟨v, f, rfl, w, fun b => Nat.le_refl _, fun M' H' y f2 s1 s2 kk hy => ⟨f2, hy, fun b => Nat.add_comm _ _⟩⟩
  | k :: p, o, o', v, f, w, s, nd, e, h => by
    unfold O.sub at e
    cases q : o.kid k with
    | none => rw [q] at e; cases e
    | some o1 =>
      rw [q, Option.bind_some] at e
      obtain ⟨v1, f1, ev, h1, c1, up1⟩ := w.kid s nd q (sub_known e h)
      obtain ⟨v2, f2, ev2, h2, c2, up2⟩ := Ow.sub p h1 s (nodup_le c1 nd) e h
      refine ⟨v2, f2, ?_, h2, fun b => Nat.le_trans (c2 b) (c1 b), fun M' H' y f3 s1 s2 kk hy => ?_⟩
      · unfold atV; rw [ev]; exact ev2
      obtain ⟨g1, w1, d1⟩ := up2 M' H' y f3 s1 s2 (fun b hb hn => kk b (List.count_pos_iff.mp (Nat.lt_of_lt_of_le (List.count_pos_iff.mpr hb) (c1 b))) hn) hy
      obtain ⟨g2, w2, d2⟩ := up1 M' H' _ g1 s1 s2 (fun b hb hn => kk b hb fun z => hn (List.count_pos_iff.mp (Nat.lt_of_lt_of_le (List.count_pos_iff.mpr z) (c2 b)))) w1
      refine ⟨g2, ?_, fun b => by have a1 := d1 b; have a2 := d2 b; omega⟩
      unfold O.put
      rw [q]
      exact w2
theorem atV_frame {H' : Hp} : ∀ (p : List Nat) {o o' : O} {v : V} {f : List Addr}, Ow K M H o (some v) f → Same M H → Same M H' → f.Nodup → (∀ a ∈ f, H' a = H a) → o.sub p = some o' → o'.known = true → atV H' v p = atV H v p
  | [], _, _, _, _, _, _, _, _, _, _, _ => rfl
  | k :: p, o, o', v, f, w, s, s', nd, kk, e, h => by
    unfold O.sub at e
    cases q : o.kid k with
    | none => rw [q] at e; cases e
    | some o1 =>
      rw [q, Option.bind_some] at e
      obtain ⟨v1, f1, ev, h1, c1, _⟩ := w.kid s nd q (sub_known e h)
      have w' : Ow K M H' o (some v) f := w.frame (Same.refl _) kk
      have e1 : kidV H' v k = kidV H v k := by
        cases w with
        | unk => cases q
        | dat _ => cases q
        | lst ha _ => unfold kidV; simp only [ha, kk _ List.mem_cons_self]
        | tup ha _ => unfold kidV; simp only [s _ _ ha, s' _ _ ha]
        | dic ha _ _ => unfold kidV; simp only [ha, kk _ List.mem_cons_self]
        | obj ha _ _ _ => unfold kidV; simp only [ha, kk _ List.mem_cons_self]
      unfold atV
      rw [e1, ev]
      exact atV_frame p h1 s s' (nodup_le c1 nd) (fun a ha => kk a (List.count_pos_iff.mp (Nat.lt_of_lt_of_le (List.count_pos_iff.mpr ha) (c1 a)))) e h
/-- the thing at a place, and temporaries that may go into it -/
theorem Rep.place {ρ tmp fo : List O} {σ tv fv : List (Option V)} (R : Rep K M H (ρ ++ (tmp ++ fo)) (σ ++ (tv ++ fv))) (l : σ.length = ρ.length) (lt : tv.length = tmp.length) {i : Nat} {o o' : O} {p : List Nat} (e : ρ[i]? = some o) (ep : o.sub p = some o') (hk : o'.known = true) :
    ∃ v0 v f ft, σ[i]? = some (some v0) ∧ atV H v0 p = some v ∧ Ow K M H o' (some v) f ∧ Ows K M H tmp tv ft ∧ (f ++ ft).Nodup ∧ (∀ b ∈ f ++ ft, M b = none) ∧
      ∀ (M' H' : Hp) (y : O) (f' : List Addr), Same M M' → Same M' H' → (∀ b, b ∉ f → H b ≠ none → H' b = H b) → Ow K M' H' y (some v) f' → (∀ b, f'.count b ≤ f.count b + ft.count b) → (∀ b, M b = none → H b ≠ none → M' b = none) → Rep K M' H' (ρ.set i (o.put p y) ++ fo) (σ ++ fv) := by
  obtain ⟨v0', f0, ft, ev, h0, h2, nd, nm, up⟩ := R.own l lt e
  obtain ⟨v0, rfl⟩ := h0.known (sub_known ep hk)
  obtain ⟨v, f, ea, h1, c1, up1⟩ := Ow.sub p h0 R.same (nd.sublist (List.sublist_append_left _ _)) ep hk
  have sub : ∀ b, b ∈ f → b ∈ f0 := fun b hb => List.count_pos_iff.mp (Nat.lt_of_lt_of_le (List.count_pos_iff.mpr hb) (c1 b))
  refine ⟨v0, v, f, ft, ev, ea, h1, h2, ?_, fun b hb => nm b ?_, fun M' H' y f' s1 s2 kk hy hc hM => ?_⟩
  · rw [List.nodup_iff_count] at nd ⊢
    intro b
    have a1 := nd b
    have a2 := c1 b
    simp only [List.count_append] at a1 ⊢
    omega
  · rcases List.mem_append.mp hb with hb | hb
    · simp [sub b hb]
    · simp [hb]
  obtain ⟨g, w, cg⟩ := up1 M' H' y f' s1 s2 (fun b hb hn => kk b hn (h0.dom b hb)) hy
  exact up M' H' _ g s1 s2 (fun b hb hn => kk b (fun z => hb (sub b z)) hn) w (fun b => by have a1 := cg b; have a2 := hc b; omega) hM
/-- looked at, with what stays -/
theorem Rep.look2 {ρ fo : List O} {σ fv : List (Option V)} (R : Rep K M H (ρ ++ fo) (σ ++ fv)) (l : σ.length = ρ.length) {i : Nat} {o o' : O} {p : List Nat} {v0 v : V} (e : ρ[i]? = some o) (ep : o.sub p = some o') (hk : o'.known = true) (e0 : σ[i]? = some (some v0)) (ev : atV H v0 p = some v) :
    ∃ Ma, Same M Ma ∧ Rep K Ma H (ρ.map O.vw ++ []) (σ ++ []) ∧
      (∀ M2 H', Same Ma M2 → Same M2 H' → ∃ M3, Same M M3 ∧ Rep K M3 H' (ρ ++ fo) (σ ++ fv) ∧ atV H' v0 p = some v ∧ ∀ v d, Dv K M2 v d → immD d = true → Dv K M3 v d) ∧
      (∀ M2 H' z u, Same Ma M2 → Rep K M2 H' (ρ.map O.vw ++ [z]) (σ ++ [u]) → immO z = true → ∃ M3, Same M M3 ∧ Rep K M3 H' (ρ ++ z :: fo) (σ ++ u :: fv) ∧ atV H' v0 p = some v) := by
  have R0 : Rep K M H (ρ ++ ([] ++ fo)) (σ ++ ([] ++ fv)) := R
  obtain ⟨v0', f0, ft, e1, h0, _, nd, nm, _⟩ := R0.own l rfl e
  rw [e1] at e0
  cases e0
  have nd0 : f0.Nodup := nd.sublist (List.sublist_append_left _ _)
  obtain ⟨Ma, s1, R1, b1, b2, b3⟩ := R.look l
  have hMa : ∀ a ∈ f0, Ma a = H a := b3 i o _ f0 e e1 h0
  have keep : ∀ M2 H' : Hp, Same Ma M2 → Same M2 H' → atV H' v0 p = some v := fun M2 H' k1 k2 => by
    rw [atV_frame (H := H) (H' := H') p h0 R.same (s1.trans (k1.trans k2)) nd0 (fun a ha => ?_) ep hk]
    · exact ev
    · have h := h0.dom a ha
      cases q : H a with
      | none => exact absurd q h
      | some u => exact k2 _ _ (k1 _ _ ((hMa a ha).trans q))
  refine ⟨Ma, s1, R1, fun M2 H' k1 k2 => ?_, fun M2 H' z u k1 R2 iz => ?_⟩
  · obtain ⟨M3, a1, a2, a3⟩ := b1 M2 H' k1 k2
    exact ⟨M3, a1, a2, keep M2 H' k1 k2, a3⟩
  · obtain ⟨M3, a1, a2⟩ := b2 M2 H' z u k1 R2 iz
    exact ⟨M3, a1, a2, keep M2 H' k1 R2.same⟩
end

theorem sub_snoc : ∀ (p : List Nat) (o : O) (k : Nat), o.sub (p ++ [k]) = (o.sub p).bind fun z => z.kid k
  | [], o, k => by
    show (o.kid k).bind (fun o1 => some o1) = o.kid k
    cases o.kid k <;> rfl
  | j :: p, o, k => by
    show (o.kid j).bind (fun o1 => o1.sub (p ++ [k])) = ((o.kid j).bind fun o1 => o1.sub p).bind _
    cases o.kid j with
    | none => rfl
    | some o1 => exact sub_snoc p o1 k
theorem atV_snoc (H : Hp) : ∀ (p : List Nat) (v : V) (k : Nat), atV H v (p ++ [k]) = (atV H v p).bind fun z => kidV H z k
  | [], v, k => by
    show (kidV H v k).bind (fun o1 => some o1) = kidV H v k
    cases kidV H v k <;> rfl
  | j :: p, v, k => by
    show (kidV H v j).bind (fun o1 => atV H o1 (p ++ [k])) = ((kidV H v j).bind fun o1 => atV H o1 p).bind _
    cases kidV H v j with
    | none => rfl
    | some o1 => exact atV_snoc H p o1 k
/-- what stands at a place of slot i -/
def onSub (i : Nat) (p : List Nat) (ρ : Ev) : Option O := (ρ[i]?).bind fun o => o.sub p
def tPl (K : PySem.W.Frag) (i : Nat) (pf : Ev → Option (List Nat)) : TE := fun σ H Q => ∃ M ρ fo fv p, Rep K M H (ρ ++ fo) (σ ++ fv) ∧ σ.length = ρ.length ∧ pf ρ = some p ∧ (∃ o', onSub i p ρ = some o' ∧ o'.known = true) ∧
  ∀ M' H' v0 v, Same M M' → Rep K M' H' (ρ ++ fo) (σ ++ fv) → σ[i]? = some (some v0) → atV H' v0 p = some v → Q v H'
theorem onSub_some {i : Nat} {p : List Nat} {ρ : Ev} {o' : O} (h : onSub i p ρ = some o') : ∃ o, ρ[i]? = some o ∧ o.sub p = some o' := by
  unfold onSub at h
  cases q : ρ[i]? with
  | none => rw [q] at h; cases h
  | some o => rw [q] at h; exact ⟨o, rfl, h⟩
def plN (_ : Ev) : Option (List Nat) := some []
def plI (i : Nat) (pf : Ev → Option (List Nat)) (fb : Ev → Option D) (ρ : Ev) : Option (List Nat) := (pf ρ).bind fun p => match onSub i p ρ, fb (ρ.map O.vw) with
  | some (.lst os), some (.int n) => (ixN os.length n).bind fun k => if (os.getD k .unk).known = true then some (p ++ [k]) else none
  | some (.tup os), some (.int n) => (ixN os.length n).bind fun k => if (os.getD k .unk).known = true then some (p ++ [k]) else none
  | _, _ => none
theorem ows_getV {K : PySem.W.Frag} {M H : Hp} {os : List O} {xs : List V} {f : List Addr} (w : Ows K M H os (xs.map some) f) {k : Nat} (hk : k < os.length) : ∃ v, xs[k]? = some v := by
  have := w.length
  simp at this
  exact ⟨xs[k], List.getElem?_eq_getElem (by omega)⟩
section
variable {X : Cx} {W : WX} {J : List Nat} {pos p apos cpos : Pos} {a b e : Expr} {i : Nat} {pf : Ev → Option (List Nat)} {fb g : Ev → Option D} {f : Ev → Option O}
theorem plName {x : Str} (hv : PE X (.Name x p) (tVar i)) : PE X (.Name x p) (tPl X.K i plN) := PE.imp hv fun σ H Q ⟨M, ρ, fo, fv, pt, R, l, e, ⟨o', eo, ho⟩, k⟩ => by
  cases e
  obtain ⟨o, e1, e2⟩ := onSub_some eo
  have R' : Rep X.K M H (ρ ++ ([] ++ fo)) (σ ++ ([] ++ fv)) := R
  obtain ⟨v0, v, f, ft, ev, ea, _⟩ := R'.place l rfl e1 e2 ho
  cases ea
  exact ⟨v0, ev, k M H v0 v0 (Same.refl _) R ev rfl⟩
theorem plIx (ha : PE X a (tPl X.K i pf)) (hb : PE X b (tP X.K fb)) (hs : PlainIx b := by exact fun _ _ => rfl) : PE X (.Subscript a b pos) (tPl X.K i (plI i pf fb)) := PE.imp (pe_ix (IxR.or ix_list ix_tup) ha hb hs) fun σ H Q ⟨M, ρ, fo, fv, pt, R, l, e, ⟨o', eo, ho⟩, k⟩ => by
  unfold plI at e
  cases q : pf ρ with
  | none => rw [q] at e; cases e
  | some p0 =>
    rw [q, Option.bind_some] at e
    split at e
    · rename_i os n eo1 en
      cases q2 : ixN os.length n with
      | none => rw [q2] at e; cases e
      | some j =>
        rw [q2, Option.bind_some] at e
        split at e
        · rename_i hkn
          cases e
          refine ⟨M, ρ, fo, fv, p0, R, l, q, ⟨_, eo1, rfl⟩, fun M1 H1 v0 v s1 R1 e0 ev => ?_⟩
          obtain ⟨o, e1, e2⟩ := onSub_some eo1
          obtain ⟨Ma, t1, Ra, back, _⟩ := R1.look2 l e1 e2 rfl e0 ev
          refine ⟨Ma, ρ.map O.vw, [], [], _, Ra, by simpa using l, en, fun M2 H2 y s2 R2 d2 => ?_⟩
          cases d2
          obtain ⟨M3, s3, R3, ev3, _⟩ := back M2 H2 s2 R2.same
          have R3' : Rep X.K M3 H2 (ρ ++ ([] ++ fo)) (σ ++ ([] ++ fv)) := R3
          obtain ⟨w0, w, f, ft, ew, ea, h1, _⟩ := R3'.place l rfl e1 e2 rfl
          rw [e0] at ew; cases ew
          rw [ev3] at ea; cases ea
          cases h1 with
          | @lst ad xs _ fp hA ws =>
            have hj := (ixN_seq q2).2.1
            obtain ⟨v1, hv1⟩ := ows_getV ws hj
            have hl : xs.length = os.length := by simpa using ws.length
            refine .inl ⟨ad, xs, n, v1, rfl, rfl, SqL.of hA, by unfold atI; rw [hl, q2]; exact hv1, k M3 H2 v0 v1 (s1.trans s3) R3 e0 ?_⟩
            rw [atV_snoc, ev3]
            show kidV H2 (.ref ad) j = some v1
            unfold kidV
            simp only [hA]
            exact hv1
        · cases e
    · rename_i os n eo1 en
      cases q2 : ixN os.length n with
      | none => rw [q2] at e; cases e
      | some j =>
        rw [q2, Option.bind_some] at e
        split at e
        · rename_i hkn
          cases e
          refine ⟨M, ρ, fo, fv, p0, R, l, q, ⟨_, eo1, rfl⟩, fun M1 H1 v0 v s1 R1 e0 ev => ?_⟩
          obtain ⟨o, e1, e2⟩ := onSub_some eo1
          obtain ⟨Ma, t1, Ra, back, _⟩ := R1.look2 l e1 e2 rfl e0 ev
          refine ⟨Ma, ρ.map O.vw, [], [], _, Ra, by simpa using l, en, fun M2 H2 y s2 R2 d2 => ?_⟩
          cases d2
          obtain ⟨M3, s3, R3, ev3, _⟩ := back M2 H2 s2 R2.same
          have R3' : Rep X.K M3 H2 (ρ ++ ([] ++ fo)) (σ ++ ([] ++ fv)) := R3
          obtain ⟨w0, w, f, ft, ew, ea, h1, _⟩ := R3'.place l rfl e1 e2 rfl
          rw [e0] at ew; cases ew
          rw [ev3] at ea; cases ea
          cases h1 with
          | @tup ad xs _ _ hA ws =>
            have hj := (ixN_seq q2).2.1
            obtain ⟨v1, hv1⟩ := ows_getV ws hj
            have hl : xs.length = os.length := by simpa using ws.length
            have hH := R3.same _ _ hA
            refine .inr ⟨ad, xs, n, v1, rfl, rfl, SqT.of hH, by unfold atI; rw [hl, q2]; exact hv1, k M3 H2 v0 v1 (s1.trans s3) R3 e0 ?_⟩
            rw [atV_snoc, ev3]
            show kidV H2 (.ref ad) j = some v1
            unfold kidV
            simp only [hH]
            exact hv1
        · cases e
    · cases e
/-- a list in a place is changed -/
theorem Rep.putL {K : PySem.W.Frag} {M H : Hp} {ρ tmp fo : List O} {σ tv fv : List (Option V)} (R : Rep K M H (ρ ++ (tmp ++ fo)) (σ ++ (tv ++ fv))) (l : σ.length = ρ.length) (lt : tv.length = tmp.length) {i : Nat} {o : O} {p : List Nat} {os : List O} {v0 : V} {ad : V} (e : ρ[i]? = some o) (ep : o.sub p = some (.lst os)) (e0 : σ[i]? = some (some v0)) (ev : atV H v0 p = some ad) :
    ∃ a xs f ft, ad = .ref a ∧ H a = some (.lst xs) ∧ Ows K M H os (xs.map some) f ∧ Ows K M H tmp tv ft ∧ a ∉ f ∧ a ∉ ft ∧ M a = none ∧ ∀ ys os' f', Ows K M (upd H a (.lst ys)) os' (ys.map some) f' → (∀ b, f'.count b ≤ f.count b + ft.count b) →
      Rep K M (upd H a (.lst ys)) (ρ.set i (o.put p (.lst os')) ++ fo) (σ ++ fv) := by
  obtain ⟨w0, w, f, ft, ew, ea, h1, h2, nd, nm, up⟩ := R.place l lt e ep rfl
  rw [e0] at ew; cases ew
  rw [ev] at ea; cases ea
  cases h1 with
  | lst hA ws =>
    rename_i a xs fp
    have nd' := nd
    rw [List.nodup_iff_count] at nd'
    have na := nd' a
    simp only [List.count_append, List.count_cons, beq_self_eq_true, if_true] at na
    have n1 : a ∉ fp := fun z => by have := List.count_pos_iff.mpr z; omega
    have n2 : a ∉ ft := fun z => by have := List.count_pos_iff.mpr z; omega
    have mA : M a = none := nm a (by simp)
    have sm : ∀ ys, Same M (upd H a (.lst ys)) := fun ys b u q => by
      rw [upd_ne (fun z => by subst z; rw [mA] at q; cases q)]; exact R.same b u q
    refine ⟨a, xs, fp, ft, rfl, hA, ws, h2, n1, n2, mA, fun ys os' f' w' hc => up M _ _ (a :: f') (Same.refl _) (sm ys) (fun b hb _ => upd_ne fun z => hb (by simp [z])) (.lst upd_same w') (fun b => ?_) fun b hb _ => hb⟩
    have := hc b
    simp only [List.count_cons]; omega
def appP (i : Nat) (pf : Ev → Option (List Nat)) (f : Ev → Option O) (ρ : Ev) : Option Fl := (pf ρ).bind fun p => match onSub i p ρ with
  | some (.lst os) => (vwO f ρ).bind fun y => if os.length < sizeLine then some (.nx (ρ.set i ((ρ.getD i .unk).put p (.lst (os ++ [y]))))) else none
  | _ => none
theorem vwO_some {f : Ev → Option O} {ρ : Ev} {y : O} (h : vwO f ρ = some y) : f (ρ.map O.vw) = some y ∧ immO y = true := by
  unfold vwO at h
  cases q : f (ρ.map O.vw) with
  | none => rw [q] at h; cases h
  | some d =>
    rw [q, Option.bind_some] at h
    split at h
    · cases h; exact ⟨rfl, by assumption⟩
    · cases h
theorem getD_of {ρ : Ev} {o : O} (h : ρ[i]? = some o) : ρ.getD i .unk = o := by rw [List.getD_eq_getElem?_getD, h]; rfl
theorem sAppP (hp : PE X b (tPl X.K i pf)) (he : PE X e (tO X.K f)) (hbase : attributeBase b "append" X.env (eval b X.env) = eval b X.env := by rfl)
    (hfew : ((backTo cpos (starEach [e] X.env)).all (fun x => !x.1) && (backToKw cpos (keywordEach [] X.env)).all (fun x => x.1.isSome)
      && decide ([e].length + ([] : List Keyword).length + (if ([] : List Keyword).isEmpty then 0 else 1) < 30)) = true := by rfl)
    (hline : (apos.endLine == cpos.line) = true := by rfl) (hs : starEach [e] X.env = (false, eval e X.env) :: starEach [] X.env := by rfl) (hplain : (backTo cpos (starEach [] X.env)).any (·.1) = false := by rfl)
    (hsw : swapsWith (.Call (.Attribute b "append" apos) [e] [] cpos) none pos.line X.env = pure false := by rfl) :
    PS X (.Expr (.Call (.Attribute b "append" apos) [e] [] cpos) pos) (tS X.K W J (appP i pf f)) :=
  PS.imp (ps_expr (pe_bm PySem.F.plainAttrs_list PySem.F.slot_list_append PySem.F.type_list_append mt_append hp (pa_cons he pa_nil hs) hbase hfew hline hs hplain) hsw) fun E σ H ⟨M, ρ, fo, fv, r, σ0, R, l, e, k⟩ => by
    unfold appP at e
    cases q : pf ρ with
    | none => rw [q] at e; cases e
    | some p0 =>
      rw [q, Option.bind_some] at e
      split at e
      · rename_i os eo
        cases q2 : vwO f ρ with
        | none => rw [q2] at e; cases e
        | some y =>
          rw [q2, Option.bind_some] at e
          split at e
          · rename_i hlen
            cases e
            obtain ⟨q3, im⟩ := vwO_some q2
            refine ⟨M, ρ, fo, fv, p0, R, l.1, q, ⟨_, eo, rfl⟩, fun M1 H1 v0 v s1 R1 e0 ev => ?_⟩
            obtain ⟨o, e1, e2⟩ := onSub_some eo
            have R1' : Rep X.K M1 H1 (ρ ++ ([] ++ fo)) (σ ++ ([] ++ fv)) := R1
            obtain ⟨a1, xs1, _, _, rfl, hA1, _⟩ := R1'.putL l.1 rfl e1 e2 e0 ev
            obtain ⟨Ma, t1, Ra, _, back⟩ := R1.look2 l.1 e1 e2 rfl e0 ev
            refine ⟨.inl ⟨rfl, _, .inl (.inl hA1)⟩, Ma, ρ.map O.vw, [], [], y, Ra, by simpa using l.1, q3, fun M2 H2 u s2 R2 => ?_⟩
            obtain ⟨M3, s3, R3, ev3⟩ := back M2 H2 _ _ s2 R2 im
            have R3' : Rep X.K M3 H2 (ρ ++ ([y] ++ fo)) (σ ++ ([some u] ++ fv)) := R3
            obtain ⟨a2, xs, f1, ft, ea, hA, ws, wt, n1, n2, mA, up⟩ := R3'.putL l.1 rfl e1 e2 e0 ev3
            cases ea
            have hl : xs.length = os.length := by simpa using ws.length
            refine ⟨a1, xs, u, rfl, rfl, hA, by omega, ?_⟩
            rw [getD_of e1] at k
            refine k M3 _ σ (s1.trans s3) (up (xs ++ [u]) (os ++ [y]) (f1 ++ ft) ?_ fun b => by rw [List.count_append]; exact Nat.le_refl _) (l.setR _)
            have w1 := ws.frame (H' := upd H2 a1 (.lst (xs ++ [u]))) (Same.refl _) fun c hc => upd_ne fun z => n1 (z ▸ hc)
            have w2 := wt.frame (H' := upd H2 a1 (.lst (xs ++ [u]))) (Same.refl _) fun c hc => upd_ne fun z => n2 (z ▸ hc)
            simpa using w1.append w2
          · cases e
      · cases e
/-- o[i] of a list, by values -/
def rGetL : V → V → Hp → VK → Prop := fun o i H Q => ∃ p xs k v, o = .ref p ∧ i = .int k ∧ 0 ≤ k ∧ H p = some (.lst xs) ∧ xs[k.toNat]? = some v ∧ Q v H
theorem get_list : PGet X rGetL := by
  intro pins s σ H o i ov iv Q I ro ri h
  obtain ⟨p, xs, n, v, rfl, rfl, h0, hA, hx, q⟩ := h
  cases ro
  obtain ⟨t, rfl⟩ := ri
  obtain ⟨its, r, pl, hz⟩ := I.list (SqL.of hA)
  obtain ⟨w, ew, rw'⟩ := r.get hx
  have hl := r.length
  have hn := line63
  have hx' := (List.getElem?_eq_some_iff.mp hx).1
  exact wpAny_getItem_list pl.isList h0 (by omega) (by simpa using ew) ⟨v, H, I, rw', q⟩
def setP (i : Nat) (pf : Ev → Option (List Nat)) (fb : Ev → Option D) (f : Ev → Option O) (ρ : Ev) : Option Fl := (f ρ).bind fun y => (pf ρ).bind fun p => match onSub i p ρ, fb (ρ.map O.vw) with
  | some (.lst os), some (.int n) => (ixN os.length n).map fun k => .nx (ρ.set i ((ρ.getD i .unk).put p (.lst (os.set k y))))
  | _, _ => none
theorem Ows.set_ {K : PySem.W.Frag} {M H : Hp} {os : List O} {vs : List (Option V)} {fp fy : List Addr} {k : Nat} {y : O} {v : Option V} (w : Ows K M H os vs fp) (hk : k < os.length) (h : Ow K M H y v fy) : ∃ f', Ows K M H (os.set k y) (vs.set k v) f' ∧ ∀ b, f'.count b ≤ fp.count b + fy.count b := by
  induction os generalizing k vs fp with
  | nil => simp at hk
  | cons o1 os ih =>
    cases w with
    | cons h1 hs =>
      rename_i v1 f1 vs f2
      cases k with
      | zero => exact ⟨fy ++ f2, .cons h hs, fun b => by simp only [List.count_append]; omega⟩
      | succ k =>
        obtain ⟨f', w', c'⟩ := ih hs (by simpa using hk)
        exact ⟨f1 ++ f', .cons h1 w', fun b => by have := c' b; simp only [List.count_append]; omega⟩
theorem sSetP (he : PE X e (tO X.K f)) (hp : PE X a (tPl X.K i pf)) (hb : PE X b (tP X.K fb)) (hs : swapsWithSole [.Subscript a b p] e pos.line X.env = pure false := by rfl) (hw : swappedStores [.Subscript a b p] e X.env = pure none := by rfl)
    (h1 : (assignEach [.Subscript a b p] X.env).map (·.2) = [assign (.Subscript a b p) X.env] := by rfl)
    (ha : ∀ v, assign (.Subscript a b p) X.env v = (do
      let ov ← holding [v] (eval a X.env)
      let iv ← holding [v, ov] (eval b X.env)
      standAt p
      holding [v, ov, iv] (setItem ov iv v); release [v, ov, iv] []) := by intro _; rfl) : PS X (.Assign [.Subscript a b p] e pos) (tS X.K W J (setP i pf fb f)) :=
  PS.imp (ps_asg he (pg_sub hp hb set_list ha) hs hw h1) fun E σ H ⟨M, ρ, fo, fv, r, σ0, R, l, e, k⟩ => by
    unfold setP at e
    cases q0 : f ρ with
    | none => rw [q0] at e; cases e
    | some y =>
      rw [q0, Option.bind_some] at e
      cases q : pf ρ with
      | none => rw [q] at e; cases e
      | some p0 =>
        rw [q, Option.bind_some] at e
        split at e
        · rename_i os n eo en
          cases q2 : ixN os.length n with
          | none => rw [q2] at e; cases e
          | some j =>
            rw [q2] at e
            cases e
            refine ⟨M, ρ, fo, fv, y, R, l.1, q0, fun M0 H0 u s0 R0 => ?_⟩
            refine ⟨M0, ρ, y :: fo, some u :: fv, p0, R0, l.1, q, ⟨_, eo, rfl⟩, fun M1 H1 v0 v s1 R1 e0 ev => ?_⟩
            obtain ⟨o, e1, e2⟩ := onSub_some eo
            obtain ⟨Ma, t1, Ra, back, _⟩ := R1.look2 l.1 e1 e2 rfl e0 ev
            refine ⟨Ma, ρ.map O.vw, [], [], _, Ra, by simpa using l.1, en, fun M2 H2 z s2 R2 d2 => ?_⟩
            cases d2
            obtain ⟨M3, s3, R3, ev3, _⟩ := back M2 H2 s2 R2.same
            have R3' : Rep X.K M3 H2 (ρ ++ ([y] ++ fo)) (σ ++ ([some u] ++ fv)) := R3
            obtain ⟨a2, xs, f1, ft, ea, hA, ws, wt, n1, n2, mA, up⟩ := R3'.putL l.1 rfl e1 e2 e0 ev3
            have hl : xs.length = os.length := by simpa using ws.length
            refine ⟨a2, xs, n, j, ea, rfl, hA, by rw [hl]; exact q2, ?_⟩
            have w1 := ws.frame (H' := upd H2 a2 (.lst (xs.set j u))) (Same.refl _) fun c hc => upd_ne fun z => n1 (z ▸ hc)
            have w2 := wt.frame (H' := upd H2 a2 (.lst (xs.set j u))) (Same.refl _) fun c hc => upd_ne fun z => n2 (z ▸ hc)
            cases w2 with
            | cons wy wn =>
              cases wn
              rename_i fy
              obtain ⟨f', w', c'⟩ := w1.set_ (ixN_seq q2).2.1 wy
              rw [getD_of e1] at k
              refine k M3 _ σ (s0.trans (s1.trans s3)) (up (xs.set j u) (os.set j y) f' ?_ fun b => by have := c' b; simpa using this) (l.setR _)
              rw [List.map_set]; exact w'
        · cases e
def augP (i : Nat) (pf : Ev → Option (List Nat)) (fb : Ev → Option D) (g : Ev → Option D) (h : Int → Int → Int) (ρ : Ev) : Option Fl := (pf ρ).bind fun p => match onSub i p ρ, fb (ρ.map O.vw), g (ρ.map O.vw) with
  | some (.lst os), some (.int n), some (.int c) => if 0 ≤ n then match os[n.toNat]? with
    | some (.dat (.int d)) => some (.nx (ρ.set i ((ρ.getD i .unk).put p (.lst (os.set n.toNat (.dat (.int (h d c))))))))
    | _ => none else none
  | _, _, _ => none
theorem sAugP {op : Operator} {h : Int → Int → Int} (ho : PIp X op (ipI h)) (hp : PE X a (tPl X.K i pf)) (hb : PE X b (tP X.K fb)) (he : PE X e (tP X.K g))
    (ha : ∀ ov iv new, augStore b ov iv new = (do holding [new, ov, iv] (setItem ov iv new); release [new, ov, iv] []; pure .next) := by intros; rfl) : PS X (.AugAssign (.Subscript a b p) op e pos) (tS X.K W J (augP i pf fb g h)) :=
  PS.imp (ps_augS hp hb get_list he ho set_list ha) fun E σ H ⟨M, ρ, fo, fv, r, σ0, R, l, e, k⟩ => by
    unfold augP at e
    cases q : pf ρ with
    | none => rw [q] at e; cases e
    | some p0 =>
      rw [q, Option.bind_some] at e
      split at e
      · rename_i os n c eo en ec
        split at e
        · rename_i h0
          split at e
          · rename_i d ed
            cases e
            refine ⟨M, ρ, fo, fv, p0, R, l.1, q, ⟨_, eo, rfl⟩, fun M1 H1 v0 v s1 R1 e0 ev => ?_⟩
            obtain ⟨o, e1, e2⟩ := onSub_some eo
            obtain ⟨Ma, t1, Ra, back, _⟩ := R1.look2 l.1 e1 e2 rfl e0 ev
            refine ⟨Ma, ρ.map O.vw, [], [], _, Ra, by simpa using l.1, en, fun M2 H2 z s2 R2 d2 => ?_⟩
            cases d2
            obtain ⟨M3, s3, R3, ev3, _⟩ := back M2 H2 s2 R2.same
            have R3' : Rep X.K M3 H2 (ρ ++ ([] ++ fo)) (σ ++ ([] ++ fv)) := R3
            obtain ⟨a2, xs, f1, ft, ea, hA, ws, wt, n1, n2, mA, up⟩ := R3'.putL l.1 rfl e1 e2 e0 ev3
            subst ea
            have hj : n.toNat < os.length := (List.getElem?_eq_some_iff.mp ed).1
            obtain ⟨w0, _, _, _, ew0, _, hw0, _⟩ := ws.at_ ed
            cases hw0 with
            | dat dv =>
              rename_i x0
              cases dv
              have hx : xs[n.toNat]? = some (.int d) := by
                rw [List.getElem?_map] at ew0
                cases q5 : xs[n.toNat]? with
                | none => rw [q5] at ew0; cases ew0
                | some z => rw [q5] at ew0; cases ew0; rfl
              refine ⟨a2, xs, n, .int d, rfl, rfl, h0, hA, hx, ?_⟩
              obtain ⟨Mb, t2, Rb, back2, _⟩ := R3.look2 l.1 e1 e2 rfl e0 ev3
              refine ⟨Mb, ρ.map O.vw, [], [], _, Rb, by simpa using l.1, ec, fun M4 H4 z s4 R4 d4 => ?_⟩
              cases d4
              obtain ⟨M5, s5, R5, ev5, _⟩ := back2 M4 H4 s4 R4.same
              have R5' : Rep X.K M5 H4 (ρ ++ ([] ++ fo)) (σ ++ ([] ++ fv)) := R5
              obtain ⟨a3, xs3, f3, ft3, ea3, hA3, ws3, wt3, m1, m2, mA3, up3⟩ := R5'.putL l.1 rfl e1 e2 e0 ev5
              cases ea3
              have hl3 : xs3.length = os.length := by simpa using ws3.length
              refine ⟨d, c, rfl, rfl, a2, xs3, n, n.toNat, rfl, rfl, hA3, ?_, ?_⟩
              · unfold ixN
                rw [if_pos h0, if_pos (by omega)]
              · have w1 := ws3.frame (H' := upd H4 a2 (.lst (xs3.set n.toNat (.int (h d c))))) (Same.refl _) fun b hb => upd_ne fun z => m1 (z ▸ hb)
                obtain ⟨f', w', c'⟩ := w1.set_ hj (Ow.dat (d := .int (h d c)) (v := .int (h d c)) (.int _))
                rw [getD_of e1] at k
                refine k M5 _ σ (s1.trans (s3.trans s5)) (up3 (xs3.set n.toNat (.int (h d c))) (os.set n.toNat (.dat (.int (h d c)))) f' ?_ fun b => by have := c' b; simp only [List.count_nil] at this; omega) (l.setR _)
                rw [List.map_set]; exact w'
          · cases e
        · cases e
      · cases e
end
end PD

namespace PD
open PySem PySem.Spec L2

/-! ### numbers -/
section
variable {X : Cx} {W : WX} {J : List Nat} {pos p : Pos} {a b e : Expr}
def mulW : D → D → Option D := i2 (fun i j => decide (i.natAbs.log2 + j.natAbs.log2 < 1000000)) fun i j => .int (i * j)
def divW : D → D → Option D := i2 (fun _ j => decide (0 < j ∧ j.natAbs.log2 < 9000)) fun i j => .int (i / j)
def mulA : D → D → Option D := orD mulI mulW
def divA : D → D → Option D := orD divI divW
theorem oMulW : OpR X (binaryOp .Mult) (rD X.K mulW) := op_i2 op_mulW (fun i j h => by simpa [CMulW] using h) fun _ _ _ => .int _
theorem oDivW : OpR X (binaryOp .FloorDiv) (rD X.K divW) := op_i2 op_fdivW (fun i j h => by simpa [CDivW] using h) fun _ _ _ => .int _
theorem oMulA : OpR X (binaryOp .Mult) (rD X.K mulA) := op_orD oMul oMulW
theorem oDivA : OpR X (binaryOp .FloorDiv) (rD X.K divA) := op_orD oDiv oDivW
def shlI : D → D → Option D := i2 (fun i j => decide (0 ≤ j ∧ j ≤ 1000000 ∧ i.natAbs < 2 ^ 64)) fun i j => .int (i * 2 ^ j.toNat)
def shrI : D → D → Option D := i2 (fun _ j => decide (0 ≤ j)) fun i j => .int (i / 2 ^ j.toNat)
def andI1 : D → D → Option D := i2 (fun _ j => decide (j = 1)) fun i _ => .int (i % 2)
theorem oShl : OpR X (binaryOp .LShift) (rD X.K shlI) := op_i2 op_shl (fun i j h => by simpa [CPow] using h) fun _ _ _ => .int _
theorem oShr : OpR X (binaryOp .RShift) (rD X.K shrI) := op_i2 op_shr (fun i j h => of_decide_eq_true h) fun _ _ _ => .int _
theorem oAnd1 : OpR X (binaryOp .BitAnd) (rD X.K andI1) := OpR.imp op_andM fun x y H Q ⟨M, fo, fv, dx, dy, d, R, d1, d2, e, k⟩ => by
  obtain ⟨i, j, rfl, rfl, hc, rfl⟩ := i2_some e
  have := of_decide_eq_true hc
  subst this
  cases d1; cases d2
  exact ⟨i, 1, rfl, rfl, k M H _ (Same.refl _) R (.int _)⟩
/-! x op= e -/
theorem jAdd : OpR X (inplaceOp .Add) (rD X.K addI) := op_i20 iop_add fun _ _ _ => .int _
theorem jSub : OpR X (inplaceOp .Sub) (rD X.K subI) := op_i20 iop_sub fun _ _ _ => .int _
theorem jMul : OpR X (inplaceOp .Mult) (rD X.K mulI) := op_i2 iop_mul (fun i j h => by simpa [okMul, CMul] using h) fun _ _ _ => .int _
def augV (i : Nat) (f : Ev → Option D) (g : D → D → Option D) (ρ : Ev) : Option Fl := (gv i ρ).bind fun x => (f ρ).bind fun y => (g x y).map fun d => .nx (ρ.set i (.dat d))
theorem sAug {i : Nat} {x : Str} {op : Operator} {f : Ev → Option D} {g : D → D → Option D} {pos' : Pos} (hN : X.N.Nodup) (ho : OpR X (inplaceOp op) (rD X.K g)) (he : PE X e (tP X.K f)) (hJ : i ∉ J := by decide) (hi : X.N[i]? = some x := by rfl) (hx : Loc X.env.scope x := by first | exact Or.inl rfl | exact Or.inr rfl)
    (hf : X.fn x = true ∨ X.env.scope.names.lookup x = some .local := by first | exact .inl rfl | exact .inr rfl) : PS X (.AugAssign (.Name x pos') op e pos) (tS X.K W J (augV i f g)) := PS.imp (ps_aug (i := i) (ti := rD X.K g) hN hi hx he ho hf) fun E σ H ⟨M, ρ, fo, fv, r, σ0, R, l, e, k⟩ => by
  unfold augV at e
  cases q : gv i ρ with
  | none => rw [q] at e; cases e
  | some d1 =>
    rw [q, Option.bind_some] at e
    cases q2 : f ρ with
    | none => rw [q2] at e; cases e
    | some d2 =>
      rw [q2, Option.bind_some] at e
      cases q3 : g d1 d2 with
      | none => rw [q3] at e; cases e
      | some d3 =>
        rw [q3] at e
        cases e
        have eo : ρ[i]? = some (.dat d1) := by
          unfold gv at q
          split at q
          · cases q; assumption
          · cases q
        obtain ⟨v, ev, dv⟩ := R.slot l.1 eo
        refine ⟨v, ev, M, ρ, fo, fv, d2, R, l.1, q2, fun M1 H1 u s1 R1 du => ⟨M1, ρ ++ fo, σ ++ fv, d1, d2, d3, R1, dv.mono s1, du, q3, fun M2 H2 z s2 R2 dz => ?_⟩⟩
        exact k M2 H2 _ (s1.trans s2) (R2.setD l.1 dz) (l.set hJ _ _)
/-! sums, least and greatest of a list of ints -/
def intsD : List D → Option (List Int)
  | [] => some []
  | .int i :: ds => (intsD ds).map (i :: ·)
  | _ => none
theorem intsD_vs {K : PySem.W.Frag} {M : Hp} : ∀ {ds : List D} {ns : List Int} {vs : List V}, intsD ds = some ns → Dvs K M vs ds → vs = ns.map V.int
  | [], ns, _, e, .nil => by cases e; rfl
  | d :: ds, ns, _, e, .cons h hs => by
    cases d with
    | int i =>
      unfold intsD at e
      cases q : intsD ds with
      | none => rw [q] at e; cases e
      | some ms =>
        rw [q] at e; cases e
        cases h
        rw [intsD_vs q hs]; rfl
    | _ => cases e
theorem intsD_map : ∀ ns : List Int, intsD (ns.map .int) = some ns
  | [] => rfl
  | n :: ns => by unfold intsD; simp only [List.map_cons, intsD_map ns]; rfl
def sumD : List D → Option D
  | [.lst ds] => (intsD ds).map fun ns => .int ns.sum
  | _ => none
def minLD : List D → Option D
  | [.lst ds] => (intsD ds).bind fun ns => ns.min?.map .int
  | _ => none
def maxLD : List D → Option D
  | [.lst ds] => (intsD ds).bind fun ns => ns.max?.map .int
  | _ => none
theorem cSum (hc : X.calm = true) : CallR X (.builtin "sum") (rDs X.K sumD) := CallR.imp (cr_sum hc) fun xs H Q ⟨M, fo, fv, ds, d, R, dv, e, k⟩ => by
  unfold sumD at e
  split at e
  · rename_i es
    cases q : intsD es with
    | none => rw [q] at e; cases e
    | some ns =>
      rw [q] at e; cases e
      cases dv with
      | cons d1 dn =>
        cases dn
        cases d1 with
        | lst hs hd =>
          have := intsD_vs q hd
          subst this
          exact ⟨_, ns, rfl, seqX R.same hs, k M H _ (Same.refl _) R (.int _)⟩
  · cases e
theorem cMinL (hc : X.calm = true) : CallR X (.builtin "min") (rDs X.K minLD) := CallR.imp (cr_min hc) fun xs H Q ⟨M, fo, fv, ds, d, R, dv, e, k⟩ => by
  unfold minLD at e
  split at e
  · rename_i es
    cases q : intsD es with
    | none => rw [q] at e; cases e
    | some ns =>
      rw [q, Option.bind_some] at e
      cases q2 : ns.min? with
      | none => rw [q2] at e; cases e
      | some m =>
        rw [q2] at e; cases e
        cases dv with
        | cons d1 dn =>
          cases dn
          cases d1 with
          | lst hs hd =>
            have := intsD_vs q hd
            subst this
            obtain ⟨h1, h2⟩ := List.min?_eq_some_iff.mp q2
            refine ⟨_, ns, rfl, seqX R.same hs, List.length_pos_of_mem h1, fun m' a1 a2 => ?_⟩
            have : m' = m := Int.le_antisymm (a2 m h1) (h2 m' a1)
            subst this
            exact k M H _ (Same.refl _) R (.int _)
  · cases e
theorem cMaxL (hc : X.calm = true) : CallR X (.builtin "max") (rDs X.K maxLD) := CallR.imp (cr_max hc) fun xs H Q ⟨M, fo, fv, ds, d, R, dv, e, k⟩ => by
  unfold maxLD at e
  split at e
  · rename_i es
    cases q : intsD es with
    | none => rw [q] at e; cases e
    | some ns =>
      rw [q, Option.bind_some] at e
      cases q2 : ns.max? with
      | none => rw [q2] at e; cases e
      | some m =>
        rw [q2] at e; cases e
        cases dv with
        | cons d1 dn =>
          cases dn
          cases d1 with
          | lst hs hd =>
            have := intsD_vs q hd
            subst this
            obtain ⟨h1, h2⟩ := List.max?_eq_some_iff.mp q2
            refine ⟨_, ns, rfl, seqX R.same hs, List.length_pos_of_mem h1, fun m' a1 a2 => ?_⟩
            have : m' = m := Int.le_antisymm (h2 m' a1) (a2 m h1)
            subst this
            exact k M H _ (Same.refl _) R (.int _)
  · cases e
def absD : List D → Option D
  | [.int i] => some (.int (if i < 0 then -i else i))
  | _ => none
theorem cAbs : CallR X (.builtin "abs") (rDs X.K absD) := CallR.imp call_abs fun xs H Q ⟨M, fo, fv, ds, d, R, dv, e, k⟩ => by
  unfold absD at e
  split at e
  · cases e
    cases dv with
    | cons d1 dn => cases dn; cases d1; exact ⟨_, rfl, k M H _ (Same.refl _) R (.int _)⟩
  · cases e
theorem ows_undat {K : PySem.W.Frag} {M H : Hp} : ∀ {ds : List D} {xs : List V} {f : List Addr}, Ows K M H (ds.map .dat) (xs.map some) f → Dvs K M xs ds
  | [], [], _, _ => .nil
  | d :: ds, x :: xs, _, .cons h hs => by
    cases h with
    | dat dv => exact .cons dv (ows_undat hs)
  | [], _ :: _, _, h => by cases h
  | _ :: _, [], _, h => by cases h
/-- [..] * n -/
def repO (ga : Ev → Option (List D)) (fb : Ev → Option D) (ρ : Ev) : Option O := (ga ρ).bind fun ds => (fb ρ).bind fun y => match y with
  | .int n => if ds.length ≤ sizeLine ∧ (-(2 ^ 63) ≤ n ∧ n < 2 ^ 63) ∧ ds.length * n.toNat ≤ sizeLine then some (.lst (((List.replicate n.toNat ds).flatten).map .dat)) else none
  | _ => none
theorem dvs_rep {K : PySem.W.Frag} {M : Hp} {vs : List V} {ds : List D} (h : Dvs K M vs ds) : ∀ n : Nat, Dvs K M (List.replicate n vs).flatten (List.replicate n ds).flatten
  | 0 => .nil
  | n + 1 => by
    simp only [List.replicate_succ, List.flatten_cons]
    exact h.append (dvs_rep h n)
theorem oRep {es : List Expr} {lp : Pos} {ga : Ev → Option (List D)} {fb : Ev → Option D} (ha : PA X es (tAr X.K ga)) (hb : PE X b (tP X.K fb)) : PE X (.BinOp (.List es lp) .Mult b pos) (tO X.K (repO ga fb)) := PE.imp (pe_op op_rep (pe_lst ha) hb) fun σ H Q ⟨M, ρ, fo, fv, o, R, l, e, k⟩ => by
  unfold repO at e
  cases q : ga ρ with
  | none => rw [q] at e; cases e
  | some ds =>
    rw [q, Option.bind_some] at e
    cases q2 : fb ρ with
    | none => rw [q2] at e; cases e
    | some y =>
      rw [q2, Option.bind_some] at e
      split at e
      · rename_i n
        split at e
        · rename_i hc
          cases e
          obtain ⟨h1, ⟨h2, h3⟩, h4⟩ := hc
          refine ⟨M, ρ, fo, fv, ds, R, l, q, fun M1 H1 vs s1 R1 d1 => ⟨by rw [d1.length]; exact h1, fun pn hpn => ?_⟩⟩
          have R2 := R1.newL l hpn d1
          refine ⟨M1, ρ, _, _, .int n, R2, l, q2, fun M2 H2 v s2 R3 d3 => ?_⟩
          cases d3
          obtain ⟨fa, f, fb', w1, w2, w3, _, _⟩ := R3.mid l
          cases w2 with
          | @lst _ xs _ fp hA ws =>
            refine ⟨pn, n, xs, rfl, rfl, hA, h2, h3, ?_, fun p2 hp2 => ?_⟩
            · have : xs.length = ds.length := by simpa using ws.length
              rw [this]; exact h4
            · have dx : Dvs X.K M2 xs ds := ows_undat ws
              exact k M2 _ _ (s1.trans s2) ((R3.drop l).newL l hp2 (dvs_rep dx _))
        · cases e
      · cases e
/-- a, b = [x, y] -/
def gL (n : Nat) (h : List D → Ev → Option Ev) (d : D) (ρ : Ev) : Option Ev := match d with
  | .lst ds => if ds.length = n then h ds ρ else none
  | _ => none
theorem gLst' {es : List Expr} {k n : Nat} {is : List Nat} {h : List D → Ev → Option Ev} (hc : X.calm = true) (h1 : PGs X es (tGs X.K is h)) (hn : (assignEach es X.env).length = n := by rfl) (hst : (assignEach es X.env).findIdx? (·.1) = none := by rfl) : PG X (.Tuple es k pos) (tG X.K is (gL n h)) :=
  PG.imp (pg_lst hc h1 hn hst) fun v σ H Q ⟨M, ρ, fo, fv, d, ρ', R, l, dv, e, k⟩ => by
    unfold gL at e
    split at e
    · rename_i ds
      split at e
      · rename_i hl
        cases dv with
        | lst hs hd => exact ⟨_, _, rfl, seqX R.same hs, by rw [hd.length]; exact hl, M, ρ, fo, fv, ds, ρ', R, l, hd, e, k⟩
      · cases e
    · cases e
theorem gL_ok {is : List Nat} {n : Nat} {h : List D → Ev → Option Ev} (h1 : TgsOk is h) : TgOk is (gL n h) := by
  constructor
  · intro d ρ ρ' e
    unfold gL at e
    split at e
    · split at e
      · exact h1.len _ _ _ e
      · cases e
    · cases e
  · intro d ρ ρ' e
    unfold gL at e
    split at e
    · split at e
      · exact h1.out _ _ _ e
      · cases e
    · cases e
end
end PD

namespace PD
open PySem PySem.Spec L2

/-! ### comprehensions whose items are things of their own -/
section
variable {K : PySem.W.Frag} {M H : Hp}
/-- a thing on top goes to the end of the list below it -/
theorem Rep.appO {l r : List O} {lv rv : List (Option V)} {y : O} {u : V} {acc : List O} {a : Addr} (R : Rep K M H (l ++ y :: .lst acc :: r) (lv ++ some u :: some (.ref a) :: rv)) (e : lv.length = l.length) :
    ∃ xs, H a = some (.lst xs) ∧ xs.length = acc.length ∧ Rep K M (upd H a (.lst (xs ++ [u]))) (l ++ .lst (acc ++ [y]) :: r) (lv ++ some (.ref a) :: rv) := by
  obtain ⟨s, fp, w, nd, nm⟩ := R
  obtain ⟨fa, fb, e1, w1, w2⟩ := w.split e
  cases w2 with
  | cons wy w3 =>
    rename_i fy f2
    cases w3 with
    | cons wl wr =>
      rename_i fl fr
      cases wl with
      | @lst _ xs _ fx hA ws =>
        subst e1
        have hl : xs.length = acc.length := by simpa using ws.length
        have nd' := nd
        rw [List.nodup_iff_count] at nd'
        have na := nd' a
        simp only [List.count_append, List.count_cons, beq_self_eq_true, if_true, List.cons_append] at na
        have ne : ∀ c, c ∈ fa ∨ c ∈ fy ∨ c ∈ fx ∨ c ∈ fr → c ≠ a := fun c hc z => by
          subst z
          rcases hc with hc | hc | hc | hc <;> (have := List.count_pos_iff.mpr hc; omega)
        have mA : M a = none := nm a (by simp)
        refine ⟨xs, hA, hl, fun b q hb => ?_, fa ++ ((a :: (fx ++ fy)) ++ fr), ?_, ?_, fun c hc => nm c ?_⟩
        · rw [upd_ne (fun z => by subst z; rw [mA] at hb; cases hb)]; exact s b q hb
        · have k1 := w1.frame (H' := upd H a (.lst (xs ++ [u]))) (Same.refl _) fun c hc => upd_ne (ne c (.inl hc))
          have k2 := wy.frame (H' := upd H a (.lst (xs ++ [u]))) (Same.refl _) fun c hc => upd_ne (ne c (.inr (.inl hc)))
          have k3 := ws.frame (H' := upd H a (.lst (xs ++ [u]))) (Same.refl _) fun c hc => upd_ne (ne c (.inr (.inr (.inl hc))))
          have k4 := wr.frame (H' := upd H a (.lst (xs ++ [u]))) (Same.refl _) fun c hc => upd_ne (ne c (.inr (.inr (.inr hc))))
          refine k1.append (.cons (.lst upd_same ?_) k4)
          have := k3.append (Ows.cons k2 .nil)
          simpa using this
        · rw [List.nodup_iff_count]
          intro c
          have := nd' c
          simp only [List.count_append, List.count_cons, List.cons_append] at this ⊢
          omega
        · simp only [List.mem_append, List.mem_cons] at hc ⊢
          rcases hc with hc | (hc | hc | hc) | hc <;> simp [hc]
end
def compO (g : D → Ev → Option Ev) (t : Ev → Option Bool) (f : Ev → Option O) (ρ : Ev) : List D → Option (List O)
  | [] => some []
  | d :: ds => (g d ρ).bind fun ρ1 => (t ρ1).bind fun b => if b = true then (f ρ1).bind fun y => (compO g t f ρ ds).map (y :: ·) else compO g t f ρ ds
def lcOO (fi : Ev → Option (List D)) (g : D → Ev → Option Ev) (t : Ev → Option Bool) (f : Ev → Option O) (vs : List Nat) (ρ : Ev) : Option O := if okW ρ vs = true then
  (fi ρ).bind fun ds => (compO g t f (wipeO ρ vs) ds).bind fun ys => if ys.length ≤ sizeLine then some (.lst ys) else none else none
section
variable {X : Cx} {W : WX} {J : List Nat} {pos : Pos} {tg iter elt : Expr} {ifs : List Expr} {scope : Scope} {fi : Ev → Option (List D)} {is kn : List Nat} {g : D → Ev → Option Ev} {t : Ev → Option Bool} {f : Ev → Option O}
theorem lc_ofO {K : PySem.W.Frag} {vs : List Nat} {σ : L2.St} {H : Hp} {Q : VK} (ok : TgOk is g) (hv : ∀ i ∈ is, i ∈ vs) (hkn : ∀ ρ ds, fi ρ = some ds → ∀ k ∈ kn, k < ρ.length) (hkv : ∀ k ∈ kn, k ∉ vs) (h : tO K (lcOO fi g t f vs) σ H Q) : tLc (tI K kn fi) (tG K is g) (tT K t) (tO K f) vs σ H Q := by
  obtain ⟨M, ρ, fo, fv, o, R, l, e, k⟩ := h
  unfold lcOO at e
  by_cases hw : okW ρ vs = true
  · rw [if_pos hw] at e
    cases q : fi ρ with
    | none => rw [q] at e; cases e
    | some ds =>
      rw [q, Option.bind_some] at e
      cases q2 : compO g t f (wipeO ρ vs) ds with
      | none => rw [q2] at e; cases e
      | some ys =>
        rw [q2, Option.bind_some] at e
        by_cases hz : ys.length ≤ sizeLine
        · rw [if_pos hz] at e
          cases e
          refine ⟨M, ρ, fo, fv, ds, R, l, q, fun M0 H0 Ji s0 R0 y DD hD => ?_⟩
          have lw : (L2.wipe σ vs).length = (wipeO ρ vs).length := by rw [wipe_length, wipeO_length]; exact l
          let Inv (i : Nat) (H : Hp) : Prop := ∃ M1 acc rest, Same M0 M1 ∧ Rep K M1 H (wipeO ρ vs ++ .lst acc :: fo) (L2.wipe σ vs ++ some (.ref DD) :: fv) ∧ compO g t f (wipeO ρ vs) (ds.drop i) = some rest ∧ ys = acc ++ rest
          refine ⟨fun i m H => m = ds.length - i ∧ i ≤ ds.length ∧ Inv i H, ⟨ds.length, by omega, Nat.zero_le _, M0, [], ys, Same.refl _, (R0.newL l hD .nil).wipe l vs, by simpa using q2, rfl⟩, ?_⟩
          rintro i m H ⟨rfl, hi, M1, acc, rest, s1, R1, e1, ey⟩
          obtain ⟨go, stop, yl⟩ := y i M1 H _ _ s1 R1 (fun r hr => by
            obtain ⟨k, hk, rfl⟩ := List.mem_map.mp hr
            have h1 := hkn ρ ds q k hk
            have h2 := hkv k hk
            refine List.mem_of_getElem? (i := k) ?_
            have a1 : (wipeO ρ vs)[k]? = some (ρ.getD k .unk) := by rw [wipeO_out h2, List.getElem?_eq_getElem h1, List.getD_eq_getElem?_getD, List.getElem?_eq_getElem h1]; rfl
            have a2 : (L2.wipe σ vs)[k]? = some (σ.getD k none) := by rw [wipe_out h2, List.getElem?_eq_getElem (by omega), List.getD_eq_getElem?_getD, List.getElem?_eq_getElem (by omega)]; rfl
            rw [List.getElem?_zip_eq_some]
            exact ⟨by rw [List.getElem?_append_left (by rw [wipeO_length]; exact h1)]; exact a1, by rw [List.getElem?_append_left (by rw [wipe_length]; omega)]; exact a2⟩)
          by_cases hlt : i < ds.length
          · have ed : ds.drop i = ds[i] :: ds.drop (i + 1) := List.drop_eq_getElem_cons hlt
            rw [ed] at e1
            unfold compO at e1
            cases q3 : g ds[i] (wipeO ρ vs) with
            | none => rw [q3] at e1; cases e1
            | some ρ2 =>
              rw [q3, Option.bind_some] at e1
              cases q4 : t ρ2 with
              | none => rw [q4] at e1; cases e1
              | some b =>
                rw [q4, Option.bind_some] at e1
                refine .inr ⟨go hlt, Inv (i + 1), fun H' h => ⟨ds.length - (i + 1), by omega, rfl, hlt, h⟩, fun x H' hy => ?_⟩
                obtain ⟨M2, s2, R2, d2⟩ := yl ds[i] (List.getElem?_eq_getElem hlt) x H' hy
                refine ⟨M2, wipeO ρ vs, .lst acc :: fo, some (.ref DD) :: fv, ds[i], ρ2, R2, lw, d2, q3, fun σ3 a3 l3 r3 R3 => ?_⟩
                have ew : L2.wipe σ3 vs = L2.wipe σ vs := by
                  refine wipe_ext (by rw [l3, wipe_length]) fun j hj => ?_
                  rw [a3 j fun z => hj (hv j z), wipe_out hj]
                have er : wipeO ρ2 vs = wipeO ρ vs := by
                  refine wipeO_ext (by rw [r3, wipeO_length]) fun j hj => ?_
                  rw [ok.out _ _ _ q3 j fun z => hj (hv j z), wipeO_out hj]
                have l23 : σ3.length = ρ2.length := by omega
                refine ⟨ew, M2, ρ2, .lst acc :: fo, some (.ref DD) :: fv, b, R3, l23, q4, fun M4 H4 s4 R4 => ?_⟩
                cases b with
                | false =>
                  refine iteF ⟨M4, acc, rest, s1.trans (s2.trans s4), ?_, e1, ey⟩
                  have := R4.wipe l23 vs
                  rw [ew, er] at this
                  exact this
                | true =>
                  rw [if_pos rfl] at e1
                  cases q5 : f ρ2 with
                  | none => rw [q5] at e1; cases e1
                  | some z =>
                    rw [q5, Option.bind_some] at e1
                    cases q6 : compO g t f (wipeO ρ vs) (ds.drop (i + 1)) with
                    | none => rw [q6] at e1; cases e1
                    | some rest2 =>
                      rw [q6] at e1
                      cases e1
                      refine iteT ⟨M4, ρ2, .lst acc :: fo, some (.ref DD) :: fv, z, R4, l23, q5, fun M5 H5 v5 s5 R5 => ?_⟩
                      obtain ⟨xs, ha, hl, R6⟩ := R5.appO l23
                      refine ⟨xs, ha, by rw [hl]; rw [ey] at hz; simp at hz; omega, M5, acc ++ [z], rest2, s1.trans (s2.trans (s4.trans s5)), ?_, q6, by rw [ey]; simp⟩
                      have R7 := R6.wipe l23 vs
                      rw [ew, er] at R7
                      exact R7
          · have ei : i = ds.length := by omega
            rw [ei, List.drop_length] at e1
            cases e1
            rw [List.append_nil] at ey
            subst ey
            exact .inl ⟨stop ei, k M1 H _ (s0.trans s1) (R0.unwipe l hw s1 R1)⟩
        · rw [if_neg hz] at e; cases e
  · rw [if_neg hw] at e; cases e
variable {own : List (Str × Nat)}
theorem oLcO (own : List (Str × Nat)) (hc : X.calm = true) (hN : X.N.Nodup) (hi : PI X tg iter (tI X.K kn fi)) (bo : BlkOk X.N X.env.scope scope own)
    (hg : ∀ (s : Shared) (H : Hp) (C : Addr) (cl : List (Str × Addr)) (fp : List Addr), PG (X.blk s H scope (compEnvC scope cl C X.env) fp) tg (tG X.K is g)) (ht : ∀ (s : Shared) (H : Hp) (C : Addr) (cl : List (Str × Addr)) (fp : List Addr), PTs (X.blk s H scope (compEnvC scope cl C X.env) fp) ifs (tT X.K t))
    (he : ∀ (s : Shared) (H : Hp) (C : Addr) (cl : List (Str × Addr)) (fp : List Addr), PE (X.blk s H scope (compEnvC scope cl C X.env) fp) elt (tO X.K f)) (ok : TgOk is g) (hv : ∀ i ∈ is, i ∈ own.map (·.2) := by decide) (hkn : ∀ ρ ds, fi ρ = some ds → ∀ k ∈ kn, k < ρ.length := by intro _ _ _ _ hk; cases hk) (hkv : ∀ k ∈ kn, k ∉ own.map (·.2) := by decide) (hs : ∀ x, foldedSetIterable iter X.env x = pure x := by intro _; rfl) :
    PE X (.ListComp elt [⟨tg, iter, ifs, 0⟩] scope pos) (tO X.K (lcOO fi g t f (own.map (·.2)))) := PE.imp (pe_lc hc hN hi bo hg ht he hs) fun _ _ _ h => lc_ofO ok hv hkn hkv h
/-- y = [..] on one line -/
theorem sLcO {i : Nat} {y : Str} {py spos : Pos} (own : List (Str × Nat)) (hc : X.calm = true) (hN : X.N.Nodup) (hi : PI X tg iter (tI X.K kn fi)) (bo : BlkOk X.N X.env.scope scope own)
    (hg : ∀ (s : Shared) (H : Hp) (C : Addr) (cl : List (Str × Addr)) (fp : List Addr), PG (X.blk s H scope (compEnvC scope cl C X.env) fp) tg (tG X.K is g)) (ht : ∀ (s : Shared) (H : Hp) (C : Addr) (cl : List (Str × Addr)) (fp : List Addr), PTs (X.blk s H scope (compEnvC scope cl C X.env) fp) ifs (tT X.K t))
    (he : ∀ (s : Shared) (H : Hp) (C : Addr) (cl : List (Str × Addr)) (fp : List Addr), PE (X.blk s H scope (compEnvC scope cl C X.env) fp) elt (tO X.K f)) (ok : TgOk is g) (hJ : i ∉ J := by decide) (hy : X.N[i]? = some y := by rfl) (hyl : X.env.scope.names.lookup y = some .local := by rfl)
    (hsw : swapsWith (.ListComp elt [⟨tg, iter, ifs, 0⟩] scope pos) (some (.Name y py)) spos.line X.env = pure true := by exact sw_true rfl rfl rfl (by decide +kernel)) (hv : ∀ i ∈ is, i ∈ own.map (·.2) := by decide) (hkn : ∀ ρ ds, fi ρ = some ds → ∀ k ∈ kn, k < ρ.length := by intro _ _ _ _ hk; cases hk) (hkv : ∀ k ∈ kn, k ∉ own.map (·.2) := by decide) (hs : ∀ x, foldedSetIterable iter X.env x = pure x := by intro _; rfl) :
    PS X (.Assign [.Name y py] (.ListComp elt [⟨tg, iter, ifs, 0⟩] scope pos) spos) (tS X.K W J (stO i (lcOO fi g t f (own.map (·.2))))) :=
  sAsgO (PS.imp (ps_setLc (i := i) hc hN hy hyl hsw hi bo hg ht he hs) fun E σ H h => lc_ofO ok hv hkn hkv h) hJ
end
end PD

namespace PD
open PySem PySem.Spec L2 PyProof.Rows

/-! ### enumerate(tuple) -/
/-- the tuple at a, each item in a new pair with its place -/
def IteT (K : PySem.W.Frag) (a : Addr) (xs : List V) : It where
  go i H := SqT K H a xs ∧ i < xs.length
  yld i H v H' := ∃ T x, (v = .ref T ∧ H T = none) ∧ H' = upd H T (.tup [.int (i : Nat), x]) ∧ xs[i]? = some x
  stop i H := SqT K H a xs ∧ xs.length ≤ i
set_option maxHeartbeats 1000000 in
theorem enumT_new (l : Addr) (items : Array Value) (n : Nat) (dct : Option Addr) (sl : Array (Option Value)) :
    Meets (Builtin.«enumerate.__new__» ⟨[.type "enumerate", .ref l], []⟩) (fun _ R s => s.heap.get? l = some { cls := .type "tuple", dict := dct, data := .seq items n, slots := sl } ∧
      R (.ok (.ret (.ref (s.heap.push { cls := .type "tuple_iterator", data := .fields #[.ref l, .int 0 0] }).objs.size)))
        { s with heap := (s.heap.push { cls := .type "tuple_iterator", data := .fields #[.ref l, .int 0 0] }).push { cls := .type "enumerate", data := .fields #[.none, .bool false, .ref s.heap.objs.size, rawInt 0, .none, .none] } }) :=
  .of_wp fun prog w A R st0 hh => by
    obtain ⟨hp, gl, dd, tk, os⟩ := st0
    obtain ⟨hl, hh⟩ := hh
    have hsub := sub_enumerate
    have hT : Heap.IsTuple (Shared.heap ⟨hp, gl, dd, tk, os⟩) l items := ⟨_, hl, rfl, n, rfl⟩
    wp_walk using wpAny_loadPart' hl
    refine wpAny_stack_any fun _ => wpAny_pure ?_
    split
    · rename_i cc _ _ _ _ _
      cases (cc == Value.type "enumerate")
      · wp_walk using wpAny_loadPart' hl, wpAny_pyIter_tuple hT
        exact ⟨_, rfl, hh⟩
      · wp_walk using wpAny_loadPart' hl, wpAny_pyIter_tuple hT
        exact ⟨_, rfl, hh⟩
    · wp_walk using wpAny_loadPart' hl, wpAny_pyIter_tuple hT
      exact ⟨_, rfl, hh⟩
section
variable {prog : Program} {w : World} {A : Around} {E : Value → Shared → Prop} {s : Shared}
theorem call_enumT {l : Addr} {items : Array Value} {Q : Value → Shared → Prop} (hL : s.heap.IsTuple l items)
    (h : ∀ h1, IsEnum h1 (s.heap.objs.size + 1) s.heap.objs.size 0 .none → h1.IsTupleIter s.heap.objs.size l 0 →
      (∀ b o, s.heap.get? b = some o → h1.get? b = some o) → Q (.ref (s.heap.objs.size + 1)) { s with heap := h1 }) : wpAny (model prog w) A (call (.type "enumerate") [.ref l]) Q E s := by
  obtain ⟨⟨c, dct, dt, sl⟩, hl, hc, n, hd⟩ := hL
  replace hc : c = .type "tuple" := hc
  replace hd : dt = .seq items n := hd
  subst hc hd
  refine callType_new F.called_enumerate (by decide) (F.typeCall_enumerate_1 _) (F.newCall_enumerate_1 _) (fun ob => F.args_object_init_2 ob _) F.entry_enumerate_new (enumT_new l items n dct sl) ⟨hl, ?_⟩
  generalize eo : ({ cls := .type "tuple_iterator", data := .fields #[.ref l, .int 0 0] } : Obj) = oi
  have fo : oi.isFreed = false := by rw [← eo]; rfl
  have zz : (s.heap.push oi).objs.size = s.heap.objs.size + 1 := Heap.size_push ..
  show _ ∧ _
  rw [zz]
  generalize ee : ({ cls := .type "enumerate", data := .fields #[.none, .bool false, .ref s.heap.objs.size, rawInt 0, .none, .none] } : Obj) = oe
  have fe : oe.isFreed = false := by rw [← ee]; rfl
  have g1 : ((s.heap.push oi).push oe).get? (s.heap.objs.size + 1) = some oe := zz ▸ Heap.get?_push_size (s.heap.push oi) fe
  have he : IsEnum ((s.heap.push oi).push oe) (s.heap.objs.size + 1) s.heap.objs.size 0 .none := by rw [← ee] at g1 ⊢; exact g1
  have hi : ((s.heap.push oi).push oe).IsTupleIter s.heap.objs.size l 0 := ⟨oi, Heap.get?_push_of_some _ (Heap.get?_push_size _ fo), by rw [← eo], by rw [← eo]; rfl⟩
  exact ⟨⟨_, he, rfl⟩, h _ he hi fun b o x => Heap.get?_push_of_some _ (Heap.get?_push_of_some _ x)⟩
end
theorem turn_enumT {P : Program} {w : World} {K : PySem.W.Frag} {elts : List Expr} {kk : Nat} {tpos : Pos} (a e it : Addr) (xs : List V) :
    Turn P w K (.Tuple elts kk tpos) (IteT K a xs) [e, it] e (fun i h => ((∃ old, IsEnum h e it ((i : Nat) : Int) old) ∧ h.IsTupleIter it a i) ∧ (e ≠ it ∧ a ≠ it ∧ a ≠ e) ∧ i ≤ xs.length) where
  mem := by simp
  obj := fun i h st b hb => by
    obtain ⟨⟨⟨old, he⟩, ⟨oi, ho, hcl, hdt⟩⟩, _⟩ := st
    have two : b = e ∨ b = it := by simpa using hb
    rcases two with rfl | rfl
    · exact ⟨_, he, fun v q => nomatch q⟩
    · exact ⟨oi, ho, fun v q => by rw [hdt] at q; cases q⟩
  keep := fun i h h1 st k => by
    obtain ⟨⟨⟨old, he⟩, hi⟩, hne⟩ := st
    exact ⟨⟨⟨old, k e (by simp) _ he⟩, hi.at fun o q => k it (by simp) o q⟩, hne⟩
  item := by
    intro X hP hw hK hc i pins s σ H E I hf st hgo
    subst hP hw hK
    obtain ⟨⟨⟨old, he⟩, hit⟩, ⟨hne, hai, hae⟩, hle⟩ := st
    obtain ⟨hq, hlt⟩ := hgo
    obtain ⟨its, rv, pl, hz⟩ := I.tuple hq
    have hln := rv.length
    have hel : e < s.heap.objs.size := Heap.lt_size he
    have hil : it < s.heap.objs.size := by obtain ⟨_, q, _⟩ := hit; exact Heap.lt_size q
    refine wpAny_pyNext_enum_itemD (Draws.tuple (A := X.A.in1) (show X.A.in1.handled = none from I.ok.hd hc) it a hai its.toArray) he ⟨hit, pl⟩ (by simp; omega) hne (by simp [hne, Ne.symm hae]) fun u h1 tk hu ho st1 hT hsz hk => ?_
    refine ⟨_, rfl, wpAny_letOwnedTupleGo_enum (s := { s with heap := h1, toks := tk + 1 }) ho fun h2 he2 sb => ?_⟩
    have hx : xs[i]? = some xs[i] := List.getElem?_eq_getElem hlt
    obtain ⟨u', hu', ru⟩ := rv.get hx
    have eu : u' = u := by
      have : its[i]? = some u := by simpa using hu
      rw [this] at hu'; cases hu'; rfl
    subst eu
    have hT2 := (sb.2 s.heap.objs.size (Nat.ne_of_gt hel)).trans hT
    have nw : ObjOk X.prog X.w (upd H s.heap.objs.size (.tup [.int (i : Nat), xs[i]])) h2 s.heap.objs.size (.tup [.int (i : Nat), xs[i]]) := ⟨by show 2 ≤ sizeLine; decide, [.int i tk, u'], .cons ⟨_, rfl⟩ (.cons ru .nil), ⟨_, hT2, rfl, _, rfl⟩⟩
    have I1 : Inv X pins σ (upd H s.heap.objs.size (.tup [.int (i : Nat), xs[i]])) { s with heap := h2, toks := tk + 1 } :=
      I.turnedNew (ch := [e, it]) (fun b ob hb q => (sb.2 b (fun z => hb (by simp [z]))).trans (hk b ob (fun z => hb (by simp [z])) (fun z => hb (by simp [z])) q)) hf (Nat.le_refl _) nw
    refine ⟨.ref s.heap.objs.size, _, I1, rfl, ⟨_, xs[i], ⟨rfl, I.hok.fresh (Nat.le_refl _)⟩, rfl, hx⟩, ⟨⟨⟨u', ?_⟩, st1.1.at fun o q => (sb.2 it (Ne.symm hne)).trans q⟩, ⟨hne, hai, hae⟩, hlt⟩, fun b hb => ?_⟩
    · have e1 : ((i + 1 : Nat) : Int) = (i : Int) + 1 := by omega
      rw [e1]
      exact he2
    · have bs : b < s.heap.objs.size := by
        have two : b = e ∨ b = it := by simpa using hb
        rcases two with rfl | rfl <;> assumption
      rw [upd_ne (Nat.ne_of_lt bs)]; exact (hf b hb).1
  done := by
    intro X hP hw hK hc i pins s σ H E I hf st hst
    subst hP hw hK
    obtain ⟨⟨⟨old, he⟩, hit⟩, ⟨hne, hai, hae⟩, hle⟩ := st
    obtain ⟨hq, hge⟩ := hst
    obtain ⟨its, rv, pl, hz⟩ := I.tuple hq
    have hln := rv.length
    obtain ⟨f0, f1, f2, f3, f4, f5⟩ := hf it (by simp)
    have en : i = its.toArray.size := by simp; omega
    refine wpAny_pyNext_enum_endD (Draws.tuple (A := X.A.in1) (show X.A.in1.handled = none from I.ok.hd hc) it a hai its.toArray) he ⟨en ▸ hit, pl⟩ fun h1 eb => ⟨rfl, I.turned (t' := s.toks) (fun b o hb q => eb b o hb q) f0 f1 f3 f4 f5⟩
  self := fun A i s Q E st h => by
    obtain ⟨⟨⟨old, he⟩, _⟩, _⟩ := st
    exact wpAny_pyIter_enum he h
def iEnumT (K : PySem.W.Frag) (ta : TA) : TI := fun σ H R => ta σ H fun vs H1 => ∃ a xs, vs = [.ref a] ∧ SqT K H1 a xs ∧ R (IteT K a xs) H1
theorem pi_enumT {X : Cx} {e : Expr} {ta : TA} {p pos tpos : Pos} {elts : List Expr} {kk : Nat} (hg : Gl X "enumerate") (hm : X.mg "enumerate" = none) (ha : PA X [e] ta) (hs : starEach [e] X.env = [(false, eval e X.env)] := by rfl) : PI X (.Tuple elts kk tpos) (.Call (.Name "enumerate" p) [e] [] pos) (iEnumT X.K ta) := by
  refine ⟨fun pins s σ H R I h => Call_ (ld_blt I hg hm boot_enumerate (callWith_type1 (thn (ha.run pos pins s σ H _ I h) fun us s1 ⟨vs, H1, I1, r1, q1⟩ => ?_) hs rfl))⟩
  obtain ⟨a, xs, rfl, hq, q⟩ := q1
  cases r1 with
  | cons r rr =>
    cases rr
    cases r
    obtain ⟨its, rv, pl, hz⟩ := I1.tuple hq
    have ha : a < s1.heap.objs.size := by obtain ⟨_, q, _⟩ := pl; exact Heap.lt_size q
    refine call_enumT pl fun h1 he hit hk => wpAny_pyIter_enum he ?_
    refine ⟨_, [s1.heap.objs.size + 1, s1.heap.objs.size], _, _, H1, rfl, I1.kept (t' := s1.toks) hk, turn_enumT a (s1.heap.objs.size + 1) s1.heap.objs.size xs, ⟨⟨⟨.none, he⟩, hit⟩, ⟨Nat.succ_ne_self _, Nat.ne_of_lt ha, Nat.ne_of_lt (Nat.lt_succ_of_lt ha)⟩, Nat.zero_le _⟩, fun b hb => ?_, q⟩
    have hle : s1.heap.objs.size ≤ b := by
      have two : b = s1.heap.objs.size + 1 ∨ b = s1.heap.objs.size := by simpa using hb
      rcases two with z | z
      · rw [z]; exact Nat.le_succ _
      · rw [z]; exact Nat.le_refl _
    exact I1.fpOk hle (I1.hok.fresh hle)
theorem yld_enumT {K : PySem.W.Frag} {M : Hp} {a : Addr} {xs : List V} {ds : List D} (h : SqT K M a xs) (d : Dvs K M xs ds) : Yld K M [] (IteT K a xs) (ds.zipIdx.map fun p => .tup [.int (p.2 : Nat), p.1]) := fun i M1 H os vs s1 R _ => by
  have hd := d.length
  refine ⟨fun hlt => ⟨sqT_same (s1.trans R.same) h, by simp at hlt; omega⟩, fun e => ⟨sqT_same (s1.trans R.same) h, by simp at e; omega⟩, fun z ez v H' hy => ?_⟩
  obtain ⟨T, x, ⟨rfl, hT⟩, rfl, hx⟩ := hy
  rw [List.getElem?_map, List.getElem?_zipIdx] at ez
  cases q : ds[i]? with
  | none => rw [q] at ez; cases ez
  | some di =>
    rw [q] at ez
    cases ez
    obtain ⟨x', hx', dx⟩ := d.get q
    rw [hx] at hx'; cases hx'
    have s2 := same_updM (u := .tup [.int (i : Nat), x]) (R.same.free hT)
    refine ⟨_, s2, R.growM hT, ?_⟩
    refine .tup (.inl (.inl upd_same)) (.cons ?_ (.cons ((dx.mono s1).mono s2) .nil))
    simpa using Dv.int _
section
variable {X : Cx} {pos p tpos : Pos} {e : Expr} {f : Ev → Option D} {elts : List Expr} {kk : Nat}
def enuA (f : Ev → Option D) (ρ : Ev) : Option (List D) := match f ρ with
  | some (.lst ds) => some (ds.zipIdx.map fun p => .tup [.int (p.2 : Nat), p.1])
  | some (.tup ds) => some (ds.zipIdx.map fun p => .tup [.int (p.2 : Nat), p.1])
  | _ => none
theorem iEnumA (h : PE X e (tP X.K f)) (hm : X.mg "enumerate" = none) (hg : Gl X "enumerate" := by rfl) (hs : starEach [e] X.env = [(false, eval e X.env)] := by rfl) (hs2 : starEach [e] X.env = (false, eval e X.env) :: starEach [] X.env := by rfl) :
    PI X (.Tuple elts kk tpos) (.Call (.Name "enumerate" p) [e] [] pos) (tI X.K [] (enuA f)) :=
  PI.imp (PI.or (pi_enum hg hm (pa_cons h pa_nil hs2) hs) (pi_enumT hg hm (pa_cons h pa_nil hs2) hs)) fun σ H R ⟨M, ρ, fo, fv, ds, R0, l, e, k⟩ => by
    unfold enuA at e
    split at e
    · rename_i es q
      cases e
      refine .inl ⟨M, ρ, fo, fv, _, R0, l, q, fun M1 H1 v s1 R1 d1 => ?_⟩
      cases d1 with
      | lst hs hd => exact ⟨_, _, rfl, seqX R1.same hs, k M1 H1 _ s1 R1 (yld_enum hs hd)⟩
    · rename_i es q
      cases e
      refine .inr ⟨M, ρ, fo, fv, _, R0, l, q, fun M1 H1 v s1 R1 d1 => ?_⟩
      cases d1 with
      | tup hs hd => exact ⟨_, _, rfl, sqT_same R1.same hs, k M1 H1 _ s1 R1 (yld_enumT hs hd)⟩
    · cases e
end
end PD

namespace PD
open PySem PySem.Spec L2
section
variable {X : Cx} {W : WX} {J : List Nat} {pos : Pos} {a b e : Expr} {fa fb : Ev → Option D}
/-! ### k not in d -/
def ndinD (x y : D) : Option D := match y with
  | .dic ks ds => if ds.length = ks.length then (keyD x).map fun k => .bl (!(dlook k ks ds).isSome) else none
  | _ => none
theorem ndin_of {K : PySem.W.Frag} {σ : L2.St} {H : Hp} {Q : VK} (h : tP K (b2 fa fb ndinD) σ H Q) : tDNotIn (tP K fa) (tP K fb) σ H Q := by
  obtain ⟨M, ρ, fo, fv, d, R, l, e, k⟩ := h
  obtain ⟨x, y, ea, eb, eg⟩ := b2_some e
  refine ⟨M, ρ, fo, fv, x, R, l, ea, fun M1 H1 v1 s1 R1 d1 => ⟨M1, ρ, fo, fv, y, R1, l, eb, fun M2 H2 v2 s2 R2 d2 => ?_⟩⟩
  unfold ndinD at eg
  split at eg
  · rename_i ks ds
    split at eg
    · cases q : keyD x with
      | none => rw [q] at eg; cases eg
      | some kk =>
        rw [q] at eg
        cases eg
        cases d2 with
        | dic h1 hk hd =>
          subst hk
          have hv := dlook_val (k := kk) hd
          rw [key_of d1 q]
          refine ⟨_, _, rfl, dget_rd (Rd.up R2.same h1), ?_⟩
          cases q2 : dlook kk _ ds with
          | none => rw [q2] at hv; rw [show valV _ kk = none from hv]; exact k M2 H2 _ (s1.trans s2) R2 (by simp only [q2]; exact .bl _)
          | some z => rw [q2] at hv; obtain ⟨v, ev, _⟩ := hv; rw [ev]; exact k M2 H2 _ (s1.trans s2) R2 (by simp only [q2]; exact .bl _)
    · cases eg
  · cases eg
theorem pNdin (hu : X.A.units + 64 < cLine) (ha : PE X a (tP X.K fa)) (hb : PE X b (tP X.K fb)) (hm : behindInMarks .NotIn b = false := by rfl) : PE X (.Compare a [.NotIn] [b] pos) (tP X.K (b2 fa fb ndinD)) := PE.imp (pe_cmp (pc_dnotin (by omega) ha hb) hm) fun _ _ _ h => ndin_of h
theorem tNdin' (hu : X.A.units + 64 < cLine) (ha : PE X a (tP X.K fa)) (hb : PE X b (tP X.K fb)) (hm : behindInMarks .NotIn b = false := by rfl) : PT X (.Compare a [.NotIn] [b] pos) (tT X.K (asB (b2 fa fb ndinD))) :=
  PT.imp (pt_cmp (pc_dnotin (by omega) ha hb) hm) fun σ H Q ⟨M, ρ, fo, fv, b, R, l, e, k⟩ => ndin_of (K := X.K) (Q := fun x H' => ∃ k, x = .bl k ∧ Q k H') ⟨M, ρ, fo, fv, .bl b, R, l, asB_some e, fun M' H' v s R' dv => by cases dv; exact ⟨b, rfl, k M' H' s R'⟩⟩

/-! ### {k: v} -/
def dic1 (fk fv : Ev → Option D) (ρ : Ev) : Option O := (fk ρ).bind fun y => (keyD y).bind fun k => (fv ρ).map fun d => .dic [k] [.dat d]
theorem Rep.dic1 {K : PySem.W.Frag} {M H : Hp} {l r : List O} {lv rv : List (Option V)} {p : Addr} (R : Rep K M H (l ++ .dic [] [] :: r) (lv ++ some (.ref p) :: rv)) (e : lv.length = l.length) {k : Key} {v : V} {d : D} (dv : Dv K M v d) :
    H p = some (.dK []) ∧ Rep K M (upd H p (.dK [(k, v)])) (l ++ .dic [k] [.dat d] :: r) (lv ++ some (.ref p) :: rv) := by
  obtain ⟨fa, f, fb, w1, w2, w3, nd, nm⟩ := R.mid e
  cases w2 with
  | dic hA hk ws =>
    rename_i kvs fp
    have : kvs = [] := by cases kvs with | nil => rfl | cons _ _ => cases hk
    subst this
    cases ws
    refine ⟨hA, ?_⟩
    have nd' := nd
    rw [List.nodup_iff_count] at nd'
    have na := nd' p
    simp only [List.count_append, List.count_cons, beq_self_eq_true, if_true, List.cons_append] at na
    have ne : ∀ c, c ∈ fa ∨ c ∈ fb → c ≠ p := fun c hc z => by
      subst z
      rcases hc with hc | hc <;> (have := List.count_pos_iff.mpr hc; omega)
    have mA : M p = none := nm p (by simp)
    refine ⟨fun b q hb => ?_, fa ++ ([p] ++ fb), ?_, nd, nm⟩
    · rw [upd_ne (fun z => by subst z; rw [mA] at hb; cases hb)]; exact R.same b q hb
    · exact (w1.frame (Same.refl _) fun c hc => upd_ne (ne c (.inl hc))).append (.cons (.dic upd_same rfl (Ows.cons (.dat dv) .nil)) (w3.frame (Same.refl _) fun c hc => upd_ne (ne c (.inr hc))))
theorem oDic1 (ha : PE X a (tP X.K fa)) (hb : PE X b (tP X.K fb)) : PE X (.Dict [some a] [b] pos) (tO X.K (dic1 fa fb)) := PE.imp (pe_disp (pps_cons ha hb pps_nil) rfl rfl (by simp) (by simp)) fun σ H Q ⟨M, ρ, fo, fv, o, R, l, e, k⟩ => by
  unfold dic1 at e
  cases q : fa ρ with
  | none => rw [q] at e; cases e
  | some y =>
    rw [q, Option.bind_some] at e
    cases q2 : keyD y with
    | none => rw [q2] at e; cases e
    | some ky =>
      rw [q2, Option.bind_some] at e
      cases q3 : fb ρ with
      | none => rw [q3] at e; cases e
      | some d =>
        rw [q3] at e
        cases e
        intro p hp
        have R1 := R.newD l hp
        refine ⟨M, ρ, _, _, y, R1, l, q, fun M2 H2 v2 s2 R2 d2 => ⟨M2, ρ, _, _, d, R2, l, q3, fun M3 H3 v3 s3 R3 d3 => ?_⟩⟩
        obtain ⟨hA, R4⟩ := R3.dic1 (k := ky) l d3
        refine ⟨hA, [(ky, v3)], by rw [key_of d2 q2]; rfl, by simp, ?_⟩
        exact k M3 _ _ (s2.trans s3) R4
end
section
variable {X : Cx} {k n : Nat} {f : Addr} {fd : FuncData} {ps : List Str} {x : Str} {p pos : Pos} {ga : Ev → Option (List D)}
theorem oCallK {m : List D → Option O} {ks : List Str} {kws : List Keyword} {g : List Value → List Value → List Value} (F : FnOk X.prog X.w X.K X.mg X.base CX0 k f fd ps (spO X.K n m)) (hr : Room k X.A) (hm : X.mg x = some (.ref f)) (hk : PySem.W.keepIn X.K (.ref f) = true) (hb : KBn X.K fd ps 0 ks g (fun vs zs => vs ++ zs)) (hn : ks.length = n)
    (hkw : PK X kws (tAr X.K ga)) (hg : Gl X x := by rfl) (hall : (backToKw pos (keywordEach kws X.env)).all (·.1.isSome) = true := by rfl) (hks : (backToKw pos (keywordEach kws X.env)).filterMap (·.1) = ks := by rfl)
    (hdb : (x == ("__debug__" : Str)) = false := by decide)
    (hpl : ((backTo pos (starEach [] X.env)).any (·.1) || (backToKw pos (keywordEach kws X.env)).any (·.1.isNone)) = false := by rfl) :
    PE X (.Call (.Name x p) [] kws pos) (tO X.K (cO' ga n m)) := PE.imp (pe_callN0 F hr hg hm hk hb pass0 hkw hall hks hdb hpl) fun σ H Q h => by
  obtain ⟨M, ρ, fo, fv, o, R, l, e, kk⟩ := h
  unfold cO' at e
  cases q : ga ρ with
  | none => rw [q] at e; cases e
  | some ds =>
    rw [q, Option.bind_some] at e
    split at e
    · rename_i hl
      refine ⟨M, ρ, fo, fv, ds, R, l, q, fun M1 H1 vs s1 R1 d1 => ?_⟩
      have hv : vs.length = n := by rw [d1.length]; exact hl
      exact ⟨by omega, hv, M1, ρ ++ fo, σ ++ fv, ds, o, R1, d1, e, fun M2 H2 v s2 R2 => kk M2 H2 v (s1.trans s2) (R2.swap l)⟩
    · cases e
end
end PD

namespace PD
open PySem PySem.Spec L2

/-! ### raise C(..) -/
def raiS (C : Addr) (fs : List Str) (ga : Ev → Option (List D)) (ρ : Ev) : Option Fl := (ga ρ).bind fun ds => if ds.length = fs.length then some (.ex ⟨.ref C, some (fs, ds)⟩ ρ) else none
theorem zip_snd' {α β : Type} : ∀ {ks : List α} {vs : List β}, vs.length = ks.length → (ks.zip vs).map (·.2) = vs
  | [], [], _ => rfl
  | k :: ks, v :: vs, h => by
    simp only [List.zip_cons_cons, List.map_cons]
    rw [zip_snd' (by simpa using h)]
  | [], _ :: _, h => by simp at h
  | _ :: _, [], h => by simp at h
theorem zip_fst' {α β : Type} : ∀ {ks : List α} {vs : List β}, vs.length = ks.length → (ks.zip vs).map (·.1) = ks
  | [], [], _ => rfl
  | k :: ks, v :: vs, h => by
    simp only [List.zip_cons_cons, List.map_cons]
    rw [zip_fst' (by simpa using h)]
  | [], _ :: _, h => by simp at h
  | _ :: _, [], h => by simp at h
section
variable {X : Cx} {W : WX} {J : List Nat} {pos p q : Pos} {e : Expr} {es : List Expr} {ga : Ev → Option (List D)}
theorem sRaise {x : Str} {C : Addr} {fs : List Str} (hc : X.calm = true) (tk : Takes X W) (T : XCls X.prog X.K X.mg C fs) (hne : fs ≠ []) (hr : Room 1 X.A) (hm : X.mg x = some (.ref C)) (ha : PA X (e :: es) (tAr X.K ga)) (hg : Gl X x := by rfl)
    (hdb : (x == ("__debug__" : Str)) = false := by decide) (he : starEach (e :: es) X.env = (false, eval e X.env) :: starEach es X.env := by rfl) (hpl : (backTo q (starEach es X.env)).any (·.1) = false := by rfl) :
    PS X (.Raise (some (.Call (.Name x p) (e :: es) [] q)) none pos) (tS X.K W J (raiS C fs ga)) :=
  PS.imp (ps_raise hc tk (pmk_x T hne hr hm ha hg hdb he hpl)) fun E σ H ⟨M, ρ, fo, fv, r, σ0, R, l, e, k⟩ => by
    unfold raiS at e
    cases q : ga ρ with
    | none => rw [q] at e; cases e
    | some ds =>
      rw [q, Option.bind_some] at e
      split at e
      · rename_i hl
        cases e
        refine ⟨M, ρ, fo, fv, ds, R, l.1, q, fun M1 H1 vs s1 R1 d1 => ?_⟩
        have hv : vs.length = fs.length := by rw [d1.length]; exact hl
        refine ⟨hv, fun dx hdx => ?_⟩
        have s2 := same_updM (u := .xd (fs.zip vs)) (R1.same.free hdx)
        refine k _ _ σ _ _ (s1.trans s2) (R1.growM hdx) l ⟨rfl, .inr ⟨fs, ds, dx, fs.zip vs, rfl, rfl, upd_same, zip_fst' hv, ?_⟩⟩
        rw [zip_snd' hv]
        exact d1.mono s2
      · cases e
end

/-! ### defs that may raise -/
section
variable {P : Program} {w : World} {K : PySem.W.Frag} {mg : Str → Option Value} {base : Heap}
theorem fnX {x qual : Str} {st : Stmt} {f : Addr} {fd : FuncData} {N ps : List Str} {k : Nat} {b : Ev → Option Fl} (F : Fun K x qual st f fd) (S : FnScope N ps (defScope st))
    (hb : ∀ (cdv : Value) (A : Around) (outer : List Env) (s : Shared) (H : Hp) (E : XK), Room k (A.deeper (PyProof.Rows.envOfC qual (defScope st) s.heap.objs.size f cdv)) →
      PSs (cxOf (L2.CX P w) P w K mg base N qual (defScope st) f cdv A outer s H E) (defBody st) (tS K (fun cls d _ H => E cls d H) [] b)) : FnOk P w K mg base (L2.CX P w) (k + 1) f fd ps (spX K ps.length (runX N.length b)) := by
  refine F.okX S (fun vs H Q E h => ?_) fun cdv A outer s H vs Q E hr h => ⟨_, hb cdv A outer s H E hr, ?_⟩
  · obtain ⟨_, _, _, _, _, hl, _⟩ := h
    exact hl
  obtain ⟨M, fo, fv, ds, r, hl, R, dv, e, k⟩ := h
  obtain ⟨R1, l1⟩ := R.enter (N := N) dv
  unfold runX at e
  cases q : b (env0 N.length ds) with
  | none => rw [q] at e; cases e
  | some z =>
    rw [q, Option.bind_some] at e
    refine ⟨M, _, fo, fv, z, L2.start N vs, R1, ⟨l1, fun _ z => nomatch z⟩, q, ?_⟩
    cases z with
    | nx ρ =>
      cases e
      exact fun M1 H1 σ1 s1 R1 l1 => k M1 H1 _ s1 ((R1.push l1.1 .non).dropL l1.1)
    | rt o' ρ =>
      cases e
      exact fun M1 H1 σ1 v s1 R1 l1 => k M1 H1 v s1 (R1.dropL l1.1)
    | bk ρ => cases e
    | ct ρ => cases e
    | ex y ρ =>
      cases e
      exact fun M1 H1 σ1 cls d s1 R1 l1 ex => k M1 H1 cls d s1 (R1.dropL l1.1) ex
end

/-! ### such defs, called -/
def okO : Rz → Option O
  | .ok o => some o
  | .ex _ => none
/-- where nothing is raised -/
def cX (ga : Ev → Option (List D)) (n : Nat) (m : List D → Option Rz) (ρ : Ev) : Option O := (ga ρ).bind fun ds => if ds.length = n then (m ds).bind okO else none
/-- a reading that may raise -/
def tXc (K : PySem.W.Frag) (W : WX) (f : Ev → Option Rz) : TE := fun σ H Q => ∃ M ρ fo fv r, Rep K M H (ρ ++ fo) (σ ++ fv) ∧ σ.length = ρ.length ∧ f ρ = some r ∧ match r with
  | .ok o => ∀ M' H' v, Same M M' → Rep K M' H' (ρ ++ o :: fo) (σ ++ some v :: fv) → Q v H'
  | .ex x => ∀ M' H' cls d, Same M M' → Rep K M' H' (ρ ++ fo) (σ ++ fv) → ExR K M' x cls d → W cls d σ H'
def xC (ga : Ev → Option (List D)) (n : Nat) (m : List D → Option Rz) (ρ : Ev) : Option Rz := (ga ρ).bind fun ds => if ds.length = n then m ds else none
section
variable {X : Cx} {W : WX} {J : List Nat} {k n : Nat} {f : Addr} {fd : FuncData} {ps : List Str} {x : Str} {p pos : Pos} {e : Expr} {es : List Expr} {ga : Ev → Option (List D)} {m : List D → Option Rz} {g : Ev → Option Rz}
theorem passX : Passes (L2.CX X.prog X.w) X E0 := fun _ _ _ _ _ _ _ h => by
  obtain ⟨_, _, _, _, _, _, _, _, _, _, _, _, z⟩ := h
  exact z.elim
theorem oCallX (F : FnOk X.prog X.w X.K X.mg X.base (L2.CX X.prog X.w) k f fd ps (spX X.K n m)) (hr : Room k X.A) (hm : X.mg x = some (.ref f)) (hk : PySem.W.keepIn X.K (.ref f) = true) (hb : Binds X.K fd ps []) (ha : PA X (e :: es) (tAr X.K ga)) (hg : Gl X x := by rfl)
    (hdb : (x == ("__debug__" : Str)) = false := by decide) (he : starEach (e :: es) X.env = (false, eval e X.env) :: starEach es X.env := by rfl) (hpl : (backTo pos (starEach es X.env)).any (·.1) = false := by rfl) : PE X (.Call (.Name x p) (e :: es) [] pos) (tO X.K (cX ga n m)) :=
  PE.imp (pe_call (E := E0) F hr hg hm hk hb .nil passX ha hdb he hpl) fun σ H Q ⟨M, ρ, fo, fv, o, R, l, e, kk⟩ => by
    unfold cX at e
    cases q : ga ρ with
    | none => rw [q] at e; cases e
    | some ds =>
      rw [q, Option.bind_some] at e
      split at e
      · rename_i hl
        cases q2 : m ds with
        | none => rw [q2] at e; cases e
        | some r =>
          rw [q2, Option.bind_some] at e
          cases r with
          | ex _ => cases e
          | ok o' =>
            cases e
            refine ⟨M, ρ, fo, fv, ds, R, l, q, fun M1 H1 vs s1 R1 d1 => ?_⟩
            exact ⟨M1, ρ ++ fo, σ ++ fv, ds, .ok o, by simp [d1.length, hl], R1, by simpa using d1, q2, fun M2 H2 v s2 R2 => kk M2 H2 v (s1.trans s2) (R2.swap l)⟩
      · cases e
theorem xCall (tk : Takes X W) (F : FnOk X.prog X.w X.K X.mg X.base (L2.CX X.prog X.w) k f fd ps (spX X.K n m)) (hr : Room k X.A) (hm : X.mg x = some (.ref f)) (hk : PySem.W.keepIn X.K (.ref f) = true) (hb : Binds X.K fd ps []) (ha : PA X (e :: es) (tAr X.K ga)) (hg : Gl X x := by rfl)
    (hdb : (x == ("__debug__" : Str)) = false := by decide) (he : starEach (e :: es) X.env = (false, eval e X.env) :: starEach es X.env := by rfl) (hpl : (backTo pos (starEach es X.env)).any (·.1) = false := by rfl) : PE X (.Call (.Name x p) (e :: es) [] pos) (tXc X.K W (xC ga n m)) :=
  PE.imp (pe_callS (E := WE W) F hr hg hm hk hb (fun σ => passAt tk σ) ha hdb he hpl) fun σ H Q ⟨M, ρ, fo, fv, r, R, l, e, kk⟩ => by
    unfold xC at e
    cases q : ga ρ with
    | none => rw [q] at e; cases e
    | some ds =>
      rw [q, Option.bind_some] at e
      split at e
      · rename_i hl
        refine ⟨M, ρ, fo, fv, ds, R, l, q, fun M1 H1 vs s1 R1 d1 => ?_⟩
        refine ⟨M1, ρ ++ fo, σ ++ fv, ds, r, by simp [d1.length, hl], R1, by simpa using d1, e, ?_⟩
        cases r with
        | ok o => exact fun M2 H2 v s2 R2 => kk M2 H2 v (s1.trans s2) (R2.swap l)
        | ex y => exact fun M2 H2 cls d s2 R2 ex => kk M2 H2 cls d (s1.trans s2) R2 ex
      · cases e
def stX (i : Nat) (f : Ev → Option Rz) (ρ : Ev) : Option Fl := (f ρ).bind fun r => match r with
  | .ok o => some (.nx (ρ.set i o))
  | .ex x => some (.ex x ρ)
def stXD (i : Nat) (f : Ev → Option Rz) (ρ : Ev) : Option Fl := (f ρ).bind fun r => match r with
  | .ok o => o.toD.map fun d => .nx (ρ.set i (.dat d))
  | .ex x => some (.ex x ρ)
def rtX (f : Ev → Option Rz) (ρ : Ev) : Option Fl := (f ρ).map fun r => match r with
  | .ok o => .rt o ρ
  | .ex x => .ex x ρ
def drpX (f : Ev → Option Rz) (ρ : Ev) : Option Fl := (f ρ).map fun r => match r with
  | .ok _ => .nx ρ
  | .ex x => .ex x ρ
theorem sSetX {i : Nat} {y : Str} {pos' : Pos} (hN : X.N.Nodup) (he : PE X e (tXc X.K W g)) (hJ : i ∉ J := by decide) (hi : X.N[i]? = some y := by rfl) (hx : Loc X.env.scope y := by first | exact Or.inl rfl | exact Or.inr rfl) (hs : swapsWith e (some (.Name y pos')) pos.line X.env = pure false := by rfl)
    (hf : X.fn y = true ∨ X.env.scope.names.lookup y = some .local := by first | exact .inl rfl | exact .inr rfl) : PS X (.Assign [.Name y pos'] e pos) (tS X.K W J (stX i g)) := PS.imp (ps_set (i := i) hN hi hx he hs hf) fun E σ H ⟨M, ρ, fo, fv, r, σ0, R, l, e, k⟩ => by
  unfold stX at e
  cases q : g ρ with
  | none => rw [q] at e; cases e
  | some z =>
    rw [q, Option.bind_some] at e
    refine ⟨M, ρ, fo, fv, z, R, l.1, q, ?_⟩
    cases z with
    | ok o => cases e; exact fun M1 H1 v s1 R1 => k M1 H1 _ s1 (R1.into l.1) (l.set hJ _ _)
    | ex y => cases e; exact fun M1 H1 cls d s1 R1 ex => k M1 H1 σ cls d s1 R1 l ex
theorem sSetXD {i : Nat} {y : Str} {pos' : Pos} (hN : X.N.Nodup) (he : PE X e (tXc X.K W g)) (hJ : i ∉ J := by decide) (hi : X.N[i]? = some y := by rfl) (hx : Loc X.env.scope y := by first | exact Or.inl rfl | exact Or.inr rfl) (hs : swapsWith e (some (.Name y pos')) pos.line X.env = pure false := by rfl)
    (hf : X.fn y = true ∨ X.env.scope.names.lookup y = some .local := by first | exact .inl rfl | exact .inr rfl) : PS X (.Assign [.Name y pos'] e pos) (tS X.K W J (stXD i g)) := PS.imp (ps_set (i := i) hN hi hx he hs hf) fun E σ H ⟨M, ρ, fo, fv, r, σ0, R, l, e, k⟩ => by
  unfold stXD at e
  cases q : g ρ with
  | none => rw [q] at e; cases e
  | some z =>
    rw [q, Option.bind_some] at e
    refine ⟨M, ρ, fo, fv, z, R, l.1, q, ?_⟩
    cases z with
    | ok o =>
      cases q2 : o.toD with
      | none => simp only [q2] at e; cases e
      | some d =>
        simp only [q2] at e
        cases e
        intro M1 H1 v s1 R1
        obtain ⟨M2, s2, R2, d2⟩ := R1.frz l.1 rfl q2
        exact k M2 H1 _ (s1.trans s2) (R2.into l.1) (l.set hJ _ _)
    | ex y => cases e; exact fun M1 H1 cls d s1 R1 ex => k M1 H1 σ cls d s1 R1 l ex
theorem sRetX (he : PE X e (tXc X.K W g)) : PS X (.Return (some e) pos) (tS X.K W J (rtX g)) := PS.imp (ps_ret he) fun E σ H ⟨M, ρ, fo, fv, r, σ0, R, l, e, k⟩ => by
  unfold rtX at e
  cases q : g ρ with
  | none => rw [q] at e; cases e
  | some z =>
    rw [q] at e
    refine ⟨M, ρ, fo, fv, z, R, l.1, q, ?_⟩
    cases z with
    | ok o => cases e; exact fun M1 H1 v s1 R1 => k M1 H1 σ v s1 R1 l
    | ex y => cases e; exact fun M1 H1 cls d s1 R1 ex => k M1 H1 σ cls d s1 R1 l ex
theorem sExprX (he : PE X e (tXc X.K W g)) (hs : swapsWith e none pos.line X.env = pure false := by rfl) : PS X (.Expr e pos) (tS X.K W J (drpX g)) := PS.imp (ps_expr he hs) fun E σ H ⟨M, ρ, fo, fv, r, σ0, R, l, e, k⟩ => by
  unfold drpX at e
  cases q : g ρ with
  | none => rw [q] at e; cases e
  | some z =>
    rw [q] at e
    refine ⟨M, ρ, fo, fv, z, R, l.1, q, ?_⟩
    cases z with
    | ok o => cases e; exact fun M1 H1 v s1 R1 => k M1 H1 σ s1 (R1.drop l.1) l
    | ex y => cases e; exact fun M1 H1 cls d s1 R1 ex => k M1 H1 σ cls d s1 R1 l ex
end

/-! ### try: .. except C as n: .. -/
def exnD (a : Addr) (da : Addr) (x : Exn) : D := match x.fs with
  | none => .exn a none x.cls [] []
  | some (ks, ds) => .exn a (some da) x.cls ks ds
def exnA (da : Addr) (x : Exn) : Option Addr := x.fs.map fun _ => da
def unX (i : Nat) : Fl → Option Fl
  | .nx ρ => some (.nx (ρ.set i .unk))
  | .bk ρ => some (.bk (ρ.set i .unk))
  | .ct ρ => some (.ct (ρ.set i .unk))
  | .rt o ρ => some (.rt o (ρ.set i .unk))
  | .ex _ _ => none
open Classical in
/-- the suite, whatever object the exception is -/
noncomputable def suiteS (i : Nat) (sm : Addr → Option Addr → Value → Ev → Option Fl) (x : Exn) (ρ : Ev) : Option Fl :=
  if h : ∃ r, ∀ a da, (sm a (exnA da x) x.cls (ρ.set i (.dat (exnD a da x)))).bind (unX i) = some r then some h.choose else none
theorem suiteS_of {i : Nat} {sm : Addr → Option Addr → Value → Ev → Option Fl} {x : Exn} {ρ : Ev} {r : Fl} (h : ∀ a da, (sm a (exnA da x) x.cls (ρ.set i (.dat (exnD a da x)))).bind (unX i) = some r) : suiteS i sm x ρ = some r := by
  have hx : ∃ r, ∀ a da, (sm a (exnA da x) x.cls (ρ.set i (.dat (exnD a da x)))).bind (unX i) = some r := ⟨r, h⟩
  unfold suiteS
  rw [dif_pos hx]
  have := hx.choose_spec (0 : Nat) (0 : Nat)
  rw [h] at this
  rw [← Option.some.inj this]
theorem suiteS_some {i : Nat} {sm : Addr → Option Addr → Value → Ev → Option Fl} {x : Exn} {ρ : Ev} {r : Fl} (h : suiteS i sm x ρ = some r) (a da : Addr) : ∃ r1, sm a (exnA da x) x.cls (ρ.set i (.dat (exnD a da x))) = some r1 ∧ unX i r1 = some r := by
  unfold suiteS at h
  split at h
  · rename_i hx
    have := hx.choose_spec a da
    rw [h] at this
    cases q : sm a (exnA da x) x.cls (ρ.set i (.dat (exnD a da x))) with
    | none => rw [q] at this; cases this
    | some r1 => rw [q] at this; exact ⟨r1, rfl, this⟩
  · cases h
/-- which classes a clause takes -/
def mtc (tb : List (Addr × Bool)) : Value → Option Bool
  | .ref C => tb.lookup C
  | _ => none
noncomputable def tryS (tb : List (Addr × Bool)) (i : Nat) (b : Ev → Option Fl) (sm : Addr → Option Addr → Value → Ev → Option Fl) (ρ : Ev) : Option Fl := (b ρ).bind fun r => match r with
  | .ex x ρ1 => (mtc tb x.cls).bind fun t => if t = true then suiteS i sm x ρ1 else some (.ex x ρ1)
  | r => some r
section
variable {X : Cx} {W : WX} {J : List Nat} {x n : Str} {c : Value} {i : Nat} {body suite : List Stmt} {b₀ : Stmt} {np pos pos' : Pos} {b : Ev → Option Fl} {sm : Addr → Option Addr → Value → Ev → Option Fl} {tb : List (Addr × Bool)}
theorem exR_dv {K : PySem.W.Frag} {M : Hp} {y : Exn} {cls : Value} {d : Option Addr} (h : ExR K M y cls d) (a : Addr) : cls = y.cls ∧ ∃ da, d = exnA da y ∧ Dv K M (.ref a) (exnD a da y) := by
  obtain ⟨h1, h2⟩ := h
  refine ⟨h1, ?_⟩
  rcases h2 with ⟨e1, e2⟩ | ⟨ks, ds, da, fvs, e1, e2, hm, hk, hd⟩
  · exact ⟨(0 : Nat), by unfold exnA; rw [e1, e2]; rfl, by unfold exnD; rw [e1]; exact .exn0⟩
  · exact ⟨da, by unfold exnA; rw [e1, e2]; rfl, by unfold exnD; rw [e1]; exact .exn1 hm hk hd⟩
theorem sTryAs (hs : X.stack = X.env :: X.outer) (hf : X.env.frame = some X.env.locals) (hN : X.N.Nodup) (hc : Names X x c) (tk : Takes X W) (hm : ∀ C t, tb.lookup C = some t → PySem.W.exmOne X.K (.ref C) c = some t)
    (hb : ∀ (W : WX) (pn : List (Addr × Obj)) (xe : Value → Shared → Prop), Takes (X.tr pn xe) W → PassesOwn (model X.prog X.w) X.A X.env xe → PSs (X.tr pn xe) body (tS X.K W J b))
    (hsu : ∀ (a : Addr) (oe : Obj) (cls : Value) (d : Option Addr) (pn : List (Addr × Obj)), Zc cls d oe → (∃ vs, oe.data = .fields vs) → PSs (X.suite a ((a, oe) :: pn)) (b₀ :: suite) (tS X.K W0 J (sm a d cls)))
    (hJ : i ∉ J := by decide) (hi : X.N[i]? = some n := by rfl) (hln : X.env.kindOf n = some .local := by rfl) :
    PS X (.Try body [.ExceptHandler (some (.Name x np)) (some n) (b₀ :: suite) pos'] [] [] pos) (tS X.K W J (tryS tb i b sm)) :=
  PS.imp (ps_try_as (i := i) (tb := fun W => tS X.K W J b) (ts := fun a cls d => tS X.K W0 J (sm a d cls)) hs hf hN hi hln hc tk hb hsu) fun E σ H ⟨M, ρ, fo, fv, r, σ0, R, l, e, k⟩ => by
    unfold tryS at e
    cases q : b ρ with
    | none => rw [q] at e; cases e
    | some r1 =>
      rw [q, Option.bind_some] at e
      refine ⟨M, ρ, fo, fv, r1, σ0, R, l, q, ?_⟩
      cases r1 with
      | nx ρ1 => cases e; exact k
      | rt o ρ1 => cases e; exact k
      | bk ρ1 => cases e; exact k
      | ct ρ1 => cases e; exact k
      | ex y ρ1 =>
        intro M1 H1 σ1 cls d s1 R1 l1 ex
        have e : ((mtc tb y.cls).bind fun t => if t = true then suiteS i sm y ρ1 else some (.ex y ρ1)) = some r := e
        cases qm : mtc tb y.cls with
        | none => rw [qm] at e; cases e
        | some t =>
          rw [qm, Option.bind_some] at e
          have hcls := ex.1
          have ht : PySem.W.exmOne X.K cls c = some t := by
            rw [hcls]
            unfold mtc at qm
            split at qm
            · rename_i C hC
              rw [hC]; exact hm C t qm
            · cases qm
          refine ⟨t, ht, fun tt a ha => ?_, fun tf => ?_⟩
          · subst tt
            rw [if_pos rfl] at e
            obtain ⟨_, da, ed, dv⟩ := exR_dv ex a
            obtain ⟨r2, e4, e3⟩ := suiteS_some e a da
            rw [← ed, ← hcls] at e4
            refine ⟨M1, ρ1.set i (.dat (exnD a da y)), fo, fv, r2, σ0, R1.setD l1.1 dv, l1.set hJ _ _, e4, ?_⟩
            cases r2 with
            | nx ρ2 =>
              cases e3
              exact fun M2 H2 σ2 s2 R2 l2 => k M2 H2 _ (s1.trans s2) (R2.setU l2.1 none) (l2.set hJ _ _)
            | bk ρ2 =>
              cases e3
              exact fun M2 H2 σ2 s2 R2 l2 => k M2 H2 _ (s1.trans s2) (R2.setU l2.1 none) (l2.set hJ _ _)
            | ct ρ2 =>
              cases e3
              exact fun M2 H2 σ2 s2 R2 l2 => k M2 H2 _ (s1.trans s2) (R2.setU l2.1 none) (l2.set hJ _ _)
            | rt o ρ2 =>
              cases e3
              intro M2 H2 σ2 v s2 R2 l2
              have hσ : σ2.set i (σ2.getD i none) = σ2 := by
                by_cases hi : i < σ2.length
                · rw [List.getD_eq_getElem?_getD, List.getElem?_eq_getElem hi, Option.getD_some, List.set_getElem_self]
                · exact List.set_eq_of_length_le (by omega)
              have R3 := R2.setU l2.1 (i := i) (σ2.getD i none)
              have l3 := l2.set hJ (σ2.getD i none) .unk
              rw [hσ] at R3 l3
              exact k M2 H2 σ2 v (s1.trans s2) R3 l3
            | ex _ _ => cases e3
          · subst tf
            rw [if_neg Bool.false_ne_true] at e
            cases e
            exact k M1 H1 σ1 cls d s1 R1 l1 ex
end

/-! ### what a suite asks of the exception -/
def fldE (a : Addr) (d : Option Addr) (cls : Value) (cs : List Addr) (f : Str) (x : D) : Option D := match x, cls with
  | .exn a' d' _ ks vs, .ref C => if a' = a ∧ d' = d ∧ C ∈ cs then (ks.zip vs).lookup f else none
  | _, _ => none
def isiE (a : Addr) (cls : Value) (tb : List (Addr × Bool)) (x : D) : Option D := match x, cls with
  | .exn a' _ _ _ _, .ref C => if a' = a then (tb.lookup C).map .bl else none
  | _, _ => none
theorem look_dvs {K : PySem.W.Frag} {M : Hp} {f : Str} : ∀ {fs : List (Str × V)} {ds : List D} {d : D}, Dvs K M (fs.map (·.2)) ds → ((fs.map (·.1)).zip ds).lookup f = some d → ∃ v, fs.lookup f = some v ∧ Dv K M v d
  | [], [], _, .nil, e => by cases e
  | (k, v) :: fs, d0 :: ds, d, .cons h hs, e => by
    simp only [List.map_cons, List.zip_cons_cons, List.lookup_cons] at e ⊢
    cases q : f == k with
    | true =>
      simp only [q] at e ⊢
      cases e
      exact ⟨v, rfl, h⟩
    | false =>
      simp only [q] at e ⊢
      exact look_dvs hs e
section
variable {X : Cx} {a : Addr} {oe : Obj} {cls : Value} {d : Option Addr} {pn : List (Addr × Obj)} {pos p q : Pos} {e : Expr} {fa : Ev → Option D}
theorem pNever {K : PySem.W.Frag} {Y : Cx} {f : Ev → Option D} (h : ∀ ρ, f ρ = none) : PE Y e (tP K f) := ⟨fun p s σ H Q I ⟨M, ρ, fo, fv, d, R, l, e, k⟩ => by rw [h ρ] at e; cases e⟩
theorem pFldX {cs : List Addr} {f : Str} (hcs : ∀ C ∈ cs, XfC X.K C ∧ PySem.W.findIn X.K (.ref C) f = some none) (hz : Zc cls d oe) (hf : ∃ vs, oe.data = .fields vs) (he : PE (X.suite a ((a, oe) :: pn)) e (tP X.K fa)) (hb : attributeBase e f X.env (eval e X.env) = eval e X.env := by rfl) :
    PE (X.suite a ((a, oe) :: pn)) (.Attribute e f pos) (tP X.K (b1 fa (fldE a d cls cs f))) := by
  have hn : (∀ C ∈ cs, cls ≠ .ref C) → PE (X.suite a ((a, oe) :: pn)) (.Attribute e f pos) (tP X.K (b1 fa (fldE a d cls cs f))) := fun h => pNever fun ρ => by
    unfold b1
    cases fa ρ with
    | none => rfl
    | some z =>
      show fldE a d cls cs f z = none
      unfold fldE
      split
      · rename_i C
        rw [if_neg fun z => h C z.2.2 rfl]
      · rfl
  by_cases hC : ∃ C ∈ cs, cls = .ref C
  · obtain ⟨C, hm, hcl⟩ := hC
    obtain ⟨T, hno⟩ := hcs C hm
    refine PE.imp (pe_xf T hno hz hf he hb) fun σ H Q ⟨M, ρ, fo, fv, d0, R, l, e, k⟩ => ?_
    obtain ⟨y, ea, eg⟩ := b1_some e
    refine ⟨M, ρ, fo, fv, y, R, l, ea, fun M1 H1 v s1 R1 dv => ?_⟩
    unfold fldE at eg
    split at eg
    · split at eg
      · rename_i hc
        obtain ⟨rfl, rfl, _⟩ := hc
        cases dv with
        | exn0 => cases eg
        | exn1 hM hk hd =>
          subst hk
          obtain ⟨v1, e1, d1⟩ := look_dvs hd eg
          exact ⟨rfl, hcl, _, _, v1, rfl, R1.same _ _ hM, e1, k M1 H1 v1 s1 R1 d1⟩
      · cases eg
    · cases eg
  · exact hn fun C hm e => hC ⟨C, hm, e⟩
/-- isinstance(e, y) -/
def rIsX (K : PySem.W.Frag) (D a : Addr) (d : Option Addr) : List V → Hp → VK → Prop := fun xs H Q => ∃ (c : V) (cv : Value) (b : Bool), xs = [.ref a, c] ∧ (∀ u, RelV c u → u = cv) ∧ (∀ dd, d = some dd → ∃ fs, H dd = some (.xd fs)) ∧ PySem.W.kitOne K (.ref D) cv = some b ∧ Q (.bl b) H
theorem call_isEX {C0 : Addr} (C : ExcC X.K C0) (hz : Zc (.ref C0) d oe) (hf : ∃ vs, oe.data = .fields vs) : CallR (X.suite a ((a, oe) :: pn)) (.builtin "isinstance") (rIsX X.K C0 a d) := by
  intro pins s σ H xs us Q I r h
  obtain ⟨c, cv, b, rfl, hcv, hdd, e, q⟩ := h
  cases r with
  | cons rx rr => cases rr with
    | cons rt rr =>
      cases rr
      cases rx
      have ec := hcv _ rt
      subst ec
      obtain ⟨hget, _⟩ := I.pin (a, oe) (List.mem_append_left _ List.mem_cons_self)
      obtain ⟨vs, hv⟩ := hf
      obtain ⟨od, J⟩ : ∃ od, PySem.W.InstAt s.heap a oe C0 od := by
        cases hd : d with
        | none =>
          refine ⟨none, hget, hz.1, by unfold PySem.W.notCls; rw [hv] <;> rfl, ?_⟩
          rw [hz.2, hd]; trivial
        | some dd =>
          obtain ⟨fs, hfs⟩ := hdd dd hd
          have hx : ObjOk X.prog X.w H s.heap dd (.xd fs) := I.hok dd _ hfs
          obtain ⟨mA, hns, hr⟩ := hx
          obtain ⟨od, ho, hl⟩ := lookIn_ns hns
          refine ⟨some od, hget, hz.1, by unfold PySem.W.notCls; rw [hv] <;> rfl, ?_⟩
          rw [hz.2, hd]; exact ho
      have hcl : (PySem.W.clsIn X.K C0).isSome = true := by
        obtain ⟨cd, hc, _⟩ := PySem.W.any_some C.hd
        rw [hc]; rfl
      exact PySem.W.kia_one (PySem.W.kitx_exc hcl C.hg C.hk C.hs C.ha C.hn C.ht C.hm) I.kIn J e (fun z => nomatch z) fun tk => ⟨.bl b, H, I.kept (t' := tk) fun _ _ z => z, rfl, q⟩
theorem pIsXv {cs : List (Addr × Bool)} {y : Expr} {c : V} {cv : Value} (htb : ∀ C t, cs.lookup C = some t → ExcC X.K C ∧ PySem.W.kitOne X.K (.ref C) cv = some t) (hcv : ∀ u, RelV c u → u = cv) (hz : Zc cls d oe) (hf : ∃ vs, oe.data = .fields vs) (he : PE (X.suite a ((a, oe) :: pn)) e (tP X.K fa)) (hy : PE (X.suite a ((a, oe) :: pn)) y (tC c)) (hm : X.mg "isinstance" = none)
    (hg : Gl (X.suite a ((a, oe) :: pn)) "isinstance") (hs : starEach [e, y] X.env = (false, eval e X.env) :: starEach [y] X.env) (hs2 : starEach [y] X.env = (false, eval y X.env) :: starEach [] X.env) (hpl : (backTo pos (starEach [y] X.env)).any (·.1) = false) :
    PE (X.suite a ((a, oe) :: pn)) (.Call (.Name "isinstance" p) [e, y] [] pos) (tP X.K (b1 fa (fun x => match x with | .exn a' d' c' ks vs => if d' = d then isiE a cls cs (.exn a' d' c' ks vs) else none | _ => none))) := by
  have hn : (∀ C t, cs.lookup C = some t → cls ≠ .ref C) → PE (X.suite a ((a, oe) :: pn)) (.Call (.Name "isinstance" p) [e, y] [] pos) (tP X.K (b1 fa (fun x => match x with | .exn a' d' c' ks vs => if d' = d then isiE a cls cs (.exn a' d' c' ks vs) else none | _ => none))) := fun h => pNever fun ρ => by
    unfold b1
    cases fa ρ with
    | none => rfl
    | some z =>
      rw [Option.bind_some]
      split
      · split
        · unfold isiE
          split
          · rename_i C' _
            split
            · cases q : cs.lookup C' with
              | none => rfl
              | some t => exact absurd rfl (h C' t q)
            · rfl
          · rfl
        · rfl
      · rfl
  by_cases hC : ∃ C t, cs.lookup C = some t ∧ cls = .ref C
  · obtain ⟨C0, t, hl, rfl⟩ := hC
    obtain ⟨TC, hk⟩ := htb C0 t hl
    refine PE.imp (pe_callB (call_isEX TC hz hf) hg hm (by decide +kernel) (pa_cons he (pa_cons hy pa_nil hs2) hs) (by decide) (by decide) hs hpl) fun σ H Q ⟨M, ρ, fo, fv, d0, R, l, e, k⟩ => ?_
    obtain ⟨z, ea, eg⟩ := b1_some e
    refine ⟨M, ρ, fo, fv, z, R, l, ea, fun M1 H1 v s1 R1 dv => ?_⟩
    split at eg
    · split at eg
      · rename_i hdd
        subst hdd
        unfold isiE at eg
        simp only at eg
        split at eg
        · rename_i haa
          rw [hl] at eg
          cases eg
          have hv : v = .ref a := by rw [← haa]; cases dv <;> rfl
          refine ⟨c, cv, t, by rw [hv], hcv, fun dd hdd => ?_, hk, k M1 H1 _ s1 R1 (.bl _)⟩
          cases dv with
          | exn0 => cases hdd
          | exn1 hM _ _ => cases hdd; exact ⟨_, R1.same _ _ hM⟩
        · cases eg
      · cases eg
    · cases eg
  · exact hn fun C t hl e => hC ⟨C, t, hl, e⟩
def isX (a : Addr) (d : Option Addr) (cls : Value) (cs : List (Addr × Bool)) (x : D) : Option D := match x with
  | .exn a' d' c' ks vs => if d' = d then isiE a cls cs (.exn a' d' c' ks vs) else none
  | _ => none
theorem pIsXo {cs : List (Addr × Bool)} {y : Str} {C1 : Addr} (htb : ∀ C t, cs.lookup C = some t → ExcC X.K C ∧ PySem.W.kitOne X.K (.ref C) (.ref C1) = some t) (hmC : X.mg y = some (.ref C1)) (hz : Zc cls d oe) (hf : ∃ vs, oe.data = .fields vs) (he : PE (X.suite a ((a, oe) :: pn)) e (tP X.K fa)) (hm : X.mg "isinstance" = none)
    (hg : Gl (X.suite a ((a, oe) :: pn)) "isinstance" := by rfl) (hgT : Gl (X.suite a ((a, oe) :: pn)) y := by rfl) (hd : (y == ("__debug__" : Str)) = false := by decide) (hs : starEach [e, .Name y q] X.env = (false, eval e X.env) :: starEach [.Name y q] X.env := by rfl) (hs2 : starEach [.Name y q] X.env = (false, eval (.Name y q) X.env) :: starEach [] X.env := by rfl) (hpl : (backTo pos (starEach [.Name y q] X.env)).any (·.1) = false := by rfl) :
    PE (X.suite a ((a, oe) :: pn)) (.Call (.Name "isinstance" p) [e, .Name y q] [] pos) (tP X.K (b1 fa (isX a d cls cs))) :=
  pIsXv (c := .ref C1) (cv := .ref C1) htb (fun _ r => r) hz hf he (pe_glob (v := .ref C1) hgT hmC rfl hd) hm hg hs hs2 hpl
theorem pIsXt {cs : List (Addr × Bool)} {y : Str} {T : String} (htb : ∀ C t, cs.lookup C = some t → ExcC X.K C ∧ PySem.W.kitOne X.K (.ref C) (.type T) = some t) (hmT : X.mg y = none) (hz : Zc cls d oe) (hf : ∃ vs, oe.data = .fields vs) (he : PE (X.suite a ((a, oe) :: pn)) e (tP X.K fa)) (hm : X.mg "isinstance" = none)
    (hv : bootBuiltins y = some (.type T) := by decide +kernel) (hg : Gl (X.suite a ((a, oe) :: pn)) "isinstance" := by rfl) (hgT : Gl (X.suite a ((a, oe) :: pn)) y := by rfl) (hn : y ≠ "__name__" := by decide) (hd : (y == ("__debug__" : Str)) = false := by decide) (hs : starEach [e, .Name y q] X.env = (false, eval e X.env) :: starEach [.Name y q] X.env := by rfl) (hs2 : starEach [.Name y q] X.env = (false, eval (.Name y q) X.env) :: starEach [] X.env := by rfl) (hpl : (backTo pos (starEach [.Name y q] X.env)).any (·.1) = false := by rfl) :
    PE (X.suite a ((a, oe) :: pn)) (.Call (.Name "isinstance" p) [e, .Name y q] [] pos) (tP X.K (b1 fa (isX a d cls cs))) :=
  pIsXv (c := .ty T) (cv := .type T) htb (fun _ r => r) hz hf he (pe_bltn (v := .ty T) hgT hmT hv rfl hn hd) hm hg hs hs2 hpl
end
end PD

namespace PD
open PySem PySem.Spec L2
/-- the text of an own error's __init__ -/
structure XSt (qual : Str) (st : Stmt) (fs : List Str) : Prop where
  ar : ∃ ar, ((defArgs st).posonlyargs ++ (defArgs st).args).head? = some ar ∧ ar.arg = "self"
  n1 : (defScope st).names.lookup ("super" : Str) = some .globalImplicit
  n2 : (defScope st).names.lookup ("__class__" : Str) = some .free
  n3 : (defScope st).kind = .function
  n4 : (defScope st).names.lookup ("self" : Str) = some .local
  n5 : (defScope st).isCoroutine = false
  n6 : (defScope st).isGenerator = false
  n7 : ∀ y ∈ (defScope st).names, y.2 ≠ .cell
  body : ∃ p0 p1 p2 p3 p4 p5 x j rest, defBody st = superSt p0 p1 p2 p3 p4 p5 x j :: rest ∧ SupEv qual (defScope st) p0 p1 p2 p3 p4 x j ∧ Flds rest fs
  binds : ∀ (nm : Str) (cc : Addr) (kV doc pm cd ct : Value) (an : Option Addr) (us : List Value), us.length = fs.length + 1 → bindArgs (PySem.W.fnX nm qual (defArgs st) (defBody st) (defScope st) [("__class__", cc)] .none kV doc pm an cd ct) ⟨us, []⟩ = pure ((("self" : Str) :: fs).zip us)
  loc : ∀ y ∈ fs, (defScope st).names.lookup y = some .local ∧ (y == ("__debug__" : Str)) = false
  nd : (("self" : Str) :: fs).Nodup
  few : fs.length ≤ 800
section
variable {prog : Program} {K : PySem.W.Frag} {mg : Str → Option Value} {C f cc cda D N : Addr} {fs : List Str} {qual nm cn cq : Str} {st : Stmt} {bs bm sub : List Value} {sn : List Str} {ab : Bool} {col : Option Bool} {dd an od cdd cld : Option Addr} {k0 k1 k2 k3 k5 : Option Value} {kV doc pm ct oc ccl cl : Value} {osl ccs csl : Array (Option Value)} {vs : Array Value} {file : Str} {tf : Tok} {cdD : ClassData}
theorem xcls_mk (S : XSt qual st fs) (hL : K.lookup C = some (excClassObj cn cq C N bs bm true sn sub ab col dd k0 k1 k2 k3 k5 "ValueError.__new__")) (hbm : PySem.HandSPX.refsVE bm = true) (sa : PySem.W.findIn K (.ref C) "__setattr__" = some (some (.builtin "object.__setattr__"))) (exC : PySem.W.subIn K (.ref C) (.type "BaseException") = some true) (tyC : PySem.W.typeIn K (.ref C) = some (.type "type")) (kC : PySem.W.keepIn K (.ref C) = true)
    (ve : PySem.W.subIn K (.ref C) (.type "ValueError") = some true) (hin : PySem.W.findIn K (.ref C) "__init__" = some (some (.ref f))) (hty : PySem.W.typeIn K (.ref f) = some (.type "function"))
    (lk : K.lookup f = some ⟨oc, od, .func (PySem.W.fnX nm qual (defArgs st) (defBody st) (defScope st) [("__class__", cc)] .none kV doc pm an (.ref cda) ct), osl⟩) (hcode : PySem.W.codeIn K (.ref cda) qual = true)
    (hcda : K.lookup cda = some ⟨ccl, cdd, .fields vs, ccs⟩) (hvs : vs[2]? = some (.str file tf)) (hfile : ((prog.main.file : Str) == file) = true) (hcc : K.lookup cc = some ⟨cl, cld, .cell (some (.ref D)), csl⟩) (hD : PySem.W.clsIn K D = some cdD) (hmro : PySem.W.mroIn K C (.ref D) = some true)
    (hst : PySem.W.nsIn K cStatics "thirdparty.any" = some none) (hsup : PySem.W.ks_superIn K C D "__init__" = some (some (.builtin "ValueError.__init__"))) (hno : ∀ y ∈ fs, PySem.W.findIn K (.ref C) y = some none) (sup : mg "super" = none) (top : (prog.main.scope.names.lookup ("super" : Str)).isSome = false) : XCls prog K mg C fs := by
  obtain ⟨ar, a1, a2⟩ := S.ar
  obtain ⟨p0, p1, p2, p3, p4, p5, x, j, rest, b1, b2, b3⟩ := S.body
  exact ⟨⟨⟨cn, cq, N, bs, bm, sn, sub, ab, col, dd, k0, k1, k2, k3, k5, hL, hbm⟩, sa, exC, tyC, kC⟩, ve,
    ⟨f, cc, cda, D, qual, nm, defArgs st, defBody st, defScope st, .none, kV, doc, pm, ct, oc, ccl, cl, an, od, cdd, cld, osl, ccs, csl, vs, file, tf, cdD, ar, p0, p1, p2, p3, p4, p5, x, j, rest, hin, hty, lk, hcode, a1, a2, hcda, hvs, hfile, hcc, hD, hmro, hst, hsup,
      S.n1, S.n2, S.n3, S.n4, S.n5, S.n6, S.n7, b1, b2, b3, fun us hl => S.binds _ _ _ _ _ _ _ _ us hl, fun y hy => ⟨hno y hy, S.loc y hy⟩, S.nd, S.few⟩, sup, top⟩
end
end PD
namespace PD
open PySem PySem.Spec L2
theorem tb_all {P : Addr → Bool → Prop} : ∀ {tb : List (Addr × Bool)}, (∀ p ∈ tb, P p.1 p.2) → ∀ C t, tb.lookup C = some t → P C t
  | [], _, _, _, e => by cases e
  | (k, b) :: tb, h, C, t, e => by
    rw [List.lookup_cons] at e
    cases q : C == k with
    | true =>
      rw [q] at e
      have hk : C = k := by simpa using q
      cases e
      subst hk
      exact h _ List.mem_cons_self
    | false =>
      rw [q] at e
      exact tb_all (fun p hp => h p (List.mem_cons_of_mem _ hp)) C t e
theorem fa_nil {α : Type} {P : α → Prop} : ∀ p ∈ ([] : List α), P p := fun _ h => nomatch h
theorem fa_cons {α : Type} {P : α → Prop} {a : α} {l : List α} (h : P a) (hs : ∀ p ∈ l, P p) : ∀ p ∈ a :: l, P p := fun p hp => (List.mem_cons.mp hp).elim (fun e => e ▸ h) (hs p)
end PD
namespace PD
open PySem PySem.Spec L2
section
variable {X : Cx} {k n : Nat} {f : Addr} {fd : FuncData} {ps : List Str} {x : Str} {p pos : Pos} {ga g : Ev → Option (List D)} {m : List D → Option Rz} {e : Expr} {es : List Expr} {fe : Ev → Option D}
theorem oCallXK {ks : List Str} {kws : List Keyword} {gg : List Value → List Value → List Value} (F : FnOk X.prog X.w X.K X.mg X.base (L2.CX X.prog X.w) k f fd ps (spX X.K n m)) (hr : Room k X.A) (hm : X.mg x = some (.ref f)) (hk : PySem.W.keepIn X.K (.ref f) = true) (hb : KBn X.K fd ps 0 ks gg (fun vs zs => vs ++ zs)) (hn : ks.length = n)
    (hkw : PK X kws (tAr X.K ga)) (hg : Gl X x := by rfl) (hall : (backToKw pos (keywordEach kws X.env)).all (·.1.isSome) = true := by rfl) (hks : (backToKw pos (keywordEach kws X.env)).filterMap (·.1) = ks := by rfl)
    (hdb : (x == ("__debug__" : Str)) = false := by decide)
    (hpl : ((backTo pos (starEach [] X.env)).any (·.1) || (backToKw pos (keywordEach kws X.env)).any (·.1.isNone)) = false := by rfl) :
    PE X (.Call (.Name x p) [] kws pos) (tO X.K (cX ga n m)) := PE.imp (pe_callN0 F hr hg hm hk hb passX hkw hall hks hdb hpl) fun σ H Q h => by
  obtain ⟨M, ρ, fo, fv, o, R, l, e, kk⟩ := h
  unfold cX at e
  cases q : ga ρ with
  | none => rw [q] at e; cases e
  | some ds =>
    rw [q, Option.bind_some] at e
    split at e
    · rename_i hl
      cases q2 : m ds with
      | none => rw [q2] at e; cases e
      | some r =>
        rw [q2, Option.bind_some] at e
        cases r with
        | ex _ => cases e
        | ok o' =>
          cases e
          refine ⟨M, ρ, fo, fv, ds, R, l, q, fun M1 H1 vs s1 R1 d1 => ?_⟩
          have hv : vs.length = n := by rw [d1.length]; exact hl
          exact ⟨by omega, M1, ρ ++ fo, σ ++ fv, ds, .ok o, hv, R1, d1, q2, fun M2 H2 v s2 R2 => kk M2 H2 v (s1.trans s2) (R2.swap l)⟩
    · cases e
/-! ### n.bit_length() -/
def bitsD : D → Option D
  | .int i => some (.int (Builtin.Int.intBits i : Nat))
  | _ => none
theorem pBits {apos : Pos} (he : PE X e (tP X.K fe)) (hb : attributeBase e "bit_length" X.env (eval e X.env) = eval e X.env := by rfl) (hline : (apos.endLine == pos.line) = true := by rfl) : PE X (.Call (.Attribute e "bit_length" apos) [] [] pos) (tP X.K (b1 fe bitsD)) := PE.imp (pe_bits he hb hline) fun σ H Q ⟨M, ρ, fo, fv, d, R, l, e, k⟩ => by
  obtain ⟨x, ea, eg⟩ := b1_some e
  refine ⟨M, ρ, fo, fv, x, R, l, ea, fun M1 H1 v s1 R1 d1 => ?_⟩
  cases x with
  | int i =>
    cases d1
    cases eg
    exact ⟨i, rfl, k M1 H1 _ s1 R1 (.int _)⟩
  | _ => cases eg
/-! ### [.., *xs, ..] -/
def aStar (f : Ev → Option D) (g : Ev → Option (List D)) (ρ : Ev) : Option (List D) := (f ρ).bind fun d => match d with
  | .lst xs => (g ρ).map (xs ++ ·)
  | .tup xs => (g ρ).map (xs ++ ·)
  | _ => none
theorem qStar (he : PE X e (tP X.K fe)) (hr : PA X es (tAr X.K g)) : PA X (.Starred e p :: es) (tAr X.K (aStar fe g)) := PA.imp (StX.pa_star he hr) fun σ H Q ⟨M, ρ, fo, fv, ds, R, l, e, k⟩ => by
  unfold aStar at e
  cases q : fe ρ with
  | none => rw [q] at e; cases e
  | some d =>
    rw [q, Option.bind_some] at e
    refine ⟨M, ρ, fo, fv, d, R, l, q, fun M1 H1 v s1 R1 d1 => ?_⟩
    cases q2 : g ρ with
    | none => rw [q2] at e; split at e <;> cases e
    | some es =>
      rw [q2] at e
      split at e
      · cases e
        cases d1 with
        | lst hs hd => exact ⟨_, _, rfl, .inr (seqX R1.same hs), M1, ρ, fo, fv, es, R1, l, q2, fun M2 H2 vs s2 R2 d2 => k M2 H2 _ (s1.trans s2) R2 ((hd.mono s2).append d2)⟩
      · cases e
        cases d1 with
        | tup hs hd => exact ⟨_, _, rfl, .inl (sqT_same R1.same hs), M1, ρ, fo, fv, es, R1, l, q2, fun M2 H2 vs s2 R2 d2 => k M2 H2 _ (s1.trans s2) R2 ((hd.mono s2).append d2)⟩
      · cases e
end
end PD
namespace PD
open PySem PySem.Spec L2
section
variable {X : Cx} {a b : Expr} {pos : Pos} {fa fb : Ev → Option D}
/-! ### xs + ys, a new list -/
def catO (fa fb : Ev → Option D) (ρ : Ev) : Option O := (fa ρ).bind fun x => (fb ρ).bind fun y => match x, y with
  | .lst xs, .lst ys => if xs.length + ys.length ≤ sizeLine then some (O.lst ((xs ++ ys).map .dat)) else none
  | _, _ => none
theorem oCat (ha : PE X a (tP X.K fa)) (hb : PE X b (tP X.K fb)) : PE X (.BinOp a .Add b pos) (tO X.K (catO fa fb)) := PE.imp (pe_op op_catX ha hb) fun σ H Q ⟨M, ρ, fo, fv, o, R, l, e, k⟩ => by
  unfold catO at e
  cases q : fa ρ with
  | none => rw [q] at e; cases e
  | some x =>
    rw [q, Option.bind_some] at e
    cases q2 : fb ρ with
    | none => rw [q2] at e; cases e
    | some y =>
      rw [q2, Option.bind_some] at e
      refine ⟨M, ρ, fo, fv, x, R, l, q, fun M1 H1 v1 s1 R1 d1 => ⟨M1, ρ, fo, fv, y, R1, l, q2, fun M2 H2 v2 s2 R2 d2 => ?_⟩⟩
      split at e
      · rename_i xs ys
        split at e
        · rename_i hz
          cases e
          have d1' := d1.mono s2
          cases d1' with
          | @lst l1 ws _ h1 g1 =>
            cases d2 with
            | @lst b1 zs _ h2 g2 =>
              refine ⟨l1, b1, ws, zs, rfl, rfl, sqX_same R2.same h1, sqX_same R2.same h2, by rw [g1.length, g2.length]; exact hz, fun p hp => ?_⟩
              exact k M2 _ _ (s1.trans s2) (R2.newL l hp (g1.append g2))
        · cases e
      · cases e
end
end PD
namespace PD
open PySem PySem.Spec L2
section
variable {X : Cx} {o e : Expr} {apos pos : Pos} {fa fb : Ev → Option D}
/-! ### xs.index(n), ints -/
def indexD (x y : D) : Option D := match x, y with
  | .lst ds, .int n => (intsD ds).bind fun ns => if n ∈ ns then some (.int (ns.idxOf n : Nat)) else none
  | _, _ => none
theorem idxOf_ahead {n : Int} : ∀ {ns : List Int} {m : Nat} {z : Int}, m < ns.idxOf n → ns[m]? = some z → z ≠ n
  | [], _, _, h, e => by simp at e
  | x :: ns, m, z, h, e => by
    rw [List.idxOf_cons] at h
    cases q : x == n with
    | true => rw [q] at h; simp at h
    | false =>
      rw [q] at h
      cases m with
      | zero => simp at e; subst e; simpa using q
      | succ m => exact idxOf_ahead (ns := ns) (m := m) (by simpa using h) (by simpa using e)
theorem pIndex (ho : PE X o (tP X.K fa)) (he : PE X e (tP X.K fb)) (hbase : attributeBase o "index" X.env (eval o X.env) = eval o X.env := by rfl)
    (hfew : ((backTo pos (starEach [e] X.env)).all (fun x => !x.1) && (backToKw pos (keywordEach [] X.env)).all (fun x => x.1.isSome)
      && decide ([e].length + ([] : List Keyword).length + (if ([] : List Keyword).isEmpty then 0 else 1) < 30)) = true := by rfl)
    (hline : (apos.endLine == pos.line) = true := by rfl) (hs : starEach [e] X.env = (false, eval e X.env) :: starEach [] X.env := by rfl) (hplain : (backTo pos (starEach [] X.env)).any (·.1) = false := by rfl) :
    PE X (.Call (.Attribute o "index" apos) [e] [] pos) (tP X.K (b2 fa fb indexD)) :=
  PE.imp (pe_bm PySem.F.plainAttrs_list PySem.F.slot_list_index PySem.F.type_list_index mt_index ho (pa_cons he pa_nil hs) hbase hfew hline hs hplain) fun σ H Q ⟨M, ρ, fo, fv, d, R, l, e, k⟩ => by
    obtain ⟨x, y, ea, eb, eg⟩ := b2_some e
    unfold indexD at eg
    split at eg
    · rename_i ds n
      cases qn : intsD ds with
      | none => rw [qn] at eg; cases eg
      | some ns =>
        rw [qn, Option.bind_some] at eg
        split at eg
        · rename_i hin
          cases eg
          refine ⟨M, ρ, fo, fv, _, R, l, ea, fun M1 H1 v1 s1 R1 d1 => ?_⟩
          cases d1 with
          | lst hs hd =>
            have hv := intsD_vs qn hd
            subst hv
            refine ⟨.inl ⟨rfl, _, seqX R1.same hs⟩, M1, ρ, fo, fv, _, R1, l, eb, fun M2 H2 v2 s2 R2 d2 => ?_⟩
            cases d2
            refine ⟨_, _, _, ns.idxOf n, .int n, rfl, rfl, seqX (s2.trans R2.same) hs, rfl, ?_, ?_, ?_, fun m z hm hz => ?_, k M2 H2 _ (s1.trans s2) R2 (.int _)⟩
            · rw [List.all_eq_true]
              intro v hv
              obtain ⟨i, _, rfl⟩ := List.mem_map.mp hv
              rfl
            · rw [List.getElem?_map, List.getElem?_eq_getElem (List.idxOf_lt_length_of_mem hin), List.getElem_idxOf]; rfl
            · show (n == n) = true
              simp
            · rw [List.getElem?_map] at hz
              obtain ⟨i, hi, rfl⟩ := Option.map_eq_some_iff.mp hz
              have := idxOf_ahead hm hi
              show (i == n) = false
              simpa using this
        · cases eg
    · cases eg
end
end PD
namespace PD
open PySem PySem.Spec L2
section
variable {X : Cx} {W : WX} {J : List Nat} {a b : Expr} {pos px py pt pt2 : Pos} {ga : Ev → Option (List D)} {i j kt k2 : Nat} {x y : Str}
/-! ### a, b = e, f -/
def parS (i j : Nat) (ga : Ev → Option (List D)) (ρ : Ev) : Option Fl := (ga ρ).bind fun ds => match ds with
  | [d, e] => some (.nx ((ρ.set i (.dat d)).set j (.dat e)))
  | _ => none
theorem sPar (hc : X.calm = true) (hN : X.N.Nodup) (ha : PA X [a, b] (tAr X.K ga)) (hJ : i ∉ J := by decide) (hJ2 : j ∉ J := by decide) (hi : X.N[i]? = some x := by rfl) (hj : X.N[j]? = some y := by rfl) (hij : i ≠ j := by decide) (hx : X.env.scope.names.lookup x = some .local := by rfl) (hy : X.env.scope.names.lookup y = some .local := by rfl)
    (hw : swappedStores [.Tuple [.Name x px, .Name y py] kt pt] (.Tuple [a, b] k2 pt2) X.env = pure (some [x, y]) := by rfl) : PS X (.Assign [.Tuple [.Name x px, .Name y py] kt pt] (.Tuple [a, b] k2 pt2) pos) (tS X.K W J (parS i j ga)) :=
  PS.imp (ps_par (i := i) (j := j) hc hN hi hj hij hx hy ha hw) fun E σ H ⟨M, ρ, fo, fv, r, σ0, R, l, e, k⟩ => by
    unfold parS at e
    cases q : ga ρ with
    | none => rw [q] at e; cases e
    | some ds =>
      rw [q, Option.bind_some] at e
      split at e
      · rename_i d1 d2
        cases e
        refine ⟨M, ρ, fo, fv, _, R, l.1, q, fun M1 H1 vs s1 R1 dv => ?_⟩
        cases dv with
        | cons h1 hs =>
          cases hs with
          | cons h2 hn =>
            cases hn
            rename_i v1 v2
            exact ⟨v1, v2, rfl, k M1 H1 _ s1 ((R1.setD l.1 h1).setD (by simp [l.1]) h2) ((l.set hJ _ _).set hJ2 _ _)⟩
      · cases e
end
end PD
namespace PD
open PySem PySem.Spec L2
theorem vwO_of {K : PySem.W.Frag} {f : Ev → Option O} {σ : L2.St} {H : Hp} {Q : VK} (h : tO K (vwO f) σ H Q) : tO K f σ H Q := by
  obtain ⟨M, ρ, fo, fv, d, R, l, e, k⟩ := h
  obtain ⟨e1, im⟩ := vwO_some e
  obtain ⟨Ma, s1, R1, _, back, _⟩ := R.look l
  refine ⟨Ma, ρ.map O.vw, [], [], _, R1, by simpa using l, e1, fun M2 H2 v s2 R2 => ?_⟩
  obtain ⟨M3, s3, R3⟩ := back M2 H2 _ _ s2 R2 im
  exact k M3 H2 v s3 R3
section
variable {X : Cx} {W : WX} {J : List Nat} {pos : Pos} {tg iter elt : Expr} {ifs : List Expr} {scope : Scope} {own : List (Str × Nat)} {fi : Ev → Option (List D)} {is kn : List Nat} {g : D → Ev → Option Ev} {t : Ev → Option Bool} {f : Ev → Option D}
/-- y = [..] on one line, own things looked at -/
theorem sLcVw {i : Nat} {y : Str} {py spos : Pos} (own : List (Str × Nat)) (hc : X.calm = true) (hN : X.N.Nodup) (hi : PI X tg iter (tI X.K kn fi)) (bo : BlkOk X.N X.env.scope scope own)
    (hg : ∀ (s : Shared) (H : Hp) (C : Addr) (cl : List (Str × Addr)) (fp : List Addr), PG (X.blk s H scope (compEnvC scope cl C X.env) fp) tg (tG X.K is g)) (ht : ∀ (s : Shared) (H : Hp) (C : Addr) (cl : List (Str × Addr)) (fp : List Addr), PTs (X.blk s H scope (compEnvC scope cl C X.env) fp) ifs (tT X.K t))
    (he : ∀ (s : Shared) (H : Hp) (C : Addr) (cl : List (Str × Addr)) (fp : List Addr), PE (X.blk s H scope (compEnvC scope cl C X.env) fp) elt (tP X.K f)) (ok : TgOk is g) (hJ : i ∉ J := by decide) (hy : X.N[i]? = some y := by rfl) (hyl : X.env.scope.names.lookup y = some .local := by rfl)
    (hsw : swapsWith (.ListComp elt [⟨tg, iter, ifs, 0⟩] scope pos) (some (.Name y py)) spos.line X.env = pure true := by exact sw_true rfl rfl rfl (by decide +kernel)) (hv : ∀ i ∈ is, i ∈ own.map (·.2) := by decide) (hkn : ∀ ρ ds, fi ρ = some ds → ∀ k ∈ kn, k < ρ.length := by intro _ _ _ _ hk; cases hk) (hkv : ∀ k ∈ kn, k ∉ own.map (·.2) := by decide) (hs : ∀ x, foldedSetIterable iter X.env x = pure x := by intro _; rfl) :
    PS X (.Assign [.Name y py] (.ListComp elt [⟨tg, iter, ifs, 0⟩] scope pos) spos) (tS X.K W J (stO i (vwO (lcO fi g t f (own.map (·.2)))))) :=
  sAsgO (PS.imp (ps_setLc (i := i) hc hN hy hyl hsw hi bo hg ht he hs) fun E σ H h => lc_of ok hv hkn hkv (vwO_of h)) hJ
end
end PD

namespace PD
open PySem PySem.Spec L2
/-! ### dict(d): a copy of one's own -/
def dictO : List D → Option O
  | [.dic ks ds] => some (.dic ks (ds.map .dat))
  | _ => none
theorem Rep.newDK {K : PySem.W.Frag} {M H : Hp} {l r : List O} {lv rv : List (Option V)} (R : Rep K M H (l ++ r) (lv ++ rv)) (e : lv.length = l.length) {p : Addr} (hp : H p = none) {kvs : List (Key × V)} {ds : List D} (d : Dvs K M (kvs.map (·.2)) ds) :
    Rep K M (upd H p (.dK kvs)) (l ++ .dic (kvs.map (·.1)) (ds.map .dat) :: r) (lv ++ some (.ref p) :: rv) := by
  obtain ⟨s, fp, w, nd, nm⟩ := R
  have pn : p ∉ fp := fun z => w.dom p z hp
  have w' : Ows K M (upd H p (.dK kvs)) (l ++ r) (lv ++ rv) fp := w.frame (Same.refl _) fun a ha => upd_ne fun z => pn (z ▸ ha)
  obtain ⟨fa, fb, e1, wa, wb⟩ := w'.split e
  subst e1
  refine ⟨fun b u q => ?_, fa ++ ([p] ++ fb), wa.append (.cons (.dic upd_same rfl (by have := ows_dat (H := upd H p (.dK kvs)) d; rw [List.map_map] at this; exact this)) wb), ?_, fun a ha => ?_⟩
  · have q' := s b u q
    rw [upd_ne (ne_of_none q' hp)]; exact q'
  · rw [List.nodup_append] at nd ⊢
    obtain ⟨n1, n2, n3⟩ := nd
    refine ⟨n1, List.nodup_cons.mpr ⟨fun z => pn (List.mem_append_right _ z), n2⟩, fun a ha b hb => ?_⟩
    rcases List.mem_cons.mp hb with rfl | hb
    · exact fun z => pn (z ▸ List.mem_append_left _ ha)
    · exact n3 a ha b hb
  · rcases List.mem_append.mp ha with ha | ha
    · exact nm a (List.mem_append_left _ ha)
    · rcases List.mem_cons.mp ha with rfl | ha
      · cases q : M a with
        | none => rfl
        | some u => have := s a u q; rw [hp] at this; cases this
      · exact nm a (List.mem_append_right _ ha)
section
variable {X : Cx}
theorem cDict : CallR X (.type "dict") (rOs X.K dictO) := by
  intro pins s σ H vs us Q I r h
  obtain ⟨M, fo, fv, ds, o, R, dv, e, k⟩ := h
  unfold dictO at e
  split at e
  · cases e
    cases dv with
    | cons d1 dn =>
      cases dn
      cases d1 with
      | dic hM hk hd =>
        rw [Vals.ref1 r]
        refine d_copyOf I (Rd.up R.same hM) fun p s' hp I' => ⟨.ref p, _, I', rfl, ?_⟩
        subst hk
        exact k M _ _ (Same.refl _) (Rep.newDK (l := []) (lv := []) R rfl hp hd)
  · cases e
end
end PD

namespace PD
open PySem PySem.Spec L2
/-! ### for k in d: the data dict in slot i is locked while the loop runs -/
def keyO : Key → D
  | .inl i => .int i
  | .inr x => .str x
theorem keyO_dv {K : PySem.W.Frag} {M : Hp} (k : Key) : Dv K M (kV k) (keyO k) := by
  cases k with
  | inl i => exact .int i
  | inr x => exact .str x
def keysOf (i : Nat) (ρ : Ev) : Option (List D) := match ρ[i]? with
  | some (.dat (.dic ks _)) => some (ks.map keyO)
  | _ => none
structure LkTo (d : Addr) (kvs : List (Key × V)) (M M' : Hp) : Prop where
  ne : ∀ b, b ≠ d → M' b = M b
  l : Rd M d (.dK kvs)
  r : Rd M' d (.dK kvs)
theorem Rd.det {M : Hp} {a : Addr} {u v : HO} (h : Rd M a u) (h' : Rd M a v) (hu : ∀ o w, u ≠ .frz o w) (hv : ∀ o w, v ≠ .frz o w) : u = v := by
  rcases h with h | ⟨o, h⟩ <;> rcases h' with h' | ⟨o', h'⟩ <;> rw [h] at h' <;> cases h'
  · rfl
  · exact absurd rfl (hu _ _)
  · exact absurd rfl (hv _ _)
  · rfl
section
variable {K : PySem.W.Frag} {M M' H : Hp} {d : Addr} {kvs : List (Key × V)}
theorem LkTo.rd (h : LkTo d kvs M M') {a : Addr} {u : HO} (e : Rd M a u) (hu : ∀ o w, u ≠ .frz o w) : Rd M' a u := by
  by_cases z : a = d
  · subst z
    rw [Rd.det e h.l hu (fun _ _ z => nomatch z)]; exact h.r
  · unfold Rd; rw [h.ne a z]; exact e
theorem LkTo.eq (h : LkTo d kvs M M') {a : Addr} {u : HO} (e : M a = some u) (h1 : ∀ kvs, u ≠ .dK kvs) (h2 : ∀ o w, u ≠ .frz o w) : M' a = some u := by
  by_cases z : a = d
  · subst z
    rcases h.l with q | ⟨o, q⟩ <;> rw [e] at q <;> cases q
    · exact absurd rfl (h1 _)
    · exact absurd rfl (h2 _ _)
  · rw [h.ne a z]; exact e
theorem LkTo.sqx (h : LkTo d kvs M M') {a : Addr} {xs : List V} (e : SqX K M a xs) : SqX K M' a xs := by
  rcases e with e | e
  · exact .inl (h.rd e fun _ _ z => nomatch z)
  · exact .inr e
theorem LkTo.sqt (h : LkTo d kvs M M') {a : Addr} {xs : List V} (e : SqT K M a xs) : SqT K M' a xs := by
  rcases e with e | e
  · exact .inl (h.rd (u := .tup xs) e fun _ _ z => nomatch z)
  · exact .inr e
mutual
theorem Dv.relock (h : LkTo d kvs M M') : ∀ {v : V} {x : D}, Dv K M v x → Dv K M' v x
  | _, _, .non => .non
  | _, _, .bl b => .bl b
  | _, _, .int i => .int i
  | _, _, .str x => .str x
  | _, _, .lst q hs => .lst (h.sqx q) (Dvs.relock h hs)
  | _, _, .tup q hs => .tup (h.sqt q) (Dvs.relock h hs)
  | _, _, .dic q e hs => .dic (h.rd q fun _ _ z => nomatch z) e (Dvs.relock h hs)
  | _, _, .obj q q2 e hs => .obj (h.eq q (fun _ z => nomatch z) fun _ _ z => nomatch z) (h.eq q2 (fun _ z => nomatch z) fun _ _ z => nomatch z) e (Dvs.relock h hs)
  | _, _, .exn0 => .exn0
  | _, _, .exn1 q e hs => .exn1 (h.eq q (fun _ z => nomatch z) fun _ _ z => nomatch z) e (Dvs.relock h hs)
theorem Dvs.relock (h : LkTo d kvs M M') : ∀ {vs : List V} {ds : List D}, Dvs K M vs ds → Dvs K M' vs ds
  | _, _, .nil => .nil
  | _, _, .cons q hs => .cons (Dv.relock h q) (Dvs.relock h hs)
end
mutual
theorem Ow.relock (h : LkTo d kvs M M') : ∀ {o : O} {v : Option V} {fp : List Addr}, Ow K M H o v fp → Ow K M' H o v fp
  | _, _, _, .unk => .unk
  | _, _, _, .dat q => .dat (q.relock h)
  | _, _, _, .lst q hs => .lst q (Ows.relock h hs)
  | _, _, _, .tup q hs => .tup (h.eq q (fun _ z => nomatch z) fun _ _ z => nomatch z) (Ows.relock h hs)
  | _, _, _, .dic q e hs => .dic q e (Ows.relock h hs)
  | _, _, _, .obj q q2 e hs => .obj q q2 e (Ows.relock h hs)
theorem Ows.relock (h : LkTo d kvs M M') : ∀ {os : List O} {vs : List (Option V)} {fp : List Addr}, Ows K M H os vs fp → Ows K M' H os vs fp
  | _, _, _, .nil => .nil
  | _, _, _, .cons q hs => .cons (Ow.relock h q) (Ows.relock h hs)
end
/-- the whole state, locked or unlocked at d -/
theorem Rep.relock {os : List O} {vs : List (Option V)} {u u' : HO} (R : Rep K M H os vs) (hu : M d = some u) (h : LkTo d kvs M (upd M d u')) : Rep K (upd M d u') (upd H d u') os vs := by
  obtain ⟨s, fp, w, nd, nm⟩ := R
  have hd : d ∉ fp := fun z => by rw [nm d z] at hu; cases hu
  refine ⟨fun b q e => ?_, fp, (w.relock h).frame (Same.refl _) fun a ha => upd_ne fun z => hd (z ▸ ha), nd, fun a ha => ?_⟩
  · by_cases z : b = d
    · subst z; rw [upd_same] at e ⊢; exact e
    · rw [upd_ne z] at e ⊢; exact s b q e
  · rw [upd_ne (fun z : a = d => hd (by rw [← z]; exact ha))]; exact nm a ha
end
theorem PS.or {X : Cx} {e : Stmt} {t t' : TS} (h : PS X e t) (h' : PS X e t') : PS X e (fun E σ H => t E σ H ∨ t' E σ H) := ⟨fun p s σ H D I w => w.elim (h.run p s σ H D I) (h'.run p s σ H D I)⟩
theorem yld_keys {K : PySem.W.Frag} {M : Hp} {a : Addr} {o : Obj} {kvs : List (Key × V)} (h : M a = some (.frz o (.dK kvs))) : Yld K M [] (Itk a o kvs) ((kvs.map (·.1)).map keyO) := fun i M1 H os vs s1 R _ => by
  have q : H a = some (.frz o (.dK kvs)) := R.same _ _ (s1 _ _ h)
  have hl : ((kvs.map (·.1)).map keyO).length = kvs.length := by simp
  refine ⟨fun hi => ⟨q, by omega⟩, fun hi => ⟨q, by omega⟩, fun e he x H' y => ?_⟩
  obtain ⟨rfl, k, v, e1, rfl⟩ := y
  rw [List.getElem?_map, List.getElem?_map, e1] at he
  cases he
  exact ⟨M1, Same.refl _, R, keyO_dv k⟩
section
variable {X : Cx} {W : WX} {J : List Nat} {pos p : Pos} {tg : Expr} {i : Nat} {x : Str}
/-- the name's own value -/
def tSl (i : Nat) : TE := fun σ H Q => ∃ v, σ[i]? = some (some v) ∧ Q v H
def tIL (K : PySem.W.Frag) (i : Nat) : TI := fun σ H R => ∃ M ρ fo fv a o kvs, Rep K M H (ρ ++ fo) (σ ++ fv) ∧ σ.length = ρ.length ∧ σ[i]? = some (some (.ref a)) ∧ M a = some (.frz o (.dK kvs)) ∧
  ∀ J, Yld K M [] J ((kvs.map (·.1)).map keyO) → R J H
theorem iKeysL {e : Expr} (h : PE X e (tSl i)) : PI X tg e (tIL X.K i) := PI.imp (pi_keys h) fun σ H R ⟨M, ρ, fo, fv, a, o, kvs, R0, l, es, hM, k⟩ => ⟨_, es, a, o, rfl, .inl ⟨kvs, R0.same _ _ hM, k _ (yld_keys hM)⟩⟩
/-- the loop, the dict being locked -/
def tSL (K : PySem.W.Frag) (W : WX) (J : List Nat) (i : Nat) (gg : D → Ev → Option Ev) (b : Ev → Option Fl) : TS := fun E σ H => ∃ M ρ fo fv r σ0 a o kvs, Rep K M H (ρ ++ fo) (σ ++ fv) ∧ Lk J σ0 σ ρ ∧ σ[i]? = some (some (.ref a)) ∧ M a = some (.frz o (.dK kvs)) ∧
  loop gg b ((kvs.map (·.1)).map keyO) ρ = some r ∧ ends K W J σ0 M fo fv E r
theorem sForL {iter : Expr} {body : List Stmt} {is : List Nat} {g : D → Ev → Option Ev} {b : Ev → Option Fl} (hp : PassesOwn (model X.prog X.w) X.A X.env X.xe) (hc : X.calm = true) (hi : PI X tg iter (tIL X.K i)) (hg : PG X tg (tG X.K is g)) (hb : PSs X body (tS X.K W J b)) (hJ : ∀ i ∈ is, i ∉ J := by decide)
    (hs : ∀ x, foldedSetIterable iter X.env x = pure x := by intro _; rfl) : PS X (.For tg iter body [] pos) (tSL X.K W J i g b) := PS.imp (ps_for hp hc hi hg hb hs) fun E σ H ⟨M, ρ, fo, fv, r, σ0, a, o, kvs, R, l, es, hM, e, k⟩ => by
  obtain ⟨ds, hds⟩ : ∃ ds, (kvs.map (·.1)).map keyO = ds := ⟨_, rfl⟩
  rw [hds] at e
  have s0 : Same M M := Same.refl _
  refine ⟨M, ρ, fo, fv, a, o, kvs, R, l.1, es, hM, fun JJ y => ?_⟩
  rw [hds] at y
  refine ⟨fun i m σ H => m = ds.length - i ∧ i ≤ ds.length ∧ ∃ M1 ρ1, Same M M1 ∧ Rep X.K M1 H (ρ1 ++ fo) (σ ++ fv) ∧ Lk J σ0 σ ρ1 ∧ loop g b (ds.drop i) ρ1 = some r, ⟨ds.length, by omega, Nat.zero_le _, M, ρ, Same.refl _, R, l, by simpa using e⟩, ?_⟩
  rintro i m σ H ⟨rfl, hi, M1, ρ1, s1, R1, l1, e1⟩
  obtain ⟨go, stop, yl⟩ := y i M1 H _ _ s1 R1 (fun r hr => nomatch hr)
  by_cases hlt : i < ds.length
  · have ed : ds.drop i = ds[i] :: ds.drop (i + 1) := List.drop_eq_getElem_cons hlt
    rw [ed] at e1
    unfold loop at e1
    cases q1 : g ds[i] ρ1 with
    | none => rw [q1] at e1; cases e1
    | some ρ2 =>
      rw [q1, Option.bind_some] at e1
      cases q2 : b ρ2 with
      | none => rw [q2] at e1; cases e1
      | some r2 =>
        rw [q2, Option.bind_some] at e1
        refine .inr ⟨go hlt, fun σ' H' => ∃ M1 ρ1, Same M M1 ∧ Rep X.K M1 H' (ρ1 ++ fo) (σ' ++ fv) ∧ Lk J σ0 σ' ρ1 ∧ loop g b (ds.drop (i + 1)) ρ1 = some r, fun σ' H' h => ⟨ds.length - (i + 1), by omega, rfl, hlt, h⟩, fun x H' hy => ?_⟩
        obtain ⟨M2, s2, R2, d2⟩ := yl ds[i] (List.getElem?_eq_getElem hlt) x H' hy
        refine ⟨M2, ρ1, fo, fv, ds[i], ρ2, R2, l1.1, d2, q1, fun σ3 a3 l3 r3 R3 => ?_⟩
        have s02 : Same M M2 := s0.trans (s1.trans s2)
        refine ⟨M2, ρ2, fo, fv, r2, σ0, R3, l1.to l3 r3 a3 hJ, q2, ?_⟩
        cases r2 with
        | nx ρ4 => exact fun M4 H4 σ4 s4 R4 l4 => ⟨M4, ρ4, s1.trans (s2.trans s4), R4, l4, e1⟩
        | ct ρ4 => exact fun M4 H4 σ4 s4 R4 l4 => ⟨M4, ρ4, s1.trans (s2.trans s4), R4, l4, e1⟩
        | bk ρ4 => cases e1; exact fun M4 H4 σ4 s4 R4 l4 => k M4 H4 σ4 (s02.trans s4) R4 l4
        | rt o ρ4 => cases e1; exact fun M4 H4 σ4 v s4 R4 l4 => k M4 H4 σ4 v (s02.trans s4) R4 l4
        | ex x ρ4 => cases e1; exact fun M4 H4 σ4 cls d s4 R4 l4 => k M4 H4 σ4 cls d (s02.trans s4) R4 l4
  · have ei : i = ds.length := by omega
    rw [ei, List.drop_length] at e1
    cases e1
    exact .inl ⟨stop ei, k M1 H σ (s0.trans s1) R1 l1⟩

def noEx : Fl → Option Fl
  | .ex _ _ => none
  | r => some r
def forK (i : Nat) (g : D → Ev → Option Ev) (b : Ev → Option Fl) (ρ : Ev) : Option Fl := (keysOf i ρ).bind fun ds => (loop g b ds ρ).bind noEx
theorem noEx_eq {r r' : Fl} (h : noEx r = some r') : r = r' ∧ ∀ x ρ, r ≠ .ex x ρ := by
  cases r with
  | ex x ρ => cases h
  | nx ρ => cases h; exact ⟨rfl, fun _ _ z => nomatch z⟩
  | rt o ρ => cases h; exact ⟨rfl, fun _ _ z => nomatch z⟩
  | bk ρ => cases h; exact ⟨rfl, fun _ _ z => nomatch z⟩
  | ct ρ => cases h; exact ⟨rfl, fun _ _ z => nomatch z⟩
theorem sForK {iter : Expr} {body : List Stmt} {is : List Nat} {g : D → Ev → Option Ev} {b : Ev → Option Fl} (hp : PassesOwn (model X.prog X.w) X.A X.env X.xe) (hc : X.calm = true) (hn : PE X iter (tSl i)) (hg : PG X tg (tG X.K is g)) (hb : PSs X body (tS X.K W J b)) (hJ : ∀ i ∈ is, i ∉ J := by decide)
    (hs : ∀ x, foldedSetIterable iter X.env x = pure x := by intro _; rfl) : PS X (.For tg iter body [] pos) (tS X.K W J (forK i g b)) :=
  PS.imp (PS.or (sForL hp hc (iKeysL hn) hg hb hJ hs) (ps_lock (sForL hp hc (iKeysL hn) hg hb hJ hs))) fun E σ H ⟨M, ρ, fo, fv, r, σ0, R, l, e, k⟩ => by
    unfold forK at e
    cases qk : keysOf i ρ with
    | none => rw [qk] at e; cases e
    | some ds =>
      rw [qk, Option.bind_some] at e
      unfold keysOf at qk
      split at qk
      · rename_i ks vs e'
        cases qk
        cases ql : loop g b (ks.map keyO) ρ with
        | none => rw [ql] at e; cases e
        | some r1 =>
          rw [ql, Option.bind_some] at e
          obtain ⟨rfl, nx⟩ := noEx_eq e
          obtain ⟨v, ev, dv⟩ := R.slot l.1 e'
          cases dv with
          | @dic a kvs _ _ hM hk hd =>
            subst hk
            rcases hM with hM | ⟨o, hM⟩
            · refine .inr ⟨a, .dK kvs, R.same _ _ hM, trivial, fun od => ⟨upd M a (.frz od (.dK kvs)), ρ, fo, fv, r1, σ0, a, od, kvs, R.relock hM ⟨fun b hb => upd_ne hb, .inl hM, .inr ⟨od, upd_same⟩⟩, l, ev, upd_same, ql, ?_⟩⟩
              have back : ∀ {M' H' : Hp} {os : List O} {ws : List (Option V)}, Same (upd M a (.frz od (.dK kvs))) M' → Rep X.K M' H' os ws → H' a = some (.frz od (.dK kvs)) ∧ Same M (upd M' a (.dK kvs)) ∧ Rep X.K (upd M' a (.dK kvs)) (upd H' a (.dK kvs)) os ws := fun {M' H' os ws} s' R' => by
                have hm : M' a = some (.frz od (.dK kvs)) := s' _ _ upd_same
                refine ⟨R'.same _ _ hm, fun b u hb => ?_, R'.relock hm ⟨fun b hb => upd_ne hb, .inr ⟨od, hm⟩, .inl upd_same⟩⟩
                by_cases z : b = a
                · subst z; rw [hM] at hb; cases hb; exact upd_same
                · rw [upd_ne z]; exact s' _ _ (by rw [upd_ne z]; exact hb)
              cases r1 with
              | nx ρ1 => exact fun M' H' σ' s' R' l' => let ⟨a1, a2, a3⟩ := back s' R'; ⟨a1, k _ _ σ' a2 a3 l'⟩
              | bk ρ1 => exact fun M' H' σ' s' R' l' => let ⟨a1, a2, a3⟩ := back s' R'; ⟨a1, k _ _ σ' a2 a3 l'⟩
              | ct ρ1 => exact fun M' H' σ' s' R' l' => let ⟨a1, a2, a3⟩ := back s' R'; ⟨a1, k _ _ σ' a2 a3 l'⟩
              | rt o ρ1 => exact fun M' H' σ' v s' R' l' => let ⟨a1, a2, a3⟩ := back s' R'; ⟨a1, k _ _ σ' v a2 a3 l'⟩
              | ex x ρ1 => exact absurd rfl (nx _ _)
            · exact .inl ⟨M, ρ, fo, fv, r1, σ0, a, o, kvs, R, l, ev, hM, ql, k⟩
      · cases qk
theorem pSlot (i : Nat) {x : Str} {pos : Pos} (hN : X.N[i]? = some x := by rfl) (hv : Vis X.env.scope x := by first | exact Or.inl rfl | exact Or.inr (Or.inl rfl) | exact Or.inr (Or.inr rfl)) (hd : (x == ("__debug__" : Str)) = false := by decide)
    (hcd : (x == ("__classdict__" : Str)) = false := by decide) : PE X (.Name x pos) (tSl i) := pe_var hN hv hd hcd
end
end PD

namespace PD
open PySem PySem.Spec L2

/-! ### the evaluator for the newer parts -/
def immG (d : D) : Option D := if immD d = true then some d else none
def immH (o : O) : Option O := if immO o = true then some o else none
section
variable {ρ r : Ev} {fa fb : Ev → Option D} {c : Ev → Option Bool} {fo : Ev → Option O} {x y : D} {i : Nat} {o : O}
theorem ew_vwT : vwT c ρ = c (ρ.map O.vw) := nrfl rfl
theorem ew_vwI : vwI fa ρ = (fa (ρ.map O.vw)).bind immG := nrfl rfl
theorem ew_vwO : vwO fo ρ = (fo (ρ.map O.vw)).bind immH := nrfl rfl
theorem ew_immI (k : Int) : immG (.int k) = some (.int k) := nrfl rfl
theorem ew_immB (k : Bool) : immG (.bl k) = some (.bl k) := nrfl rfl
theorem ew_immS (k : Str) : immG (.str k) = some (.str k) := nrfl rfl
theorem ew_immN : immG .non = some .non := nrfl rfl
theorem ew_immT {ds : List D} (h : immDs ds = true) : immG (.tup ds) = some (.tup ds) := if_pos h
theorem ew_vwd : O.vw (.dat x) = .dat x := nrfl rfl
theorem ew_vwu : O.vw .unk = .unk := nrfl rfl
theorem ew_vwl (ds : List D) : O.vw (O.dats ds) = .dat (.lst ds) := by
  unfold O.vw
  rw [toD_dats]
theorem ew_frz : frz fo ρ = (fo ρ).bind O.toD := nrfl rfl
theorem ew_toDd : (O.dat x).toD = some x := nrfl rfl
theorem ew_toDl (ds : List D) : (O.dats ds).toD = some (.lst ds) := toD_dats ds
theorem ew_thaw : thaw fa ρ = (fa ρ).map .dat := nrfl rfl
theorem ew_stay : stay fo ρ = (fo ρ).map fun o => (o, ρ) := nrfl rfl
theorem ew_cO {f : Ev → Option (List D)} {n : Nat} {m : List D → Option O} : cO' f n m ρ = (f ρ).bind (lenO? n m) := nrfl rfl
theorem ew_mulL {i j : Int} (h : -18446744073709551616 < i ∧ i < 18446744073709551616) : mulA (.int i) (.int j) = some (.int (i * j)) := by
  unfold mulA orD
  rw [ev_mulL h]
theorem ew_mulR {i j : Int} (h : -18446744073709551616 < j ∧ j < 18446744073709551616) : mulA (.int i) (.int j) = some (.int (i * j)) := by
  unfold mulA orD
  rw [ev_mulR h]
theorem ew_div {i j : Int} (h : 0 < j ∧ j < 1073741824) : divA (.int i) (.int j) = some (.int (i / j)) := by
  unfold divA orD
  rw [ev_divI h]
theorem ew_addI (i j : Int) : addI (.int i) (.int j) = some (.int (i + j)) := nrfl rfl
theorem ew_notN0 : notN .non .non = some (.bl false) := nrfl rfl
theorem ew_notNt (l : List D) : notN (.tup l) .non = some (.bl true) := nrfl rfl
theorem ew_notNi (k : Int) : notN (.int k) .non = some (.bl true) := nrfl rfl
theorem ew_mulW {i j : Int} (h : i.natAbs.log2 + j.natAbs.log2 < 1000000) : mulA (.int i) (.int j) = some (.int (i * j)) := by
  have e : mulW (.int i) (.int j) = some (.int (i * j)) := by
    show (if decide (i.natAbs.log2 + j.natAbs.log2 < 1000000) = true then some (D.int (i * j)) else none) = _
    rw [if_pos (decide_eq_true h)]
  unfold mulA orD
  split
  · rename_i d q
    have : mulI (.int i) (.int j) = some (.int (i * j)) ∨ mulI (.int i) (.int j) = none := by
      by_cases hm : okMul i j = true
      · exact .inl (if_pos hm)
      · exact .inr (if_neg hm)
    rcases this with z | z
    · rw [z] at q; exact q.symm ▸ rfl
    · rw [z] at q; cases q
  · exact e
theorem ew_divW {i j : Int} (h : 0 < j) (h2 : j.natAbs.log2 < 9000) : divA (.int i) (.int j) = some (.int (i / j)) := by
  have e : divW (.int i) (.int j) = some (.int (i / j)) := by
    show (if decide (0 < j ∧ j.natAbs.log2 < 9000) = true then some (D.int (i / j)) else none) = _
    rw [if_pos (decide_eq_true ⟨h, h2⟩)]
  unfold divA orD
  by_cases hs : j < 1073741824
  · rw [ev_divI ⟨h, hs⟩]
  · have z : divI (.int i) (.int j) = none := by
      refine if_neg fun q => ?_
      have := of_decide_eq_true q
      omega
    rw [z]; exact e
end
def MW := And.intro (And.intro (And.intro (And.intro (@ew_vwT) (And.intro (@ew_vwI) (@ew_vwO))) (And.intro (@ew_immI) (And.intro (@ew_immB) (@ew_immS)))) (And.intro (And.intro (@ew_immN) (@ew_vwd)) (And.intro (@ew_vwu) (@ew_vwl)))) (And.intro (And.intro (And.intro (@ew_frz) (@ew_toDd)) (And.intro (@ew_toDl) (@ew_thaw))) (And.intro (And.intro (@ew_cO) (And.intro (@ew_mulL) (@ew_mulR))) (And.intro (And.intro (@ew_div) (@ew_addI)) (And.intro (@ew_notN0) (And.intro (@ew_notNt) (@ew_notNi))))))

/-! ### running the newer statements -/
section
variable {f g b : Ev → Option Fl} {ρ : Ev} {Q : Fl → Prop} {i : Nat}
theorem Rn.aug {e : Ev → Option D} {h : D → D → Option D} {x y d : D} (hx : gv i ρ = some x) (he : e ρ = some y) (hd : h x y = some d) (k : Q (.nx (ρ.set i (.dat d)))) : Rn (augV i e h) ρ Q := ⟨_, by unfold augV; rw [hx, Option.bind_some, he, Option.bind_some, hd]; rfl, k⟩
theorem Rn.sqaug {e : Ev → Option D} {h : D → D → Option D} {x y d : D} (hx : gv i ρ = some x) (he : e ρ = some y) (hd : h x y = some d) (k : Rn g (ρ.set i (.dat d)) Q) : Rn (PD.sq (augV i e h) g) ρ Q := Rn.sq (Rn.aug hx he hd k)
theorem ixN_nat {n k : Nat} (h : k < n) : ixN n (k : Int) = some k := by
  unfold ixN
  rw [if_pos (by omega), if_pos (by omega)]; simp
/-- x[k].append(y) -/
theorem Rn.appP1 {fb : Ev → Option D} {fe : Ev → Option O} {oss os : List O} {k : Nat} {y : O} (h0 : ρ[i]? = some (.lst oss)) (hb : fb (ρ.map O.vw) = some (.int k)) (hk : oss[k]? = some (.lst os)) (hf : fe (ρ.map O.vw) = some y) (im : immO y = true) (hl : os.length < 1000000)
    (q : Q (.nx (ρ.set i (.lst (oss.set k (.lst (os ++ [y]))))))) : Rn (appP i (plI i plN fb) fe) ρ Q := by
  have hk' := (List.getElem?_eq_some_iff.mp hk).1
  have e1 : plI i plN fb ρ = some [k] := by
    unfold plI plN
    rw [Option.bind_some, hb]
    simp only [onSub, h0, Option.bind_some, O.sub, ixN_nat hk', List.getD_eq_getElem?_getD, hk, Option.getD_some]
    rfl
  have e2 : onSub i [k] ρ = some (.lst os) := by
    simp only [onSub, h0, Option.bind_some, O.sub, O.kid, hk]
  refine ⟨_, ?_, q⟩
  unfold appP
  rw [e1, Option.bind_some, e2]
  simp only [vwO, hf, Option.bind_some, if_pos im]
  rw [if_pos (Nat.lt_of_lt_of_le hl (by decide)), getD_of h0]
  simp only [O.put, O.kid, hk, O.setKid]
theorem Rn.appPT {fb : Ev → Option D} {fe : Ev → Option O} {oss os : List O} {k : Nat} {y : O} (h0 : ρ[i]? = some (.tup oss)) (hb : fb (ρ.map O.vw) = some (.int k)) (hk : oss[k]? = some (.lst os)) (hf : fe (ρ.map O.vw) = some y) (im : immO y = true) (hl : os.length < 1000000)
    (q : Q (.nx (ρ.set i (.tup (oss.set k (.lst (os ++ [y]))))))) : Rn (appP i (plI i plN fb) fe) ρ Q := by
  have hk' := (List.getElem?_eq_some_iff.mp hk).1
  have e1 : plI i plN fb ρ = some [k] := by
    unfold plI plN
    rw [Option.bind_some, hb]
    simp only [onSub, h0, Option.bind_some, O.sub, ixN_nat hk', List.getD_eq_getElem?_getD, hk, Option.getD_some]
    rfl
  have e2 : onSub i [k] ρ = some (.lst os) := by
    simp only [onSub, h0, Option.bind_some, O.sub, O.kid, hk]
  refine ⟨_, ?_, q⟩
  unfold appP
  rw [e1, Option.bind_some, e2]
  simp only [vwO, hf, Option.bind_some, if_pos im]
  rw [if_pos (Nat.lt_of_lt_of_le hl (by decide)), getD_of h0]
  simp only [O.put, O.kid, hk, O.setKid]
/-- x[k] = y -/
theorem Rn.setP0 {fb : Ev → Option D} {fe : Ev → Option O} {os : List O} {k : Nat} {y : O} (h0 : ρ[i]? = some (.lst os)) (hf : fe ρ = some y) (hb : fb (ρ.map O.vw) = some (.int k)) (hk : k < os.length)
    (q : Q (.nx (ρ.set i (.lst (os.set k y))))) : Rn (setP i plN fb fe) ρ Q := by
  refine ⟨_, ?_, q⟩
  unfold setP plN
  rw [hf, Option.bind_some, Option.bind_some, hb]
  simp only [onSub, h0, Option.bind_some, O.sub, ixN_nat hk, Option.map_some, O.put]
/-- x[k] op= y -/
theorem Rn.augP0 {fb fe : Ev → Option D} {h : Int → Int → Int} {os : List O} {k : Nat} {c d : Int} (h0 : ρ[i]? = some (.lst os)) (hb : fb (ρ.map O.vw) = some (.int k)) (hk : os[k]? = some (.dat (.int d))) (hf : fe (ρ.map O.vw) = some (.int c))
    (q : Q (.nx (ρ.set i (.lst (os.set k (.dat (.int (h d c)))))))) : Rn (augP i plN fb fe h) ρ Q := by
  refine ⟨_, ?_, q⟩
  unfold augP plN
  rw [Option.bind_some, hb, hf]
  simp only [onSub, h0, Option.bind_some, O.sub]
  rw [if_pos (Int.natCast_nonneg k)]
  simp only [Int.toNat_natCast, hk, O.put]
theorem Rn.rtM {e : Ev → Option (O × Ev)} {o : O} {ρ' : Ev} (h : e ρ = some (o, ρ')) (k : Q (.rt o ρ')) : Rn (PD.rtM e) ρ Q := ⟨_, by unfold PD.rtM; rw [h]; rfl, k⟩
theorem runO_of {n : Nat} {ds : List D} {R : O → Prop} (h : Rn b (env0 n ds) fun r => ∃ o, outO r = some o ∧ R o) : ∃ o, runO n b ds = some o ∧ R o := by
  obtain ⟨r, e, o, h1, h2⟩ := h
  exact ⟨o, by unfold runO; rw [e]; exact h1, h2⟩
end
/-! ### comprehensions of own things, over typed lists -/
section
variable {ρ : Ev} {fi : Ev → Option (List D)} {gt : D → Ev → Option Ev} {t : Ev → Option Bool} {f : Ev → Option O} {vs : List Nat}
theorem compO_mapT {α : Type} {φ : α → D} {ψ : α → O} {ρw : Ev} : ∀ {xs : List α}, (∀ x ∈ xs, ∃ ρ1, gt (φ x) ρw = some ρ1 ∧ f ρ1 = some (ψ x)) → compO gt yes f ρw (xs.map φ) = some (xs.map ψ)
  | [], _ => rfl
  | x :: xs, H => by
    obtain ⟨ρ1, e1, e2⟩ := H x List.mem_cons_self
    rw [List.map_cons, List.map_cons]
    unfold compO
    rw [e1, Option.bind_some, show yes ρ1 = some true from rfl, Option.bind_some, if_pos rfl, e2, Option.bind_some, compO_mapT fun x' hx => H x' (List.mem_cons_of_mem _ hx)]
    rfl
theorem lcOO_map {α : Type} {φ : α → D} (ψ : α → O) {xs : List α} (hw : okW ρ vs = true) (hi : fi ρ = some (xs.map φ)) (hl : xs.length ≤ 1000000) (H : ∀ x ∈ xs, ∃ ρ1, gt (φ x) (wipeO ρ vs) = some ρ1 ∧ f ρ1 = some (ψ x)) : lcOO fi gt yes f vs ρ = some (.lst (xs.map ψ)) := by
  unfold lcOO
  rw [if_pos hw, hi, Option.bind_some, compO_mapT H, Option.bind_some, if_pos (by rw [List.length_map]; exact line_of hl)]
end
/-! ### own dicts of data -/
def O.dicD (ks : List Key) (ds : List D) : O := .dic ks (ds.map .dat)
theorem toD_dicD (ks : List Key) (ds : List D) : (O.dicD ks ds).toD = some (.dic ks ds) := by
  unfold O.dicD O.toD
  rw [toDs_dat]; rfl
theorem ew_vwk (ks : List Key) (ds : List D) : O.vw (O.dicD ks ds) = .dat (.dic ks ds) := by
  unfold O.vw
  rw [toD_dicD]
theorem dlook_find {α : Type} (κ : α → Key) (φ : α → D) (k : Key) : ∀ xs : List α, dlook k (xs.map κ) (xs.map φ) = (xs.find? fun x => decide (κ x = k)).map φ
  | [] => rfl
  | x :: xs => by
    rw [List.map_cons, List.map_cons, List.find?_cons]
    unfold dlook
    by_cases h : κ x = k
    · rw [if_pos h, decide_eq_true h]; rfl
    · rw [if_neg h, decide_eq_false h]; exact dlook_find κ φ k xs
theorem Rn.dputN {i : Nat} {ρ : Ev} {Q : Fl → Prop} {fk fv : Ev → Option D} {y d : D} {k : Key} {ks : List Key} {ds : List D} (h0 : ρ[i]? = some (O.dicD ks ds)) (hv : fv ρ = some d) (hy : fk ρ = some y) (hk : keyD y = some k) (hn : k ∉ ks) (hl : ds.length < 1000000)
    (q : Q (.nx (ρ.set i (O.dicD (ks ++ [k]) (ds ++ [d]))))) : Rn (dput i fk fv) ρ Q := by
  refine ⟨_, ?_, q⟩
  have e : (ks.any fun k' => decide (k' = k)) = false := by
    rw [List.any_eq_false]
    intro x hx
    simp only [decide_eq_true_eq]
    exact fun z => hn (z ▸ hx)
  unfold dput
  rw [hv, Option.bind_some, hy, Option.bind_some, hk, Option.bind_some, h0]
  simp only [O.dicD]
  rw [if_pos (by rw [List.length_map]; exact Nat.lt_of_lt_of_le hl (by decide))]
  unfold putKD
  rw [e]
  simp only [Bool.false_eq_true, if_false, List.map_append, List.map_cons, List.map_nil]
/-- a while by an invariant over things that the slots do not tell -/
theorem Rn.whileG {α : Type} {ρ : Ev} {b : Ev → Option Fl} {Q : Fl → Prop} {c : Ev → Option Bool} (μ : α → Nat) (I : α → Ev → Prop) {a0 : α} (h0 : I a0 ρ)
    (hs : ∀ a ρ, I a ρ → ∃ t, c ρ = some t ∧ (t = true → Rn b ρ fun r => match r with | .nx ρ2 => ∃ a2, I a2 ρ2 ∧ μ a2 < μ a | .ct ρ2 => ∃ a2, I a2 ρ2 ∧ μ a2 < μ a | .bk ρ2 => Q (.nx ρ2) | r => Q r) ∧ (t = false → Q (.nx ρ))) : Rn (whileS c b) ρ Q := by
  have key : ∀ (n : Nat) (a : α) (ρ : Ev), μ a < n → I a ρ → ∃ r, wl c b n ρ = some r ∧ Q r := by
    intro n
    induction n with
    | zero => intro a ρ h _; omega
    | succ n ih =>
      intro a ρ hm hi
      obtain ⟨t, ht, h1, h2⟩ := hs a ρ hi
      unfold wl
      rw [ht, Option.bind_some]
      cases t with
      | false => exact ⟨_, rfl, h2 rfl⟩
      | true =>
        obtain ⟨r, e, q⟩ := h1 rfl
        rw [if_pos rfl, e, Option.bind_some]
        cases r with
        | nx ρ2 => obtain ⟨a2, q1, q2⟩ := q; exact ih a2 ρ2 (by omega) q1
        | ct ρ2 => obtain ⟨a2, q1, q2⟩ := q; exact ih a2 ρ2 (by omega) q1
        | bk ρ2 => exact ⟨_, rfl, q⟩
        | rt o ρ2 => exact ⟨_, rfl, q⟩
        | ex x ρ2 => exact ⟨_, rfl, q⟩
  obtain ⟨r, e, q⟩ := key _ a0 ρ (Nat.lt_succ_self _) h0
  exact ⟨r, whileS_of e, q⟩
end PD

namespace PD
open PySem PySem.Spec L2
/-! ### what all laws draw with -/
noncomputable def gCell : Ev → Option Fl := (rtV (ifV (asB (b2 (gv 1) (cB (aCons (gv 0) aNil) lenD) ltI)) (cB (aCons (b2 (gv 0) (gv 1) ixD) aNil) intD) (kI 0)))
noncomputable def gRow : Ev → Option Fl := (sq (stO 2 (mkLstO aNil))
    (sq (stV 3 (b2 (cB (aCons (gv 0) aNil) intD) (kI 2147483629) modI))
    (sq (stV 4 (b2 (gv 0) (b2 (kI 10) (kI 18) powI) subI))
    (sq (forS (rng1 (gv 1)) (gN 5) (sq (stV 3 (b2 (cB (aCons (b2 (b2 (b2 (gv 3) (kI 48271) mulI) (b2 (kI 977) (gv 5) mulI) addA) (kI 12345) addA) aNil) intD) (kI 2147483647) modI))
    (sq (stV 6 (b2 (cB (aCons (b2 (b2 (b2 (gv 3) (kI 69621) mulI) (b2 (kI 31) (gv 5) mulI) addA) (kI 7) addA) aNil) intD) (kI 2147483629) modI))
    (sq (app 2 (ifV (asB (b2 (gv 0) (b2 (kI 10) (kI 18) powI) geI)) (b2 (cB (aCons (gv 4) aNil) intD) (kI 1000) modI) (b2 (cB (aCons (b2 (gv 6) (kI 4099) divI) aNil) intD) (kI 1000) modI)))
    (stV 4 (b2 (gv 4) (kI 1000) divI))))))
    (fz 2 (rtV (gv 2)))))))
theorem cell_eq (ns : List Int) (k : Nat) : runP 2 gCell [.lst (ns.map .int), .int k] = some (.int (ns.getD k 0)) := by
  refine runP_eq ?_
  unfold gCell
  by_cases h : k < ns.length
  · have e : atI (ns.map D.int) (k : Int) = some (.int (ns.getD k 0)) := atI_nat (by rw [List.getElem?_map, List.getElem?_eq_getElem h]; simp [h])
    refine Rn.ret (d := .int (ns.getD k 0)) ?_ ⟨_, rfl, rfl⟩
    show ifV _ _ _ [.dat (.lst (ns.map .int)), .dat (.int k)] = _
    have e2 : ixD (.lst (ns.map .int)) (.int k) = some (.int (ns.getD k 0)) := e
    (simp (disch := first | assumption | omega) only [e2, List.length_map, decide_eq_true (show (k : Int) < (ns.length : Int) by omega), MV, MW])
  · refine Rn.ret (d := .int (ns.getD k 0)) ?_ ⟨_, rfl, rfl⟩
    show ifV _ _ _ [.dat (.lst (ns.map .int)), .dat (.int k)] = _
    have e3 : ns.getD k 0 = 0 := by simp [List.getD_eq_getElem?_getD, List.getElem?_eq_none (show ns.length ≤ k by omega)]
    rw [e3]
    (simp (disch := first | assumption | omega) only [List.length_map, decide_eq_false (show ¬ (k : Int) < (ns.length : Int) by omega), MV, MW])
theorem row_ex (c : Int) (n : Nat) (hn : n ≤ 1000) : ∃ rs : List Int, runP 7 gRow [.int c, .int n] = some (.lst (rs.map .int)) ∧ rs.length = n ∧ ∀ r ∈ rs, 0 ≤ r ∧ r < 1000 := by
  obtain ⟨d, e, rs, rfl, hl, hr⟩ : ∃ d, runP 7 gRow [.int c, .int n] = some d ∧ ∃ rs : List Int, d = .lst (rs.map .int) ∧ rs.length = n ∧ ∀ r ∈ rs, 0 ≤ r ∧ r < 1000 := by
    refine runP_of ?_
    unfold gRow
    show Rn _ [.dat (.int c), .dat (.int n), .unk, .unk, .unk, .unk, .unk] _
    refine Rn.sqstO (o := .dats []) rfl ?_
    refine Rn.sqst (d := .int (c % 2147483629)) (by (simp (disch := first | assumption | omega) only [MV, MW])) ?_
    refine Rn.sqst (d := .int (c - 10 ^ 18)) (by (simp (disch := first | assumption | omega) only [MV, MW]); rfl) ?_
    refine Rn.sqforR (lo := 0) (n := n) (by show rng1 _ [.dat (.int c), .dat (.int n), _, _, _, _, _] = _; (simp (disch := first | assumption | omega) only [MV, MW]); rfl) (fun i ρ => ∃ (rs : List Int) (s t : Int) (x y : O), ρ = [.dat (.int c), .dat (.int n), .dats (rs.map .int), .dat (.int s), .dat (.int t), x, y] ∧ rs.length = i ∧ ∀ r ∈ rs, 0 ≤ r ∧ r < 1000)
      ⟨[], c % 2147483629, c - 10 ^ 18, .unk, .unk, rfl, rfl, fun r h => nomatch h⟩ (fun i hi ρ hI => ?_) (fun ρ hI => ?_)
    · obtain ⟨rs, s, t, x, y, rfl, hl, hr⟩ := hI
      refine ⟨_, rfl, ?_⟩
      refine Rn.sqst (d := .int ((s * 48271 + 977 * (0 + (i : Int)) + 12345) % 2147483647)) (by show b2 _ _ _ [.dat _, .dat _, _, .dat _, _, .dat _, _] = _; (simp (disch := first | assumption | omega) only [MV, MW])) ?_
      generalize (s * 48271 + 977 * (0 + (i : Int)) + 12345) % 2147483647 = s'
      refine Rn.sqst (d := .int ((s' * 69621 + 31 * (0 + (i : Int)) + 7) % 2147483629)) (by show b2 _ _ _ [.dat _, .dat _, _, .dat _, _, .dat _, _] = _; (simp (disch := first | assumption | omega) only [MV, MW])) ?_
      generalize (s' * 69621 + 31 * (0 + (i : Int)) + 7) % 2147483629 = m
      refine Rn.sqapp (d := .int (if decide ((10 : Int) ^ 18 ≤ c) = true then t % 1000 else m / 4099 % 1000)) (ds := rs.map .int) (by
        show ifV _ _ _ [.dat (.int c), .dat (.int n), _, .dat (.int s'), .dat (.int t), .dat _, .dat (.int m)] = _
        have ep : powI (.int 10) (.int 18) = some (.int ((10 : Int) ^ 18)) := rfl
        (simp (disch := first | assumption | omega) only [ep, MV, MW])) rfl (by rw [List.length_map, hl]; omega) ?_
      refine Rn.st (d := .int (t / 1000)) (by show b2 _ _ _ [.dat _, .dat _, _, .dat _, .dat _, .dat _, .dat _] = _; (simp (disch := first | assumption | omega) only [MV, MW])) ?_
      refine ⟨rs ++ [if decide ((10 : Int) ^ 18 ≤ c) = true then t % 1000 else m / 4099 % 1000], s', t / 1000, .dat (.int (0 + (i : Int))), .dat (.int m), ?_, by simp [hl], fun r hm => ?_⟩
      · rw [List.map_append]; rfl
      · rcases List.mem_append.mp hm with hm | hm
        · exact hr r hm
        · have : r = _ := List.mem_singleton.mp hm
          subst this
          split <;> omega
    · obtain ⟨rs, s, t, x, y, rfl, hl, hr⟩ := hI
      refine Rn.fzD rfl ?_
      refine Rn.ret (d := .lst (rs.map .int)) rfl ?_
      exact ⟨_, _, rfl, rfl, rs, rfl, hl, hr⟩
  exact ⟨rs, e, hl, hr⟩
end PD

namespace PD
open PySem PySem.Spec L2
/-! ### == of plain data: ints, texts, None, lists and tuples of them, not deeper than k -/
mutual
def D.plain (k : Nat) : D → Bool
  | .non => true
  | .int _ => true
  | .str x => PyData.canLay0 (.str x)
  | .lst ds => decide (D.deeps ds < k) && D.plains k ds
  | .tup ds => decide (D.deeps ds < k) && D.plains k ds
  | _ => false
def D.plains (k : Nat) : List D → Bool
  | [] => true
  | d :: ds => D.plain k d && D.plains k ds
def D.deep : D → Nat
  | .lst ds => D.deeps ds + 1
  | .tup ds => D.deeps ds + 1
  | _ => 0
def D.deeps : List D → Nat
  | [] => 0
  | d :: ds => max d.deep (D.deeps ds)
end
mutual
theorem plain_py (k : Nat) : ∀ d : D, d.plain k = true → ∃ p, d.py = some p ∧ p.canLay0 = true ∧ p.depth ≤ d.deep
  | .non, _ => ⟨_, rfl, rfl, Nat.le_refl _⟩
  | .int i, _ => ⟨_, rfl, rfl, Nat.le_refl _⟩
  | .str x, h => ⟨_, rfl, h, Nat.le_refl _⟩
  | .lst ds, h => by
    obtain ⟨ps, e, a, b⟩ := plain_pys k ds (Bool.and_eq_true_iff.mp h).2
    exact ⟨.list ps, by unfold D.py; rw [e]; rfl, by simp only [PyData.canLay0, a], by rw [PyData.depth]; unfold D.deep; omega⟩
  | .tup ds, h => by
    obtain ⟨ps, e, a, b⟩ := plain_pys k ds (Bool.and_eq_true_iff.mp h).2
    exact ⟨.tuple ps, by unfold D.py; rw [e]; rfl, by simp only [PyData.canLay0, a], by rw [PyData.depth]; unfold D.deep; omega⟩
  | .bl _, h => nomatch h
  | .dic _ _, h => nomatch h
  | .obj _ _ _, h => nomatch h
  | .exn _ _ _ _ _, h => nomatch h
theorem plain_pys (k : Nat) : ∀ ds : List D, D.plains k ds = true → ∃ ps, D.pys ds = some ps ∧ PyData.canLayAll0 ps = true ∧ PyData.depthAll ps ≤ D.deeps ds
  | [], _ => ⟨[], rfl, rfl, Nat.le_refl _⟩
  | d :: ds, h => by
    unfold D.plains at h
    rw [Bool.and_eq_true] at h
    obtain ⟨p, e1, a1, b1⟩ := plain_py k d h.1
    obtain ⟨ps, e2, a2, b2⟩ := plain_pys k ds h.2
    refine ⟨p :: ps, by unfold D.pys; rw [e1, e2], by rw [PyData.canLayAll0, a1, a2]; rfl, ?_⟩
    rw [PyData.depthAll]; unfold D.deeps; omega
end
theorem deep_plain {k : Nat} : ∀ {d : D}, d.plain k = true → d.deep ≤ k
  | .non, _ => Nat.zero_le _
  | .int i, _ => Nat.zero_le _
  | .str x, h => Nat.zero_le _
  | .lst ds, h => of_decide_eq_true (Bool.and_eq_true_iff.mp h).1
  | .tup ds, h => of_decide_eq_true (Bool.and_eq_true_iff.mp h).1
  | .bl _, h => nomatch h
  | .dic _ _, h => nomatch h
  | .obj _ _ _, h => nomatch h
  | .exn _ _ _ _ _, h => nomatch h
mutual
theorem eqv_plain {k : Nat} : ∀ {d e : D} {p q : PyData}, d.plain k = true → e.plain k = true → d.py = some p → e.py = some q → (PyData.eqv p q = true ↔ d = e)
  | .lst ds, e, p, q, h1, h2, e1, e2 => by
    obtain ⟨ps, ep, _⟩ := plain_pys k ds (Bool.and_eq_true_iff.mp h1).2
    unfold D.py at e1
    rw [ep] at e1
    cases e1
    cases e with
    | lst es =>
      obtain ⟨qs, eq, _⟩ := plain_pys k es (Bool.and_eq_true_iff.mp h2).2
      unfold D.py at e2
      rw [eq] at e2
      cases e2
      simp only [PyData.eqv, D.lst.injEq]
      exact eqvs_plain (Bool.and_eq_true_iff.mp h1).2 (Bool.and_eq_true_iff.mp h2).2 ep eq
    | tup es =>
      obtain ⟨qs, eq, _⟩ := plain_pys k es (Bool.and_eq_true_iff.mp h2).2
      unfold D.py at e2
      rw [eq] at e2
      cases e2
      simp [PyData.eqv]
    | _ => cases e2 <;> simp [PyData.eqv]
  | .tup ds, e, p, q, h1, h2, e1, e2 => by
    obtain ⟨ps, ep, _⟩ := plain_pys k ds (Bool.and_eq_true_iff.mp h1).2
    unfold D.py at e1
    rw [ep] at e1
    cases e1
    cases e with
    | tup es =>
      obtain ⟨qs, eq, _⟩ := plain_pys k es (Bool.and_eq_true_iff.mp h2).2
      unfold D.py at e2
      rw [eq] at e2
      cases e2
      simp only [PyData.eqv, D.tup.injEq]
      exact eqvs_plain (Bool.and_eq_true_iff.mp h1).2 (Bool.and_eq_true_iff.mp h2).2 ep eq
    | lst es =>
      obtain ⟨qs, eq, _⟩ := plain_pys k es (Bool.and_eq_true_iff.mp h2).2
      unfold D.py at e2
      rw [eq] at e2
      cases e2
      simp [PyData.eqv]
    | _ => cases e2 <;> simp [PyData.eqv]
  | .non, e, p, q, _, h2, e1, e2 => by
    cases e1
    obtain ⟨q', eq, _⟩ := plain_py k e h2
    cases e with
    | lst es => unfold D.py at e2; obtain ⟨qs, _, rfl⟩ := Option.map_eq_some_iff.mp e2; simp [PyData.eqv]
    | tup es => unfold D.py at e2; obtain ⟨qs, _, rfl⟩ := Option.map_eq_some_iff.mp e2; simp [PyData.eqv]
    | bl _ => cases h2
    | dic _ _ => cases h2
    | obj _ _ _ => cases h2
    | exn _ _ _ _ _ => cases h2
    | _ => cases e2; simp [PyData.eqv]
  | .int i, e, p, q, _, h2, e1, e2 => by
    cases e1
    cases e with
    | lst es => unfold D.py at e2; obtain ⟨qs, _, rfl⟩ := Option.map_eq_some_iff.mp e2; simp [PyData.eqv]
    | tup es => unfold D.py at e2; obtain ⟨qs, _, rfl⟩ := Option.map_eq_some_iff.mp e2; simp [PyData.eqv]
    | bl _ => cases h2
    | dic _ _ => cases h2
    | obj _ _ _ => cases h2
    | exn _ _ _ _ _ => cases h2
    | _ => cases e2; simp [PyData.eqv]
  | .str x, e, p, q, _, h2, e1, e2 => by
    cases e1
    cases e with
    | lst es => unfold D.py at e2; obtain ⟨qs, _, rfl⟩ := Option.map_eq_some_iff.mp e2; simp [PyData.eqv]
    | tup es => unfold D.py at e2; obtain ⟨qs, _, rfl⟩ := Option.map_eq_some_iff.mp e2; simp [PyData.eqv]
    | bl _ => cases h2
    | dic _ _ => cases h2
    | obj _ _ _ => cases h2
    | exn _ _ _ _ _ => cases h2
    | _ => cases e2; simp [PyData.eqv]
  | .bl _, _, _, _, h, _, _, _ => nomatch h
  | .dic _ _, _, _, _, h, _, _, _ => nomatch h
  | .obj _ _ _, _, _, _, h, _, _, _ => nomatch h
  | .exn _ _ _ _ _, _, _, _, h, _, _, _ => nomatch h
theorem eqvs_plain {k : Nat} : ∀ {ds es : List D} {ps qs : List PyData}, D.plains k ds = true → D.plains k es = true → D.pys ds = some ps → D.pys es = some qs → (PyData.eqvAll ps qs = true ↔ ds = es)
  | [], [], ps, qs, _, _, e1, e2 => by cases e1; cases e2; simp [PyData.eqvAll]
  | [], e :: es, ps, qs, _, h2, e1, e2 => by
    cases e1
    unfold D.pys at e2
    split at e2
    · cases e2; simp [PyData.eqvAll]
    · cases e2
  | d :: ds, [], ps, qs, _, h2, e1, e2 => by
    cases e2
    unfold D.pys at e1
    split at e1
    · cases e1; simp [PyData.eqvAll]
    · cases e1
  | d :: ds, e :: es, ps, qs, h1, h2, e1, e2 => by
    unfold D.plains at h1 h2
    rw [Bool.and_eq_true] at h1 h2
    unfold D.pys at e1 e2
    split at e1
    · rename_i p1 ps1 q1 q2
      split at e2
      · rename_i p2 ps2 q3 q4
        cases e1; cases e2
        rw [PyData.eqvAll, Bool.and_eq_true, eqv_plain h1.1 h2.1 q1 q3, eqvs_plain h1.2 h2.2 q2 q4, List.cons.injEq]
      · cases e2
    · cases e1
end
theorem eqv_of {x y : D} (hx : x.plain 60 = true) (hy : y.plain 60 = true) : ∃ b, eqvD x y = some b ∧ (b = true ↔ x = y) := by
  obtain ⟨p, e1, a1, b1⟩ := plain_py 60 x hx
  obtain ⟨q, e2, a2, b2⟩ := plain_py 60 y hy
  refine ⟨PyData.eqv p q, ?_, eqv_plain hx hy e1 e2⟩
  unfold eqvD
  rw [e1, e2]
  have s1 : SeqAt.shaped p = true := by unfold SeqAt.shaped; rw [a1, decide_eq_true (by have := deep_plain hx; omega)]; rfl
  have s2 : SeqAt.shaped q = true := by unfold SeqAt.shaped; rw [a2, decide_eq_true (by have := deep_plain hy; omega)]; rfl
  exact if_pos ⟨s1, s2⟩
theorem eqB_of {x y : D} (hx : x.plain 60 = true) (hy : y.plain 60 = true) : ∃ b, eqB x y = some b ∧ (b = true ↔ x = y) := by
  unfold eqB
  cases q : eqS x y with
  | none => exact eqv_of hx hy
  | some b =>
    refine ⟨b, rfl, ?_⟩
    unfold eqS at q
    split at q
    · cases q; simp
    · cases hx
    · cases q; simp
    · cases q
theorem eq_self {x : D} (hx : x.plain 60 = true) : eqD x x = some (.bl true) := by
  obtain ⟨b, e, h⟩ := eqB_of hx hx
  unfold eqD
  rw [e, h.mpr rfl]; rfl
theorem ne_self {x : D} (hx : x.plain 60 = true) : neD x x = some (.bl false) := by
  obtain ⟨b, e, h⟩ := eqB_of hx hx
  unfold neD
  rw [e, h.mpr rfl]; rfl
theorem eq_not {x y : D} (hx : x.plain 60 = true) (hy : y.plain 60 = true) (hn : x ≠ y) : eqD x y = some (.bl false) := by
  obtain ⟨b, e, h⟩ := eqB_of hx hy
  have : b = false := by cases b with | false => rfl | true => exact absurd (h.mp rfl) hn
  unfold eqD
  rw [e, this]; rfl
theorem plains_of {k : Nat} : ∀ {ds : List D}, (∀ d ∈ ds, d.plain k = true) → D.plains k ds = true
  | [], _ => rfl
  | d :: ds, h => by
    unfold D.plains
    rw [h d List.mem_cons_self, plains_of fun e he => h e (List.mem_cons_of_mem _ he)]; rfl
theorem deeps_of {k : Nat} : ∀ {ds : List D}, (∀ d ∈ ds, d.deep ≤ k) → D.deeps ds ≤ k
  | [], _ => Nat.zero_le _
  | d :: ds, h => by
    unfold D.deeps
    have a := h d List.mem_cons_self
    have b := deeps_of fun e he => h e (List.mem_cons_of_mem _ he)
    omega
/-- a list (tuple) of things of depth at most j -/
theorem plain_lst {ds : List D} (j : Nat) (hj : j < 60) (h : ∀ d ∈ ds, d.plain 60 = true ∧ d.deep ≤ j) : (D.lst ds).plain 60 = true ∧ (D.lst ds).deep ≤ j + 1 := by
  have a := deeps_of (k := j) fun d hd => (h d hd).2
  refine ⟨?_, by show D.deeps ds + 1 ≤ _; omega⟩
  unfold D.plain
  rw [decide_eq_true (by omega), plains_of fun d hd => (h d hd).1]; rfl
theorem plain_tup {ds : List D} (j : Nat) (hj : j < 60) (h : ∀ d ∈ ds, d.plain 60 = true ∧ d.deep ≤ j) : (D.tup ds).plain 60 = true ∧ (D.tup ds).deep ≤ j + 1 := by
  have a := deeps_of (k := j) fun d hd => (h d hd).2
  refine ⟨?_, by show D.deeps ds + 1 ≤ _; omega⟩
  unfold D.plain
  rw [decide_eq_true (by omega), plains_of fun d hd => (h d hd).1]; rfl
/-- x in a list of ints -/
theorem in_ints (v : Int) (ns : List Int) : inB (.int v) (.lst (ns.map .int)) = some (decide (v ∈ ns)) := by
  have h : (ns.map D.int).all D.flat = true := by rw [List.all_eq_true]; intro d hd; obtain ⟨_, _, rfl⟩ := List.mem_map.mp hd; rfl
  show (if (D.int v).flat && (ns.map D.int).all D.flat then some ((ns.map D.int).any fun z => z.same (.int v)) else none) = _
  rw [h]
  show some ((ns.map D.int).any fun z => z.same (.int v)) = _
  congr 1
  rw [Bool.eq_iff_iff, List.any_eq_true, decide_eq_true_iff]
  constructor
  · rintro ⟨d, hd, e⟩
    obtain ⟨i, hi, rfl⟩ := List.mem_map.mp hd
    have : i = v := by simpa [D.same] using e
    exact this ▸ hi
  · exact fun h => ⟨.int v, List.mem_map_of_mem h, by simp [D.same]⟩
end PD

namespace PD
open PySem PySem.Spec L2
/-! ### running what may raise -/
section
variable {f g b : Ev → Option Fl} {ρ : Ev} {Q : Fl → Prop} {i : Nat} {h : Ev → Option Rz}
theorem Rn.stXD {o : O} {d : D} (e : h ρ = some (.ok o)) (ho : o.toD = some d) (k : Q (.nx (ρ.set i (.dat d)))) : Rn (PD.stXD i h) ρ Q := ⟨_, by unfold PD.stXD; rw [e, Option.bind_some]; simp only [ho]; rfl, k⟩
theorem Rn.sqstXD {o : O} {d : D} (e : h ρ = some (.ok o)) (ho : o.toD = some d) (k : Rn g (ρ.set i (.dat d)) Q) : Rn (PD.sq (PD.stXD i h) g) ρ Q := Rn.sq (Rn.stXD e ho k)
theorem Rn.sqstXDe {x : Exn} (e : h ρ = some (.ex x)) (k : Q (.ex x ρ)) : Rn (PD.sq (PD.stXD i h) g) ρ Q := Rn.sq ⟨.ex x ρ, by unfold PD.stXD; rw [e]; rfl, k⟩
theorem Rn.drpX {o : O} (e : h ρ = some (.ok o)) (k : Q (.nx ρ)) : Rn (PD.drpX h) ρ Q := ⟨_, by unfold PD.drpX; rw [e]; rfl, k⟩
theorem Rn.drpXe {x : Exn} (e : h ρ = some (.ex x)) (k : Q (.ex x ρ)) : Rn (PD.drpX h) ρ Q := ⟨_, by unfold PD.drpX; rw [e]; rfl, k⟩
/-- the body raises, the suite takes it -/
theorem Rn.tryX {tb : List (Addr × Bool)} {sm : Addr → Option Addr → Value → Ev → Option Fl} {x : Exn} {ρ1 : Ev} {r2 : Fl} (e : b ρ = some (.ex x ρ1)) (hm : mtc tb x.cls = some true) (hs : ∀ a da, Rn (sm a (exnA da x) x.cls) (ρ1.set i (.dat (exnD a da x))) fun r => unX i r = some r2) (k : Q r2) : Rn (tryS tb i b sm) ρ Q := by
  refine ⟨r2, ?_, k⟩
  unfold tryS
  rw [e, Option.bind_some]
  show ((mtc tb x.cls).bind fun t => if t = true then suiteS i sm x ρ1 else some (.ex x ρ1)) = _
  rw [hm, Option.bind_some, if_pos rfl, suiteS_of fun a da => (by obtain ⟨r, e1, e2⟩ := hs a da; rw [e1]; exact e2)]
theorem Rn.tryN {tb : List (Addr × Bool)} {sm : Addr → Option Addr → Value → Ev → Option Fl} {ρ1 : Ev} (e : b ρ = some (.nx ρ1)) (k : Q (.nx ρ1)) : Rn (tryS tb i b sm) ρ Q := ⟨_, by unfold tryS; rw [e]; rfl, k⟩
theorem mtc1 (C : Addr) (t : Bool) : mtc [(C, t)] (.ref C) = some t := by
  show List.lookup C [(C, t)] = _
  rw [List.lookup_cons]; simp
theorem runX_ok {n : Nat} {ds : List D} {z : Rz} (h : Rn b (env0 n ds) fun r => outX r = some z) : runX n b ds = some z := by
  obtain ⟨r, e, h1⟩ := h
  unfold runX
  rw [e]; exact h1
end
theorem ew_aStarL {f : Ev → Option D} {g : Ev → Option (List D)} {ρ : Ev} {xs : List D} (h : f ρ = some (.lst xs)) : aStar f g ρ = (g ρ).map (xs ++ ·) := by
  unfold aStar
  rw [h]; rfl
theorem ew_cX {f : Ev → Option (List D)} {n : Nat} {m : List D → Option Rz} {ρ : Ev} {ds : List D} {z : Rz} (h : f ρ = some ds) (hn : ds.length = n) (hm : m ds = some z) : cX f n m ρ = okO z := by
  unfold cX
  rw [h, Option.bind_some, if_pos hn, hm]; rfl
theorem ew_xC {f : Ev → Option (List D)} {n : Nat} {m : List D → Option Rz} {ρ : Ev} {ds : List D} (h : f ρ = some ds) (hn : ds.length = n) : xC f n m ρ = m ds := by
  unfold xC
  rw [h, Option.bind_some, if_pos hn]
end PD

namespace PD
open PySem PySem.Spec PyProof.Rows L2
/-! ### zip of two lists -/
def zipE (ds es : List D) : List D := (ds.zip es).map fun p => .tup [p.1, p.2]
theorem yld_zip {K : PySem.W.Frag} {M : Hp} {a b : Addr} {xs ys : List V} {ds es : List D} (h : SqX K M a xs) (d : Dvs K M xs ds) (h2 : SqX K M b ys) (d2 : Dvs K M ys es) : Yld K M [] (Itz K a b) (zipE ds es) := fun i M1 H os vs s1 R _ => by
  have q := seqX (s1.trans R.same) h
  have q2 := seqX (s1.trans R.same) h2
  have hl := d.length
  have hl2 := d2.length
  have hz : (zipE ds es).length = min xs.length ys.length := by simp [zipE, hl, hl2]
  have w := walk_zip (K := K) (a := a) (b := b) (xs := xs) (ys := ys) (n := (zipE ds es).length) hz
  refine ⟨fun hi => w.goes i H hi ⟨q, q2⟩, fun hi => by subst hi; exact w.stops H ⟨q, q2⟩, fun e he x H' y => ?_⟩
  have hi : i < (zipE ds es).length := (List.getElem?_eq_some_iff.mp he).1
  obtain ⟨T, x1, x2, ex, hT, rfl, e1, e2⟩ := w.yields i H x H' hi ⟨q, q2⟩ y
  obtain ⟨e', he', dv⟩ := d.getV e1
  obtain ⟨e'', he'', dv2⟩ := d2.getV e2
  have : e = .tup [e', e''] := by
    unfold zipE at he
    rw [List.getElem?_map, show (ds.zip es)[i]? = some (e', e'') from List.getElem?_zip_eq_some.mpr ⟨he', he''⟩] at he
    exact (Option.some.inj he).symm
  subst this; subst ex
  have mT := R.same.free hT
  have s2 := same_updM (u := .tup [x1, x2]) mT
  exact ⟨_, s2, R.growM hT, .tup (.inl (.inl upd_same)) (.cons (dv.mono (s1.trans s2)) (.cons (dv2.mono (s1.trans s2)) .nil))⟩
def zipM (f : Ev → Option (List D)) (ρ : Ev) : Option (List D) := match f ρ with
  | some [.lst ds, .lst es] => some (zipE ds es)
  | _ => none
section
variable {X : Cx} {pos p tpos : Pos} {e e2 : Expr} {elts : List Expr} {kk : Nat} {ga : Ev → Option (List D)}
theorem iZipL (h : PA X [e, e2] (tAr X.K ga)) (hm : X.mg "zip" = none) (hg : Gl X "zip" := by rfl)
    (hs : starEach [e, e2] X.env = (false, eval e X.env) :: starEach [e2] X.env := by rfl) (hpl : (backTo pos (starEach [e2] X.env)).any (·.1) = false := by rfl) :
    PI X (.Tuple elts kk tpos) (.Call (.Name "zip" p) [e, e2] [] pos) (tI X.K [] (zipM ga)) :=
  PI.imp (pi_zip hg hm h hs hpl) fun σ H R ⟨M, ρ, fo, fv, ds, R0, l, e, k⟩ => by
    unfold zipM at e
    split at e
    · rename_i d1 d2 q
      cases e
      refine ⟨M, ρ, fo, fv, _, R0, l, q, fun M1 H1 vs s1 R1 dv => ?_⟩
      cases dv with
      | cons a1 dn =>
        cases dn with
        | cons a2 dn =>
          cases dn
          cases a1 with
          | lst hs hd =>
            cases a2 with
            | lst hs2 hd2 => exact ⟨_, _, _, _, rfl, seqX R1.same hs, seqX R1.same hs2, k M1 H1 _ s1 R1 (yld_zip hs hd hs2 hd2)⟩
    · cases e
/-! ### // by any divisor but 0, below 2 ^ 9000 -/
def CDivX (_ j : Int) : Prop := j ≠ 0 ∧ j.natAbs.log2 < 9000
theorem op_fdivX : OpR X (binaryOp .FloorDiv) (rI CDivX fun i j => .int (i.fdiv j)) := opI fun _ _ _ _ _ _ _ hc q => floordiv_int hc.1 q (.inl (PyProof.noPylong_of_log2 hc.2))
def divX : D → D → Option D := i2 (fun _ j => decide (j ≠ 0 ∧ j.natAbs.log2 < 9000)) fun i j => .int (i.fdiv j)
theorem oDivX : OpR X (binaryOp .FloorDiv) (rD X.K divX) := op_i2 op_fdivX (fun i j h => by simpa [CDivX] using h) fun _ _ _ => .int _
end
theorem ew_divX {i j : Int} (h : j ≠ 0) (h2 : j.natAbs.log2 < 9000) : divX (.int i) (.int j) = some (.int (i.fdiv j)) := by
  show (if decide (j ≠ 0 ∧ j.natAbs.log2 < 9000) = true then some (D.int (i.fdiv j)) else none) = _
  rw [if_pos (decide_eq_true ⟨h, h2⟩)]
end PD

namespace PD
open PySem PySem.Spec PyProof.Rows L2
/-! ### x = a place inside an own thing; x.append(e): both statements at once -/
def appA (j i : Nat) (pf : Ev → Option (List Nat)) (f : Ev → Option O) (ρ : Ev) : Option Fl := (pf ρ).bind fun p => match onSub i p ρ with
  | some (.lst os) => (vwO f (ρ.set j .unk)).bind fun y => if j < ρ.length ∧ os.length < sizeLine then some (.nx ((ρ.set j .unk).set i ((ρ.getD i .unk).put p (.lst (os ++ [y]))))) else none
  | _ => none
section
variable {X : Cx} {W : WX} {J : List Nat} {pos pos' pos1 apos cpos px : Pos} {b e : Expr} {i j : Nat} {pf : Ev → Option (List Nat)} {f : Ev → Option O}
theorem sAppA {x : Str} (hN : X.N.Nodup) (ha : PE X b (tPl X.K i pf)) (hv : PE X (.Name x px) (tVar j)) (he : PE X e (tO X.K f)) (hij : i ≠ j := by decide) (hJ : j ∉ J := by decide) (hi : X.N[j]? = some x := by rfl) (hx : Loc X.env.scope x := by first | exact Or.inl rfl | exact Or.inr rfl)
    (hs1 : swapsWith b (some (.Name x pos')) pos1.line X.env = pure false := by rfl) (hf : X.fn x = true ∨ X.env.scope.names.lookup x = some .local := by first | exact .inl rfl | exact .inr rfl)
    (hbase : attributeBase (.Name x px) "append" X.env (eval (.Name x px) X.env) = eval (.Name x px) X.env := by rfl)
    (hfew : ((backTo cpos (starEach [e] X.env)).all (fun x => !x.1) && (backToKw cpos (keywordEach [] X.env)).all (fun x => x.1.isSome)
      && decide ([e].length + ([] : List Keyword).length + (if ([] : List Keyword).isEmpty then 0 else 1) < 30)) = true := by rfl)
    (hline : (apos.endLine == cpos.line) = true := by rfl) (hs : starEach [e] X.env = (false, eval e X.env) :: starEach [] X.env := by rfl) (hplain : (backTo cpos (starEach [] X.env)).any (·.1) = false := by rfl)
    (hsw : swapsWith (.Call (.Attribute (.Name x px) "append" apos) [e] [] cpos) none pos.line X.env = pure false := by rfl) :
    PSs X [.Assign [.Name x pos'] b pos1, .Expr (.Call (.Attribute (.Name x px) "append" apos) [e] [] cpos) pos] (tS X.K W J (appA j i pf f)) :=
  PSs.imp (pss_cons (ps_set (i := j) hN hi hx ha hs1 hf) (pss_one (ps_expr (pe_bm PySem.F.plainAttrs_list PySem.F.slot_list_append PySem.F.type_list_append mt_append hv (pa_cons he pa_nil hs) hbase hfew hline hs hplain) hsw))) fun E σ H ⟨M, ρ, fo, fv, r, σ0, R, l, e, k⟩ => by
    unfold appA at e
    cases q : pf ρ with
    | none => rw [q] at e; cases e
    | some p0 =>
      rw [q, Option.bind_some] at e
      split at e
      · rename_i os eo
        cases q2 : vwO f (ρ.set j .unk) with
        | none => rw [q2] at e; cases e
        | some y =>
          rw [q2, Option.bind_some] at e
          split at e
          · rename_i hlen
            cases e
            obtain ⟨q3, im⟩ := vwO_some q2
            refine ⟨M, ρ, fo, fv, p0, R, l.1, q, ⟨_, eo, rfl⟩, fun M1 H1 v0 v s1 R1 e0 ev => ?_⟩
            obtain ⟨o, e1, e2⟩ := onSub_some eo
            have R2 : Rep X.K M1 H1 (ρ.set j .unk ++ fo) (σ.set j (some v) ++ fv) := R1.setU l.1 (some v)
            have l2 : (σ.set j (some v)).length = (ρ.set j O.unk).length := by simp [l.1]
            have e1' : (ρ.set j .unk)[i]? = some o := by rw [List.getElem?_set_ne (Ne.symm hij)]; exact e1
            have e0' : (σ.set j (some v))[i]? = some (some v0) := by rw [List.getElem?_set_ne (Ne.symm hij)]; exact e0
            have R2' : Rep X.K M1 H1 (ρ.set j .unk ++ ([] ++ fo)) (σ.set j (some v) ++ ([] ++ fv)) := R2
            obtain ⟨a1, xs1, _, _, rfl, hA1, _⟩ := R2'.putL l2 rfl e1' e2 e0' ev
            obtain ⟨Ma, t1, Ra, _, back⟩ := R2.look2 l2 e1' e2 rfl e0' ev
            have hjl : j < σ.length := by rw [l.1]; exact hlen.1
            refine ⟨.ref a1, by rw [List.getElem?_set_self hjl], .inl ⟨rfl, _, .inl (.inl hA1)⟩, Ma, (ρ.set j .unk).map O.vw, [], [], y, Ra, by simpa using l.1, q3, fun M2 H2 u s2 R3 => ?_⟩
            obtain ⟨M3, s3, R4, ev3⟩ := back M2 H2 _ _ s2 R3 im
            have R4' : Rep X.K M3 H2 (ρ.set j .unk ++ ([y] ++ fo)) (σ.set j (some (.ref a1)) ++ ([some u] ++ fv)) := R4
            obtain ⟨a2, xs, f1, ft, ea, hA, ws, wt, n1, n2, mA, up⟩ := R4'.putL l2 rfl e1' e2 e0' ev3
            cases ea
            have hl : xs.length = os.length := by simpa using ws.length
            refine ⟨a1, xs, u, rfl, rfl, hA, by omega, ?_⟩
            rw [getD_of e1] at k
            refine k M3 _ _ (s1.trans s3) (up (xs ++ [u]) (os ++ [y]) (f1 ++ ft) ?_ fun b => by rw [List.count_append]; exact Nat.le_refl _) ((l.set hJ _ _).setR _)
            have w1 := ws.frame (H' := upd H2 a1 (.lst (xs ++ [u]))) (Same.refl _) fun c hc => upd_ne fun z => n1 (z ▸ hc)
            have w2 := wt.frame (H' := upd H2 a1 (.lst (xs ++ [u]))) (Same.refl _) fun c hc => upd_ne fun z => n2 (z ▸ hc)
            simpa using w1.append w2
          · cases e
      · cases e
end
end PD

namespace LA
/-! ### determinants of rows (functions of the column) by a list of columns -/
abbrev Vec := Nat → Int
/-- expansion along the column k of a form w -/
def K (k : Nat) (w : List Vec → Int) : List Vec → Int
  | [] => 0
  | r :: rs => r k * w rs - K k (fun t => w (r :: t)) rs
def Dt : List Nat → List Vec → Int
  | [] => fun _ => 1
  | k :: ks => K k (Dt ks)
theorem K_zero (k : Nat) : ∀ (rs : List Vec) (w : List Vec → Int), (∀ t, w t = 0) → K k w rs = 0
  | [], _, _ => rfl
  | r :: rs, w, h => by
    unfold K
    rw [h, K_zero k rs _ fun t => h _]; simp
theorem K_lin (k : Nat) (a b : Int) : ∀ (rs : List Vec) (u w : List Vec → Int), K k (fun t => a * u t + b * w t) rs = a * K k u rs + b * K k w rs
  | [], _, _ => by simp [K]
  | r :: rs, u, w => by
    unfold K
    rw [K_lin k a b rs (fun t => u (r :: t)) (fun t => w (r :: t))]
    grind
theorem K_neg (k : Nat) (rs : List Vec) (w : List Vec → Int) : K k (fun t => - w t) rs = - K k w rs := by
  have := K_lin k (-1) 0 rs w w
  simp only [Int.neg_mul, Int.one_mul, Int.zero_mul, Int.add_zero] at this
  exact this
theorem K_swap (k l : Nat) : ∀ (rs : List Vec) (w : List Vec → Int), K k (K l w) rs = - K l (K k w) rs
  | [], _ => rfl
  | r :: rs, w => by
    have key : ∀ k l : Nat, K k (K l w) (r :: rs) = r k * K l w rs - r l * K k w rs + K k (K l fun t => w (r :: t)) rs := fun k l => by
      show r k * K l w rs - K k (fun t => r l * w t - K l (fun t => w (r :: t)) t) rs = _
      have e := K_lin k (r l) (-1) rs w (K l fun t => w (r :: t))
      have e2 : (fun t => r l * w t - K l (fun t => w (r :: t)) t) = (fun t => r l * w t + (-1) * K l (fun t => w (r :: t)) t) := by funext t; omega
      rw [e2, e]; omega
    rw [key k l, key l k, K_swap k l rs fun t => w (r :: t)]
    omega
theorem Dt_swap (k l : Nat) (ks : List Nat) (rs : List Vec) : Dt (k :: l :: ks) rs = - Dt (l :: k :: ks) rs := K_swap k l rs _
theorem Dt_dup {k : Nat} : ∀ {ks : List Nat}, k ∈ ks → ∀ rs, Dt (k :: ks) rs = 0
  | l :: ks, h, rs => by
    by_cases e : k = l
    · subst e
      have := Dt_swap k k ks rs
      omega
    · have h' : k ∈ ks := by simpa [e] using h
      rw [Dt_swap]
      have : Dt (l :: k :: ks) rs = 0 := K_zero l rs _ fun t => Dt_dup h' t
      omega
/-- a column brought to the front -/
theorem Dt_front (l : Nat) (y : List Nat) : ∀ (x : List Nat), ∃ s : Int, (s = 1 ∨ s = -1) ∧ ∀ rs, Dt (x ++ l :: y) rs = s * Dt (l :: (x ++ y)) rs
  | [] => ⟨1, .inl rfl, fun rs => by simp⟩
  | a :: x => by
    obtain ⟨s, hs, h⟩ := Dt_front l y x
    refine ⟨-s, by omega, fun rs => ?_⟩
    have e : Dt (x ++ l :: y) = fun rs => s * Dt (l :: (x ++ y)) rs + 0 * Dt (l :: (x ++ y)) rs := by funext t; rw [h]; omega
    show K a (Dt (x ++ l :: y)) rs = -s * Dt (l :: a :: (x ++ y)) rs
    rw [e, K_lin, Dt_swap l a]
    show s * Dt (a :: l :: (x ++ y)) rs + _ = _
    grind
/-! ### spans (rational) of a list of rows -/
def InS : List Vec → Vec → Prop
  | [], w => ∀ k, w k = 0
  | b :: bs, w => ∃ N c : Int, N ≠ 0 ∧ InS bs fun k => N * w k - c * b k
theorem InS.ext {bs : List Vec} {w u : Vec} (h : InS bs w) (e : ∀ k, w k = u k) : InS bs u := by rw [show u = w from funext fun k => (e k).symm]; exact h
theorem InS.lin (a b : Int) : ∀ {bs : List Vec} {u w : Vec}, InS bs u → InS bs w → InS bs fun k => a * u k + b * w k
  | [], u, w, h1, h2 => fun k => by
    show a * u k + b * w k = 0
    rw [h1 k, h2 k]; simp
  | r :: bs, u, w, ⟨N, c, hN, h1⟩, ⟨N', c', hN', h2⟩ => by
    refine ⟨N * N', a * c * N' + b * c' * N, Int.mul_ne_zero hN hN', ?_⟩
    refine (InS.lin (a * N') (b * N) h1 h2).ext fun k => ?_
    grind
theorem InS.zero : ∀ {bs : List Vec} {w : Vec}, (∀ k, w k = 0) → InS bs w
  | [], _, h => h
  | b :: bs, w, h => ⟨1, 0, by decide, InS.zero fun k => by rw [h]; simp⟩
theorem InS.smul (a : Int) {bs : List Vec} {u : Vec} (h : InS bs u) : InS bs fun k => a * u k := (InS.lin a 0 h h).ext fun k => by omega
theorem InS.div {N : Int} (hN : N ≠ 0) : ∀ {bs : List Vec} {w : Vec}, (InS bs fun k => N * w k) → InS bs w
  | [], w, h => fun k => (Int.mul_eq_zero.mp (h k)).resolve_left hN
  | b :: bs, w, ⟨M, c, hM, h⟩ => ⟨M * N, c, Int.mul_ne_zero hM hN, h.ext fun k => by grind⟩
theorem InS.mem : ∀ {bs : List Vec} {b : Vec}, b ∈ bs → InS bs b
  | r :: bs, b, h => by
    rcases List.mem_cons.mp h with rfl | h
    · exact ⟨1, 1, by decide, InS.zero fun k => by omega⟩
    · exact ⟨1, 0, by decide, (InS.mem h).ext fun k => by omega⟩
theorem InS.sub : ∀ {bs cs : List Vec} {w : Vec}, (∀ b ∈ bs, InS cs b) → InS bs w → InS cs w
  | [], cs, w, _, h => InS.zero h
  | b :: bs, cs, w, hb, ⟨N, c, hN, h⟩ => by
    have h1 := InS.sub (cs := cs) (fun x hx => hb x (List.mem_cons_of_mem _ hx)) h
    refine InS.div hN ((InS.lin 1 c h1 (hb b List.mem_cons_self)).ext fun k => ?_)
    omega
/-- an expansion is a combination of the rows -/
theorem K_span : ∀ (rs : List Vec) (w : List Vec → Int), InS rs fun k => K k w rs
  | [], _ => fun k => rfl
  | r :: rs, w => ⟨1, w rs, by decide, by
    refine (InS.smul (-1) (K_span rs fun t => w (r :: t))).ext fun k => ?_
    show _ = 1 * (r k * w rs - K k (fun t => w (r :: t)) rs) - w rs * r k
    grind⟩
/-! ### leads and rows, the newest ahead -/
abbrev Ech := List (Nat × Vec)
def leads (st : Ech) : List Nat := st.map (·.1)
def rows (st : Ech) : List Vec := st.map (·.2)
def piv (st : Ech) : Int := Dt (leads st) (rows st)
/-- what is left of v -/
def red (st : Ech) (v : Vec) : Vec := fun k => Dt (k :: leads st) (v :: rows st)
def Good : Ech → Prop
  | [] => True
  | e :: st => Good st ∧ piv (e :: st) ≠ 0
theorem piv_red (l : Nat) (b : Vec) (st : Ech) : piv ((l, b) :: st) = red st b l := rfl
theorem red_lead {st : Ech} {v : Vec} {k : Nat} (h : k ∈ leads st) : red st v k = 0 := Dt_dup h _
theorem red_span (st : Ech) (v : Vec) : InS (rows st) fun k => red st v k - piv st * v k :=
  (InS.smul (-1) (K_span (rows st) fun t => Dt (leads st) (v :: t))).ext fun k => by
    show _ = (v k * Dt (leads st) (rows st) - K k (fun t => Dt (leads st) (v :: t)) (rows st)) - Dt (leads st) (rows st) * v k
    grind
theorem piv_nz {st : Ech} (h : Good st) : piv st ≠ 0 := by
  cases st with
  | nil => exact (by decide : (1 : Int) ≠ 0)
  | cons e st => exact h.2
/-- what vanishes at all leads is nothing -/
theorem zero_of : ∀ {st : Ech} {w : Vec}, Good st → InS (rows st) w → (∀ l ∈ leads st, w l = 0) → ∀ k, w k = 0
  | [], w, _, h, _ => h
  | (l, b) :: st, w, ⟨g, hp⟩, ⟨N, c, hN, h⟩, hz => by
    have pz := piv_nz g
    have h1 : InS (rows st) fun k => piv st * N * w k - c * red st b k :=
      (InS.lin (piv st) (-c) h (red_span st b)).ext fun k => by grind
    have z := zero_of g h1 fun l' hl' => by
      rw [hz l' (List.mem_cons_of_mem _ hl'), red_lead hl']; simp
    have zl := z l
    rw [hz l List.mem_cons_self] at zl
    have hp' : red st b l ≠ 0 := hp
    have c0 : c = 0 := by
      have : c * red st b l = 0 := by simpa using zl
      exact (Int.mul_eq_zero.mp this).resolve_right hp'
    intro k
    have := z k
    rw [c0] at this
    have : piv st * N * w k = 0 := by simpa using this
    exact (Int.mul_eq_zero.mp this).resolve_left (Int.mul_ne_zero pz hN)
theorem rows_cons (e : Nat × Vec) (st : Ech) : rows (e :: st) = e.2 :: rows st := rfl
theorem InS.cons {b : Vec} {bs : List Vec} {w : Vec} (h : InS bs w) : InS (b :: bs) w := ⟨1, 0, by decide, h.ext fun k => by omega⟩
/-- the step of the elimination is exact -/
theorem red_step {l : Nat} {b : Vec} {st : Ech} (g : Good ((l, b) :: st)) (v : Vec) (k : Nat) : piv st * red ((l, b) :: st) v k = red st b l * red st v k - red st v l * red st b k := by
  have s1 := red_span ((l, b) :: st) v
  have s2 := (red_span st v).cons (b := b)
  have s3 := (red_span st b).cons (b := b)
  have sb : InS (rows ((l, b) :: st)) b := InS.mem List.mem_cons_self
  have p1 : piv ((l, b) :: st) = red st b l := rfl
  have hs : InS (rows ((l, b) :: st)) fun k => piv st * red ((l, b) :: st) v k - (red st b l * red st v k - red st v l * red st b k) := by
    have t1 := InS.lin (piv st) (-(red st b l)) s1 s2
    have t2 := InS.lin (red st v l) (red st v l * piv st) s3 sb
    refine (InS.lin 1 1 t1 t2).ext fun k => ?_
    rw [p1]; grind
  have := zero_of g hs (fun l' hl' => by
    rw [red_lead hl']
    rcases List.mem_cons.mp hl' with e | hl'
    · have e : l' = l := e
      rw [e]; grind
    · rw [red_lead hl', red_lead hl']; simp) k
  omega
/-- in the span exactly if nothing is left -/
theorem red_zero {st : Ech} (g : Good st) (v : Vec) : InS (rows st) v ↔ ∀ k, red st v k = 0 := by
  constructor
  · intro h
    refine zero_of g ((InS.lin 1 (piv st) (red_span st v) h).ext fun k => by omega) fun l hl => red_lead hl
  · intro h
    exact InS.div (piv_nz g) ((InS.smul (-1) (red_span st v)).ext fun k => by rw [h]; omega)
/-- a unit beside the leads is not in the span -/
theorem red_unit {st : Ech} (g : Good st) {j : Nat} (hj : j ∉ leads st) : red st (fun k => if k = j then 1 else 0) j = piv st := by
  have := zero_of g (red_span st fun k => if k = j then 1 else 0) (fun l hl => by
    rw [red_lead hl, if_neg (fun z => hj (by rw [← z]; exact hl))]; simp) j
  simp at this
  omega
/-! ### bounds -/
def fac : Nat → Nat
  | 0 => 1
  | n + 1 => (n + 1) * fac n
theorem K_le {k : Nat} {M B : Nat} : ∀ (rs : List Vec) (w : List Vec → Int), (∀ r ∈ rs, ∀ k, (r k).natAbs ≤ M) → (∀ t : List Vec, t.length + 1 = rs.length → (∀ r ∈ t, ∀ k, (r k).natAbs ≤ M) → (w t).natAbs ≤ B) → (K k w rs).natAbs ≤ rs.length * (M * B)
  | [], _, _, _ => by simp [K]
  | r :: rs, w, hr, hw => by
    have h1 := hw rs rfl fun r' h' => hr r' (List.mem_cons_of_mem _ h')
    have h2 := K_le (k := k) (M := M) (B := B) rs (fun t => w (r :: t)) (fun r' h' => hr r' (List.mem_cons_of_mem _ h')) fun t ht hb => hw (r :: t) (by simp [ht]) fun r' h' => by
      rcases List.mem_cons.mp h' with rfl | h'
      · exact hr _ List.mem_cons_self
      · exact hb r' h'
    have h3 : (r k * w rs).natAbs ≤ M * B := by
      rw [Int.natAbs_mul]
      exact Nat.mul_le_mul (hr r List.mem_cons_self k) h1
    unfold K
    rw [List.length_cons, Nat.add_mul, Nat.one_mul]
    have := Int.natAbs_sub_le (r k * w rs) (K k (fun t => w (r :: t)) rs)
    omega
theorem Dt_le {M : Nat} : ∀ (ks : List Nat) (rs : List Vec), rs.length = ks.length → (∀ r ∈ rs, ∀ k, (r k).natAbs ≤ M) → (Dt ks rs).natAbs ≤ fac ks.length * M ^ ks.length
  | [], rs, _, _ => by simp [Dt, fac]
  | k :: ks, rs, hl, hr => by
    have := K_le (k := k) (M := M) (B := fac ks.length * M ^ ks.length) rs (Dt ks) hr fun t ht hb => Dt_le ks t (by simp at hl; omega) hb
    show (K k (Dt ks) rs).natAbs ≤ _
    rw [hl] at this
    refine Nat.le_trans this (Nat.le_of_eq ?_)
    simp only [List.length_cons, fac, Nat.pow_succ]
    grind
end LA

namespace LA
/-! ### lists as rows; lowest terms -/
def vc (r : List Int) : Vec := fun k => r.getD k 0
def gl (ns : List Int) : Nat := ns.foldl (fun d n => Nat.gcd d n.natAbs) 0
theorem gl_go : ∀ (ns : List Int) (d0 : Nat), ns.foldl (fun d n => Nat.gcd d n.natAbs) d0 = Nat.gcd d0 (gl ns)
  | [], d0 => by simp [gl]
  | n :: ns, d0 => by
    unfold gl
    rw [List.foldl_cons, List.foldl_cons, gl_go ns, gl_go ns, Nat.gcd_assoc, Nat.gcd_zero_left]
theorem gl_cons (n : Int) (ns : List Int) : gl (n :: ns) = Nat.gcd n.natAbs (gl ns) := by
  show ns.foldl _ (Nat.gcd 0 n.natAbs) = _
  rw [gl_go, Nat.gcd_zero_left]
theorem gl_dvd : ∀ {ns : List Int} {x : Int}, x ∈ ns → gl ns ∣ x.natAbs
  | n :: ns, x, h => by
    rw [gl_cons]
    rcases List.mem_cons.mp h with rfl | h
    · exact Nat.gcd_dvd_left _ _
    · exact Nat.dvd_trans (Nat.gcd_dvd_right _ _) (gl_dvd h)
theorem gl_scale (c : Nat) : ∀ {ns : List Int} {d : Nat}, (∀ x ∈ ns, d ∣ c * x.natAbs) → d ∣ c * gl ns
  | [], d, _ => by simp [gl]
  | n :: ns, d, h => by
    rw [gl_cons, ← Nat.gcd_mul_left]
    exact Nat.dvd_gcd (h n List.mem_cons_self) (gl_scale c fun x hx => h x (List.mem_cons_of_mem _ hx))
theorem vc_mem {r : List Int} {k : Nat} (h : vc r k ≠ 0) : vc r k ∈ r := by
  unfold vc at h ⊢
  rw [List.getD_eq_getElem?_getD] at h ⊢
  cases q : r[k]? with
  | none => rw [q] at h; exact absurd rfl h
  | some x => exact List.mem_of_getElem? q
theorem mem_vc {r : List Int} {x : Int} (h : x ∈ r) : ∃ k, k < r.length ∧ vc r k = x := by
  obtain ⟨k, hk, e⟩ := List.getElem_of_mem h
  exact ⟨k, hk, by simp [vc, List.getD_eq_getElem?_getD, hk, e]⟩
theorem vc_out {r : List Int} {k : Nat} (h : r.length ≤ k) : vc r k = 0 := by simp [vc, List.getD_eq_getElem?_getD, List.getElem?_eq_none h]
theorem vc_eq {r : List Int} {k : Nat} (h : k < r.length) : vc r k = r[k] := by simp [vc, List.getD_eq_getElem?_getD, h]
theorem vc_map {f : Int → Int} (h0 : f 0 = 0) (r : List Int) (k : Nat) : vc (r.map f) k = f (vc r k) := by
  unfold vc
  rw [List.getD_eq_getElem?_getD, List.getD_eq_getElem?_getD, List.getElem?_map]
  cases r[k]? with
  | none => exact h0.symm
  | some x => rfl
theorem vc_ext {r q : List Int} (hl : r.length = q.length) (h : ∀ k, vc r k = vc q k) : r = q := by
  refine List.ext_getElem hl fun i h1 h2 => ?_
  have := h i
  rwa [vc_eq h1, vc_eq h2] at this
theorem gl_zero {r : List Int} (h : gl r = 0) (k : Nat) : vc r k = 0 := by
  by_cases z : vc r k = 0
  · exact z
  · have := gl_dvd (vc_mem z)
    rw [h] at this
    have := Nat.eq_zero_of_zero_dvd this
    omega
theorem gl_le {r : List Int} {B : Nat} (h : ∀ k, (vc r k).natAbs ≤ B) : gl r ≤ B := by
  by_cases z : ∃ k, vc r k ≠ 0
  · obtain ⟨k, hk⟩ := z
    have := Nat.le_of_dvd (by omega) (gl_dvd (vc_mem hk))
    have := h k
    omega
  · have : gl r ∣ 0 := by
      have := gl_scale 1 (ns := r) (d := 0) fun x hx => by
        obtain ⟨k, _, e⟩ := mem_vc hx
        have : vc r k = 0 := by
          by_cases q : vc r k = 0
          · exact q
          · exact absurd ⟨k, q⟩ z
        rw [← e, this]; simp
      have h0 := Nat.eq_zero_of_zero_dvd this
      simp at h0
      rw [h0]
      exact ⟨0, rfl⟩
    have h1 : gl r = 0 := by
      have := gl_scale 1 (ns := r) (d := 0) fun x hx => by
        obtain ⟨k, _, e⟩ := mem_vc hx
        have : vc r k = 0 := by
          by_cases q : vc r k = 0
          · exact q
          · exact absurd ⟨k, q⟩ z
        rw [← e, this]; simp
      have h0 := Nat.eq_zero_of_zero_dvd this
      simpa using h0
    omega
/-- no common divisor above 1 -/
def Pm (u : Vec) : Prop := ∀ d c : Int, (∀ k, d ∣ c * u k) → d ∣ c
theorem pm_gl {r : List Int} (h : gl r = 1) : Pm (vc r) := fun d c hd => by
  have := gl_scale c.natAbs (ns := r) (d := d.natAbs) fun x hx => by
    obtain ⟨k, _, e⟩ := mem_vc hx
    rw [← Int.natAbs_mul, ← e]
    exact Int.natAbs_dvd_natAbs.mpr (hd k)
  rw [h, Nat.mul_one] at this
  exact Int.natAbs_dvd_natAbs.mp this
/-- parallel to a primitive row -/
theorem pm_par {r T : Vec} {a a' : Int} (ha : a ≠ 0) (ha' : a' ≠ 0) (h : ∀ k, a * r k = a' * T k) (p : Pm r) : ∃ t : Int, t ≠ 0 ∧ ∀ k, T k = t * r k := by
  obtain ⟨t, e⟩ := p a' a fun k => ⟨T k, by rw [h k]⟩
  refine ⟨t, fun z => ha (by rw [e, z]; simp), fun k => ?_⟩
  have := h k
  rw [e, Int.mul_assoc] at this
  exact (Int.eq_of_mul_eq_mul_left ha' this).symm
theorem par_le {r T : Vec} {t : Int} (ht : t ≠ 0) (h : ∀ k, T k = t * r k) (k : Nat) : (r k).natAbs ≤ (T k).natAbs := by
  rw [h k, Int.natAbs_mul]
  exact Nat.le_mul_of_pos_left _ (by omega)
def low (r : List Int) : List Int := if gl r = 0 then r else r.map fun x => x.fdiv (gl r : Nat)
theorem low_len (r : List Int) : (low r).length = r.length := by unfold low; split <;> simp
theorem low_mul (r : List Int) : ∃ g : Int, g ≠ 0 ∧ ∀ k, vc r k = g * vc (low r) k := by
  unfold low
  by_cases h : gl r = 0
  · rw [if_pos h]; exact ⟨1, by decide, fun k => by omega⟩
  · rw [if_neg h]
    refine ⟨(gl r : Nat), by omega, fun k => ?_⟩
    rw [vc_map (by simp)]
    by_cases z : vc r k = 0
    · rw [z]; simp
    · have := gl_dvd (vc_mem z)
      have : ((gl r : Nat) : Int) ∣ vc r k := Int.dvd_natAbs.mp (Int.ofNat_dvd.mpr this)
      exact (Int.mul_fdiv_cancel' this).symm
theorem low_pm (r : List Int) (h : ∃ k, vc r k ≠ 0) : gl (low r) = 1 := by
  have hz : gl r ≠ 0 := fun z => by obtain ⟨k, hk⟩ := h; exact hk (gl_zero z k)
  obtain ⟨g, hg, e⟩ : ∃ g : Int, g = (gl r : Nat) ∧ ∀ k, vc r k = g * vc (low r) k := by
    refine ⟨(gl r : Nat), rfl, fun k => ?_⟩
    unfold low
    rw [if_neg hz, vc_map (by simp)]
    by_cases z : vc r k = 0
    · rw [z]; simp
    · have := gl_dvd (vc_mem z)
      have : ((gl r : Nat) : Int) ∣ vc r k := Int.dvd_natAbs.mp (Int.ofNat_dvd.mpr this)
      exact (Int.mul_fdiv_cancel' this).symm
  have := gl_scale 1 (ns := r) (d := gl r * gl (low r)) fun x hx => by
    obtain ⟨k, _, ek⟩ := mem_vc hx
    rw [Nat.one_mul, ← ek, e k, Int.natAbs_mul, hg, Int.natAbs_natCast]
    refine Nat.mul_dvd_mul_left _ ?_
    by_cases z : vc (low r) k = 0
    · rw [z]; exact ⟨0, rfl⟩
    · exact gl_dvd (vc_mem z)
  rw [Nat.one_mul] at this
  have h2 : gl r * gl (low r) ≤ gl r * 1 := by rw [Nat.mul_one]; exact Nat.le_of_dvd (by omega) this
  have h3 := Nat.le_of_mul_le_mul_left h2 (by omega)
  have h4 : gl (low r) ≠ 0 := fun z => by
    obtain ⟨k, hk⟩ := h
    exact hk (by rw [e k, gl_zero z k]; simp)
  omega
theorem low_zero {r : List Int} (h : ∀ k, vc r k = 0) (k : Nat) : vc (low r) k = 0 := by
  obtain ⟨g, hg, e⟩ := low_mul r
  have := e k
  rw [h k] at this
  exact (Int.mul_eq_zero.mp this.symm).resolve_left hg
/-- a * r - b * q, of lists of one length -/
def comb (a b : Int) (r q : List Int) : List Int := (r.zip q).map fun p => a * p.1 - b * p.2
theorem comb_len {a b : Int} {r q : List Int} (h : r.length = q.length) : (comb a b r q).length = r.length := by simp [comb, h]
theorem comb_vc {a b : Int} {r q : List Int} (h : r.length = q.length) (k : Nat) : vc (comb a b r q) k = a * vc r k - b * vc q k := by
  by_cases hk : k < r.length
  · rw [vc_eq (by rw [comb_len h]; exact hk), vc_eq hk, vc_eq (by omega)]
    simp [comb]
  · rw [vc_out (by rw [comb_len h]; omega), vc_out (by omega), vc_out (by omega)]; simp
def clr (r q : List Int) (l : Nat) : List Int := if vc r l = 0 then r else low (comb (vc q l) (vc r l) r q)
theorem clr_len {r q : List Int} {l : Nat} (h : r.length = q.length) : (clr r q l).length = r.length := by
  unfold clr
  split
  · rfl
  · rw [low_len, comb_len h]
abbrev LE := List (Nat × List Int)
def rst (ech : LE) (row : List Int) : List Int := ech.foldl (fun r e => clr r e.2 e.1) (low row)
def fnz (r : List Int) : Option Nat := r.findIdx? fun x => decide (x ≠ 0)
def ext (ech : LE) (row : List Int) : LE := match fnz (rst ech row) with
  | none => ech
  | some a => ech.map (fun e => (e.1, clr e.2 (rst ech row) a)) ++ [(a, rst ech row)]
def echl (rs : List (List Int)) : LE := rs.foldl ext []
theorem fnz_none {r : List Int} (h : fnz r = none) (k : Nat) : vc r k = 0 := by
  unfold fnz at h
  rw [List.findIdx?_eq_none_iff] at h
  by_cases z : vc r k = 0
  · exact z
  · have := h _ (vc_mem z)
    simp at this
    exact this
theorem fnz_some {r : List Int} {a : Nat} (h : fnz r = some a) : a < r.length ∧ vc r a ≠ 0 ∧ ∀ k, k < a → vc r k = 0 := by
  unfold fnz at h
  rw [List.findIdx?_eq_some_iff_getElem] at h
  obtain ⟨hl, h1, h2⟩ := h
  refine ⟨hl, ?_, fun k hk => ?_⟩
  · rw [vc_eq hl]; simpa using h1
  · rw [vc_eq (by omega)]; simpa using h2 k hk
/-! ### rows told by the leads -/
/-- for each lead a row that is the pivot there and 0 at the other leads, of bounded size -/
theorem dual {st : Ech} {M : Nat} (nd : (leads st).Nodup) (hM : ∀ r ∈ rows st, ∀ k, (r k).natAbs ≤ M) {l : Nat} (hl : l ∈ leads st) :
    ∃ R : Vec, R l = piv st ∧ (∀ l' ∈ leads st, l' ≠ l → R l' = 0) ∧ InS (rows st) R ∧ ∀ k, (R k).natAbs ≤ fac st.length * M ^ st.length := by
  obtain ⟨x, y, e⟩ := List.append_of_mem hl
  obtain ⟨s, hs, h⟩ := Dt_front l y x
  have hlen : (rows st).length = (l :: (x ++ y)).length := by
    have : (leads st).length = st.length := by simp [leads]
    rw [e] at this
    simp [rows] at this ⊢
    omega
  have hst : (l :: (x ++ y)).length = st.length := by rw [← hlen]; simp [rows]
  refine ⟨fun k => s * Dt (k :: (x ++ y)) (rows st), ?_, fun l' h1 h2 => ?_, InS.smul s (K_span (rows st) _), fun k => ?_⟩
  · show s * Dt (l :: (x ++ y)) (rows st) = Dt (leads st) (rows st)
    rw [e]; exact (h _).symm
  · have : l' ∈ x ++ y := by
      rw [e] at h1
      rcases List.mem_append.mp h1 with h1 | h1
      · exact List.mem_append_left _ h1
      · rcases List.mem_cons.mp h1 with h1 | h1
        · exact absurd h1 h2
        · exact List.mem_append_right _ h1
    show s * Dt (l' :: (x ++ y)) (rows st) = 0
    rw [Dt_dup this]; simp
  · have := Dt_le (M := M) (k :: (x ++ y)) (rows st) hlen hM
    rw [show (k :: (x ++ y)).length = st.length from hst] at this
    show (s * Dt (k :: (x ++ y)) (rows st)).natAbs ≤ _
    rw [Int.natAbs_mul]
    have : s.natAbs = 1 := by omega
    rw [this, Nat.one_mul]; assumption
end LA

namespace LA
/-! ### the reduced rows of the program -/
def Bd (M m : Nat) : Nat := fac m * M ^ m
structure EchOk (M n : Nat) (st : Ech) (e : LE) : Prop where
  good : Good st
  bd : ∀ r ∈ rows st, ∀ k, (r k).natAbs ≤ M
  ls : e.map (·.1) = (leads st).reverse
  len : ∀ x ∈ e, x.2.length = n
  lt : ∀ l ∈ leads st, l < n
  pv : ∀ x ∈ e, vc x.2 x.1 ≠ 0
  zr : ∀ x ∈ e, ∀ l ∈ leads st, l ≠ x.1 → vc x.2 l = 0
  pm : ∀ x ∈ e, gl x.2 = 1
  sp : ∀ x ∈ e, InS (rows st) (vc x.2)
theorem good_nodup : ∀ {st : Ech}, Good st → (leads st).Nodup
  | [], _ => List.nodup_nil
  | (l, b) :: st, ⟨g, h⟩ => by
    refine List.nodup_cons.mpr ⟨fun z => h ?_, good_nodup g⟩
    exact red_lead (st := st) (v := b) z
section
variable {M n : Nat} {st : Ech} {e : LE}
theorem EchOk.mem (h : EchOk M n st e) {x : Nat × List Int} (hx : x ∈ e) : x.1 ∈ leads st := by
  have : x.1 ∈ e.map (·.1) := List.mem_map_of_mem hx
  rw [h.ls] at this
  exact List.mem_reverse.mp this
theorem EchOk.elen (h : EchOk M n st e) : e.length = st.length := by
  have := congrArg List.length h.ls
  simpa [leads] using this
theorem EchOk.end_ (h : EchOk M n st e) : (e.map (·.1)).Nodup := by
  rw [h.ls]; exact List.pairwise_reverse.mpr ((good_nodup h.good).imp fun z => z.symm)
/-- the row at a lead beside the dual one -/
theorem EchOk.par (h : EchOk M n st e) {x : Nat × List Int} (hx : x ∈ e) {R : Vec} (h1 : R x.1 = piv st) (h2 : ∀ l' ∈ leads st, l' ≠ x.1 → R l' = 0) (h3 : InS (rows st) R) (k : Nat) : piv st * vc x.2 k = vc x.2 x.1 * R k := by
  have := zero_of h.good ((InS.lin (piv st) (-(vc x.2 x.1)) (h.sp x hx) h3)) (fun l hl => by
    by_cases z : l = x.1
    · subst z; rw [h1]; grind
    · rw [h2 l hl z, h.zr x hx l hl z]; simp) k
  grind
theorem EchOk.row (h : EchOk M n st e) {x : Nat × List Int} (hx : x ∈ e) : ∃ (R : Vec) (t : Int), t ≠ 0 ∧ R x.1 = piv st ∧ (∀ l' ∈ leads st, l' ≠ x.1 → R l' = 0) ∧ InS (rows st) R ∧ (∀ k, (R k).natAbs ≤ Bd M st.length) ∧ ∀ k, R k = t * vc x.2 k := by
  obtain ⟨R, h1, h2, h3, h4⟩ := dual (good_nodup h.good) h.bd (h.mem hx)
  obtain ⟨t, ht, e⟩ := pm_par (piv_nz h.good) (h.pv x hx) (h.par hx h1 h2 h3) (pm_gl (h.pm x hx))
  exact ⟨R, t, ht, h1, h2, h3, h4, e⟩
theorem EchOk.small (h : EchOk M n st e) {x : Nat × List Int} (hx : x ∈ e) (k : Nat) : (vc x.2 k).natAbs ≤ Bd M st.length := by
  obtain ⟨R, t, ht, _, _, _, h4, e⟩ := h.row hx
  exact Nat.le_trans (par_le ht e k) (h4 k)
theorem EchOk.pdvd (h : EchOk M n st e) {x : Nat × List Int} (hx : x ∈ e) : vc x.2 x.1 ∣ piv st := by
  obtain ⟨R, t, ht, h1, _, _, _, e⟩ := h.row hx
  exact ⟨t, by rw [← h1, e, Int.mul_comm]⟩
theorem EchOk.pvle (h : EchOk M n st e) : (piv st).natAbs ≤ Bd M st.length := by
  have := Dt_le (M := M) (leads st) (rows st) (by simp [leads, rows]) h.bd
  simpa [leads, Bd, piv] using this
/-- the rest of a row behind some of the rows -/
theorem EchOk.rest (h : EchOk M n st e) {row : List Int} (hl : row.length = n) (hv : ∀ k, (vc row k).natAbs ≤ M) : ∀ i, i ≤ e.length →
    ∃ T : Vec, (∀ l ∈ leads st, l ∉ (e.take i).map (·.1) → T l = piv st * vc row l) ∧ (∀ l ∈ (e.take i).map (·.1), T l = 0) ∧ (∀ k, (T k).natAbs ≤ (i + 1) * (M * Bd M st.length)) ∧ (InS (rows st) fun k => T k - piv st * vc row k) ∧
      ((e.take i).foldl (fun r e => clr r e.2 e.1) (low row)).length = n ∧ (gl ((e.take i).foldl (fun r e => clr r e.2 e.1) (low row)) = 1 ∨ ∀ k, vc ((e.take i).foldl (fun r e => clr r e.2 e.1) (low row)) k = 0) ∧
      ∃ a a' : Int, a ≠ 0 ∧ a' ≠ 0 ∧ ∀ k, a * vc ((e.take i).foldl (fun r e => clr r e.2 e.1) (low row)) k = a' * T k
  | 0, _ => by
    refine ⟨fun k => piv st * vc row k, fun _ _ _ => rfl, fun l hl => by simp at hl, fun k => ?_, InS.zero fun k => Int.sub_self _, by simp [low_len, hl], ?_, ?_⟩
    · rw [Int.natAbs_mul, Nat.zero_add, Nat.one_mul, Nat.mul_comm]
      exact Nat.mul_le_mul (hv k) h.pvle
    · by_cases z : ∃ k, vc row k ≠ 0
      · exact .inl (low_pm row z)
      · refine .inr fun k => low_zero (fun k => ?_) k
        by_cases q : vc row k = 0
        · exact q
        · exact absurd ⟨k, q⟩ z
    · obtain ⟨g, hg, eg⟩ := low_mul row
      exact ⟨piv st * g, 1, Int.mul_ne_zero (piv_nz h.good) hg, by decide, fun k => by
        show piv st * g * vc (low row) k = 1 * (piv st * vc row k)
        rw [eg k]; grind⟩
  | i + 1, hi => by
    obtain ⟨T, t1, t2, t3, t4, r1, r2, a, a', ha, ha', r3⟩ := EchOk.rest h hl hv i (by omega)
    rw [List.take_succ_eq_append_getElem (by omega), List.foldl_append, List.map_append]
    generalize hr : (e.take i).foldl (fun r e => clr r e.2 e.1) (low row) = r at r1 r2 r3 ⊢
    have hx : e[i] ∈ e := List.getElem_mem _
    generalize hxe : e[i] = x at hx ⊢
    obtain ⟨l, q⟩ := x
    have hlm : l ∈ leads st := h.mem hx
    have hli : l ∉ (e.take i).map (·.1) := fun z => by
      have nd := h.end_
      have e1 : e = e.take i ++ (l, q) :: e.drop (i + 1) := by rw [← hxe, ← List.drop_eq_getElem_cons (by omega), List.take_append_drop]
      rw [e1, List.map_append, List.nodup_append] at nd
      exact nd.2.2 l z l (by simp) rfl
    have tl := t1 l hlm hli
    obtain ⟨R, t, ht, R1, R2, R3, R4, Re⟩ := h.row hx
    have pq := h.par hx R1 R2 R3
    have hql := h.pv _ hx
    have hqn := h.len _ hx
    simp only at R1 R2 Re pq hql hqn
    have pz := piv_nz h.good
    refine ⟨fun k => T k - vc row l * R k, fun l' h1 h2 => ?_, fun l' h1 => ?_, fun k => ?_, ?_, ?_⟩
    · have n1 : l' ∉ (e.take i).map (·.1) := fun z => h2 (List.mem_append_left _ z)
      have n2 : l' ≠ l := fun z => h2 (List.mem_append_right _ (by simp [z]))
      show T l' - vc row l * R l' = _
      rw [t1 l' h1 n1, R2 l' h1 n2]; simp
    · show T l' - vc row l * R l' = 0
      rcases List.mem_append.mp h1 with h1 | h1
      · have n2 : l' ≠ l := fun z => hli (z ▸ h1)
        have h3 : l' ∈ leads st := by
          obtain ⟨y, hy, rfl⟩ := List.mem_map.mp h1
          exact h.mem (List.mem_of_mem_take hy)
        rw [t2 l' h1, R2 l' h3 n2]; simp
      · have : l' = l := by simpa using h1
        rw [this, tl, R1]; grind
    · have h5 := t3 k
      have h6 : (vc row l * R k).natAbs ≤ M * Bd M st.length := by
        rw [Int.natAbs_mul]; exact Nat.mul_le_mul (hv l) (R4 k)
      have h7 := Int.natAbs_sub_le (T k) (vc row l * R k)
      show (T k - vc row l * R k).natAbs ≤ _
      rw [Nat.add_mul (i + 1), Nat.one_mul]
      omega
    · refine (InS.lin 1 (-(vc row l)) t4 R3).ext fun k => ?_
      grind
    · show (clr r q l).length = n ∧ _
      refine ⟨by rw [clr_len (by omega)]; exact r1, ?_, ?_⟩
      · show gl (clr r q l) = 1 ∨ ∀ k, vc (clr r q l) k = 0
        unfold clr
        split
        · exact r2
        · by_cases z : ∃ k, vc (comb (vc q l) (vc r l) r q) k ≠ 0
          · exact .inl (low_pm _ z)
          · refine .inr fun k => low_zero (fun k => ?_) k
            by_cases q' : vc (comb (vc q l) (vc r l) r q) k = 0
            · exact q'
            · exact absurd ⟨k, q'⟩ z
      · show ∃ a a' : Int, a ≠ 0 ∧ a' ≠ 0 ∧ ∀ k, a * vc (clr r q l) k = a' * (T k - vc row l * R k)
        unfold clr
        split
        · rename_i z
          have vz : vc row l = 0 := by
            have := r3 l
            rw [z, tl] at this
            have : a' * (piv st * vc row l) = 0 := by omega
            exact ((Int.mul_eq_zero.mp ((Int.mul_eq_zero.mp this).resolve_left ha')).resolve_left pz)
          exact ⟨a, a', ha, ha', fun k => by rw [r3 k, vz]; simp⟩
        · rename_i z
          obtain ⟨g, hg, eg⟩ := low_mul (comb (vc q l) (vc r l) r q)
          refine ⟨a * g, a' * vc q l, Int.mul_ne_zero ha hg, Int.mul_ne_zero ha' hql, fun k => ?_⟩
          have e1 := eg k
          rw [comb_vc (by omega)] at e1
          have e2 := r3 k
          have e3 := r3 l
          rw [tl] at e3
          have e4 := pq k
          refine Int.eq_of_mul_eq_mul_left pz ?_
          rw [Int.mul_assoc a g, ← e1]
          grind
theorem EchOk.rst_len (h : EchOk M n st e) {row : List Int} (hl : row.length = n) (hv : ∀ k, (vc row k).natAbs ≤ M) : (rst e row).length = n := by
  obtain ⟨_, _, _, _, _, r, _⟩ := h.rest hl hv e.length (Nat.le_refl _)
  rw [List.take_length] at r
  exact r
theorem EchOk.rst_part (h : EchOk M n st e) {row : List Int} (hl : row.length = n) (hv : ∀ k, (vc row k).natAbs ≤ M) {i : Nat} (hi : i ≤ e.length) (k : Nat) :
    (vc ((e.take i).foldl (fun r e => clr r e.2 e.1) (low row)) k).natAbs ≤ (st.length + 1) * (M * Bd M st.length) := by
  obtain ⟨T, _, _, t3, _, r1, r2, a, a', ha, ha', r3⟩ := h.rest hl hv i hi
  have hb : (i + 1) * (M * Bd M st.length) ≤ (st.length + 1) * (M * Bd M st.length) := Nat.mul_le_mul_right _ (by have := h.elen; omega)
  rcases r2 with r2 | r2
  · obtain ⟨t, ht, et⟩ := pm_par ha ha' r3 (pm_gl r2)
    have := par_le ht et k
    have := t3 k
    omega
  · rw [r2 k]; simp
theorem EchOk.part_len (h : EchOk M n st e) {row : List Int} (hl : row.length = n) (hv : ∀ k, (vc row k).natAbs ≤ M) {i : Nat} (hi : i ≤ e.length) :
    ((e.take i).foldl (fun r e => clr r e.2 e.1) (low row)).length = n := by
  obtain ⟨_, _, _, _, _, r, _⟩ := h.rest hl hv i hi
  exact r
/-- the whole rest is what is left -/
theorem EchOk.whole (h : EchOk M n st e) {row : List Int} (hl : row.length = n) (hv : ∀ k, (vc row k).natAbs ≤ M) : ∃ a a' : Int, a ≠ 0 ∧ a' ≠ 0 ∧ ∀ k, a * vc (rst e row) k = a' * red st (vc row) k := by
  obtain ⟨T, _, t2, _, t4, _, _, a, a', ha, ha', r3⟩ := h.rest hl hv e.length (Nat.le_refl _)
  rw [List.take_length] at r3 t2
  have hT : ∀ k, T k = red st (vc row) k := fun k => by
    have := zero_of h.good (InS.lin 1 (-1) t4 (red_span st (vc row))) (fun l hl => by
      have : l ∈ e.map (·.1) := by rw [h.ls]; exact List.mem_reverse.mpr hl
      rw [t2 l this, red_lead hl]; grind) k
    grind
  exact ⟨a, a', ha, ha', fun k => by rw [← hT]; exact r3 k⟩
theorem EchOk.rst_pm (h : EchOk M n st e) {row : List Int} (hl : row.length = n) (hv : ∀ k, (vc row k).natAbs ≤ M) (hz : ∃ k, vc (rst e row) k ≠ 0) : gl (rst e row) = 1 := by
  obtain ⟨_, _, _, _, _, _, r2, _⟩ := h.rest hl hv e.length (Nat.le_refl _)
  rw [List.take_length] at r2
  rcases r2 with r2 | r2
  · exact r2
  · obtain ⟨k, hk⟩ := hz
    exact absurd (r2 k) hk
/-- no new lead: in the span -/
theorem EchOk.none (h : EchOk M n st e) {row : List Int} (hl : row.length = n) (hv : ∀ k, (vc row k).natAbs ≤ M) (hf : fnz (rst e row) = .none) : InS (rows st) (vc row) ∧ ext e row = e := by
  refine ⟨(red_zero h.good _).mpr fun k => ?_, by unfold ext; rw [hf]⟩
  obtain ⟨a, a', ha, ha', e⟩ := h.whole hl hv
  have := e k
  rw [fnz_none hf k] at this
  exact (Int.mul_eq_zero.mp (show a' * red st (vc row) k = 0 by omega)).resolve_left ha'
theorem EchOk.some (h : EchOk M n st e) {row : List Int} (hl : row.length = n) (hv : ∀ k, (vc row k).natAbs ≤ M) {a : Nat} (hf : fnz (rst e row) = .some a) : EchOk M n ((a, vc row) :: st) (ext e row) := by
  obtain ⟨h1, h2, h3⟩ := fnz_some hf
  obtain ⟨c, c', hc, hc', ew⟩ := h.whole hl hv
  have hlen := h.rst_len hl hv
  have hpm := h.rst_pm hl hv ⟨a, h2⟩
  generalize hr : rst e row = r at *
  have rz : ∀ l ∈ leads st, vc r l = 0 := fun l hl' => by
    have := ew l
    rw [red_lead hl'] at this
    exact (Int.mul_eq_zero.mp (show c * vc r l = 0 by omega)).resolve_left hc
  have ra : red st (vc row) a ≠ 0 := fun z => by
    have := ew a
    rw [z] at this
    exact h2 ((Int.mul_eq_zero.mp (show c * vc r a = 0 by omega)).resolve_left hc)
  have an : a ∉ leads st := fun z => ra (red_lead z)
  have hrs : InS (rows ((a, vc row) :: st)) (vc r) := by
    refine InS.div hc ?_
    have s1 := (red_span st (vc row)).cons (b := vc row)
    have s2 : InS (vc row :: rows st) (vc row) := InS.mem List.mem_cons_self
    refine (InS.lin c' (c' * piv st) s1 s2).ext fun k => ?_
    have := ew k
    grind
  have he : ext e row = e.map (fun x => (x.1, clr x.2 r a)) ++ [(a, r)] := by unfold ext; rw [hr, hf]
  have new : ∀ x ∈ e, vc (clr x.2 r a) a = 0 ∧ (∀ l ∈ leads st, l ≠ x.1 → vc (clr x.2 r a) l = 0) ∧ vc (clr x.2 r a) x.1 ≠ 0 ∧ gl (clr x.2 r a) = 1 ∧ (clr x.2 r a).length = n ∧ InS (rows ((a, vc row) :: st)) (vc (clr x.2 r a)) := fun x hx => by
    have xl := h.len x hx
    have xm := h.mem hx
    unfold clr
    by_cases z : vc x.2 a = 0
    · rw [if_pos z]
      exact ⟨z, fun l hl' hne => h.zr x hx l hl' hne, h.pv x hx, h.pm x hx, xl, (h.sp x hx).cons⟩
    · rw [if_neg z]
      obtain ⟨g, hg, eg⟩ := low_mul (comb (vc r a) (vc x.2 a) x.2 r)
      have cv := comb_vc (a := vc r a) (b := vc x.2 a) (r := x.2) (q := r) (by omega)
      have x1 : vc (low (comb (vc r a) (vc x.2 a) x.2 r)) x.1 ≠ 0 := fun q => by
        have := eg x.1
        rw [q, cv, rz x.1 xm] at this
        have : vc r a * vc x.2 x.1 = 0 := by simpa using this
        rcases Int.mul_eq_zero.mp this with q | q
        · exact h2 q
        · exact h.pv x hx q
      refine ⟨?_, fun l hl' hne => ?_, x1, ?_, by rw [low_len, comb_len (by omega)]; exact xl, ?_⟩
      · have := eg a
        rw [cv] at this
        exact (Int.mul_eq_zero.mp (show g * vc (low (comb (vc r a) (vc x.2 a) x.2 r)) a = 0 by grind)).resolve_left hg
      · have := eg l
        rw [cv, rz l hl', h.zr x hx l hl' hne] at this
        exact (Int.mul_eq_zero.mp (show g * vc (low (comb (vc r a) (vc x.2 a) x.2 r)) l = 0 by grind)).resolve_left hg
      · refine low_pm _ ⟨x.1, fun q => x1 ?_⟩
        have := eg x.1
        rw [q] at this
        exact (Int.mul_eq_zero.mp this.symm).resolve_left hg
      · refine InS.div hg ((InS.lin (vc r a) (-(vc x.2 a)) ((h.sp x hx).cons (b := vc row)) hrs).ext fun k => ?_)
        have := eg k
        rw [cv] at this
        grind
  refine ⟨⟨h.good, ra⟩, ?_, ?_, ?_, ?_, ?_, ?_, ?_, ?_⟩
  · intro x hx
    rcases List.mem_cons.mp hx with rfl | hx
    · exact hv
    · exact h.bd x hx
  · rw [he]
    simp only [List.map_append, List.map_map, List.map_cons, List.map_nil]
    show e.map (·.1) ++ [a] = (a :: leads st).reverse
    rw [h.ls, List.reverse_cons]
  · rw [he]; intro x hx
    rcases List.mem_append.mp hx with hx | hx
    · obtain ⟨y, hy, rfl⟩ := List.mem_map.mp hx
      exact (new y hy).2.2.2.2.1
    · have : x = (a, r) := by simpa using hx
      rw [this]; exact hlen
  · intro l hl'
    rcases List.mem_cons.mp hl' with rfl | hl'
    · rw [hlen] at h1; exact h1
    · exact h.lt l hl'
  · rw [he]; intro x hx
    rcases List.mem_append.mp hx with hx | hx
    · obtain ⟨y, hy, rfl⟩ := List.mem_map.mp hx
      exact (new y hy).2.2.1
    · have : x = (a, r) := by simpa using hx
      rw [this]; exact h2
  · rw [he]; intro x hx l hl' hne
    rcases List.mem_append.mp hx with hx | hx
    · obtain ⟨y, hy, rfl⟩ := List.mem_map.mp hx
      rcases List.mem_cons.mp hl' with rfl | hl'
      · exact (new y hy).1
      · exact (new y hy).2.1 l hl' hne
    · have : x = (a, r) := by simpa using hx
      subst this
      rcases List.mem_cons.mp hl' with rfl | hl'
      · exact absurd rfl hne
      · exact rz l hl'
  · rw [he]; intro x hx
    rcases List.mem_append.mp hx with hx | hx
    · obtain ⟨y, hy, rfl⟩ := List.mem_map.mp hx
      exact (new y hy).2.2.2.1
    · have : x = (a, r) := by simpa using hx
      rw [this]; exact hpm
  · rw [he]; intro x hx
    rcases List.mem_append.mp hx with hx | hx
    · obtain ⟨y, hy, rfl⟩ := List.mem_map.mp hx
      exact (new y hy).2.2.2.2.2
    · have : x = (a, r) := by simpa using hx
      rw [this]; exact hrs
end
theorem ech_nil (M n : Nat) : EchOk M n [] [] := ⟨trivial, (fun _ h => nomatch h), rfl, (fun _ h => nomatch h), (fun _ h => nomatch h), (fun _ h => nomatch h), (fun _ h => nomatch h), (fun _ h => nomatch h), (fun _ h => nomatch h)⟩
end LA

namespace LA
/-! ### the law's own elimination -/
def bstep (s : List Int × Int) (e : Nat × List Int) : List Int × Int :=
  ((List.range s.1.length).map fun k => (vc e.2 e.1 * vc s.1 k - vc s.1 e.1 * vc e.2 k).fdiv s.2, vc e.2 e.1)
def bred (rs : LE) (v : List Int) : List Int := (rs.foldl bstep (v, 1)).1
def bwith (rs : LE) (v : List Int) : LE := match fnz (bred rs v) with
  | none => rs
  | some k => rs ++ [(k, bred rs v)]
/-- the rows that the law keeps, the oldest ahead -/
def Lw (n : Nat) : Ech → LE → Prop
  | [], rs => rs = []
  | (l, b) :: st, rs => ∃ rs' r, rs = rs' ++ [(l, r)] ∧ Lw n st rs' ∧ r.length = n ∧ l < n ∧ ∀ k, vc r k = red st b k
theorem vc_range {n : Nat} (f : Nat → Int) (h : ∀ k, n ≤ k → f k = 0) (k : Nat) : vc ((List.range n).map f) k = f k := by
  by_cases hk : k < n
  · rw [vc_eq (by simpa using hk)]; simp
  · rw [vc_out (by simp; omega), h k (by omega)]
theorem Lw.len {n : Nat} : ∀ {st : Ech} {rs : LE}, Lw n st rs → rs.length = st.length
  | [], rs, h => by rw [show rs = [] from h]; rfl
  | (l, b) :: st, rs, ⟨rs', r, e, h, _⟩ => by rw [e]; simp [h.len]
theorem Lw.lens {n : Nat} : ∀ {st : Ech} {rs : LE}, Lw n st rs → ∀ x ∈ rs, x.2.length = n ∧ x.1 < n
  | [], rs, h, x, hx => by rw [show rs = [] from h] at hx; cases hx
  | (l, b) :: st, rs, ⟨rs', r, e, h, hl, hn, _⟩, x, hx => by
    rw [e] at hx
    rcases List.mem_append.mp hx with hx | hx
    · exact h.lens x hx
    · have : x = (l, r) := by simpa using hx
      rw [this]; exact ⟨hl, hn⟩
theorem Lw.red {n : Nat} {v : List Int} (hv : v.length = n) : ∀ {st : Ech} {rs : LE}, Good st → Lw n st rs → ∃ v' : List Int, rs.foldl bstep (v, 1) = (v', piv st) ∧ v'.length = n ∧ ∀ k, vc v' k = LA.red st (vc v) k
  | [], rs, _, h => by
    rw [show rs = [] from h]
    exact ⟨v, rfl, hv, fun k => by
      show _ = Dt [k] [vc v]
      simp [Dt, K]⟩
  | (l, b) :: st, rs, g, ⟨rs', r, e, h, hl, hn, hr⟩ => by
    obtain ⟨v', e1, l1, h1⟩ := Lw.red hv g.1 h
    rw [e, List.foldl_append, e1]
    have out : ∀ k, n ≤ k → (vc r l * vc v' k - vc v' l * vc r k).fdiv (piv st) = 0 := fun k hk => by
      rw [vc_out (r := v') (k := k) (by omega), vc_out (r := r) (k := k) (by omega)]; simp
    have e3 : vc r l = piv ((l, b) :: st) := hr l
    refine ⟨(List.range v'.length).map fun k => (vc r l * vc v' k - vc v' l * vc r k).fdiv (piv st), by rw [← e3]; rfl, by simp [l1], fun k => ?_⟩
    show vc ((List.range v'.length).map fun k => (vc r l * vc v' k - vc v' l * vc r k).fdiv (piv st)) k = _
    rw [l1, vc_range _ out, hr l, hr k, h1 l, h1 k, ← red_step g, Int.mul_fdiv_cancel_left _ (piv_nz g.1)]
theorem Lw.bred {n : Nat} {v : List Int} (hv : v.length = n) {st : Ech} {rs : LE} (g : Good st) (h : Lw n st rs) : (LA.bred rs v).length = n ∧ ∀ k, vc (LA.bred rs v) k = LA.red st (vc v) k := by
  obtain ⟨v', e, l, h1⟩ := Lw.red hv g h
  unfold LA.bred
  rw [e]; exact ⟨l, h1⟩
/-- a prefix -/
theorem Lw.take {n : Nat} : ∀ {st : Ech} {rs : LE}, Good st → Lw n st rs → ∀ i, i ≤ rs.length → ∃ st', Good st' ∧ Lw n st' (rs.take i) ∧ st'.length = i ∧ (∀ r ∈ rows st', r ∈ rows st)
  | [], rs, g, h, i, hi => by
    rw [show rs = [] from h] at hi ⊢
    have : i = 0 := by simpa using hi
    subst this
    exact ⟨[], trivial, rfl, rfl, fun r h => h⟩
  | (l, b) :: st, rs, g, h, i, hi => by
    by_cases hk : i = rs.length
    · subst hk
      rw [List.take_length]
      exact ⟨_, g, h, h.len.symm, fun r h => h⟩
    · obtain ⟨rs', r, e, h', _⟩ := h
      have hl : rs.length = rs'.length + 1 := by rw [e]; simp
      obtain ⟨st', a, b', c, d⟩ := Lw.take g.1 h' i (by omega)
      refine ⟨st', a, ?_, c, fun r hr => List.mem_cons_of_mem _ (d r hr)⟩
      rw [e, List.take_append_of_le_length (by omega)]; exact b'
theorem bwith_none {n : Nat} {v : List Int} (hv : v.length = n) {st : Ech} {rs : LE} (g : Good st) (h : Lw n st rs) (hf : InS (rows st) (vc v)) : bwith rs v = rs := by
  unfold bwith
  cases q : fnz (bred rs v) with
  | none => rfl
  | some k =>
    have := (h.bred hv g).2 k
    rw [(red_zero g _).mp hf k] at this
    exact absurd this (fnz_some q).2.1
theorem bwith_some {n : Nat} {v : List Int} (hv : v.length = n) {st : Ech} {rs : LE} (g : Good st) (h : Lw n st rs) (hf : ¬ InS (rows st) (vc v)) : ∃ k, bwith rs v = rs ++ [(k, bred rs v)] ∧ k < n ∧ Good ((k, vc v) :: st) ∧ Lw n ((k, vc v) :: st) (bwith rs v) := by
  obtain ⟨hl, hr⟩ := h.bred hv g
  cases q : fnz (bred rs v) with
  | none => exact absurd ((red_zero g _).mpr fun k => by rw [← hr]; exact fnz_none q k) hf
  | some k =>
    obtain ⟨h1, h2, _⟩ := fnz_some q
    have e : bwith rs v = rs ++ [(k, bred rs v)] := by unfold bwith; rw [q]
    refine ⟨k, e, by omega, ⟨g, ?_⟩, rs, bred rs v, e, h, hl, by omega, hr⟩
    rw [piv_red, ← hr]; exact h2
theorem bwith_len {n : Nat} {v : List Int} (hv : v.length = n) {st : Ech} {rs : LE} (g : Good st) (h : Lw n st rs) : InS (rows st) (vc v) ↔ (bwith rs v).length = rs.length := by
  constructor
  · intro hf; rw [bwith_none hv g h hf]
  · intro hl
    by_cases hf : InS (rows st) (vc v)
    · exact hf
    · obtain ⟨k, e, _⟩ := bwith_some hv g h hf
      rw [e] at hl; simp at hl
/-! ### spans: exchange -/
theorem InS.app : ∀ {as bs : List Vec} {w : Vec}, InS bs w → InS (as ++ bs) w
  | [], _, _, h => h
  | a :: as, bs, w, h => (InS.app (as := as) h).cons
theorem InS.appL {as bs : List Vec} {w : Vec} (h : InS as w) : InS (as ++ bs) w := InS.sub (fun b hb => InS.mem (List.mem_append_left _ hb)) h
/-- rows (the newest ahead) none of which is in the span of the older ones: no one is in the span of the others -/
theorem free_rows : ∀ {as : List Vec} {o : Vec} {bs : List Vec}, (∀ x y z, as ++ o :: bs = x ++ y :: z → ¬ InS z y) → ¬ InS (as ++ bs) o
  | [], o, bs, h, hs => h [] o bs rfl hs
  | a :: as, o, bs, h, hs => by
    obtain ⟨N, c, hN, hs⟩ := (hs : InS (a :: (as ++ bs)) o)
    by_cases z : c = 0
    · refine free_rows (as := as) (o := o) (bs := bs) (fun x y z e => h (a :: x) y z (by rw [List.cons_append, e]; rfl)) (InS.div hN (hs.ext fun k => by rw [z]; omega))
    · refine h [] a (as ++ o :: bs) rfl (InS.div z ?_)
      have h1 : InS (as ++ o :: bs) o := InS.mem (by simp)
      have h2 : InS (as ++ o :: bs) (fun k => N * o k - c * a k) := InS.sub (fun b hb => InS.mem (by
        rcases List.mem_append.mp hb with hb | hb
        · exact List.mem_append_left _ hb
        · exact List.mem_append_right _ (List.mem_cons_of_mem _ hb))) hs
      refine (InS.lin N (-1) h1 h2).ext fun k => ?_
      omega
theorem good_free : ∀ {st : Ech}, Good st → ∀ x y z, rows st = x ++ y :: z → ¬ InS z y
  | [], _, x, y, z, e => by cases x <;> simp [rows] at e
  | (l, b) :: st, g, x, y, z, e => by
    cases x with
    | nil =>
      have e := List.cons.inj (show b :: rows st = y :: z from e)
      rw [← e.1, ← e.2]
      intro h
      exact g.2 ((red_zero g.1 b).mp h l)
    | cons x0 x =>
      have e := List.cons.inj (show b :: rows st = x0 :: (x ++ y :: z) from e)
      exact good_free g.1 x y z e.2
/-- a column beside the leads -/
theorem beside {n : Nat} : ∀ {ls : List Nat}, ls.length < n → ∃ j, j < n ∧ j ∉ ls := fun {ls} h => by
  by_cases z : ∃ j, j < n ∧ j ∉ ls
  · exact z
  · exfalso
    have sub : ∀ j ∈ List.range n, j ∈ ls := fun j hj => by
      by_cases q : j ∈ ls
      · exact q
      · exact absurd ⟨j, by simpa using hj, q⟩ z
    have := List.nodup_range.length_le_of_subset (l₂ := ls) sub
    simp at this
    omega
end LA

set_option exponentiation.threshold 20000
namespace Ln
open PySem PySem.Spec L2 PD LA
noncomputable abbrev bfirst_nonzero : Ev → Option Fl :=
    (sq (forS (enuA (gv 0)) (gT 2 (gsC (gN 1) (gsC (gN 2) gsN))) (ifS (asB (b2 (gv 2) (kI 0) neD)) (rtV (gv 1)) skip))
    (rtV kN))
noncomputable def mfirst_nonzero : List D → Option D := runP 3 (bfirst_nonzero)
noncomputable abbrev bcommon_divisor : Ev → Option Fl :=
    (sq (parS 0 1 (aCons (cB (aCons (gv 0) aNil) absD) (aCons (cB (aCons (gv 1) aNil) absD) aNil)))
    (sq (whileS (asB (b2 (gv 1) (kI 0) gtI)) (parS 0 1 (aCons (gv 1) (aCons (b2 (gv 0) (gv 1) modI) aNil))))
    (rtV (gv 0))))
noncomputable def mcommon_divisor : List D → Option D := runP 2 (bcommon_divisor)
noncomputable abbrev bdivisor_of : Ev → Option Fl :=
    (sq (stV 1 (kI 0))
    (sq (forS (iOf (gv 0)) (gN 2) (stV 1 (cB (aCons (gv 1) (aCons (gv 2) aNil)) (len? 2 (mcommon_divisor)))))
    (rtV (gv 1))))
noncomputable def mdivisor_of : List D → Option D := runP 3 (bdivisor_of)
noncomputable abbrev blowest_terms : Ev → Option Fl :=
    (sq (stV 1 (cB (aCons (gv 0) aNil) (len? 1 (mdivisor_of))))
    (sq (ifS (asB (b2 (gv 1) (kI 0) eqD)) (rtM (stay (cO (aCons (gv 0) aNil) listO))) skip)
    (rtM (stay (lcO (iOf (gv 0)) (gN 2) yes (b2 (gv 2) (gv 1) divX) [2])))))
noncomputable def mlowest_terms : List D → Option O := runO 3 (blowest_terms)
noncomputable abbrev bleast_multiple : Ev → Option Fl :=
    (rtV (b2 (b2 (cB (aCons (gv 0) aNil) absD) (cB (aCons (gv 0) (aCons (gv 1) aNil)) (len? 2 (mcommon_divisor))) divX) (cB (aCons (gv 1) aNil) absD) mulA))
noncomputable def mleast_multiple : List D → Option D := runP 2 (bleast_multiple)
noncomputable abbrev bcommon_multiple : Ev → Option Fl :=
    (sq (stV 1 (kI 1))
    (sq (forS (iOf (gv 0)) (gT 2 (gsC (gN 2) (gsC (gN 3) gsN))) (stV 1 (cB (aCons (gv 1) (aCons (b2 (gv 3) (gv 2) ixD) aNil)) (len? 2 (mleast_multiple)))))
    (rtV (gv 1))))
noncomputable def mcommon_multiple : List D → Option D := runP 4 (bcommon_multiple)
noncomputable abbrev bcleared : Ev → Option Fl :=
    (sq (ifS (asB (b2 (b2 (gv 0) (gv 2) ixD) (kI 0) eqD)) (rtV (frz (cO (aCons (gv 0) aNil) listO))) skip)
    (rtV (frz (cO' (aCons (lcD (zipM (aCons (gv 0) (aCons (gv 1) aNil))) (gT 2 (gsC (gN 3) (gsC (gN 4) gsN))) yes (b2 (b2 (b2 (gv 1) (gv 2) ixD) (gv 3) mulA) (b2 (b2 (gv 0) (gv 2) ixD) (gv 4) mulA) subI) [3, 4]) aNil) 1 (mlowest_terms)))))
noncomputable def mcleared : List D → Option D := runP 5 (bcleared)
noncomputable abbrev brest_of : Ev → Option Fl :=
    (sq (stV 2 (frz (cO' (aCons (gv 1) aNil) 1 (mlowest_terms))))
    (sq (forS (iOf (gv 0)) (gT 2 (gsC (gN 3) (gsC (gN 4) gsN))) (stV 2 (cB (aCons (gv 2) (aCons (gv 4) (aCons (gv 3) aNil))) (len? 3 (mcleared)))))
    (rtV (gv 2))))
noncomputable def mrest_of : List D → Option D := runP 5 (brest_of)
noncomputable abbrev bextended : Ev → Option Fl :=
    (sq (stV 2 (cB (aCons (gv 0) (aCons (gv 1) aNil)) (len? 2 (mrest_of))))
    (sq (stV 3 (cB (aCons (gv 2) aNil) (len? 1 (mfirst_nonzero))))
    (sq (ifS (asB (b2 (gv 3) kN isN)) (rtV (frz (cO (aCons (gv 0) aNil) listO))) skip)
    (rtV (b2 (lcD (iOf (gv 0)) (gT 2 (gsC (gN 4) (gsC (gN 5) gsN))) yes (mkTup (aCons (gv 4) (aCons (cB (aCons (gv 5) (aCons (gv 2) (aCons (gv 3) aNil))) (len? 3 (mcleared))) aNil))) [4, 5]) (mkLst (aCons (mkTup (aCons (gv 3) (aCons (gv 2) aNil))) aNil)) addA)))))
noncomputable def mextended : List D → Option D := runP 6 (bextended)
noncomputable abbrev bechelon_of : Ev → Option Fl :=
    (sq (stV 1 (mkLst aNil))
    (sq (forS (iOf (gv 0)) (gN 2) (stV 1 (cB (aCons (gv 1) (aCons (gv 2) aNil)) (len? 2 (mextended)))))
    (rtV (gv 1))))
noncomputable def mechelon_of : List D → Option D := runP 3 (bechelon_of)
noncomputable abbrev b_law_gcd : Ev → Option Fl :=
    (sq (stV 0 (cB (aCons (gv 0) aNil) absD))
    (sq (stV 1 (cB (aCons (gv 1) aNil) absD))
    (sq (forS (rng1 (b2 (b2 (kI 2) (b1 (gv 1) bitsD) mulI) (kI 4) addA)) (gN 2) (ifS (asB (b2 (gv 1) (kI 0) gtI)) (parS 0 1 (aCons (gv 1) (aCons (b2 (cB (aCons (gv 0) aNil) intD) (gv 1) modI) aNil))) skip))
    (rtV (gv 0)))))
noncomputable def m_law_gcd : List D → Option D := runP 3 (b_law_gcd)
noncomputable abbrev b_law_is_integer : Ev → Option Fl :=
    (rtV (andV (b1 (gv 0) (isiD "int")) (notV (b1 (gv 0) (isiD "bool")))))
noncomputable def m_law_is_integer : List D → Option D := runP 1 (b_law_is_integer)
noncomputable abbrev b_law_row : Ev → Option Fl :=
    (sq (stO 2 (mkLstO aNil))
    (sq (stV 3 (b2 (cB (aCons (gv 0) aNil) intD) (kI 2147483629) modI))
    (sq (stV 4 (b2 (gv 0) (b2 (kI 10) (kI 18) powI) subI))
    (sq (forS (rng1 (gv 1)) (gN 5) (sq (stV 3 (b2 (cB (aCons (b2 (b2 (b2 (gv 3) (kI 48271) mulI) (b2 (kI 977) (gv 5) mulI) addA) (kI 12345) addA) aNil) intD) (kI 2147483647) modI))
    (sq (stV 6 (b2 (cB (aCons (b2 (b2 (b2 (gv 3) (kI 69621) mulI) (b2 (kI 31) (gv 5) mulI) addA) (kI 7) addA) aNil) intD) (kI 2147483629) modI))
    (sq (app 2 (ifV (asB (b2 (gv 0) (b2 (kI 10) (kI 18) powI) geI)) (b2 (cB (aCons (gv 4) aNil) intD) (kI 1000) modI) (b2 (cB (aCons (b2 (gv 6) (kI 4099) divI) aNil) intD) (kI 1000) modI)))
    (stV 4 (b2 (gv 4) (kI 1000) divI))))))
    (fz 2 (rtV (gv 2)))))))
noncomputable def m_law_row : List D → Option D := runP 7 (b_law_row)
noncomputable abbrev b_law_cell : Ev → Option Fl :=
    (rtV (ifV (asB (b2 (gv 1) (cB (aCons (gv 0) aNil) lenD) ltI)) (cB (aCons (b2 (gv 0) (gv 1) ixD) aNil) intD) (kI 0)))
noncomputable def m_law_cell : List D → Option D := runP 2 (b_law_cell)
noncomputable abbrev b_law_seed : Ev → Option Fl :=
    (sq (ifS (asB (b2 (gv 1) (cB (aCons (gv 0) aNil) lenD) ltI)) (rtV (cB (aCons (b2 (gv 0) (gv 1) ixD) aNil) intD)) skip)
    (rtV (b2 (cB (aCons (b2 (b2 (b2 (cB (aCons (gv 0) (aCons (kI 0) aNil)) (len? 2 (m_law_cell))) (kI 7907) mulI) (b2 (cB (aCons (gv 0) (aCons (kI 1) aNil)) (len? 2 (m_law_cell))) (kI 331) mulI) addA) (b2 (kI 104729) (gv 1) mulI) addA) aNil) intD) (kI 2147483629) modI)))
noncomputable def m_law_seed : List D → Option D := runP 2 (b_law_seed)
noncomputable abbrev b_law_number : Ev → Option Fl :=
    (sq (ifS (asB (b2 (gv 0) (kI 3) ltI)) (rtV (b2 (b2 (cB (aCons (b2 (gv 1) (kI 0) ixD) aNil) intD) (kI 5) modI) (kI 2) subI)) skip)
    (sq (ifS (asB (b2 (gv 0) (kI 3) eqD)) (rtV (b2 (b2 (gv 1) (kI 0) ixD) (kI 500) subI)) skip)
    (sq (ifS (asB (b2 (gv 0) (kI 4) eqD)) (rtV (b2 (mkLst (aCons (kI 0) (aCons (kI 0) (aCons (kI 0) (aCons (kI 1) (aCons (b1 (kI 1) negI) (aCons (kI 7) aNil))))))) (b2 (cB (aCons (b2 (gv 1) (kI 0) ixD) aNil) intD) (kI 6) modI) ixD)) skip)
    (rtV (b2 (b2 (b2 (b2 (b2 (gv 1) (kI 0) ixD) (kI 500) subI) (b2 (kI 10) (kI 27) powI) mulA) (b2 (b2 (gv 1) (kI 1) ixD) (b2 (kI 10) (kI 13) powI) mulA) addA) (b2 (gv 1) (kI 2) ixD) addA)))))
noncomputable def m_law_number : List D → Option D := runP 2 (b_law_number)
noncomputable abbrev b_law_reduced : Ev → Option Fl :=
    (sq (stV 1 (frz (cO (aCons (gv 1) aNil) listO)))
    (sq (stV 2 (kI 1))
    (sq (forS (iOf (gv 0)) (gT 2 (gsC (gN 3) (gsC (gN 4) gsN))) (sq (stV 5 (b2 (gv 1) (gv 3) ixD))
    (sq (stV 1 (lcD (rng1 (cB (aCons (gv 1) aNil) lenD)) (gN 6) yes (b2 (b2 (b2 (b2 (gv 4) (gv 3) ixD) (b2 (gv 1) (gv 6) ixD) mulA) (b2 (gv 5) (b2 (gv 4) (gv 6) ixD) mulA) subI) (gv 2) divX) [6]))
    (stV 2 (b2 (gv 4) (gv 3) ixD)))))
    (rtV (gv 1)))))
noncomputable def m_law_reduced : List D → Option D := runP 7 (b_law_reduced)
noncomputable abbrev b_law_with : Ev → Option Fl :=
    (sq (stV 2 (cB (aCons (gv 0) (aCons (gv 1) aNil)) (len? 2 (m_law_reduced))))
    (sq (forS (rng1 (cB (aCons (gv 2) aNil) lenD)) (gN 3) (ifS (asB (b2 (b2 (gv 2) (gv 3) ixD) (kI 0) neD)) (rtV (b2 (gv 0) (mkLst (aCons (mkTup (aCons (gv 3) (aCons (gv 2) aNil))) aNil)) addA)) skip))
    (rtV (gv 0))))
noncomputable def m_law_with : List D → Option D := runP 4 (b_law_with)
/-! ### sizes -/
theorem lg {x b : Nat} (h0 : 0 < b) (h : x < 2 ^ b) : x.log2 < b := PySem.Flt.log2_lt_of h0 h
theorem mul_bt {i j : Int} {a b : Nat} (ha : i.natAbs < 2 ^ a) (hb : j.natAbs < 2 ^ b) (h0 : 0 < a) (h1 : 0 < b) (h : a + b ≤ 1000000) : mulA (.int i) (.int j) = some (.int (i * j)) := by
  refine ew_mulW ?_
  have := lg h0 ha
  have := lg h1 hb
  omega
theorem div_bt {i j : Int} {b : Nat} (hj : j ≠ 0) (hb : j.natAbs < 2 ^ b) (h0 : 0 < b) (h : b ≤ 9000) : divX (.int i) (.int j) = some (.int (i.fdiv j)) := by
  refine ew_divX hj ?_
  have := lg h0 hb
  omega
theorem mul_lt {i j : Int} {a b : Nat} (ha : i.natAbs < 2 ^ a) (hb : j.natAbs < 2 ^ b) : (i * j).natAbs < 2 ^ (a + b) := by
  rw [Int.natAbs_mul, Nat.pow_add]
  exact Nat.mul_lt_mul'' ha hb
theorem sub_lt {i j : Int} {a : Nat} (ha : i.natAbs < 2 ^ a) (hb : j.natAbs < 2 ^ a) : (i - j).natAbs < 2 ^ (a + 1) := by
  have := Int.natAbs_sub_le i j
  rw [Nat.pow_succ]
  omega
/-- a row, as a list or as a tuple -/
def Rw (d : D) (r : List Int) : Prop := d = .lst (r.map .int) ∨ d = .tup (r.map .int)
theorem Rw.seq {d : D} {r : List Int} (h : Rw d r) : seqD d = some (r.map .int) := by rcases h with rfl | rfl <;> rfl
theorem Rw.list {d : D} {r : List Int} (h : Rw d r) : listO [d] = some (.dats (r.map .int)) := by rcases h with rfl | rfl <;> rfl
theorem Rw.len {d : D} {r : List Int} (h : Rw d r) : lenD [d] = some (.int r.length) := by
  rcases h with rfl | rfl
  · rw [ev_lenL]; simp
  · rw [ev_lenT]; simp
theorem at_vc {r : List Int} {k : Nat} (h : k < r.length) : ixD (.lst (r.map .int)) (.int k) = some (.int (vc r k)) := by
  show atI (r.map D.int) (k : Int) = _
  exact atI_nat (by rw [List.getElem?_map, List.getElem?_eq_getElem h, vc_eq h]; rfl)
theorem Rw.ix {d : D} {r : List Int} (h : Rw d r) {k : Nat} (hk : k < r.length) : ixD d (.int k) = some (.int (vc r k)) := by
  rcases h with rfl | rfl
  · exact at_vc hk
  · exact at_vc hk
theorem iof {f : Ev → Option D} {ρ : Ev} {d : D} {xs : List D} (h : f ρ = some d) (hs : seqD d = some xs) : iOf f ρ = some xs := by unfold iOf; rw [h]; exact hs
/-! ### divisors -/
theorem abs_eq (i : Int) : absD [.int i] = some (.int (i.natAbs : Nat)) := by
  show some (D.int (if i < 0 then -i else i)) = _
  congr 2
  split <;> omega
theorem cd_eq (a b : Int) : mcommon_divisor [.int a, .int b] = some (.int (Nat.gcd a.natAbs b.natAbs : Nat)) := by
  refine runP_eq ?_
  unfold bcommon_divisor
  show Rn _ [.dat (.int a), .dat (.int b)] _
  refine Rn.sq ⟨.nx [.dat (.int (a.natAbs : Nat)), .dat (.int (b.natAbs : Nat))], ?_, ?_⟩
  · unfold parS
    (simp (disch := first | assumption | omega) only [abs_eq, MV, MW])
  refine Rn.sq ?_
  refine Rn.whileG (α := Nat × Nat) (fun p => p.2) (fun p ρ => ρ = [.dat (.int p.1), .dat (.int p.2)] ∧ Nat.gcd p.1 p.2 = Nat.gcd a.natAbs b.natAbs) (a0 := (a.natAbs, b.natAbs)) ⟨rfl, rfl⟩ ?_
  rintro ⟨x, y⟩ ρ ⟨rfl, hg⟩
  simp only at hg
  refine ⟨decide (0 < y), ?_, fun ht => ?_, fun hf => ?_⟩
  · have e : decide ((0 : Int) < (y : Int)) = decide (0 < y) := by congr 1; rw [eq_iff_iff]; omega
    (simp (disch := first | assumption | omega) only [e, MV, MW])
  · have hy : 0 < y := of_decide_eq_true ht
    refine ⟨.nx [.dat (.int y), .dat (.int (x % y : Nat))], ?_, (y, x % y), ⟨rfl, ?_⟩, Nat.mod_lt _ hy⟩
    · unfold parS
      have e : ((x : Int) % (y : Int)) = ((x % y : Nat) : Int) := by omega
      have h0 : (0 : Int) < (y : Int) := by omega
      (simp (disch := first | assumption | omega) only [e, MV, MW])
    · show Nat.gcd y (x % y) = _
      rw [← hg, Nat.gcd_comm y, ← Nat.gcd_rec, Nat.gcd_comm]
  · have hy : y = 0 := by have := of_decide_eq_false hf; omega
    subst hy
    rw [Nat.gcd_zero_right] at hg
    exact Rn.ret (d := .int x) rfl ⟨_, rfl, by rw [hg]; rfl⟩
theorem gl_snoc (ns : List Int) (n : Int) : gl (ns ++ [n]) = Nat.gcd (gl ns) n.natAbs := by unfold gl; rw [List.foldl_append]; rfl
theorem do_eq {d : D} {ns : List Int} (hd : Rw d ns) : mdivisor_of [d] = some (.int (gl ns : Nat)) := by
  refine runP_eq ?_
  unfold bdivisor_of
  show Rn _ [.dat d, .unk, .unk] _
  refine Rn.sqst (d := .int 0) rfl ?_
  refine Rn.sqfor (xs := ns) (φ := .int) (iof rfl hd.seq) (fun i ρ => ∃ x2, ρ = [.dat d, .dat (.int (gl (ns.take i) : Nat)), x2]) ⟨.unk, rfl⟩ (fun i hi ρ hI => ?_) (fun ρ hI => ?_)
  · obtain ⟨x2, rfl⟩ := hI
    refine ⟨_, rfl, ?_⟩
    have e := cd_eq (gl (ns.take i) : Nat) ns[i]
    refine Rn.st (d := .int (Nat.gcd (gl (ns.take i)) ns[i].natAbs : Nat)) (by show cB _ _ [_, .dat (.int (gl (ns.take i) : Nat)), .dat (.int ns[i])] = _; (simp (disch := first | assumption | omega) only [e, MV, MW]); rfl) ?_
    refine ⟨.dat (.int ns[i]), ?_⟩
    rw [List.take_succ_eq_append_getElem hi, gl_snoc]; rfl
  · obtain ⟨x2, rfl⟩ := hI
    refine Rn.ret (d := .int (gl ns : Nat)) ?_ ⟨_, rfl, rfl⟩
    rw [List.take_length]; rfl
theorem low_run {d : D} {r : List Int} (hd : Rw d r) (hl : r.length ≤ 1000) (hb : gl r < 2 ^ 8100) : mlowest_terms [d] = some (.dats ((low r).map .int)) := by
  obtain ⟨o, e, rfl⟩ : ∃ o, mlowest_terms [d] = some o ∧ o = .dats ((low r).map .int) := by
    refine runO_of ?_
    unfold blowest_terms
    show Rn _ [.dat d, .unk, .unk] _
    have e := do_eq hd
    refine Rn.sqst (d := .int (gl r : Nat)) (by show cB _ _ [.dat d, _, _] = _; (simp (disch := first | assumption | omega) only [e, MV, MW])) ?_
    show Rn _ [.dat d, .dat (.int (gl r : Nat)), .unk] _
    refine Rn.sqif (p := ((gl r : Nat) : Int) = 0) (by show asB _ [_, .dat (.int (gl r : Nat)), _] = _; (simp (disch := first | assumption | omega) only [MV, MW])) (fun h => ?_) fun h => ?_
    · have h : gl r = 0 := by omega
      refine Rn.sq (Rn.rtM (o := .dats (r.map .int)) (ρ' := [.dat d, .dat (.int (gl r : Nat)), .unk]) ?_ ⟨_, rfl, by unfold low; rw [if_pos h]⟩)
      show stay _ [.dat d, _, _] = _
      (simp (disch := first | assumption | omega) only [ew_stay, hd.list, MV, MW])
    · have h' : gl r ≠ 0 := by omega
      refine Rn.sqskip ?_
      refine Rn.rtM (o := .dats ((r.map fun x => x.fdiv (gl r : Nat)).map .int)) (ρ' := [.dat d, .dat (.int (gl r : Nat)), .unk]) ?_ ⟨_, rfl, by unfold low; rw [if_neg h']⟩
      have e2 := lcO_map (fi := iOf (gv 0)) (gt := gN 2) (f := b2 (gv 2) (gv 1) divX) (vs := [2]) (ρ := [.dat d, .dat (.int (gl r : Nat)), .unk]) (φ := .int) (fun x => .int (x.fdiv (gl r : Nat))) (xs := r) rfl (iof rfl hd.seq) (by omega) fun x hx => ⟨_, rfl, by
        have e3 := div_bt (i := x) (j := (gl r : Nat)) (b := 8100) h (by simpa using hb) (by decide) (by decide)
        show b2 _ _ _ [_, .dat (.int (gl r : Nat)), .dat (.int x)] = _
        (simp (disch := first | assumption | omega) only [e3, MV, MW])⟩
      rw [List.map_map]
      show stay _ _ = _
      unfold stay
      rw [e2]; rfl
  exact e
theorem fz_run (r : List Int) (hl : r.length ≤ 1000) : mfirst_nonzero [.lst (r.map .int)] = some (match fnz r with | none => .non | some k => .int k) := by
  refine runP_eq ?_
  unfold bfirst_nonzero
  show Rn _ [.dat (.lst (r.map .int)), .unk, .unk] _
  have ei : enuA (gv 0) [.dat (.lst (r.map .int)), .unk, .unk] = some ((List.range r.length).map fun i => .tup [.int (i : Nat), .int (vc r i)]) := by
    show some ((r.map D.int).zipIdx.map fun p => D.tup [.int (p.2 : Nat), p.1]) = _
    congr 1
    refine List.ext_getElem (by simp) fun i h1 h2 => ?_
    have hi : i < r.length := by simpa using h1
    simp [vc_eq hi]
  refine Rn.sqfor (xs := List.range r.length) (φ := fun i : Nat => .tup [.int (i : Nat), .int (vc r i)]) ei (fun i ρ => ∃ x1 x2, ρ = [.dat (.lst (r.map .int)), x1, x2] ∧ ∀ k, k < i → vc r k = 0) ⟨_, _, rfl, fun k hk => by omega⟩ (fun i hi ρ hI => ?_) (fun ρ hI => ?_)
  · obtain ⟨x1, x2, rfl, hz⟩ := hI
    have hi' : i < r.length := by simpa using hi
    rw [List.getElem_range]
    refine ⟨_, rfl, ?_⟩
    refine Rn.iteP (p := vc r i ≠ 0) (by show asB _ [_, _, .dat (.int (vc r i))] = _; (simp (disch := first | assumption | omega) only [MV, MW])) (fun h => ?_) fun h => ?_
    · refine Rn.ret (d := .int i) rfl ⟨_, rfl, ?_⟩
      have : fnz r = some i := by
        unfold fnz
        rw [List.findIdx?_eq_some_iff_getElem]
        refine ⟨hi', by rw [← vc_eq hi']; exact decide_eq_true h, fun j hj => ?_⟩
        have := hz j hj
        rw [vc_eq (by omega)] at this
        rw [this]; simp
      rw [this]; rfl
    · refine Rn.skip ⟨_, _, rfl, fun k hk => ?_⟩
      by_cases q : k = i
      · rw [q]; simpa using h
      · exact hz k (by omega)
  · obtain ⟨x1, x2, rfl, hz⟩ := hI
    refine ⟨_, rfl, _, rfl, ?_⟩
    rw [List.length_range] at hz
    have : fnz r = none := by
      unfold fnz
      rw [List.findIdx?_eq_none_iff]
      intro x hx
      obtain ⟨k, hk, rfl⟩ := mem_vc hx
      rw [hz k hk]; simp
    rw [this]; rfl
theorem zip_ints (r q : List Int) : zipE (r.map .int) (q.map .int) = (r.zip q).map fun p => .tup [.int p.1, .int p.2] := by
  unfold zipE
  refine List.ext_getElem (by simp) fun i h1 h2 => ?_
  simp
theorem clr_run {r q : List Int} {l n : Nat} (hr : r.length = n) (hq : q.length = n) (hl : l < n) (hn : n ≤ 1000) (br : ∀ k, (vc r k).natAbs < 2 ^ 4000) (bq : ∀ k, (vc q k).natAbs < 2 ^ 4000) : mcleared [.lst (r.map .int), .lst (q.map .int), .int l] = some (.lst ((clr r q l).map .int)) := by
  refine runP_eq ?_
  unfold bcleared
  show Rn _ [.dat (.lst (r.map .int)), .dat (.lst (q.map .int)), .dat (.int l), .unk, .unk] _
  have ea := at_vc (r := r) (k := l) (by omega)
  have eb := at_vc (r := q) (k := l) (by omega)
  refine Rn.sqif (p := vc r l = 0) (by show asB _ [.dat (.lst (r.map .int)), _, .dat (.int l), _, _] = _; (simp (disch := first | assumption | omega) only [ea, MV, MW])) (fun h => ?_) fun h => ?_
  · refine Rn.sqret (d := .lst (r.map .int)) (by show frz _ [.dat (.lst (r.map .int)), _, _, _, _] = _; (simp (disch := first | assumption | omega) only [MV, MW])) ⟨_, rfl, by unfold clr; rw [if_pos h]; rfl⟩
  · refine Rn.sqskip ?_
    have e1 := lc_map (fi := zipM (aCons (gv 0) (aCons (gv 1) aNil))) (gt := gT 2 (gsC (gN 3) (gsC (gN 4) gsN))) (f := b2 (b2 (b2 (gv 1) (gv 2) ixD) (gv 3) mulA) (b2 (b2 (gv 0) (gv 2) ixD) (gv 4) mulA) subI) (vs := [3, 4]) (ρ := [.dat (.lst (r.map .int)), .dat (.lst (q.map .int)), .dat (.int l), .unk, .unk])
      (φ := fun p : Int × Int => .tup [.int p.1, .int p.2]) (fun p => .int (vc q l * p.1 - vc r l * p.2)) (xs := r.zip q) rfl (by show some (zipE (r.map .int) (q.map .int)) = _; rw [zip_ints]) (by simp; omega) fun p hp => ⟨_, rfl, by
        obtain ⟨i, hi, ei⟩ := List.getElem_of_mem hp
        have hi1 : i < r.length := by simp at hi; omega
        have hi2 : i < q.length := by simp at hi; omega
        have p1 : p.1 = vc r i := by rw [← ei, vc_eq hi1]; simp
        have p2 : p.2 = vc q i := by rw [← ei, vc_eq hi2]; simp
        have m1 := mul_bt (bq l) (show p.1.natAbs < 2 ^ 4000 by rw [p1]; exact br i) (by decide) (by decide) (by decide)
        have m2 := mul_bt (br l) (show p.2.natAbs < 2 ^ 4000 by rw [p2]; exact bq i) (by decide) (by decide) (by decide)
        show b2 _ _ _ [.dat (.lst (r.map .int)), .dat (.lst (q.map .int)), .dat (.int l), .dat (.int p.1), .dat (.int p.2)] = _
        (simp (disch := first | assumption | omega) only [ea, eb, m1, m2, MV, MW])⟩
    have e2 : (r.zip q).map (fun p => D.int (vc q l * p.1 - vc r l * p.2)) = (comb (vc q l) (vc r l) r q).map .int := by simp [comb]
    rw [e2] at e1
    have e3 := low_run (d := .lst ((comb (vc q l) (vc r l) r q).map .int)) (.inl rfl) (by rw [comb_len (by omega)]; omega) (by
      refine Nat.lt_of_le_of_lt (gl_le (B := 2 ^ 8001) fun k => ?_) (Nat.pow_lt_pow_right (by decide) (by decide))
      rw [comb_vc (by omega)]
      exact Nat.le_of_lt (sub_lt (mul_lt (bq l) (br k)) (mul_lt (br l) (bq k))))
    refine Rn.ret (d := .lst ((low (comb (vc q l) (vc r l) r q)).map .int)) ?_ ⟨_, rfl, by unfold clr; rw [if_neg h]; rfl⟩
    show frz (cO' (aCons (lcD _ _ _ _ _) aNil) 1 _) _ = _
    (simp (disch := first | assumption | omega) only [e1, e3, MV, MW])
end Ln

namespace LA
/-! ### which rows are taken -/
def Gd : List Vec → List Vec → Prop
  | [], X => X = []
  | r :: rs, X => ∃ X', Gd rs X' ∧ ((InS X' r ∧ X = X') ∨ (¬ InS X' r ∧ X = r :: X'))
theorem Gd.one : ∀ {rs X Y : List Vec}, Gd rs X → Gd rs Y → X = Y
  | [], X, Y, h1, h2 => by rw [show X = [] from h1, show Y = [] from h2]
  | r :: rs, X, Y, ⟨X', a1, a2⟩, ⟨Y', b1, b2⟩ => by
    have := Gd.one a1 b1
    subst this
    rcases a2 with ⟨a2, a3⟩ | ⟨a2, a3⟩ <;> rcases b2 with ⟨b2, b3⟩ | ⟨b2, b3⟩
    · rw [a3, b3]
    · exact absurd a2 b2
    · exact absurd b2 a2
    · rw [a3, b3]
theorem Gd.span : ∀ {rs X : List Vec}, Gd rs X → ∀ r ∈ rs, InS X r
  | r :: rs, X, ⟨X', a1, a2⟩, s, hs => by
    rcases a2 with ⟨a2, a3⟩ | ⟨a2, a3⟩
    · rw [a3]
      rcases List.mem_cons.mp hs with rfl | hs
      · exact a2
      · exact a1.span s hs
    · rw [a3]
      rcases List.mem_cons.mp hs with rfl | hs
      · exact InS.mem List.mem_cons_self
      · exact (a1.span s hs).cons
theorem Gd.sub : ∀ {rs X : List Vec}, Gd rs X → X.Sublist rs
  | [], X, h => by rw [show X = [] from h]; exact List.Sublist.refl _
  | r :: rs, X, ⟨X', a1, a2⟩ => by
    rcases a2 with ⟨a2, a3⟩ | ⟨a2, a3⟩
    · rw [a3]; exact a1.sub.cons _
    · rw [a3]; exact a1.sub.cons₂ _
theorem leads_le {n : Nat} {st : Ech} (g : Good st) (h : ∀ l ∈ leads st, l < n) : st.length ≤ n := by
  have := (good_nodup g).length_le_of_subset (l₂ := List.range n) fun l hl => by simpa using h l hl
  simpa [leads] using this
def MM : Nat := 2 ^ 200
theorem bd_le : ∀ m, m < 12 → Bd MM m ≤ 2 ^ 2400 := by decide +kernel
theorem bd_le' : ∀ m, m < 12 → (m + 1) * (MM * Bd MM m) < 2 ^ 4000 := by decide +kernel
theorem ext_gd {n : Nat} {st : Ech} {e : LE} (h : EchOk MM n st e) {row : List Int} (hl : row.length = n) (hv : ∀ k, (vc row k).natAbs ≤ MM) {rs : List Vec} (g : Gd rs (rows st)) : ∃ st', EchOk MM n st' (ext e row) ∧ Gd (vc row :: rs) (rows st') := by
  cases q : fnz (rst e row) with
  | none =>
    obtain ⟨h1, h2⟩ := h.none hl hv q
    exact ⟨st, by rw [h2]; exact h, rows st, g, .inl ⟨h1, rfl⟩⟩
  | some a =>
    have h1 := h.some hl hv q
    exact ⟨_, h1, rows st, g, .inr ⟨fun z => h1.good.2 ((red_zero h.good _).mp z a), rfl⟩⟩
theorem echl_ok {n : Nat} {rs : List (List Int)} (h : ∀ r ∈ rs, r.length = n ∧ ∀ k, (vc r k).natAbs ≤ MM) : ∀ i, i ≤ rs.length → ∃ st, EchOk MM n st (echl (rs.take i)) ∧ Gd ((rs.take i).map vc).reverse (rows st)
  | 0, _ => ⟨[], ech_nil _ _, rfl⟩
  | i + 1, hi => by
    obtain ⟨st, a, b⟩ := echl_ok h i (by omega)
    have hr := h rs[i] (List.getElem_mem _)
    obtain ⟨st', a', b'⟩ := ext_gd a hr.1 hr.2 b
    refine ⟨st', ?_, ?_⟩
    · rw [List.take_succ_eq_append_getElem (by omega)]
      unfold echl
      rw [List.foldl_append]
      exact a'
    · rw [List.take_succ_eq_append_getElem (by omega), List.map_append, List.reverse_append]
      exact b'
/-! common multiples -/
def cm (e : LE) : Nat := e.foldl (fun m x => Nat.lcm m (vc x.2 x.1).natAbs) 1
theorem cm_snoc (e : LE) (x : Nat × List Int) : cm (e ++ [x]) = Nat.lcm (cm e) (vc x.2 x.1).natAbs := by unfold cm; rw [List.foldl_append]; rfl
theorem cm_dvd {P : Nat} {e : LE} (h : ∀ x ∈ e, (vc x.2 x.1).natAbs ∣ P) : ∀ i, i ≤ e.length → cm (e.take i) ∣ P
  | 0, _ => Nat.one_dvd _
  | i + 1, hi => by
    rw [List.take_succ_eq_append_getElem (by omega), cm_snoc]
    exact Nat.lcm_dvd (cm_dvd h i (by omega)) (h _ (List.getElem_mem _))
theorem dvd_cm {e : LE} : ∀ i, i ≤ e.length → ∀ x ∈ e.take i, (vc x.2 x.1).natAbs ∣ cm (e.take i)
  | 0, _, x, hx => by simp at hx
  | i + 1, hi, x, hx => by
    rw [List.take_succ_eq_append_getElem (by omega), cm_snoc] at *
    rcases List.mem_append.mp hx with hx | hx
    · exact Nat.dvd_trans (dvd_cm i (by omega) x hx) (Nat.dvd_lcm_left _ _)
    · have : x = e[i] := by simpa using hx
      rw [this]; exact Nat.dvd_lcm_right _ _
end LA
namespace Ln
open PySem PySem.Spec L2 PD LA
def phi (x : Nat × List Int) : D := .tup [.int x.1, .lst (x.2.map .int)]
section
variable {n : Nat} {st : Ech} {e : LE}
theorem ech_small (h : EchOk MM n st e) (hn : n ≤ 10) {x : Nat × List Int} (hx : x ∈ e) (k : Nat) : (vc x.2 k).natAbs < 2 ^ 4000 := by
  have := leads_le h.good h.lt
  refine Nat.lt_of_le_of_lt (Nat.le_trans (h.small hx k) (bd_le _ (by omega))) (Nat.pow_lt_pow_right (by decide) (by decide))
theorem rst_run (h : EchOk MM n st e) (hn : n ≤ 10) {d : D} {row : List Int} (hd : Rw d row) (hl : row.length = n) (hv : ∀ k, (vc row k).natAbs ≤ MM) : mrest_of [.lst (e.map phi), d] = some (.lst ((rst e row).map .int)) := by
  have hs := leads_le h.good h.lt
  refine runP_eq ?_
  unfold brest_of
  show Rn _ [.dat (.lst (e.map phi)), .dat d, .unk, .unk, .unk] _
  have e1 := low_run hd (by omega) (Nat.lt_of_le_of_lt (gl_le hv) (Nat.pow_lt_pow_right (a := 2) (by decide) (by decide)))
  refine Rn.sqst (d := .lst ((low row).map .int)) (by show frz (cO' (aCons (gv 1) aNil) 1 _) [_, .dat d, _, _, _] = _; (simp (disch := first | assumption | omega) only [e1, MV, MW])) ?_
  refine Rn.sqfor (xs := e) (φ := phi) rfl (fun i ρ => ∃ x3 x4, ρ = [.dat (.lst (e.map phi)), .dat d, .dat (.lst (((e.take i).foldl (fun r x => clr r x.2 x.1) (low row)).map .int)), x3, x4]) ⟨_, _, rfl⟩ (fun i hi ρ hI => ?_) (fun ρ hI => ?_)
  · obtain ⟨x3, x4, rfl⟩ := hI
    refine ⟨_, rfl, ?_⟩
    have hx : e[i] ∈ e := List.getElem_mem _
    have hp := h.part_len hl hv (i := i) (by omega)
    have e2 := clr_run (r := (e.take i).foldl (fun r x => clr r x.2 x.1) (low row)) (q := e[i].2) (l := e[i].1) hp (h.len _ hx) (h.lt _ (h.mem hx)) (by omega)
      (fun k => Nat.lt_of_le_of_lt (h.rst_part hl hv (by omega) k) (bd_le' _ (by omega))) (ech_small h hn hx)
    refine Rn.st (d := .lst ((clr ((e.take i).foldl (fun r x => clr r x.2 x.1) (low row)) e[i].2 e[i].1).map .int)) (by
      show cB _ _ [_, _, .dat (.lst _), .dat (.int (e[i].1 : Nat)), .dat (.lst (e[i].2.map .int))] = _
      (simp (disch := first | assumption | omega) only [e2, MV, MW])) ?_
    refine ⟨.dat (.int e[i].1), .dat (.lst (e[i].2.map .int)), ?_⟩
    rw [List.take_succ_eq_append_getElem hi, List.foldl_append]; rfl
  · obtain ⟨x3, x4, rfl⟩ := hI
    refine Rn.ret (d := .lst ((rst e row).map .int)) ?_ ⟨_, rfl, rfl⟩
    rw [List.take_length]; rfl
theorem ext_run (h : EchOk MM n st e) (hn : n ≤ 10) {d : D} {row : List Int} (hd : Rw d row) (hl : row.length = n) (hv : ∀ k, (vc row k).natAbs ≤ MM) : mextended [.lst (e.map phi), d] = some (.lst ((ext e row).map phi)) := by
  have hs := leads_le h.good h.lt
  have e1 := rst_run h hn hd hl hv
  have hrl := h.rst_len hl hv
  have e2 := fz_run (rst e row) (by omega)
  have hel := h.elen
  refine runP_eq ?_
  unfold bextended
  show Rn _ [.dat (.lst (e.map phi)), .dat d, .unk, .unk, .unk, .unk] _
  refine Rn.sqst (d := .lst ((rst e row).map .int)) (by show cB _ _ [.dat (.lst (e.map phi)), .dat d, _, _, _, _] = _; (simp (disch := first | assumption | omega) only [e1, MV, MW])) ?_
  show Rn _ [.dat (.lst (e.map phi)), .dat d, .dat (.lst ((rst e row).map .int)), .unk, .unk, .unk] _
  refine Rn.sqst (d := match fnz (rst e row) with | none => .non | some k => .int k) (by show cB _ _ [_, _, .dat (.lst ((rst e row).map .int)), _, _, _] = _; (simp (disch := first | assumption | omega) only [e2, MV, MW]) <;> rfl) ?_
  cases q : fnz (rst e row) with
  | none =>
    simp only [q]
    show Rn _ [.dat (.lst (e.map phi)), .dat d, .dat (.lst ((rst e row).map .int)), .dat .non, .unk, .unk] _
    refine Rn.sqifT (by show asB _ _ = _; (simp (disch := first | assumption | omega) only [MV, MW])) (Rn.sqret (d := .lst (e.map phi)) (by show frz _ [.dat (.lst (e.map phi)), _, _, _, _, _] = _; (simp (disch := first | assumption | omega) only [MV, MW])) ⟨_, rfl, ?_⟩)
    rw [(h.none hl hv q).2]; rfl
  | some a =>
    simp only [q]
    obtain ⟨h1, h2, h3⟩ := fnz_some q
    show Rn _ [.dat (.lst (e.map phi)), .dat d, .dat (.lst ((rst e row).map .int)), .dat (.int a), .unk, .unk] _
    refine Rn.chk (by show asB _ _ = _; (simp (disch := first | assumption | omega) only [MV, MW])) ?_
    have e3 := lc_map (fi := iOf (gv 0)) (gt := gT 2 (gsC (gN 4) (gsC (gN 5) gsN))) (f := mkTup (aCons (gv 4) (aCons (cB (aCons (gv 5) (aCons (gv 2) (aCons (gv 3) aNil))) (len? 3 (mcleared))) aNil))) (vs := [4, 5])
      (ρ := [.dat (.lst (e.map phi)), .dat d, .dat (.lst ((rst e row).map .int)), .dat (.int a), .unk, .unk]) (φ := phi) (fun x => phi (x.1, clr x.2 (rst e row) a)) (xs := e) rfl rfl (by omega) fun x hx => ⟨_, rfl, by
        have e4 := clr_run (r := x.2) (q := rst e row) (l := a) (h.len _ hx) hrl (by omega) (by omega) (ech_small h hn hx) (fun k => by
          have := h.rst_part hl hv (i := e.length) (Nat.le_refl _) k
          rw [List.take_length] at this
          exact Nat.lt_of_le_of_lt this (bd_le' _ (by omega)))
        show mkTup _ [_, _, .dat (.lst ((rst e row).map .int)), .dat (.int a), .dat (.int x.1), .dat (.lst (x.2.map .int))] = _
        (simp (disch := first | assumption | omega) only [e4, MV, MW])
        rfl⟩
    refine Rn.ret (d := .lst ((ext e row).map phi)) ?_ ⟨_, rfl, rfl⟩
    have e5 : ext e row = e.map (fun x => (x.1, clr x.2 (rst e row) a)) ++ [(a, rst e row)] := by unfold ext; rw [q]
    rw [e5]
    show b2 (lcD _ _ _ _ _) (mkLst (aCons (mkTup (aCons (gv 3) (aCons (gv 2) aNil))) aNil)) addA [.dat (.lst (e.map phi)), .dat d, .dat (.lst ((rst e row).map .int)), .dat (.int a), .unk, .unk] = _
    rw [ev_b2, e3]
    have e6 : mkLst (aCons (mkTup (aCons (gv 3) (aCons (gv 2) aNil))) aNil) [.dat (.lst (e.map phi)), .dat d, .dat (.lst ((rst e row).map .int)), .dat (.int a), .unk, .unk] = some (.lst [phi (a, rst e row)]) := by
      rfl
    rw [e6, Option.bind_some, Option.bind_some, ev_catL (by simp; omega)]
    simp
end
theorem echl_run {n : Nat} (hn : n ≤ 10) {rs : List (List Int)} {psi : List Int → D} (hpsi : ∀ r, Rw (psi r) r) {d : D} (hd : seqD d = some (rs.map psi)) (h : ∀ r ∈ rs, r.length = n ∧ ∀ k, (vc r k).natAbs ≤ MM) : mechelon_of [d] = some (.lst ((echl rs).map phi)) := by
  refine runP_eq ?_
  unfold bechelon_of
  show Rn _ [.dat d, .unk, .unk] _
  refine Rn.sqst (d := .lst []) rfl ?_
  refine Rn.sqfor (xs := rs) (φ := psi) (iof rfl hd) (fun i ρ => ∃ x2, ρ = [.dat d, .dat (.lst ((echl (rs.take i)).map phi)), x2]) ⟨_, rfl⟩ (fun i hi ρ hI => ?_) (fun ρ hI => ?_)
  · obtain ⟨x2, rfl⟩ := hI
    refine ⟨_, rfl, ?_⟩
    obtain ⟨st, ok, _⟩ := echl_ok h i (by omega)
    have hr := h rs[i] (List.getElem_mem _)
    have e1 := ext_run ok hn (hpsi rs[i]) hr.1 hr.2
    refine Rn.st (d := .lst ((ext (echl (rs.take i)) rs[i]).map phi)) (by show cB _ _ [_, .dat (.lst _), .dat (psi rs[i])] = _; (simp (disch := first | assumption | omega) only [e1, MV, MW])) ?_
    refine ⟨.dat (psi rs[i]), ?_⟩
    rw [List.take_succ_eq_append_getElem hi]
    unfold echl
    rw [List.foldl_append]; rfl
  · obtain ⟨x2, rfl⟩ := hI
    refine Rn.ret (d := .lst ((echl rs).map phi)) ?_ ⟨_, rfl, rfl⟩
    rw [List.take_length]; rfl
theorem lm_run {a b B : Nat} (hb : b ≠ 0) (ha : a < 2 ^ 2400) (hb2 : b < 2 ^ 4000) (s t : Int) (hs : s.natAbs = a) (ht : t.natAbs = b) : mleast_multiple [.int s, .int t] = some (.int (Nat.lcm a b : Nat)) := by
  refine runP_eq ?_
  unfold bleast_multiple
  show Rn _ [.dat (.int s), .dat (.int t)] _
  have e1 := cd_eq s t
  rw [hs, ht] at e1
  have hg : Nat.gcd a b ≠ 0 := fun z => hb (Nat.eq_zero_of_gcd_eq_zero_right z)
  have e2 := div_bt (i := (a : Nat)) (j := (Nat.gcd a b : Nat)) (b := 4000) (by omega) (by
    rw [Int.natAbs_natCast]
    exact Nat.lt_of_le_of_lt (Nat.le_of_dvd (by omega) (Nat.gcd_dvd_right a b)) hb2) (by decide) (by decide)
  have e3 : ((a : Int).fdiv ((Nat.gcd a b : Nat) : Int)) = ((a / Nat.gcd a b : Nat) : Int) := by
    rw [Int.fdiv_eq_ediv_of_nonneg _ (by omega)]; rfl
  rw [e3] at e2
  have e4 := mul_bt (i := ((a / Nat.gcd a b : Nat) : Int)) (j := (b : Nat)) (a := 2400) (b := 4000) (by
    rw [Int.natAbs_natCast]; exact Nat.lt_of_le_of_lt (Nat.div_le_self _ _) ha) (by rw [Int.natAbs_natCast]; exact hb2) (by decide) (by decide) (by decide)
  have e5 : ((a / Nat.gcd a b : Nat) : Int) * ((b : Nat) : Int) = (Nat.lcm a b : Nat) := by
    have e : a / Nat.gcd a b * b = Nat.lcm a b := by
      rw [Nat.lcm, Nat.mul_comm a b, Nat.mul_div_assoc _ (Nat.gcd_dvd_left a b), Nat.mul_comm]
    rw [← e]
    exact (Int.natCast_mul _ _).symm
  rw [e5] at e4
  refine Rn.ret (d := .int (Nat.lcm a b : Nat)) ?_ ⟨_, rfl, rfl⟩
  show b2 _ _ _ [.dat (.int s), .dat (.int t)] = _
  (simp (disch := first | assumption | omega) only [abs_eq, e1, hs, ht, e2, e4, MV, MW])
theorem cm_run {n : Nat} {st : Ech} {e : LE} (h : EchOk MM n st e) (hn : n ≤ 10) : mcommon_multiple [.lst (e.map phi)] = some (.int (cm e : Nat)) := by
  have hs := leads_le h.good h.lt
  have pb : (piv st).natAbs ≤ 2 ^ 2400 := Nat.le_trans h.pvle (bd_le _ (by omega))
  have hd : ∀ x ∈ e, (vc x.2 x.1).natAbs ∣ (piv st).natAbs := fun x hx => Int.natAbs_dvd_natAbs.mpr (h.pdvd hx)
  have pn := piv_nz h.good
  refine runP_eq ?_
  unfold bcommon_multiple
  show Rn _ [.dat (.lst (e.map phi)), .unk, .unk, .unk] _
  refine Rn.sqst (d := .int 1) rfl ?_
  refine Rn.sqfor (xs := e) (φ := phi) rfl (fun i ρ => ∃ x2 x3, ρ = [.dat (.lst (e.map phi)), .dat (.int (cm (e.take i) : Nat)), x2, x3]) ⟨_, _, rfl⟩ (fun i hi ρ hI => ?_) (fun ρ hI => ?_)
  · obtain ⟨x2, x3, rfl⟩ := hI
    refine ⟨_, rfl, ?_⟩
    have hx : e[i] ∈ e := List.getElem_mem _
    have e1 := at_vc (r := e[i].2) (k := e[i].1) (by rw [h.len _ hx]; exact h.lt _ (h.mem hx))
    have c1 : cm (e.take i) ≤ (piv st).natAbs := Nat.le_of_dvd (by omega) (cm_dvd hd i (by omega))
    have pv := h.pv _ hx
    by_cases hc : cm (e.take i) < 2 ^ 2400
    · have e2 := lm_run (a := cm (e.take i)) (b := (vc e[i].2 e[i].1).natAbs) (B := 0) (by omega) hc (ech_small h hn hx _) (cm (e.take i) : Nat) (vc e[i].2 e[i].1) (by simp) rfl
      refine Rn.st (d := .int (Nat.lcm (cm (e.take i)) (vc e[i].2 e[i].1).natAbs : Nat)) (by
        show cB _ _ [_, .dat (.int (cm (e.take i) : Nat)), .dat (.int (e[i].1 : Nat)), .dat (.lst (e[i].2.map .int))] = _
        (simp (disch := first | assumption | omega) only [e1, e2, MV, MW])) ?_
      refine ⟨.dat (.int e[i].1), .dat (.lst (e[i].2.map .int)), ?_⟩
      rw [List.take_succ_eq_append_getElem hi, cm_snoc]; rfl
    · have p2 : (piv st).natAbs < 2 ^ 2400 := by
        have := Nat.lt_of_le_of_lt h.pvle (show Bd MM st.length < 2 ^ 2400 from (by decide +kernel : ∀ m, m < 12 → Bd MM m < 2 ^ 2400) _ (by omega))
        exact this
      omega
  · obtain ⟨x2, x3, rfl⟩ := hI
    refine Rn.ret (d := .int (cm e : Nat)) ?_ ⟨_, rfl, rfl⟩
    rw [List.take_length]; rfl
end Ln

namespace Ln
open PySem PySem.Spec L2 PD LA
/-! ### the law's own functions -/
theorem red_le {st : Ech} {v : Vec} (hb : ∀ r ∈ rows st, ∀ k, (r k).natAbs ≤ MM) (hv : ∀ k, (v k).natAbs ≤ MM) (hs : st.length ≤ 10) (k : Nat) : (red st v k).natAbs < 2 ^ 2401 := by
  have := Dt_le (M := MM) (k :: leads st) (v :: rows st) (by simp [leads, rows]) (fun r hr => by
    rcases List.mem_cons.mp hr with rfl | hr
    · exact hv
    · exact hb r hr)
  have e : (k :: leads st).length = st.length + 1 := by simp [leads]
  rw [e] at this
  exact Nat.lt_of_le_of_lt (Nat.le_trans this (bd_le (st.length + 1) (by omega))) (Nat.pow_lt_pow_right (by decide) (by decide))
theorem piv_le {st : Ech} (hb : ∀ r ∈ rows st, ∀ k, (r k).natAbs ≤ MM) (hs : st.length ≤ 10) : (piv st).natAbs < 2 ^ 2401 := by
  have := Dt_le (M := MM) (leads st) (rows st) (by simp [leads, rows]) hb
  have e : (leads st).length = st.length := by simp [leads]
  rw [e] at this
  exact Nat.lt_of_le_of_lt (Nat.le_trans this (bd_le st.length (by omega))) (Nat.pow_lt_pow_right (by decide) (by decide))
theorem range0 (n : Nat) : rangeD 0 n = (List.range n).map fun i : Nat => .int (i : Int) := by
  rw [rangeD_map]
  simp
theorem lrow_at : ∀ {n : Nat} {st : Ech} {rs : LE}, Good st → Lw n st rs → (∀ r ∈ rows st, ∀ k, (r k).natAbs ≤ MM) → st.length ≤ 10 → ∀ x ∈ rs, ∀ k, (vc x.2 k).natAbs < 2 ^ 2401
  | n, [], rs, _, h, _, _, x, hx => by rw [show rs = [] from h] at hx; cases hx
  | n, (l, b) :: st, rs, g, ⟨rs', r, e, h, _, _, hr⟩, hb, hs, x, hx => by
    rw [e] at hx
    rcases List.mem_append.mp hx with hx | hx
    · exact lrow_at g.1 h (fun r hr => hb r (List.mem_cons_of_mem _ hr)) (by simp at hs; omega) x hx
    · have : x = (l, r) := by simpa using hx
      intro k
      rw [this]
      show (vc r k).natAbs < _
      rw [hr k]
      exact red_le (fun r hr => hb r (List.mem_cons_of_mem _ hr)) (hb b List.mem_cons_self) (by simp at hs; omega) k
theorem bred_run {n : Nat} {st : Ech} {rs : LE} (g : Good st) (h : Lw n st rs) (hb : ∀ r ∈ rows st, ∀ k, (r k).natAbs ≤ MM) (hs : st.length ≤ 10) (hn : n ≤ 1000) {v : List Int} (hv : v.length = n) (bv : ∀ k, (vc v k).natAbs ≤ MM) :
    m_law_reduced [.lst (rs.map phi), .lst (v.map .int)] = some (.lst ((bred rs v).map .int)) := by
  refine runP_eq ?_
  unfold b_law_reduced
  show Rn _ [.dat (.lst (rs.map phi)), .dat (.lst (v.map .int)), .unk, .unk, .unk, .unk, .unk] _
  refine Rn.sqst (d := .lst (v.map .int)) (by show frz _ [_, .dat (.lst (v.map .int)), _, _, _, _, _] = _; (simp (disch := first | assumption | omega) only [MV, MW])) ?_
  refine Rn.sqst (d := .int 1) rfl ?_
  refine Rn.sqfor (xs := rs) (φ := phi) rfl (fun i ρ => ∃ x3 x4 x5, ρ = [.dat (.lst (rs.map phi)), .dat (.lst ((((rs.take i).foldl bstep (v, 1)).1).map .int)), .dat (.int ((rs.take i).foldl bstep (v, 1)).2), x3, x4, x5, .unk]) ⟨_, _, _, rfl⟩ (fun i hi ρ hI => ?_) (fun ρ hI => ?_)
  · obtain ⟨x3, x4, x5, rfl⟩ := hI
    refine ⟨_, rfl, ?_⟩
    obtain ⟨st', g', h', l', sub'⟩ := h.take g i (by omega)
    obtain ⟨v', e1, l1, r1⟩ := h'.red hv g'
    have hx : rs[i] ∈ rs := List.getElem_mem _
    have hxl := h.lens _ hx
    have hlen := h.len
    rw [List.take_succ_eq_append_getElem hi, List.foldl_append, e1]
    generalize hxe : rs[i] = x at hx hxl
    have b1 : ∀ k, (vc v' k).natAbs < 2 ^ 2401 := fun k => by rw [r1 k]; exact red_le (fun r hr => hb r (sub' r hr)) bv (by omega) k
    have bb := lrow_at g h hb hs x hx
    have b3 : (piv st').natAbs < 2 ^ 2401 := piv_le (fun r hr => hb r (sub' r hr)) (by omega)
    have pz := piv_nz g'
    have a1 := at_vc (r := v') (k := x.1) (by omega)
    have a2 := at_vc (r := x.2) (k := x.1) (by omega)
    show Rn _ [.dat (.lst (rs.map phi)), .dat (.lst (v'.map .int)), .dat (.int (piv st')), .dat (.int (x.1 : Nat)), .dat (.lst (x.2.map .int)), x5, .unk] _
    refine Rn.sqst (d := .int (vc v' x.1)) (by show PD.b2 _ _ _ [_, .dat (.lst (v'.map .int)), _, .dat (.int (x.1 : Nat)), _, _, _] = _; (simp (disch := first | assumption | omega) only [a1, MV, MW])) ?_
    show Rn _ [.dat (.lst (rs.map phi)), .dat (.lst (v'.map .int)), .dat (.int (piv st')), .dat (.int (x.1 : Nat)), .dat (.lst (x.2.map .int)), .dat (.int (vc v' x.1)), .unk] _
    have el := lc_map (fi := rng1 (cB (aCons (gv 1) aNil) lenD)) (gt := gN 6) (f := PD.b2 (PD.b2 (PD.b2 (PD.b2 (gv 4) (gv 3) ixD) (PD.b2 (gv 1) (gv 6) ixD) mulA) (PD.b2 (gv 5) (PD.b2 (gv 4) (gv 6) ixD) mulA) subI) (gv 2) divX) (vs := [6])
      (ρ := [.dat (.lst (rs.map phi)), .dat (.lst (v'.map .int)), .dat (.int (piv st')), .dat (.int (x.1 : Nat)), .dat (.lst (x.2.map .int)), .dat (.int (vc v' x.1)), .unk]) (φ := fun k : Nat => .int (k : Int)) (fun k => .int ((vc x.2 x.1 * vc v' k - vc v' x.1 * vc x.2 k).fdiv (piv st'))) (xs := List.range v'.length) rfl
      (by
        show rng1 _ [_, .dat (.lst (v'.map .int)), _, _, _, _, _] = _
        have hh : ((v'.length : Nat) : Int) < 4611686018427387904 ∧ -4611686018427387904 ≤ ((v'.length : Nat) : Int) := by omega
        (simp (disch := first | assumption | omega) only [List.length_map, range0, MV, MW])
        rfl) (by simp; omega) fun k hk => ⟨_, rfl, by
        have hk : k < v'.length := by simpa using hk
        have a3 := at_vc (r := v') (k := k) hk
        have a4 := at_vc (r := x.2) (k := k) (by omega)
        have m1 := mul_bt (bb x.1) (b1 k) (by decide) (by decide) (by decide)
        have m2 := mul_bt (b1 x.1) (bb k) (by decide) (by decide) (by decide)
        have m3 := div_bt (i := vc x.2 x.1 * vc v' k - vc v' x.1 * vc x.2 k) pz b3 (by decide) (by decide)
        show PD.b2 _ _ _ [_, .dat (.lst (v'.map .int)), .dat (.int (piv st')), .dat (.int (x.1 : Nat)), .dat (.lst (x.2.map .int)), .dat (.int (vc v' x.1)), .dat (.int k)] = _
        (simp (disch := first | assumption | omega) only [a2, a3, a4, m1, m2, m3, MV, MW])⟩
    refine Rn.sqst el ?_
    refine Rn.st (d := .int (vc x.2 x.1)) (by show PD.b2 _ _ _ [_, _, _, .dat (.int (x.1 : Nat)), .dat (.lst (x.2.map .int)), _, _] = _; (simp (disch := first | assumption | omega) only [a2, MV, MW])) ?_
    refine ⟨.dat (.int (x.1 : Nat)), .dat (.lst (x.2.map .int)), .dat (.int (vc v' x.1)), ?_⟩
    have e9 : ((List.range v'.length).map fun k => D.int ((vc x.2 x.1 * vc v' k - vc v' x.1 * vc x.2 k).fdiv (piv st'))) = ((List.range v'.length).map fun k => (vc x.2 x.1 * vc v' k - vc v' x.1 * vc x.2 k).fdiv (piv st')).map .int := by
      rw [List.map_map]; rfl
    rw [e9]; rfl
  · obtain ⟨x3, x4, x5, rfl⟩ := hI
    refine Rn.ret (d := .lst ((bred rs v).map .int)) ?_ ⟨_, rfl, rfl⟩
    rw [List.take_length]; rfl
theorem bwith_run {n : Nat} {st : Ech} {rs : LE} (g : Good st) (h : Lw n st rs) (hb : ∀ r ∈ rows st, ∀ k, (r k).natAbs ≤ MM) (hs : st.length ≤ 10) (hn : n ≤ 1000) {v : List Int} (hv : v.length = n) (bv : ∀ k, (vc v k).natAbs ≤ MM) :
    m_law_with [.lst (rs.map phi), .lst (v.map .int)] = some (.lst ((bwith rs v).map phi)) := by
  have e1 := bred_run g h hb hs hn hv bv
  have hl := (h.bred hv g).1
  have hrl := h.len
  refine runP_eq ?_
  unfold b_law_with
  show Rn _ [.dat (.lst (rs.map phi)), .dat (.lst (v.map .int)), .unk, .unk] _
  refine Rn.sqst (d := .lst ((bred rs v).map .int)) (by show cB _ _ [.dat (.lst (rs.map phi)), .dat (.lst (v.map .int)), _, _] = _; (simp (disch := first | assumption | omega) only [e1, MV, MW])) ?_
  show Rn _ [.dat (.lst (rs.map phi)), .dat (.lst (v.map .int)), .dat (.lst ((bred rs v).map .int)), .unk] _
  refine Rn.sqfor (xs := List.range n) (φ := fun k : Nat => .int (k : Int)) (by
      show rng1 _ [_, _, .dat (.lst ((bred rs v).map .int)), _] = _
      have hh : (((bred rs v).length : Nat) : Int) < 4611686018427387904 ∧ -4611686018427387904 ≤ (((bred rs v).length : Nat) : Int) := by omega
      (simp (disch := first | assumption | omega) only [List.length_map, range0, hl, MV, MW])
      rfl) (fun i ρ => ∃ x3, ρ = [.dat (.lst (rs.map phi)), .dat (.lst (v.map .int)), .dat (.lst ((bred rs v).map .int)), x3] ∧ ∀ k, k < i → vc (bred rs v) k = 0) ⟨_, rfl, fun k hk => by omega⟩ (fun i hi ρ hI => ?_) (fun ρ hI => ?_)
  · obtain ⟨x3, rfl, hz⟩ := hI
    have hi' : i < n := by simpa using hi
    rw [List.getElem_range]
    refine ⟨_, rfl, ?_⟩
    have a1 := at_vc (r := bred rs v) (k := i) (by omega)
    show Rn _ [.dat (.lst (rs.map phi)), .dat (.lst (v.map .int)), .dat (.lst ((bred rs v).map .int)), .dat (.int i)] _
    refine Rn.iteP (p := vc (bred rs v) i ≠ 0) (by show asB _ [_, _, .dat (.lst ((bred rs v).map .int)), .dat (.int i)] = _; (simp (disch := first | assumption | omega) only [a1, MV, MW])) (fun hnz => ?_) fun hnz => ?_
    · have q : fnz (bred rs v) = some i := by
        unfold fnz
        rw [List.findIdx?_eq_some_iff_getElem]
        refine ⟨by omega, by rw [← vc_eq (by omega)]; exact decide_eq_true hnz, fun j hj => ?_⟩
        have := hz j hj
        rw [vc_eq (by omega)] at this
        rw [this]; simp
      have e5 : bwith rs v = rs ++ [(i, bred rs v)] := by unfold bwith; rw [q]
      refine Rn.ret (d := .lst ((bwith rs v).map phi)) ?_ ⟨_, rfl, rfl⟩
      rw [e5, ev_b2]
      have e6 : mkLst (aCons (mkTup (aCons (gv 3) (aCons (gv 2) aNil))) aNil) [.dat (.lst (rs.map phi)), .dat (.lst (v.map .int)), .dat (.lst ((bred rs v).map .int)), .dat (.int i)] = some (.lst [phi (i, bred rs v)]) := rfl
      rw [e6]
      show (some (D.lst (rs.map phi))).bind _ = _
      rw [Option.bind_some, Option.bind_some, ev_catL (by simp; omega)]
      simp
    · refine Rn.skip ⟨_, rfl, fun k hk => ?_⟩
      by_cases q : k = i
      · rw [q]; simpa using hnz
      · exact hz k (by omega)
  · obtain ⟨x3, rfl, hz⟩ := hI
    rw [List.length_range] at hz
    have q : fnz (bred rs v) = none := by
      unfold fnz
      rw [List.findIdx?_eq_none_iff]
      intro x hx
      obtain ⟨k, hk, rfl⟩ := mem_vc hx
      rw [hz k (by omega)]; simp
    refine Rn.ret (d := .lst ((bwith rs v).map phi)) ?_ ⟨_, rfl, rfl⟩
    rw [show bwith rs v = rs by unfold bwith; rw [q]]; rfl
theorem isint_run (i : Int) : m_law_is_integer [.int i] = some (.bl true) := rfl
theorem bits_ex {s b : Nat} (hb : s < 2 ^ b) (h0 : 0 < b) : ∃ bt : Nat, bitsD (.int (s : Nat)) = some (.int bt) ∧ s < 2 ^ bt ∧ bt ≤ b := by
  refine ⟨Builtin.Int.intBits (s : Int), rfl, ?_, ?_⟩
  · unfold Builtin.Int.intBits
    split
    · rename_i h
      have : (s : Int) = 0 := by simpa using h
      omega
    · exact Nat.lt_log2_self
  · unfold Builtin.Int.intBits
    split
    · omega
    · rename_i h
      have hs0 : s ≠ 0 := by intro z; subst z; simp at h
      have := lg h0 hb
      rw [Int.natAbs_natCast]
      omega
theorem gcd_run (a b : Int) (hb : b.natAbs < 2 ^ 9000) : m_law_gcd [.int a, .int b] = some (.int (Nat.gcd a.natAbs b.natAbs : Nat)) := by
  refine runP_eq ?_
  unfold b_law_gcd
  show Rn _ [.dat (.int a), .dat (.int b), .unk] _
  refine Rn.sqst (d := .int (a.natAbs : Nat)) (by show cB _ _ [.dat (.int a), _, _] = _; (simp (disch := first | assumption | omega) only [abs_eq, MV, MW])) ?_
  refine Rn.sqst (d := .int (b.natAbs : Nat)) (by show cB _ _ [_, .dat (.int b), _] = _; (simp (disch := first | assumption | omega) only [abs_eq, MV, MW])) ?_
  generalize a.natAbs = f
  generalize b.natAbs = s at hb
  obtain ⟨bt, e1, e2, e3⟩ := bits_ex hb (by decide)
  show Rn _ [.dat (.int (f : Nat)), .dat (.int (s : Nat)), .unk] _
  have er : (2 : Int) * (bt : Int) + 4 = ((2 * bt + 4 : Nat) : Int) := by omega
  refine Rn.sqfor (xs := List.range (2 * bt + 4)) (φ := fun i : Nat => .int (i : Int)) (by
      show rng1 _ [_, .dat (.int (s : Nat)), _] = _
      (simp (disch := first | assumption | omega) only [e1, er, range0, MV, MW]); rfl) (fun k ρ => ∃ (x y : Nat) (x2 : O), ρ = [.dat (.int x), .dat (.int y), x2] ∧ Nat.gcd x y = Nat.gcd f s ∧ ((k = 0 ∧ y < 2 ^ bt) ∨ y = 0 ∨ (1 ≤ k ∧ k ≤ 2 * bt + 1 ∧ y < x ∧ x * y < 2 ^ (2 * bt + 1 - k))))
    ⟨f, s, _, rfl, rfl, .inl ⟨rfl, e2⟩⟩ (fun k hk ρ hI => ?_) (fun ρ hI => ?_)
  · obtain ⟨x, y, y2, rfl, hg, hj⟩ := hI
    have hk : k < 2 * bt + 4 := by simpa using hk
    rw [List.getElem_range]
    refine ⟨_, rfl, ?_⟩
    show Rn _ [.dat (.int (x : Nat)), .dat (.int (y : Nat)), .dat (.int (k : Nat))] _
    refine Rn.iteP (p := (0 : Int) < (y : Int)) (by show asB _ [_, .dat (.int (y : Nat)), _] = _; (simp (disch := first | assumption | omega) only [MV, MW])) (fun h0 => ?_) fun h0 => ?_
    · have e : ((x : Int) % (y : Int)) = ((x % y : Nat) : Int) := by omega
      refine ⟨.nx [.dat (.int y), .dat (.int (x % y : Nat)), .dat (.int (k : Nat))], ?_, y, x % y, _, rfl, ?_, ?_⟩
      · unfold parS
        (simp (disch := first | assumption | omega) only [e, MV, MW])
      · rw [← hg, Nat.gcd_comm y, ← Nat.gcd_rec, Nat.gcd_comm]
      · have hlt : x % y < y := Nat.mod_lt _ (by omega)
        rcases hj with ⟨rfl, a1⟩ | a1 | ⟨a1, a2, a3, a4⟩
        · refine .inr (.inr ⟨by omega, by omega, hlt, ?_⟩)
          have h1 : y * (x % y) ≤ y * y := Nat.mul_le_mul_left _ (Nat.le_of_lt hlt)
          have h2 : y * y < 2 ^ bt * 2 ^ bt := Nat.mul_lt_mul_of_lt_of_lt a1 a1
          rw [← Nat.pow_add] at h2
          rw [show 2 * bt + 1 - (0 + 1) = bt + bt by omega]
          omega
        · omega
        · by_cases hk2 : k = 2 * bt + 1
          · exfalso
            rw [show 2 * bt + 1 - k = 0 by omega] at a4
            have : 0 < x * y := Nat.mul_pos (by omega) (by omega)
            omega
          · refine .inr (.inr ⟨by omega, by omega, hlt, ?_⟩)
            have h3 : 2 * (x % y) ≤ x := by
              have := Nat.div_add_mod x y
              have h4 : 1 ≤ x / y := (Nat.le_div_iff_mul_le (by omega)).mpr (by omega)
              have h5 : y * 1 ≤ y * (x / y) := Nat.mul_le_mul_left _ h4
              omega
            have h6 : y * (2 * (x % y)) ≤ y * x := Nat.mul_le_mul_left _ h3
            have h7 : 2 ^ (2 * bt + 1 - k) = 2 * 2 ^ (2 * bt + 1 - (k + 1)) := by
              rw [show 2 * bt + 1 - k = (2 * bt + 1 - (k + 1)) + 1 by omega, Nat.pow_succ, Nat.mul_comm]
            have h8 : y * (2 * (x % y)) = 2 * (y * (x % y)) := Nat.mul_left_comm _ _ _
            have h9 : y * x = x * y := Nat.mul_comm _ _
            omega
    · have hy : y = 0 := by omega
      subst hy
      refine Rn.skip ⟨x, 0, _, rfl, hg, .inr (.inl rfl)⟩
  · obtain ⟨x, y, y2, rfl, hg, hj⟩ := hI
    rw [List.length_range] at hj
    have hy : y = 0 := by
      rcases hj with ⟨a1, _⟩ | a1 | ⟨_, a2, _⟩
      · omega
      · exact a1
      · omega
    subst hy
    rw [Nat.gcd_zero_right] at hg
    exact Rn.ret (d := .int x) rfl ⟨_, rfl, by rw [hg]; rfl⟩
theorem cell_run (ns : List Int) (k : Nat) : m_law_cell [.lst (ns.map .int), .int k] = some (.int (ns.getD k 0)) := cell_eq ns k
theorem row_run (c : Int) (n : Nat) (hn : n ≤ 1000) : ∃ rs : List Int, m_law_row [.int c, .int n] = some (.lst (rs.map .int)) ∧ rs.length = n ∧ ∀ r ∈ rs, 0 ≤ r ∧ r < 1000 := row_ex c n hn
theorem seed_run (ns : List Int) (k : Nat) : ∃ s : Int, m_law_seed [.lst (ns.map .int), .int k] = some (.int s) := by
  by_cases h : k < ns.length
  · refine ⟨vc ns k, runP_eq ?_⟩
    unfold b_law_seed
    show Rn _ [.dat (.lst (ns.map .int)), .dat (.int k)] _
    have e1 : decide ((k : Int) < (ns.length : Int)) = true := decide_eq_true (by omega)
    have e2 := at_vc (r := ns) (k := k) h
    refine Rn.sqifT (by show asB _ [.dat (.lst (ns.map .int)), .dat (.int k)] = _; (simp (disch := first | assumption | omega) only [List.length_map, e1, MV, MW])) ?_
    exact Rn.sqret (d := .int (vc ns k)) (by show cB _ _ [.dat (.lst (ns.map .int)), .dat (.int k)] = _; (simp (disch := first | assumption | omega) only [e2, MV, MW])) ⟨_, rfl, rfl⟩
  · refine ⟨(ns.getD 0 0 * 7907 + ns.getD 1 0 * 331 + 104729 * k) % 2147483629, runP_eq ?_⟩
    unfold b_law_seed
    show Rn _ [.dat (.lst (ns.map .int)), .dat (.int k)] _
    have e1 : decide ((k : Int) < (ns.length : Int)) = false := decide_eq_false (by omega)
    have c0 := cell_run ns 0
    have c1 := cell_run ns 1
    refine Rn.chk (by show asB _ [.dat (.lst (ns.map .int)), .dat (.int k)] = _; (simp (disch := first | assumption | omega) only [List.length_map, e1, MV, MW])) ?_
    have c0' : m_law_cell [.lst (ns.map .int), .int 0] = some (.int (ns.getD 0 0)) := c0
    have c1' : m_law_cell [.lst (ns.map .int), .int 1] = some (.int (ns.getD 1 0)) := c1
    exact Rn.ret (d := .int ((ns.getD 0 0 * 7907 + ns.getD 1 0 * 331 + 104729 * k) % 2147483629)) (by show PD.b2 _ _ _ [.dat (.lst (ns.map .int)), .dat (.int k)] = _; (simp (disch := first | assumption | omega) only [c0', c1', MV, MW])) ⟨_, rfl, rfl⟩
end Ln

namespace LA
/-! ### sums of products -/
def dot (n : Nat) (u w : Vec) : Int := ((List.range n).map fun k => u k * w k).sum
theorem sum_lin (a b : Int) (f g : Nat → Int) : ∀ l : List Nat, (l.map fun k => a * f k + b * g k).sum = a * (l.map f).sum + b * (l.map g).sum
  | [] => by simp
  | k :: l => by
    simp only [List.map_cons, List.sum_cons, sum_lin a b f g l]
    grind
theorem dot_lin (n : Nat) (a b : Int) (u v w : Vec) : dot n (fun k => a * u k + b * v k) w = a * dot n u w + b * dot n v w := by
  unfold dot
  rw [← sum_lin]
  congr 1
  apply List.map_congr_left
  intro k _
  grind
theorem dot_ext {n : Nat} {u v w : Vec} (h : ∀ k, u k = v k) : dot n u w = dot n v w := by rw [show u = v from funext h]
theorem dot_comm (n : Nat) (u w : Vec) : dot n u w = dot n w u := by
  unfold dot
  congr 1
  apply List.map_congr_left
  intro k _
  exact Int.mul_comm _ _
theorem sum_zero {g : Nat → Int} : ∀ {l : List Nat}, (∀ k ∈ l, g k = 0) → (l.map g).sum = 0
  | [], _ => rfl
  | k :: l, h => by rw [List.map_cons, List.sum_cons, h k List.mem_cons_self, sum_zero fun k hk => h k (List.mem_cons_of_mem _ hk)]; rfl
theorem sum_one {g : Nat → Int} {a : Nat} : ∀ {l : List Nat}, l.Nodup → a ∈ l → (∀ k ∈ l, k ≠ a → g k = 0) → (l.map g).sum = g a
  | k :: l, nd, ha, h => by
    rw [List.nodup_cons] at nd
    rw [List.map_cons, List.sum_cons]
    by_cases e : k = a
    · subst e
      rw [sum_zero fun k' hk => h k' (List.mem_cons_of_mem _ hk) fun z => nd.1 (z ▸ hk)]; simp
    · rw [h k List.mem_cons_self e, sum_one nd.2 (by
        rcases List.mem_cons.mp ha with z | z
        · exact absurd z.symm e
        · exact z) fun k' hk hn => h k' (List.mem_cons_of_mem _ hk) hn]; simp
theorem sum_two {g : Nat → Int} {a b n : Nat} (ha : a < n) (hb : b < n) (hab : a ≠ b) (h : ∀ k, k ≠ a → k ≠ b → g k = 0) : ((List.range n).map g).sum = g a + g b := by
  have e : (List.range n).map g = (List.range n).map fun k => 1 * (if k = a then g k else 0) + 1 * (if k = a then 0 else g k) := by
    apply List.map_congr_left
    intro k _
    split <;> omega
  rw [e, sum_lin, sum_one (a := a) List.nodup_range (by simpa using ha) (fun k _ hk => if_neg hk), sum_one (a := b) List.nodup_range (by simpa using hb) (fun k _ hk => by
    split
    · rfl
    · rename_i hka; exact h k hka hk), if_pos rfl, if_neg (fun z => hab z.symm)]
  omega
/-- what is orthogonal to the reduced rows is orthogonal to the span -/
theorem EchOk.orth {M n : Nat} {st : Ech} {e : LE} (h : EchOk M n st e) {w : Vec} (hw : ∀ x ∈ e, dot n (vc x.2) w = 0) {u : Vec} (hu : InS (rows st) u) : dot n u w = 0 := by
  have key : ∀ i, i ≤ e.length → ∃ T : Vec, (∀ l ∈ leads st, l ∉ (e.take i).map (·.1) → T l = piv st * u l) ∧ (∀ l ∈ (e.take i).map (·.1), T l = 0) ∧ InS (rows st) T ∧ dot n T w = piv st * dot n u w := by
    intro i
    induction i with
    | zero => 
      intro _
      refine ⟨fun k => piv st * u k, fun _ _ _ => rfl, fun l hl => by simp at hl, InS.smul _ hu, ?_⟩
      have := dot_lin n (piv st) 0 u u w
      rw [← dot_ext (u := fun k => piv st * u k + 0 * u k) (fun k => by omega), this]; omega
    | succ i ih =>
      intro hi
      obtain ⟨T, t1, t2, t3, t4⟩ := ih (by omega)
      have hx : e[i] ∈ e := List.getElem_mem _
      rw [List.take_succ_eq_append_getElem (by omega), List.map_append]
      have hxl := h.mem hx
      have hli : e[i].1 ∉ (e.take i).map (·.1) := fun z => by
        have nd := h.end_
        have e1 : e = e.take i ++ e[i] :: e.drop (i + 1) := by rw [← List.drop_eq_getElem_cons (by omega), List.take_append_drop]
        have nd' : ((e.take i ++ e[i] :: e.drop (i + 1)).map (·.1)).Nodup := by rw [← e1]; exact nd
        rw [List.map_append, List.nodup_append] at nd'
        exact nd'.2.2 _ z _ (by rw [List.map_cons]; exact List.mem_cons_self) rfl
      obtain ⟨R, t, ht, R1, R2, R3, R4, Re⟩ := h.row hx
      refine ⟨fun k => T k - u e[i].1 * R k, fun l h1 h2 => ?_, fun l h1 => ?_, ?_, ?_⟩
      · have n1 : l ∉ (e.take i).map (·.1) := fun z => h2 (List.mem_append_left _ z)
        have n2 : l ≠ e[i].1 := fun z => h2 (List.mem_append_right _ (by simp [z]))
        show T l - _ * R l = _
        rw [t1 l h1 n1, R2 l h1 n2]; simp
      · show T l - _ * R l = 0
        rcases List.mem_append.mp h1 with h1 | h1
        · have n2 : l ≠ e[i].1 := fun z => hli (z ▸ h1)
          have h3 : l ∈ leads st := by
            obtain ⟨y, hy, rfl⟩ := List.mem_map.mp h1
            exact h.mem (List.mem_of_mem_take hy)
          rw [t2 l h1, R2 l h3 n2]; simp
        · have : l = e[i].1 := by simpa using h1
          rw [this, t1 _ hxl hli, R1]; grind
      · exact (InS.lin 1 (-(u e[i].1)) t3 R3).ext fun k => by grind
      · have e1 := dot_lin n 1 (-(u e[i].1 * t)) T (vc e[i].2) w
        rw [hw _ hx, t4] at e1
        rw [← dot_ext (u := fun k => 1 * T k + -(u e[i].1 * t) * vc e[i].2 k) (fun k => by rw [Re k]; grind), e1]
        omega
  obtain ⟨T, _, t2, t3, t4⟩ := key e.length (Nat.le_refl _)
  rw [List.take_length] at t2
  have z := zero_of h.good t3 fun l hl => t2 l (by rw [h.ls]; exact List.mem_reverse.mpr hl)
  have : dot n T w = 0 := by
    unfold dot
    exact sum_zero fun k _ => by rw [z k]; simp
  rw [this] at t4
  exact (Int.mul_eq_zero.mp t4.symm).resolve_left (piv_nz h.good)
/-! ### the balance -/
def bvec (f : Nat) (c : Int) (e : LE) (n : Nat) : List Int := e.foldl (fun v x => v.set x.1 (-(vc x.2 f) * (vc v f).fdiv (vc x.2 x.1))) ((List.replicate n 0).set f c)
theorem vc_set {v : List Int} {i : Nat} {y : Int} (hi : i < v.length) (k : Nat) : vc (v.set i y) k = if k = i then y else vc v k := by
  unfold vc
  rw [List.getD_eq_getElem?_getD, List.getD_eq_getElem?_getD]
  by_cases h : k = i
  · subst h; rw [if_pos rfl, List.getElem?_set_self hi]; rfl
  · rw [if_neg h, List.getElem?_set_ne (Ne.symm h)]
theorem vc_rep (n k : Nat) : vc (List.replicate n 0) k = 0 := by
  unfold vc
  rw [List.getD_eq_getElem?_getD, List.getElem?_replicate]
  split <;> rfl
theorem bvec_ok {M n : Nat} {st : Ech} {e : LE} (h : EchOk M n st e) {f : Nat} (hf : f < n) (hfl : f ∉ leads st) (c : Int) : ∀ i, i ≤ e.length →
    (bvec f c (e.take i) n).length = n ∧ vc (bvec f c (e.take i) n) f = c ∧ (∀ x ∈ e.take i, vc (bvec f c (e.take i) n) x.1 = -(vc x.2 f) * c.fdiv (vc x.2 x.1)) ∧ ∀ k, k ≠ f → k ∉ (e.take i).map (·.1) → vc (bvec f c (e.take i) n) k = 0
  | 0, _ => by
    refine ⟨by simp [bvec], ?_, fun x hx => by simp at hx, fun k hk _ => ?_⟩
    · show vc ((List.replicate n 0).set f c) f = c
      rw [vc_set (by simpa using hf), if_pos rfl]
    · show vc ((List.replicate n 0).set f c) k = 0
      rw [vc_set (by simpa using hf), if_neg hk, vc_rep]
  | i + 1, hi => by
    obtain ⟨a1, a2, a3, a4⟩ := bvec_ok h hf hfl c i (by omega)
    have hx : e[i] ∈ e := List.getElem_mem _
    have hxl := h.lt _ (h.mem hx)
    have hxf : e[i].1 ≠ f := fun z => hfl (z ▸ h.mem hx)
    have hli : e[i].1 ∉ (e.take i).map (·.1) := fun z => by
      have nd := h.end_
      have e1 : e = e.take i ++ e[i] :: e.drop (i + 1) := by rw [← List.drop_eq_getElem_cons (by omega), List.take_append_drop]
      have nd' : ((e.take i ++ e[i] :: e.drop (i + 1)).map (·.1)).Nodup := by rw [← e1]; exact nd
      rw [List.map_append, List.nodup_append] at nd'
      exact nd'.2.2 _ z _ (by rw [List.map_cons]; exact List.mem_cons_self) rfl
    have es : bvec f c (e.take (i + 1)) n = (bvec f c (e.take i) n).set e[i].1 (-(vc e[i].2 f) * c.fdiv (vc e[i].2 e[i].1)) := by
      rw [List.take_succ_eq_append_getElem (by omega)]
      conv => lhs; unfold bvec
      rw [List.foldl_append]
      show (bvec f c (e.take i) n).set e[i].1 (-(vc e[i].2 f) * (vc (bvec f c (e.take i) n) f).fdiv _) = _
      rw [a2]
    rw [es]
    refine ⟨by simp [a1], ?_, fun x hx' => ?_, fun k hk hk2 => ?_⟩
    · rw [vc_set (by omega), if_neg (Ne.symm hxf)]; exact a2
    · rw [List.take_succ_eq_append_getElem (by omega)] at hx'
      rw [vc_set (by omega)]
      rcases List.mem_append.mp hx' with hx' | hx'
      · have : x.1 ≠ e[i].1 := fun z => hli (z ▸ List.mem_map_of_mem hx')
        rw [if_neg this]; exact a3 x hx'
      · have : x = e[i] := by simpa using hx'
        rw [this, if_pos rfl]
    · rw [List.take_succ_eq_append_getElem (by omega), List.map_append] at hk2
      have n1 : k ∉ (e.take i).map (·.1) := fun z => hk2 (List.mem_append_left _ z)
      have n2 : k ≠ e[i].1 := fun z => hk2 (List.mem_append_right _ (by simp [z]))
      rw [vc_set (by omega), if_neg n2]; exact a4 k hk n1
theorem cm_pos {e : LE} (h : ∀ x ∈ e, vc x.2 x.1 ≠ 0) : ∀ i, i ≤ e.length → 0 < cm (e.take i)
  | 0, _ => Nat.one_pos
  | i + 1, hi => by
    rw [List.take_succ_eq_append_getElem (by omega), cm_snoc]
    have := h e[i] (List.getElem_mem _)
    exact Nat.lcm_pos (cm_pos h i (by omega)) (by omega)
theorem bvec_orth {M n : Nat} {st : Ech} {e : LE} (h : EchOk M n st e) {f : Nat} (hf : f < n) (hfl : f ∉ leads st) : ∀ x ∈ e, dot n (vc x.2) (vc (bvec f (cm e : Nat) e n)) = 0 := by
  intro x hx
  obtain ⟨a1, a2, a3, a4⟩ := bvec_ok h hf hfl (cm e : Nat) e.length (Nat.le_refl _)
  rw [List.take_length] at a1 a2 a3 a4
  have hxl := h.mem hx
  have hxf : x.1 ≠ f := fun z => hfl (z ▸ hxl)
  unfold dot
  rw [sum_two (a := x.1) (b := f) (h.lt _ hxl) hf hxf fun k k1 k2 => ?_]
  · rw [a2, a3 x hx]
    have d := dvd_cm (e := e) e.length (Nat.le_refl _) x (by rw [List.take_length]; exact hx)
    rw [List.take_length] at d
    have d' : vc x.2 x.1 ∣ ((cm e : Nat) : Int) := Int.natAbs_dvd.mp (Int.ofNat_dvd.mpr d)
    have := Int.mul_fdiv_cancel' d'
    grind
  · by_cases hk : k ∈ leads st
    · rw [h.zr x hx k hk k1]; simp
    · rw [a4 k k2 (by rw [h.ls]; exact fun z => hk (List.mem_reverse.mp z))]; simp
end LA

namespace LA
/-! ### coefficients -/
def lc : List Int → List Vec → Vec
  | c :: cs, b :: bs => fun k => c * b k + lc cs bs k
  | _, _ => fun _ => 0
theorem lc_scale (a : Int) : ∀ (cs : List Int) (bs : List Vec) (k : Nat), lc (cs.map fun c => a * c) bs k = a * lc cs bs k
  | [], bs, k => by simp [lc]
  | c :: cs, [], k => by simp [lc]
  | c :: cs, b :: bs, k => by
    show a * c * b k + lc (cs.map fun c => a * c) bs k = a * (c * b k + lc cs bs k)
    rw [lc_scale a cs bs k]; grind
theorem InS.coef : ∀ {bs : List Vec} {w : Vec}, InS bs w → ∃ (N : Int) (cs : List Int), N ≠ 0 ∧ cs.length = bs.length ∧ ∀ k, N * w k = lc cs bs k
  | [], w, h => ⟨1, [], by decide, rfl, fun k => by rw [h k]; rfl⟩
  | b :: bs, w, ⟨N, c, hN, h⟩ => by
    obtain ⟨N', cs, hN', hl, e⟩ := InS.coef h
    refine ⟨N' * N, (N' * c) :: cs, Int.mul_ne_zero hN' hN, by simp [hl], fun k => ?_⟩
    show N' * N * w k = N' * c * b k + lc cs bs k
    have := e k
    grind
theorem lc_span : ∀ (cs : List Int) (bs : List Vec), InS bs (lc cs bs)
  | [], bs => InS.zero fun k => by cases bs <;> rfl
  | c :: cs, [] => fun k => rfl
  | c :: cs, b :: bs => ⟨1, c, by decide, (lc_span cs bs).ext fun k => by
      show _ = 1 * (c * b k + lc cs bs k) - c * b k
      omega⟩
theorem range_shift {α : Type} (f : Nat → α) (n : Nat) : (List.range (n + 1)).map f = f 0 :: (List.range n).map fun k => f (k + 1) := by
  rw [List.range_succ_eq_map, List.map_cons, List.map_map]; rfl
/-- a combination by places -/
theorem lc_sum : ∀ (cs : List Int) (bs : List (List Int)) (i : Nat), cs.length = bs.length → ((List.range bs.length).map fun j => vc cs j * vc (bs.getD j []) i).sum = lc cs (bs.map vc) i
  | [], [], i, _ => rfl
  | c :: cs, b :: bs, i, h => by
    rw [List.length_cons, range_shift, List.sum_cons]
    show vc (c :: cs) 0 * vc b i + ((List.range bs.length).map fun k => vc (c :: cs) (k + 1) * vc ((b :: bs).getD (k + 1) []) i).sum = c * vc b i + lc cs (bs.map vc) i
    rw [← lc_sum cs bs i (by simpa using h)]
    rfl
theorem InS.orth {n : Nat} {w : Vec} : ∀ {bs : List Vec} {u : Vec}, (∀ b ∈ bs, dot n b w = 0) → InS bs u → dot n u w = 0
  | [], u, _, h => by
    unfold dot
    exact sum_zero fun k _ => by rw [h k]; simp
  | b :: bs, u, hb, ⟨N, c, hN, h⟩ => by
    have h1 := InS.orth (fun b hb' => hb b (List.mem_cons_of_mem _ hb')) h
    have h2 := dot_lin n N (-c) u b w
    rw [hb b List.mem_cons_self, dot_ext (v := fun k => N * u k - c * b k) (fun k => by grind), h1] at h2
    exact (Int.mul_eq_zero.mp (by omega : N * dot n u w = 0)).resolve_left hN
/-! ### the law's rows are taken greedily -/
theorem bwith_gd {n : Nat} {st : Ech} {rs : LE} (g : Good st) (h : Lw n st rs) {v : List Int} (hv : v.length = n) {X : List Vec} (gd : Gd X (rows st)) : ∃ st', Good st' ∧ Lw n st' (bwith rs v) ∧ Gd (vc v :: X) (rows st') := by
  by_cases hs : InS (rows st) (vc v)
  · exact ⟨st, g, by rw [bwith_none hv g h hs]; exact h, rows st, gd, .inl ⟨hs, rfl⟩⟩
  · obtain ⟨k, e, hk, g', h'⟩ := bwith_some hv g h hs
    exact ⟨_, g', h', rows st, gd, .inr ⟨hs, rfl⟩⟩
theorem bfold_gd {n : Nat} {vs : List (List Int)} (hv : ∀ v ∈ vs, v.length = n) : ∀ i, i ≤ vs.length → ∃ st, Good st ∧ Lw n st ((vs.take i).foldl bwith []) ∧ Gd ((vs.take i).map vc).reverse (rows st)
  | 0, _ => ⟨[], trivial, rfl, rfl⟩
  | i + 1, hi => by
    obtain ⟨st, g, h, gd⟩ := bfold_gd hv i (by omega)
    obtain ⟨st', g', h', gd'⟩ := bwith_gd g h (hv vs[i] (List.getElem_mem _)) gd
    refine ⟨st', g', ?_, ?_⟩
    · rw [List.take_succ_eq_append_getElem (by omega), List.foldl_append]; exact h'
    · rw [List.take_succ_eq_append_getElem (by omega), List.map_append, List.reverse_append]; exact gd'
/-! ### the last column as a lead -/
theorem echl_last {n m : Nat} {rs : List (List Int)} (h : ∀ r ∈ rs, r.length = n ∧ ∀ k, (vc r k).natAbs ≤ MM) : ∀ i, i ≤ rs.length → ∀ x ∈ echl (rs.take i), x.1 = m → ∀ k, k < m → vc x.2 k = 0
  | 0, _, x, hx => by cases hx
  | i + 1, hi, x, hx => by
    have ih := echl_last (m := m) h i (by omega)
    obtain ⟨st, ok, _⟩ := echl_ok h i (by omega)
    have hr := h rs[i] (List.getElem_mem _)
    rw [List.take_succ_eq_append_getElem (by omega)] at hx
    have hx : x ∈ ext (echl (rs.take i)) rs[i] := by
      unfold echl at hx ⊢
      rw [List.foldl_append] at hx
      exact hx
    unfold ext at hx
    cases q : fnz (rst (echl (rs.take i)) rs[i]) with
    | none => rw [q] at hx; exact ih x hx
    | some a =>
      rw [q] at hx
      obtain ⟨q1, q2, q3⟩ := fnz_some q
      intro hm k hk
      rcases List.mem_append.mp hx with hx | hx
      · obtain ⟨y, hy, rfl⟩ := List.mem_map.mp hx
        have hy1 : y.1 = m := hm
        have ym := ok.mem hy
        have z := ih y hy hy1
        have am : a ≠ m := fun z1 => by
          have e1 := ok.whole hr.1 hr.2
          obtain ⟨c, c', hc, hc', ew⟩ := e1
          have := ew a
          rw [red_lead (by rw [z1, ← hy1]; exact ym)] at this
          exact q2 ((Int.mul_eq_zero.mp (by omega : c * vc (rst (echl (rs.take i)) rs[i]) a = 0)).resolve_left hc)
        show vc (clr y.2 (rst (echl (rs.take i)) rs[i]) a) k = 0
        by_cases ha : a < m
        · unfold clr
          rw [if_pos (z a ha)]
          exact z k hk
        · -- a > m: the rest is 0 up to a
          unfold clr
          split
          · exact z k hk
          · obtain ⟨g, hg, eg⟩ := low_mul (comb (vc (rst (echl (rs.take i)) rs[i]) a) (vc y.2 a) y.2 (rst (echl (rs.take i)) rs[i]))
            have e2 := eg k
            rw [comb_vc (by rw [ok.len y hy, ok.rst_len hr.1 hr.2]), z k hk, q3 k (by omega)] at e2
            exact (Int.mul_eq_zero.mp (by simpa using e2.symm)).resolve_left hg
      · have : x = (a, rst (echl (rs.take i)) rs[i]) := by simpa using hx
        subst this
        exact q3 k (by have : a = m := hm; omega)
end LA

namespace K34
open PySem PySem.Spec L2 PD
def topS (i : Nat) : Stmt := PySem.Challenge.pw_playhall_k34_ranks_and_combinations.main.body.getD i (.Pass ⟨0, 0, 0, 0⟩)
abbrev s_law_is_integer : Stmt := topS 20
theorem sc_law_is_integer : FnScope ["_law_actual"] ["_law_actual"] (defScope s_law_is_integer) := ⟨rfl, rfl, rfl, by decide +kernel, rfl, by decide +kernel, by decide +kernel⟩
abbrev s_law_is_rank : Stmt := topS 27
theorem sc_law_is_rank : FnScope ["_law_actual", "_law_expected"] ["_law_actual", "_law_expected"] (defScope s_law_is_rank) := ⟨rfl, rfl, rfl, by decide +kernel, rfl, by decide +kernel, by decide +kernel⟩
abbrev scommon_divisor : Stmt := topS 1
theorem sccommon_divisor : FnScope ["one", "other"] ["one", "other"] (defScope scommon_divisor) := ⟨rfl, rfl, rfl, by decide +kernel, rfl, by decide +kernel, by decide +kernel⟩
abbrev sdivisor_of : Stmt := topS 2
theorem scdivisor_of : FnScope ["numbers", "divisor", "number"] ["numbers"] (defScope sdivisor_of) := ⟨rfl, rfl, rfl, by decide +kernel, rfl, by decide +kernel, by decide +kernel⟩
abbrev slowest_terms : Stmt := topS 5
theorem sclowest_terms : FnScope ["row", "divisor", "number"] ["row"] (defScope slowest_terms) := ⟨rfl, rfl, rfl, by decide +kernel, rfl, by decide +kernel, by decide +kernel⟩
abbrev scleared : Stmt := topS 7
theorem sccleared : FnScope ["row", "pivot", "index", "own", "other"] ["row", "pivot", "index"] (defScope scleared) := ⟨rfl, rfl, rfl, by decide +kernel, rfl, by decide +kernel, by decide +kernel⟩
abbrev sfirst_nonzero : Stmt := topS 6
theorem scfirst_nonzero : FnScope ["row", "index", "number"] ["row"] (defScope sfirst_nonzero) := ⟨rfl, rfl, rfl, by decide +kernel, rfl, by decide +kernel, by decide +kernel⟩
abbrev srest_of : Stmt := topS 8
theorem screst_of : FnScope ["echelon", "row", "rest", "index", "pivot"] ["echelon", "row"] (defScope srest_of) := ⟨rfl, rfl, rfl, by decide +kernel, rfl, by decide +kernel, by decide +kernel⟩
abbrev sextended : Stmt := topS 9
theorem scextended : FnScope ["echelon", "row", "rest", "at", "index", "pivot"] ["echelon", "row"] (defScope sextended) := ⟨rfl, rfl, rfl, by decide +kernel, rfl, by decide +kernel, by decide +kernel⟩
abbrev sechelon_of : Stmt := topS 10
theorem scechelon_of : FnScope ["rows", "echelon", "row"] ["rows"] (defScope sechelon_of) := ⟨rfl, rfl, rfl, by decide +kernel, rfl, by decide +kernel, by decide +kernel⟩
abbrev srank_of : Stmt := topS 12
theorem scrank_of : FnScope ["vectors"] ["vectors"] (defScope srank_of) := ⟨rfl, rfl, rfl, by decide +kernel, rfl, by decide +kernel, by decide +kernel⟩
abbrev s_law_gcd : Stmt := topS 21
theorem sc_law_gcd : FnScope ["_law_one", "_law_other", "_law_k"] ["_law_one", "_law_other"] (defScope s_law_gcd) := ⟨rfl, rfl, rfl, by decide +kernel, rfl, by decide +kernel, by decide +kernel⟩
abbrev s_law_right : Stmt := topS 26
theorem sc_law_right : FnScope ["_law_answer", "_law_lists", "_law_aim", "_law_inside", "_law_factors", "_law_divisor", "_law_common", "_law_factor", "_law_j", "_law_total", "_law_k"] ["_law_answer", "_law_lists", "_law_aim", "_law_inside"] (defScope s_law_right) := ⟨rfl, rfl, rfl, by decide +kernel, rfl, by decide +kernel, by decide +kernel⟩
abbrev sleast_multiple : Stmt := topS 3
theorem scleast_multiple : FnScope ["one", "other"] ["one", "other"] (defScope sleast_multiple) := ⟨rfl, rfl, rfl, by decide +kernel, rfl, by decide +kernel, by decide +kernel⟩
abbrev scommon_multiple : Stmt := topS 11
theorem sccommon_multiple : FnScope ["echelon", "multiple", "index", "row"] ["echelon"] (defScope scommon_multiple) := ⟨rfl, rfl, rfl, by decide +kernel, rfl, by decide +kernel, by decide +kernel⟩
abbrev scombination : Stmt := topS 13
theorem sccombination : FnScope ["vectors", "goal", "many", "equations", "echelon", "divisor", "factors", "index", "row", "common", "at", "vector", "factor"] ["vectors", "goal"] (defScope scombination) := ⟨rfl, rfl, rfl, by decide +kernel, rfl, by decide +kernel, by decide +kernel⟩
abbrev s_law_reduced : Stmt := topS 18
theorem sc_law_reduced : FnScope ["_law_rows", "_law_vector", "_law_before", "_law_lead", "_law_row_here", "_law_factor", "_law_k"] ["_law_rows", "_law_vector"] (defScope s_law_reduced) := ⟨rfl, rfl, rfl, by decide +kernel, rfl, by decide +kernel, by decide +kernel⟩
abbrev s_law_with : Stmt := topS 19
theorem sc_law_with : FnScope ["_law_rows", "_law_vector", "_law_left", "_law_k"] ["_law_rows", "_law_vector"] (defScope s_law_with) := ⟨rfl, rfl, rfl, by decide +kernel, rfl, by decide +kernel, by decide +kernel⟩
abbrev s_law_number : Stmt := topS 22
theorem sc_law_number : FnScope ["_law_kind", "_law_numbers"] ["_law_kind", "_law_numbers"] (defScope s_law_number) := ⟨rfl, rfl, rfl, by decide +kernel, rfl, by decide +kernel, by decide +kernel⟩
abbrev s_law_goal : Stmt := topS 25
theorem sc_law_goal : FnScope ["_law_row_here", "_law_length", "_law_bases", "_law_lists", "_law_kind", "_law_aim", "_law_k", "_law_factor", "_law_place", "_law_j"] ["_law_row_here", "_law_length", "_law_bases", "_law_lists"] (defScope s_law_goal) := ⟨rfl, rfl, rfl, by decide +kernel, rfl, by decide +kernel, by decide +kernel⟩
abbrev s_law_row : Stmt := topS 16
theorem sc_law_row : FnScope ["_law_cell_here", "_law_many", "_law_row_here", "_law_seed_here", "_law_rest", "_law_k", "_law_mixed"] ["_law_cell_here", "_law_many"] (defScope s_law_row) := ⟨rfl, rfl, rfl, by decide +kernel, rfl, by decide +kernel, by decide +kernel⟩
abbrev s_law_cell : Stmt := topS 15
theorem sc_law_cell : FnScope ["_law_script", "_law_k"] ["_law_script", "_law_k"] (defScope s_law_cell) := ⟨rfl, rfl, rfl, by decide +kernel, rfl, by decide +kernel, by decide +kernel⟩
abbrev s_law_seed : Stmt := topS 17
theorem sc_law_seed : FnScope ["_law_script", "_law_k"] ["_law_script", "_law_k"] (defScope s_law_seed) := ⟨rfl, rfl, rfl, by decide +kernel, rfl, by decide +kernel, by decide +kernel⟩
abbrev s_law_times : Stmt := topS 24
theorem sc_law_times : FnScope ["_law_row_here", "_law_primes"] ["_law_row_here"] (defScope s_law_times) := ⟨rfl, rfl, rfl, by decide +kernel, rfl, by decide +kernel, by decide +kernel⟩
abbrev s_law_base : Stmt := topS 23
theorem sc_law_base : FnScope ["_law_row_here", "_law_length", "_law_earlier", "_law_kind", "_law_one", "_law_other", "_law_first", "_law_second", "_law_j"] ["_law_row_here", "_law_length", "_law_earlier"] (defScope s_law_base) := ⟨rfl, rfl, rfl, by decide +kernel, rfl, by decide +kernel, by decide +kernel⟩
abbrev slaw : Stmt := topS 28
theorem sclaw : FnScope ["_law_script", "_law_shape", "_law_length", "_law_many", "_law_bases", "_law_lists", "_law_k", "_law_row_here", "_law_aim", "_law_rows", "_law_vector", "_law_inside", "_law_passed", "_law_wish", "_law_answer", "_law_factors", "_law_longer", "_law_number_here"] ["_law_script"] (defScope slaw) := ⟨rfl, rfl, rfl, by decide +kernel, rfl, by decide +kernel, by decide +kernel⟩
/-- _law_is_integer: 0 _law_actual -/
noncomputable abbrev b_law_is_integer : Ev → Option Fl :=
    (rtV (andV (b1 (gv 0) (isiD "int")) (notV (b1 (gv 0) (isiD "bool")))))
noncomputable def m_law_is_integer : List D → Option D := runP 1 (b_law_is_integer)
/-- _law_is_rank: 0 _law_actual, 1 _law_expected -/
noncomputable abbrev b_law_is_rank : Ev → Option Fl :=
    (rtV (andV (cB (aCons (gv 0) aNil) (len? 1 (m_law_is_integer))) (b2 (gv 0) (gv 1) eqD)))
noncomputable def m_law_is_rank : List D → Option D := runP 2 (b_law_is_rank)
/-- common_divisor: 0 one, 1 other -/
noncomputable abbrev bcommon_divisor : Ev → Option Fl :=
    (sq (parS 0 1 (aCons (cB (aCons (gv 0) aNil) absD) (aCons (cB (aCons (gv 1) aNil) absD) aNil)))
    (sq (whileS (asB (b2 (gv 1) (kI 0) gtI)) (parS 0 1 (aCons (gv 1) (aCons (b2 (gv 0) (gv 1) modI) aNil))))
    (rtV (gv 0))))
noncomputable def mcommon_divisor : List D → Option D := runP 2 (bcommon_divisor)
/-- divisor_of: 0 numbers, 1 divisor, 2 number -/
noncomputable abbrev bdivisor_of : Ev → Option Fl :=
    (sq (stV 1 (kI 0))
    (sq (forS (iOf (gv 0)) (gN 2) (stV 1 (cB (aCons (gv 1) (aCons (gv 2) aNil)) (len? 2 (mcommon_divisor)))))
    (rtV (gv 1))))
noncomputable def mdivisor_of : List D → Option D := runP 3 (bdivisor_of)
/-- lowest_terms: 0 row, 1 divisor, 2 number -/
noncomputable abbrev blowest_terms : Ev → Option Fl :=
    (sq (stV 1 (cB (aCons (gv 0) aNil) (len? 1 (mdivisor_of))))
    (sq (ifS (asB (b2 (gv 1) (kI 0) eqD)) (rtM (stay (cO (aCons (gv 0) aNil) listO))) skip)
    (rtM (stay (lcO (iOf (gv 0)) (gN 2) yes (b2 (gv 2) (gv 1) divX) [2])))))
noncomputable def mlowest_terms : List D → Option O := runO 3 (blowest_terms)
/-- cleared: 0 row, 1 pivot, 2 index, 3 own, 4 other -/
noncomputable abbrev bcleared : Ev → Option Fl :=
    (sq (ifS (asB (b2 (b2 (gv 0) (gv 2) ixD) (kI 0) eqD)) (rtV (frz (cO (aCons (gv 0) aNil) listO))) skip)
    (rtV (frz (cO' (aCons (lcD (zipM (aCons (gv 0) (aCons (gv 1) aNil))) (gT 2 (gsC (gN 3) (gsC (gN 4) gsN))) yes (b2 (b2 (b2 (gv 1) (gv 2) ixD) (gv 3) mulA) (b2 (b2 (gv 0) (gv 2) ixD) (gv 4) mulA) subI) [3, 4]) aNil) 1 (mlowest_terms)))))
noncomputable def mcleared : List D → Option D := runP 5 (bcleared)
/-- first_nonzero: 0 row, 1 index, 2 number -/
noncomputable abbrev bfirst_nonzero : Ev → Option Fl :=
    (sq (forS (enuA (gv 0)) (gT 2 (gsC (gN 1) (gsC (gN 2) gsN))) (ifS (asB (b2 (gv 2) (kI 0) neD)) (rtV (gv 1)) skip))
    (rtV kN))
noncomputable def mfirst_nonzero : List D → Option D := runP 3 (bfirst_nonzero)
/-- rest_of: 0 echelon, 1 row, 2 rest, 3 index, 4 pivot -/
noncomputable abbrev brest_of : Ev → Option Fl :=
    (sq (stV 2 (frz (cO' (aCons (gv 1) aNil) 1 (mlowest_terms))))
    (sq (forS (iOf (gv 0)) (gT 2 (gsC (gN 3) (gsC (gN 4) gsN))) (stV 2 (cB (aCons (gv 2) (aCons (gv 4) (aCons (gv 3) aNil))) (len? 3 (mcleared)))))
    (rtV (gv 2))))
noncomputable def mrest_of : List D → Option D := runP 5 (brest_of)
/-- extended: 0 echelon, 1 row, 2 rest, 3 at, 4 index, 5 pivot -/
noncomputable abbrev bextended : Ev → Option Fl :=
    (sq (stV 2 (cB (aCons (gv 0) (aCons (gv 1) aNil)) (len? 2 (mrest_of))))
    (sq (stV 3 (cB (aCons (gv 2) aNil) (len? 1 (mfirst_nonzero))))
    (sq (ifS (asB (b2 (gv 3) kN isN)) (rtV (frz (cO (aCons (gv 0) aNil) listO))) skip)
    (rtV (b2 (lcD (iOf (gv 0)) (gT 2 (gsC (gN 4) (gsC (gN 5) gsN))) yes (mkTup (aCons (gv 4) (aCons (cB (aCons (gv 5) (aCons (gv 2) (aCons (gv 3) aNil))) (len? 3 (mcleared))) aNil))) [4, 5]) (mkLst (aCons (mkTup (aCons (gv 3) (aCons (gv 2) aNil))) aNil)) addA)))))
noncomputable def mextended : List D → Option D := runP 6 (bextended)
/-- echelon_of: 0 rows, 1 echelon, 2 row -/
noncomputable abbrev bechelon_of : Ev → Option Fl :=
    (sq (stV 1 (mkLst aNil))
    (sq (forS (iOf (gv 0)) (gN 2) (stV 1 (cB (aCons (gv 1) (aCons (gv 2) aNil)) (len? 2 (mextended)))))
    (rtV (gv 1))))
noncomputable def mechelon_of : List D → Option D := runP 3 (bechelon_of)
/-- rank_of: 0 vectors -/
noncomputable abbrev brank_of : Ev → Option Fl :=
    (rtV (cB (aCons (cB (aCons (gv 0) aNil) (len? 1 (mechelon_of))) aNil) lenD))
noncomputable def mrank_of : List D → Option D := runP 1 (brank_of)
/-- _law_gcd: 0 _law_one, 1 _law_other, 2 _law_k -/
noncomputable abbrev b_law_gcd : Ev → Option Fl :=
    (sq (stV 0 (cB (aCons (gv 0) aNil) absD))
    (sq (stV 1 (cB (aCons (gv 1) aNil) absD))
    (sq (forS (rng1 (b2 (b2 (kI 2) (b1 (gv 1) bitsD) mulI) (kI 4) addA)) (gN 2) (ifS (asB (b2 (gv 1) (kI 0) gtI)) (parS 0 1 (aCons (gv 1) (aCons (b2 (cB (aCons (gv 0) aNil) intD) (gv 1) modI) aNil))) skip))
    (rtV (gv 0)))))
noncomputable def m_law_gcd : List D → Option D := runP 3 (b_law_gcd)
/-- _law_right: 0 _law_answer, 1 _law_lists, 2 _law_aim, 3 _law_inside, 4 _law_factors, 5 _law_divisor, 6 _law_common, 7 _law_factor, 8 _law_j, 9 _law_total, 10 _law_k -/
noncomputable abbrev b_law_right : Ev → Option Fl :=
    (sq (ifS (orT (notT (asB (gv 3))) (asB (b2 (gv 0) kN isN))) (rtV (andV (notV (gv 3)) (b2 (gv 0) kN isN))) skip)
    (sq (ifS (orT (notT (asB (b1 (gv 0) (isiD "tuple")))) (asB (b2 (cB (aCons (gv 0) aNil) lenD) (kI 2) neD))) (rtV (kB false)) skip)
    (sq (asg (gv 0) (gT 2 (gsC (gN 4) (gsC (gN 5) gsN))))
    (sq (ifS (orT (notT (asB (b1 (gv 4) (isiD "list")))) (orT (asB (b2 (cB (aCons (gv 4) aNil) lenD) (cB (aCons (gv 1) aNil) lenD) neD)) (notT (asB (cB (aCons (gv 5) aNil) (len? 1 (m_law_is_integer))))))) (rtV (kB false)) skip)
    (sq (stV 6 (gv 5))
    (sq (forS (iOf (gv 4)) (gN 7) (sq (ifS (notT (asB (cB (aCons (gv 7) aNil) (len? 1 (m_law_is_integer))))) (rtV (kB false)) skip)
    (stV 6 (cB (aCons (gv 6) (aCons (gv 7) aNil)) (len? 2 (m_law_gcd))))))
    (sq (forS (rng1 (cB (aCons (gv 2) aNil) lenD)) (gN 8) (sq (stV 9 (cB (aCons (lcD (rng1 (cB (aCons (gv 1) aNil) lenD)) (gN 10) yes (b2 (b2 (gv 4) (gv 10) ixD) (b2 (b2 (gv 1) (gv 10) ixD) (gv 8) ixD) mulA) [10]) aNil) sumD))
    (ifS (asB (b2 (gv 9) (b2 (b2 (gv 2) (gv 8) ixD) (gv 5) mulA) neD)) (rtV (kB false)) skip)))
    (rtV (andV (b2 (gv 5) (kI 1) geI) (b2 (gv 6) (kI 1) eqD))))))))))
noncomputable def m_law_right : List D → Option D := runP 11 (b_law_right)
/-- least_multiple: 0 one, 1 other -/
noncomputable abbrev bleast_multiple : Ev → Option Fl :=
    (rtV (b2 (b2 (cB (aCons (gv 0) aNil) absD) (cB (aCons (gv 0) (aCons (gv 1) aNil)) (len? 2 (mcommon_divisor))) divX) (cB (aCons (gv 1) aNil) absD) mulA))
noncomputable def mleast_multiple : List D → Option D := runP 2 (bleast_multiple)
/-- common_multiple: 0 echelon, 1 multiple, 2 index, 3 row -/
noncomputable abbrev bcommon_multiple : Ev → Option Fl :=
    (sq (stV 1 (kI 1))
    (sq (forS (iOf (gv 0)) (gT 2 (gsC (gN 2) (gsC (gN 3) gsN))) (stV 1 (cB (aCons (gv 1) (aCons (b2 (gv 3) (gv 2) ixD) aNil)) (len? 2 (mleast_multiple)))))
    (rtV (gv 1))))
noncomputable def mcommon_multiple : List D → Option D := runP 4 (bcommon_multiple)
/-- combination: 0 vectors, 1 goal, 2 many, 3 equations, 4 echelon, 5 divisor, 6 factors, 7 index, 8 row, 9 common, 10 at, 11 vector, 12 factor -/
noncomputable abbrev bcombination : Ev → Option Fl :=
    (sq (stV 2 (cB (aCons (gv 0) aNil) lenD))
    (sq (stV 3 (lcD (rng1 (cB (aCons (gv 1) aNil) lenD)) (gN 10) yes (b2 (lcD (iOf (gv 0)) (gN 11) yes (b2 (gv 11) (gv 10) ixD) [11]) (mkLst (aCons (b2 (gv 1) (gv 10) ixD) aNil)) addA) [10]))
    (sq (stV 4 (cB (aCons (gv 3) aNil) (len? 1 (mechelon_of))))
    (sq (ifS (asB (b2 (gv 2) (lcD (iOf (gv 4)) (gT 2 (gsC (gN 7) (gsC (gN 8) gsN))) yes (gv 7) [7, 8]) inD)) (rtM (stay (thaw kN))) skip)
    (sq (stV 5 (cB (aCons (gv 4) aNil) (len? 1 (mcommon_multiple))))
    (sq (stO 6 (repO (aCons (kI 0) aNil) (gv 2)))
    (sq (forS (iOf (gv 4)) (gT 2 (gsC (gN 7) (gsC (gN 8) gsN))) (setP 6 plN (gv 7) (thaw (b2 (b2 (gv 8) (gv 2) ixD) (b2 (gv 5) (b2 (gv 8) (gv 7) ixD) divX) mulA))))
    (sq (fz 6 (stV 9 (cB (aCons (b2 (mkLst (aCons (gv 5) aNil)) (gv 6) addA) aNil) (len? 1 (mdivisor_of)))))
    (rtM (mTup (mCons (stay (vwO (lcO (iOf (gv 6)) (gN 12) yes (b2 (gv 12) (gv 9) divX) [12]))) (mCons (stay (thaw (b2 (gv 5) (gv 9) divX))) mNil))))))))))))
noncomputable def mcombination : List D → Option O := runO 13 (bcombination)
/-- _law_reduced: 0 _law_rows, 1 _law_vector, 2 _law_before, 3 _law_lead, 4 _law_row_here, 5 _law_factor, 6 _law_k -/
noncomputable abbrev b_law_reduced : Ev → Option Fl :=
    (sq (stV 1 (frz (cO (aCons (gv 1) aNil) listO)))
    (sq (stV 2 (kI 1))
    (sq (forS (iOf (gv 0)) (gT 2 (gsC (gN 3) (gsC (gN 4) gsN))) (sq (stV 5 (b2 (gv 1) (gv 3) ixD))
    (sq (stV 1 (lcD (rng1 (cB (aCons (gv 1) aNil) lenD)) (gN 6) yes (b2 (b2 (b2 (b2 (gv 4) (gv 3) ixD) (b2 (gv 1) (gv 6) ixD) mulA) (b2 (gv 5) (b2 (gv 4) (gv 6) ixD) mulA) subI) (gv 2) divX) [6]))
    (stV 2 (b2 (gv 4) (gv 3) ixD)))))
    (rtV (gv 1)))))
noncomputable def m_law_reduced : List D → Option D := runP 7 (b_law_reduced)
/-- _law_with: 0 _law_rows, 1 _law_vector, 2 _law_left, 3 _law_k -/
noncomputable abbrev b_law_with : Ev → Option Fl :=
    (sq (stV 2 (cB (aCons (gv 0) (aCons (gv 1) aNil)) (len? 2 (m_law_reduced))))
    (sq (forS (rng1 (cB (aCons (gv 2) aNil) lenD)) (gN 3) (ifS (asB (b2 (b2 (gv 2) (gv 3) ixD) (kI 0) neD)) (rtV (b2 (gv 0) (mkLst (aCons (mkTup (aCons (gv 3) (aCons (gv 2) aNil))) aNil)) addA)) skip))
    (rtV (gv 0))))
noncomputable def m_law_with : List D → Option D := runP 4 (b_law_with)
/-- _law_number: 0 _law_kind, 1 _law_numbers -/
noncomputable abbrev b_law_number : Ev → Option Fl :=
    (sq (ifS (asB (b2 (gv 0) (kI 3) ltI)) (rtV (b2 (b2 (cB (aCons (b2 (gv 1) (kI 0) ixD) aNil) intD) (kI 5) modI) (kI 2) subI)) skip)
    (sq (ifS (asB (b2 (gv 0) (kI 3) eqD)) (rtV (b2 (b2 (gv 1) (kI 0) ixD) (kI 500) subI)) skip)
    (sq (ifS (asB (b2 (gv 0) (kI 4) eqD)) (rtV (b2 (mkLst (aCons (kI 0) (aCons (kI 0) (aCons (kI 0) (aCons (kI 1) (aCons (b1 (kI 1) negI) (aCons (kI 7) aNil))))))) (b2 (cB (aCons (b2 (gv 1) (kI 0) ixD) aNil) intD) (kI 6) modI) ixD)) skip)
    (rtV (b2 (b2 (b2 (b2 (b2 (gv 1) (kI 0) ixD) (kI 500) subI) (b2 (kI 10) (kI 27) powI) mulA) (b2 (b2 (gv 1) (kI 1) ixD) (b2 (kI 10) (kI 13) powI) mulA) addA) (b2 (gv 1) (kI 2) ixD) addA)))))
noncomputable def m_law_number : List D → Option D := runP 2 (b_law_number)
/-- _law_goal: 0 _law_row_here, 1 _law_length, 2 _law_bases, 3 _law_lists, 4 _law_kind, 5 _law_aim, 6 _law_k, 7 _law_factor, 8 _law_place, 9 _law_j -/
noncomputable abbrev b_law_goal : Ev → Option Fl :=
    (sq (stV 4 (b2 (cB (aCons (b2 (gv 0) (kI 0) ixD) aNil) intD) (kI 8) modI))
    (sq (stO 5 (repO (aCons (kI 0) aNil) (gv 1)))
    (sq (ifS (asB (b2 (gv 4) (kI 5) ltI)) (forS (rng1 (cB (aCons (gv 2) aNil) lenD)) (gN 6) (sq (stV 7 (b2 (b2 (cB (aCons (b2 (gv 0) (b2 (kI 1) (gv 6) addA) ixD) aNil) intD) (kI 7) modI) (kI 3) subI))
    (stO 5 (vwO (lcO (rng1 (gv 1)) (gN 9) yes (b2 (b2 (gv 5) (gv 9) ixD) (b2 (gv 7) (b2 (b2 (gv 2) (gv 6) ixD) (gv 9) ixD) mulA) addA) [9]))))) skip)
    (sq (ifS (andT (asB (chn (kI 2) (gv 4) (kI 5) ltI ltI)) (asB (b2 (gv 1) (kI 0) gtI))) (sq (stV 8 (b2 (cB (aCons (b2 (gv 0) (kI 10) ixD) aNil) intD) (gv 1) modI))
    (setP 5 plN (gv 8) (thaw (vwI (b2 (b2 (gv 5) (gv 8) ixD) (b2 (mkLst (aCons (kI 1) (aCons (b1 (kI 1) negI) aNil))) (b2 (cB (aCons (b2 (gv 0) (kI 11) ixD) aNil) intD) (kI 2) modI) ixD) addA))))) skip)
    (sq (ifS (andT (asB (b2 (gv 4) (kI 5) eqD)) (asB (b2 (cB (aCons (gv 3) aNil) lenD) (kI 0) gtI))) (rtV (frz (cO (aCons (b2 (gv 3) (b2 (cB (aCons (b2 (gv 0) (kI 12) ixD) aNil) intD) (cB (aCons (gv 3) aNil) lenD) modI) ixD) aNil) listO))) skip)
    (sq (ifS (asB (b2 (gv 4) (kI 6) eqD)) (rtV (lcD (rng1 (gv 1)) (gN 9) yes (cB (aCons (b2 (cB (aCons (b2 (gv 0) (kI 13) ixD) aNil) intD) (kI 6) modI) (aCons (slc (gv 0) (part (b2 (kI 14) (b2 (kI 3) (gv 9) mulI) addA)) (part (b2 (kI 17) (b2 (kI 3) (gv 9) mulI) addA))) aNil)) (len? 2 (m_law_number))) [9])) skip)
    (fz 5 (rtV (gv 5)))))))))
noncomputable def m_law_goal : List D → Option D := runP 10 (b_law_goal)
/-- _law_row: 0 _law_cell_here, 1 _law_many, 2 _law_row_here, 3 _law_seed_here, 4 _law_rest, 5 _law_k, 6 _law_mixed -/
noncomputable abbrev b_law_row : Ev → Option Fl :=
    (sq (stO 2 (mkLstO aNil))
    (sq (stV 3 (b2 (cB (aCons (gv 0) aNil) intD) (kI 2147483629) modI))
    (sq (stV 4 (b2 (gv 0) (b2 (kI 10) (kI 18) powI) subI))
    (sq (forS (rng1 (gv 1)) (gN 5) (sq (stV 3 (b2 (cB (aCons (b2 (b2 (b2 (gv 3) (kI 48271) mulI) (b2 (kI 977) (gv 5) mulI) addA) (kI 12345) addA) aNil) intD) (kI 2147483647) modI))
    (sq (stV 6 (b2 (cB (aCons (b2 (b2 (b2 (gv 3) (kI 69621) mulI) (b2 (kI 31) (gv 5) mulI) addA) (kI 7) addA) aNil) intD) (kI 2147483629) modI))
    (sq (app 2 (ifV (asB (b2 (gv 0) (b2 (kI 10) (kI 18) powI) geI)) (b2 (cB (aCons (gv 4) aNil) intD) (kI 1000) modI) (b2 (cB (aCons (b2 (gv 6) (kI 4099) divI) aNil) intD) (kI 1000) modI)))
    (stV 4 (b2 (gv 4) (kI 1000) divI))))))
    (fz 2 (rtV (gv 2)))))))
noncomputable def m_law_row : List D → Option D := runP 7 (b_law_row)
/-- _law_cell: 0 _law_script, 1 _law_k -/
noncomputable abbrev b_law_cell : Ev → Option Fl :=
    (rtV (ifV (asB (b2 (gv 1) (cB (aCons (gv 0) aNil) lenD) ltI)) (cB (aCons (b2 (gv 0) (gv 1) ixD) aNil) intD) (kI 0)))
noncomputable def m_law_cell : List D → Option D := runP 2 (b_law_cell)
/-- _law_seed: 0 _law_script, 1 _law_k -/
noncomputable abbrev b_law_seed : Ev → Option Fl :=
    (sq (ifS (asB (b2 (gv 1) (cB (aCons (gv 0) aNil) lenD) ltI)) (rtV (cB (aCons (b2 (gv 0) (gv 1) ixD) aNil) intD)) skip)
    (rtV (b2 (cB (aCons (b2 (b2 (b2 (cB (aCons (gv 0) (aCons (kI 0) aNil)) (len? 2 (m_law_cell))) (kI 7907) mulI) (b2 (cB (aCons (gv 0) (aCons (kI 1) aNil)) (len? 2 (m_law_cell))) (kI 331) mulI) addA) (b2 (kI 104729) (gv 1) mulI) addA) aNil) intD) (kI 2147483629) modI)))
noncomputable def m_law_seed : List D → Option D := runP 2 (b_law_seed)
/-- _law_times: 0 _law_row_here, 1 _law_primes -/
noncomputable abbrev b_law_times : Ev → Option Fl :=
    (sq (ifS (asB (b2 (b2 (cB (aCons (b2 (gv 0) (kI 0) ixD) aNil) intD) (kI 8) modI) (kI 5) ltI)) (sq (stV 1 (mkLst (aCons (kI 998244353) (aCons (kI 1000000007) (aCons (kI 2147483647) (aCons (kI 2305843009213693951) aNil))))))
    (rtV (b2 (b2 (mkLst (aCons (kI 1) (aCons (kI 1) (aCons (kI 2) (aCons (kI 3) (aCons (kI 6) (aCons (kI 10) (aCons (b1 (kI 1) negI) aNil)))))))) (gv 1) addA) (b2 (cB (aCons (b2 (gv 0) (kI 29) ixD) aNil) intD) (kI 11) modI) ixD))) skip)
    (rtV (b2 (mkLst (aCons (kI 1) (aCons (kI 1) (aCons (kI 2) (aCons (kI 3) (aCons (kI 6) (aCons (b1 (kI 1) negI) aNil))))))) (b2 (cB (aCons (b2 (gv 0) (kI 29) ixD) aNil) intD) (kI 6) modI) ixD)))
noncomputable def m_law_times : List D → Option D := runP 2 (b_law_times)
/-- _law_base: 0 _law_row_here, 1 _law_length, 2 _law_earlier, 3 _law_kind, 4 _law_one, 5 _law_other, 6 _law_first, 7 _law_second, 8 _law_j -/
noncomputable abbrev b_law_base : Ev → Option Fl :=
    (sq (stV 3 (b2 (cB (aCons (b2 (gv 0) (kI 0) ixD) aNil) intD) (kI 8) modI))
    (sq (ifS (andT (asB (b2 (gv 3) (kI 5) gtI)) (asB (b2 (cB (aCons (gv 2) aNil) lenD) (kI 0) gtI))) (sq (stV 4 (b2 (gv 2) (b2 (cB (aCons (b2 (gv 0) (kI 1) ixD) aNil) intD) (cB (aCons (gv 2) aNil) lenD) modI) ixD))
    (sq (stV 5 (b2 (gv 2) (b2 (cB (aCons (b2 (gv 0) (kI 2) ixD) aNil) intD) (cB (aCons (gv 2) aNil) lenD) modI) ixD))
    (sq (stV 6 (b2 (mkLst (aCons (kI 1) (aCons (b2 (b2 (cB (aCons (b2 (gv 0) (kI 3) ixD) aNil) intD) (kI 7) modI) (kI 3) subI) aNil))) (b2 (gv 3) (kI 6) subI) ixD))
    (sq (stV 7 (b2 (mkLst (aCons (kI 0) (aCons (b2 (b2 (cB (aCons (b2 (gv 0) (kI 4) ixD) aNil) intD) (kI 7) modI) (kI 3) subI) aNil))) (b2 (gv 3) (kI 6) subI) ixD))
    (rtM (stay (lcO (rng1 (gv 1)) (gN 8) yes (b2 (b2 (gv 6) (b2 (gv 4) (gv 8) ixD) mulA) (b2 (gv 7) (b2 (gv 5) (gv 8) ixD) mulA) addA) [8]))))))) skip)
    (rtM (stay (lcO (rng1 (gv 1)) (gN 8) yes (cB (aCons (gv 3) (aCons (slc (gv 0) (part (b2 (kI 5) (b2 (kI 3) (gv 8) mulI) addA)) (part (b2 (kI 8) (b2 (kI 3) (gv 8) mulI) addA))) aNil)) (len? 2 (m_law_number))) [8])))))
noncomputable def m_law_base : List D → Option O := runO 9 (b_law_base)
/-- law: 0 _law_script, 1 _law_shape, 2 _law_length, 3 _law_many, 4 _law_bases, 5 _law_lists, 6 _law_k, 7 _law_row_here, 8 _law_aim, 9 _law_rows, 10 _law_vector, 11 _law_inside, 12 _law_passed, 13 _law_wish, 14 _law_answer, 15 _law_factors, 16 _law_longer, 17 _law_number_here -/
noncomputable abbrev blaw : Ev → Option Fl :=
    (sq (stV 1 (cB (aCons (cB (aCons (gv 0) (aCons (kI 0) aNil)) (len? 2 (m_law_seed))) (aCons (kI 6) aNil)) (len? 2 (m_law_row))))
    (sq (stV 2 (b2 (cB (aCons (b2 (gv 1) (kI 0) ixD) aNil) intD) (kI 6) modI))
    (sq (stV 3 (b2 (cB (aCons (b2 (gv 1) (kI 1) ixD) aNil) intD) (kI 6) modI))
    (sq (ifS (asB (b2 (b2 (cB (aCons (b2 (gv 1) (kI 2) ixD) aNil) intD) (kI 8) modI) (kI 1) eqD)) (sq (stV 2 (b2 (cB (aCons (b2 (gv 1) (kI 3) ixD) aNil) intD) (kI 9) modI))
    (stV 3 (b2 (cB (aCons (b2 (gv 1) (kI 4) ixD) aNil) intD) (kI 10) modI))) skip)
    (sq (stO 4 (mkLstO aNil))
    (sq (stO 5 (mkLstO aNil))
    (sq (forS (rng1 (gv 3)) (gN 6) (sq (stV 7 (cB (aCons (cB (aCons (gv 0) (aCons (b2 (kI 1) (gv 6) addA) aNil)) (len? 2 (m_law_seed))) (aCons (kI 30) aNil)) (len? 2 (m_law_row))))
    (sq (app 4 (frz (vwO (cO' (aCons (gv 7) (aCons (gv 2) (aCons (gv 4) aNil))) 3 (m_law_base)))))
    (app 5 (frz (vwO (lcO (iOf (b2 (gv 4) (gv 6) ixD)) (gN 17) yes (b2 (cB (aCons (gv 7) aNil) (len? 1 (m_law_times))) (gv 17) mulA) [17])))))))
    (sq (fz 5 (fz 4 (stV 8 (cB (aCons (cB (aCons (cB (aCons (gv 0) (aCons (kI 10) aNil)) (len? 2 (m_law_seed))) (aCons (kI 38) aNil)) (len? 2 (m_law_row))) (aCons (gv 2) (aCons (gv 4) (aCons (gv 5) aNil)))) (len? 4 (m_law_goal))))))
    (sq (stV 9 (mkLst aNil))
    (sq (fz 5 (forS (iOf (gv 5)) (gN 10) (stV 9 (cB (aCons (gv 9) (aCons (gv 10) aNil)) (len? 2 (m_law_with))))))
    (sq (stV 11 (b2 (cB (aCons (cB (aCons (gv 9) (aCons (gv 8) aNil)) (len? 2 (m_law_with))) aNil) lenD) (cB (aCons (gv 9) aNil) lenD) eqD))
    (sq (fz 5 (stV 12 (lcD (iOf (gv 5)) (gN 10) yes (frz (cO (aCons (gv 10) aNil) listO)) [10])))
    (sq (stV 13 (frz (cO (aCons (gv 8) aNil) listO)))
    (sq (ifS (asB (b2 (b2 (cB (aCons (b2 (gv 1) (kI 5) ixD) aNil) intD) (kI 3) modI) (kI 1) eqD)) (sq (fz 5 (stV 12 (cB (aCons (lcD (iOf (gv 5)) (gN 10) yes (cB (aCons (gv 10) aNil) tupD) [10]) aNil) tupD)))
    (stV 13 (cB (aCons (gv 8) aNil) tupD))) skip)
    (sq (ifS (notT (asB (cB (aCons (cB (aCons (gv 12) aNil) (len? 1 (mrank_of))) (aCons (cB (aCons (gv 9) aNil) lenD) aNil)) (len? 2 (m_law_is_rank))))) (rtV (kB false)) skip)
    (sq (stO 14 (cO' (aCons (gv 12) (aCons (gv 13) aNil)) 2 (mcombination)))
    (sq (ifS (vwT (notT (asB (cB (aCons (gv 14) (aCons (gv 5) (aCons (gv 8) (aCons (gv 11) aNil)))) (len? 4 (m_law_right)))))) (rtV (kB false)) skip)
    (sq (ifS (asB (gv 11)) (appA 15 14 (plI 14 plN (kI 0)) (thaw (kI 1))) skip)
    (sq (ifS (vwT (notT (asB (cB (aCons (frz (cO' (aCons (gv 12) (aCons (gv 13) aNil)) 2 (mcombination))) (aCons (gv 5) (aCons (gv 8) (aCons (gv 11) aNil)))) (len? 4 (m_law_right)))))) (rtV (kB false)) skip)
    (sq (fz 5 (stV 16 (b2 (lcD (iOf (gv 5)) (gN 10) yes (frz (cO (aCons (gv 10) aNil) listO)) [10]) (mkLst (aCons (frz (cO (aCons (gv 8) aNil) listO)) aNil)) addA)))
    (sq (ifS (notT (asB (cB (aCons (cB (aCons (gv 16) aNil) (len? 1 (mrank_of))) (aCons (b2 (cB (aCons (gv 9) aNil) lenD) (cB (aCons (notV (gv 11)) aNil) intD) addA) aNil)) (len? 2 (m_law_is_rank))))) (rtV (kB false)) skip)
    (sq (ifS (notT (asB (cB (aCons (cB (aCons (gv 12) aNil) (len? 1 (mrank_of))) (aCons (cB (aCons (gv 9) aNil) lenD) aNil)) (len? 2 (m_law_is_rank))))) (rtV (kB false)) skip)
    (fz 5 (rtV (andV (b2 (lcD (iOf (gv 12)) (gN 10) yes (frz (cO (aCons (gv 10) aNil) listO)) [10]) (gv 5) eqD) (b2 (frz (cO (aCons (gv 13) aNil) listO)) (gv 8) eqD))))))))))))))))))))))))))
noncomputable def mlaw : List D → Option D := runP 18 (blaw)
section
variable {P : Program} {w : World} {K : PySem.W.Frag} {mg : Str → Option Value} {base : Heap}
/-- what the top has written -/
structure Tx (K : PySem.W.Frag) (mg : Str → Option Value) where
  n_abs : mg "abs" = none
  n_bool : mg "bool" = none
  n_enumerate : mg "enumerate" = none
  n_int : mg "int" = none
  n_isinstance : mg "isinstance" = none
  n_len : mg "len" = none
  n_list : mg "list" = none
  n_range : mg "range" = none
  n_sum : mg "sum" = none
  n_tuple : mg "tuple" = none
  n_zip : mg "zip" = none
  f_law_is_integer : Addr
  fd_law_is_integer : FuncData
  F_law_is_integer : Fun K "_law_is_integer" "_law_is_integer" s_law_is_integer f_law_is_integer fd_law_is_integer
  g_law_is_integer : mg "_law_is_integer" = some (.ref f_law_is_integer)
  b_law_is_integer : Binds K fd_law_is_integer ["_law_actual"] []
  f_law_is_rank : Addr
  fd_law_is_rank : FuncData
  F_law_is_rank : Fun K "_law_is_rank" "_law_is_rank" s_law_is_rank f_law_is_rank fd_law_is_rank
  g_law_is_rank : mg "_law_is_rank" = some (.ref f_law_is_rank)
  b_law_is_rank : Binds K fd_law_is_rank ["_law_actual", "_law_expected"] []
  fcommon_divisor : Addr
  fdcommon_divisor : FuncData
  Fcommon_divisor : Fun K "common_divisor" "common_divisor" scommon_divisor fcommon_divisor fdcommon_divisor
  gcommon_divisor : mg "common_divisor" = some (.ref fcommon_divisor)
  bcommon_divisor : Binds K fdcommon_divisor ["one", "other"] []
  fdivisor_of : Addr
  fddivisor_of : FuncData
  Fdivisor_of : Fun K "divisor_of" "divisor_of" sdivisor_of fdivisor_of fddivisor_of
  gdivisor_of : mg "divisor_of" = some (.ref fdivisor_of)
  bdivisor_of : Binds K fddivisor_of ["numbers"] []
  flowest_terms : Addr
  fdlowest_terms : FuncData
  Flowest_terms : Fun K "lowest_terms" "lowest_terms" slowest_terms flowest_terms fdlowest_terms
  glowest_terms : mg "lowest_terms" = some (.ref flowest_terms)
  blowest_terms : Binds K fdlowest_terms ["row"] []
  fcleared : Addr
  fdcleared : FuncData
  Fcleared : Fun K "cleared" "cleared" scleared fcleared fdcleared
  gcleared : mg "cleared" = some (.ref fcleared)
  bcleared : Binds K fdcleared ["row", "pivot", "index"] []
  ffirst_nonzero : Addr
  fdfirst_nonzero : FuncData
  Ffirst_nonzero : Fun K "first_nonzero" "first_nonzero" sfirst_nonzero ffirst_nonzero fdfirst_nonzero
  gfirst_nonzero : mg "first_nonzero" = some (.ref ffirst_nonzero)
  bfirst_nonzero : Binds K fdfirst_nonzero ["row"] []
  frest_of : Addr
  fdrest_of : FuncData
  Frest_of : Fun K "rest_of" "rest_of" srest_of frest_of fdrest_of
  grest_of : mg "rest_of" = some (.ref frest_of)
  brest_of : Binds K fdrest_of ["echelon", "row"] []
  fextended : Addr
  fdextended : FuncData
  Fextended : Fun K "extended" "extended" sextended fextended fdextended
  gextended : mg "extended" = some (.ref fextended)
  bextended : Binds K fdextended ["echelon", "row"] []
  fechelon_of : Addr
  fdechelon_of : FuncData
  Fechelon_of : Fun K "echelon_of" "echelon_of" sechelon_of fechelon_of fdechelon_of
  gechelon_of : mg "echelon_of" = some (.ref fechelon_of)
  bechelon_of : Binds K fdechelon_of ["rows"] []
  frank_of : Addr
  fdrank_of : FuncData
  Frank_of : Fun K "rank_of" "rank_of" srank_of frank_of fdrank_of
  grank_of : mg "rank_of" = some (.ref frank_of)
  brank_of : Binds K fdrank_of ["vectors"] []
  krank_of : KBn K fdrank_of ["vectors"] 0 ["vectors"] (fun us ws => us ++ ws) (fun vs zs => vs ++ zs)
  f_law_gcd : Addr
  fd_law_gcd : FuncData
  F_law_gcd : Fun K "_law_gcd" "_law_gcd" s_law_gcd f_law_gcd fd_law_gcd
  g_law_gcd : mg "_law_gcd" = some (.ref f_law_gcd)
  b_law_gcd : Binds K fd_law_gcd ["_law_one", "_law_other"] []
  f_law_right : Addr
  fd_law_right : FuncData
  F_law_right : Fun K "_law_right" "_law_right" s_law_right f_law_right fd_law_right
  g_law_right : mg "_law_right" = some (.ref f_law_right)
  b_law_right : Binds K fd_law_right ["_law_answer", "_law_lists", "_law_aim", "_law_inside"] []
  fleast_multiple : Addr
  fdleast_multiple : FuncData
  Fleast_multiple : Fun K "least_multiple" "least_multiple" sleast_multiple fleast_multiple fdleast_multiple
  gleast_multiple : mg "least_multiple" = some (.ref fleast_multiple)
  bleast_multiple : Binds K fdleast_multiple ["one", "other"] []
  fcommon_multiple : Addr
  fdcommon_multiple : FuncData
  Fcommon_multiple : Fun K "common_multiple" "common_multiple" scommon_multiple fcommon_multiple fdcommon_multiple
  gcommon_multiple : mg "common_multiple" = some (.ref fcommon_multiple)
  bcommon_multiple : Binds K fdcommon_multiple ["echelon"] []
  fcombination : Addr
  fdcombination : FuncData
  Fcombination : Fun K "combination" "combination" scombination fcombination fdcombination
  gcombination : mg "combination" = some (.ref fcombination)
  bcombination : Binds K fdcombination ["vectors", "goal"] []
  kcombination : KBn K fdcombination ["vectors", "goal"] 0 ["vectors", "goal"] (fun us ws => us ++ ws) (fun vs zs => vs ++ zs)
  f_law_reduced : Addr
  fd_law_reduced : FuncData
  F_law_reduced : Fun K "_law_reduced" "_law_reduced" s_law_reduced f_law_reduced fd_law_reduced
  g_law_reduced : mg "_law_reduced" = some (.ref f_law_reduced)
  b_law_reduced : Binds K fd_law_reduced ["_law_rows", "_law_vector"] []
  f_law_with : Addr
  fd_law_with : FuncData
  F_law_with : Fun K "_law_with" "_law_with" s_law_with f_law_with fd_law_with
  g_law_with : mg "_law_with" = some (.ref f_law_with)
  b_law_with : Binds K fd_law_with ["_law_rows", "_law_vector"] []
  f_law_number : Addr
  fd_law_number : FuncData
  F_law_number : Fun K "_law_number" "_law_number" s_law_number f_law_number fd_law_number
  g_law_number : mg "_law_number" = some (.ref f_law_number)
  b_law_number : Binds K fd_law_number ["_law_kind", "_law_numbers"] []
  f_law_goal : Addr
  fd_law_goal : FuncData
  F_law_goal : Fun K "_law_goal" "_law_goal" s_law_goal f_law_goal fd_law_goal
  g_law_goal : mg "_law_goal" = some (.ref f_law_goal)
  b_law_goal : Binds K fd_law_goal ["_law_row_here", "_law_length", "_law_bases", "_law_lists"] []
  f_law_row : Addr
  fd_law_row : FuncData
  F_law_row : Fun K "_law_row" "_law_row" s_law_row f_law_row fd_law_row
  g_law_row : mg "_law_row" = some (.ref f_law_row)
  b_law_row : Binds K fd_law_row ["_law_cell_here", "_law_many"] []
  f_law_cell : Addr
  fd_law_cell : FuncData
  F_law_cell : Fun K "_law_cell" "_law_cell" s_law_cell f_law_cell fd_law_cell
  g_law_cell : mg "_law_cell" = some (.ref f_law_cell)
  b_law_cell : Binds K fd_law_cell ["_law_script", "_law_k"] []
  f_law_seed : Addr
  fd_law_seed : FuncData
  F_law_seed : Fun K "_law_seed" "_law_seed" s_law_seed f_law_seed fd_law_seed
  g_law_seed : mg "_law_seed" = some (.ref f_law_seed)
  b_law_seed : Binds K fd_law_seed ["_law_script", "_law_k"] []
  f_law_times : Addr
  fd_law_times : FuncData
  F_law_times : Fun K "_law_times" "_law_times" s_law_times f_law_times fd_law_times
  g_law_times : mg "_law_times" = some (.ref f_law_times)
  b_law_times : Binds K fd_law_times ["_law_row_here"] []
  f_law_base : Addr
  fd_law_base : FuncData
  F_law_base : Fun K "_law_base" "_law_base" s_law_base f_law_base fd_law_base
  g_law_base : mg "_law_base" = some (.ref f_law_base)
  b_law_base : Binds K fd_law_base ["_law_row_here", "_law_length", "_law_earlier"] []
  flaw : Addr
  fdlaw : FuncData
  Flaw : Fun K "law" "law" slaw flaw fdlaw
  glaw : mg "law" = some (.ref flaw)
  blaw : Binds K fdlaw ["_law_script"] []
theorem Tx.ok_law_is_integer (T : Tx K mg) : FnOk P w K mg base CX0 1 T.f_law_is_integer T.fd_law_is_integer ["_law_actual"] (spP K 1 (m_law_is_integer)) :=
  fnP T.F_law_is_integer sc_law_is_integer fun cdv A outer s H E hr =>
    (sOne (sRet (pAnd (pIsi (pVar 0) T.n_isinstance T.n_int) (pOne (pNot (pIsi (pVar 0) T.n_isinstance T.n_bool))))))
theorem Tx.ok_law_is_rank (T : Tx K mg) : FnOk P w K mg base CX0 2 T.f_law_is_rank T.fd_law_is_rank ["_law_actual", "_law_expected"] (spP K 2 (m_law_is_rank)) :=
  fnP T.F_law_is_rank sc_law_is_rank fun cdv A outer s H E hr =>
    (sOne (sRet (pAnd (pCall T.ok_law_is_integer (hr.mono (by first | decide | exact Nat.le_refl _ | omega)) T.g_law_is_integer T.F_law_is_integer.kp T.b_law_is_integer (qCons (pVar 0) qNil)) (pOne (pCmp (oEq hr.units) (pVar 0) (pVar 1))))))
theorem Tx.okcommon_divisor (T : Tx K mg) : FnOk P w K mg base CX0 1 T.fcommon_divisor T.fdcommon_divisor ["one", "other"] (spP K 2 (mcommon_divisor)) :=
  fnP T.Fcommon_divisor sccommon_divisor fun cdv A outer s H E hr =>
    (sCons (sPar (i := 0) (j := 1) rfl sccommon_divisor.nd (qCons (pCallB cAbs T.n_abs (by decide +kernel) (qCons (pVar 0) qNil)) (qCons (pCallB cAbs T.n_abs (by decide +kernel) (qCons (pVar 1) qNil)) qNil)))
      (sCons (sWhile PassesOwn.never (tCmp oGt (pVar 1) pInt) (sOne (sPar (i := 0) (j := 1) rfl sccommon_divisor.nd (qCons (pVar 1) (qCons (pOp oMod (pVar 0) (pVar 1)) qNil)))))
      (sOne (sRet (pVar 0)))))
theorem Tx.okdivisor_of (T : Tx K mg) : FnOk P w K mg base CX0 2 T.fdivisor_of T.fddivisor_of ["numbers"] (spP K 1 (mdivisor_of)) :=
  fnP T.Fdivisor_of scdivisor_of fun cdv A outer s H E hr =>
    (sCons (sSet (i := 1) scdivisor_of.nd pInt)
      (sCons (sFor PassesOwn.never rfl (iSeq (pVar 0)) (gName' (i := 2) scdivisor_of.nd) (sOne (sSet (i := 1) scdivisor_of.nd (pCall T.okcommon_divisor (hr.mono (by first | decide | exact Nat.le_refl _ | omega)) T.gcommon_divisor T.Fcommon_divisor.kp T.bcommon_divisor (qCons (pVar 1) (qCons (pVar 2) qNil))))))
      (sOne (sRet (pVar 1)))))
theorem Tx.oklowest_terms (T : Tx K mg) : FnOk P w K mg base CX0 3 T.flowest_terms T.fdlowest_terms ["row"] (spO K 1 (mlowest_terms)) :=
  fnO T.Flowest_terms sclowest_terms fun cdv A outer s H E hr =>
    (sCons (sSet (i := 1) sclowest_terms.nd (pCall T.okdivisor_of (hr.mono (by first | decide | exact Nat.le_refl _ | omega)) T.gdivisor_of T.Fdivisor_of.kp T.bdivisor_of (qCons (pVar 0) qNil)))
      (sCons (sIf (tCmp (oEq hr.units) (pVar 1) pInt) (sOne (sRetM (mO (oCallT cList T.n_list (by decide +kernel) (qCons (pVar 0) qNil))))) sNil)
      (sOne (sRetM (mO (oLc [("number", 2)] rfl sclowest_terms.nd (iSeq (pVar 0)) (blkOk_by (N := ["row", "divisor", "number"]) (sc := defScope slowest_terms) (by decide +kernel)) (fun _ _ _ _ _ => (gName' (i := 2) sclowest_terms.nd)) (fun _ _ _ _ _ => ptsNil) (fun _ _ _ _ _ => (pOp oDivX (pVar 2) (pVar 1))) (gN_ok 2)))))))
theorem Tx.okcleared (T : Tx K mg) : FnOk P w K mg base CX0 4 T.fcleared T.fdcleared ["row", "pivot", "index"] (spP K 3 (mcleared)) :=
  fnP T.Fcleared sccleared fun cdv A outer s H E hr =>
    (sCons (sIf (tCmp (oEq hr.units) (pIx oIx (pVar 0) (pVar 2)) pInt) (sOne (sRet (pO (oCallT cList T.n_list (by decide +kernel) (qCons (pVar 0) qNil))))) sNil)
      (sOne (sRet (pO (oCall T.oklowest_terms (hr.mono (by first | decide | exact Nat.le_refl _ | omega)) T.glowest_terms T.Flowest_terms.kp T.blowest_terms (qCons (pLc [("own", 3), ("other", 4)] rfl sccleared.nd (iZipL (qCons (pVar 0) (qCons (pVar 1) qNil)) T.n_zip) (blkOk_by (N := ["row", "pivot", "index", "own", "other"]) (sc := defScope scleared) (by decide +kernel)) (fun _ _ _ _ _ => (gTup' rfl (gsCons' (gName' (i := 3) sccleared.nd) (gsCons' (gName' (i := 4) sccleared.nd) gsNil')))) (fun _ _ _ _ _ => ptsNil) (fun _ _ _ _ _ => (pOp oSub (pOp oMulA (pIx oIx (pVar 1) (pVar 2)) (pVar 3)) (pOp oMulA (pIx oIx (pVar 0) (pVar 2)) (pVar 4)))) (gT_ok (gsC_ok (gN_ok 3) (gsC_ok (gN_ok 4) gsN_ok)))) qNil))))))
theorem Tx.okfirst_nonzero (T : Tx K mg) : FnOk P w K mg base CX0 1 T.ffirst_nonzero T.fdfirst_nonzero ["row"] (spP K 1 (mfirst_nonzero)) :=
  fnP T.Ffirst_nonzero scfirst_nonzero fun cdv A outer s H E hr =>
    (sCons (sFor PassesOwn.never rfl (iEnumA (pVar 0) T.n_enumerate) (gTup' rfl (gsCons' (gName' (i := 1) scfirst_nonzero.nd) (gsCons' (gName' (i := 2) scfirst_nonzero.nd) gsNil'))) (sOne (sIf (tCmp (oNe hr.units) (pVar 2) pInt) (sOne (sRet (pVar 1))) sNil)))
      (sOne (sRet pNon)))
theorem Tx.okrest_of (T : Tx K mg) : FnOk P w K mg base CX0 5 T.frest_of T.fdrest_of ["echelon", "row"] (spP K 2 (mrest_of)) :=
  fnP T.Frest_of screst_of fun cdv A outer s H E hr =>
    (sCons (sSet (i := 2) screst_of.nd (pO (oCall T.oklowest_terms (hr.mono (by first | decide | exact Nat.le_refl _ | omega)) T.glowest_terms T.Flowest_terms.kp T.blowest_terms (qCons (pVar 1) qNil))))
      (sCons (sFor PassesOwn.never rfl (iSeq (pVar 0)) (gTup' rfl (gsCons' (gName' (i := 3) screst_of.nd) (gsCons' (gName' (i := 4) screst_of.nd) gsNil'))) (sOne (sSet (i := 2) screst_of.nd (pCall T.okcleared (hr.mono (by first | decide | exact Nat.le_refl _ | omega)) T.gcleared T.Fcleared.kp T.bcleared (qCons (pVar 2) (qCons (pVar 4) (qCons (pVar 3) qNil)))))))
      (sOne (sRet (pVar 2)))))
theorem Tx.okextended (T : Tx K mg) : FnOk P w K mg base CX0 6 T.fextended T.fdextended ["echelon", "row"] (spP K 2 (mextended)) :=
  fnP T.Fextended scextended fun cdv A outer s H E hr =>
    (sCons (sSet (i := 2) scextended.nd (pCall T.okrest_of (hr.mono (by first | decide | exact Nat.le_refl _ | omega)) T.grest_of T.Frest_of.kp T.brest_of (qCons (pVar 0) (qCons (pVar 1) qNil))))
      (sCons (sSet (i := 3) scextended.nd (pCall T.okfirst_nonzero (hr.mono (by first | decide | exact Nat.le_refl _ | omega)) T.gfirst_nonzero T.Ffirst_nonzero.kp T.bfirst_nonzero (qCons (pVar 2) qNil)))
      (sCons (sIf (tCmp oIs (pVar 3) pNon) (sOne (sRet (pO (oCallT cList T.n_list (by decide +kernel) (qCons (pVar 0) qNil))))) sNil)
      (sOne (sRet (pOp oAddA (pLc [("index", 4), ("pivot", 5)] rfl scextended.nd (iSeq (pVar 0)) (blkOk_by (N := ["echelon", "row", "rest", "at", "index", "pivot"]) (sc := defScope sextended) (by decide +kernel)) (fun _ _ _ _ _ => (gTup' rfl (gsCons' (gName' (i := 4) scextended.nd) (gsCons' (gName' (i := 5) scextended.nd) gsNil')))) (fun _ _ _ _ _ => ptsNil) (fun _ _ _ _ _ => (pTup (qCons (pVar 4) (qCons (pCall T.okcleared (hr.mono (by first | decide | exact Nat.le_refl _ | omega)) T.gcleared T.Fcleared.kp T.bcleared (qCons (pVar 5) (qCons (pVar 2) (qCons (pVar 3) qNil)))) qNil)))) (gT_ok (gsC_ok (gN_ok 4) (gsC_ok (gN_ok 5) gsN_ok)))) (pLst (qCons (pTup (qCons (pVar 3) (qCons (pVar 2) qNil))) qNil))))))))
theorem Tx.okechelon_of (T : Tx K mg) : FnOk P w K mg base CX0 7 T.fechelon_of T.fdechelon_of ["rows"] (spP K 1 (mechelon_of)) :=
  fnP T.Fechelon_of scechelon_of fun cdv A outer s H E hr =>
    (sCons (sSet (i := 1) scechelon_of.nd (pLst qNil))
      (sCons (sFor PassesOwn.never rfl (iSeq (pVar 0)) (gName' (i := 2) scechelon_of.nd) (sOne (sSet (i := 1) scechelon_of.nd (pCall T.okextended (hr.mono (by first | decide | exact Nat.le_refl _ | omega)) T.gextended T.Fextended.kp T.bextended (qCons (pVar 1) (qCons (pVar 2) qNil))))))
      (sOne (sRet (pVar 1)))))
theorem Tx.okrank_of (T : Tx K mg) : FnOk P w K mg base CX0 8 T.frank_of T.fdrank_of ["vectors"] (spP K 1 (mrank_of)) :=
  fnP T.Frank_of scrank_of fun cdv A outer s H E hr =>
    (sOne (sRet (pCallB cLen T.n_len (by decide +kernel) (qCons (pCall T.okechelon_of (hr.mono (by first | decide | exact Nat.le_refl _ | omega)) T.gechelon_of T.Fechelon_of.kp T.bechelon_of (qCons (pVar 0) qNil)) qNil))))
theorem Tx.ok_law_gcd (T : Tx K mg) : FnOk P w K mg base CX0 1 T.f_law_gcd T.fd_law_gcd ["_law_one", "_law_other"] (spP K 2 (m_law_gcd)) :=
  fnP T.F_law_gcd sc_law_gcd fun cdv A outer s H E hr =>
    (sCons (sSet (i := 0) sc_law_gcd.nd (pCallB cAbs T.n_abs (by decide +kernel) (qCons (pVar 0) qNil)))
      (sCons (sSet (i := 1) sc_law_gcd.nd (pCallB cAbs T.n_abs (by decide +kernel) (qCons (pVar 1) qNil)))
      (sCons (sFor PassesOwn.never rfl (iRange1 (pOp oAddA (pOp oMul pInt (pBits (pVar 1))) pInt) T.n_range) (gName' (i := 2) sc_law_gcd.nd) (sOne (sIf (tCmp oGt (pVar 1) pInt) (sOne (sPar (i := 0) (j := 1) rfl sc_law_gcd.nd (qCons (pVar 1) (qCons (pOp oMod (pCallT cInt T.n_int (by decide +kernel) (qCons (pVar 0) qNil)) (pVar 1)) qNil)))) sNil)))
      (sOne (sRet (pVar 0))))))
theorem Tx.ok_law_right (T : Tx K mg) : FnOk P w K mg base CX0 2 T.f_law_right T.fd_law_right ["_law_answer", "_law_lists", "_law_aim", "_law_inside"] (spP K 4 (m_law_right)) :=
  fnP T.F_law_right sc_law_right fun cdv A outer s H E hr =>
    (sCons (sIf (tW (tOrW (tNotT (tVal (pVar 3))) (tOr1 (tCmp oIs (pVar 0) pNon)))) (sOne (sRet (pAnd (pNot (pVar 3)) (pOne (pCmp oIs (pVar 0) pNon))))) sNil)
      (sCons (sIf (tW (tOrW (tNotT (tVal (pIsi (pVar 0) T.n_isinstance T.n_tuple))) (tOr1 (tCmp (oNe hr.units) (pCallB cLen T.n_len (by decide +kernel) (qCons (pVar 0) qNil)) pInt)))) (sOne (sRet pBl)) sNil)
      (sCons (sAsg (pVar 0) (gTup' rfl (gsCons' (gName' (i := 4) sc_law_right.nd) (gsCons' (gName' (i := 5) sc_law_right.nd) gsNil'))))
      (sCons (sIf (tW (tOrW (tNotT (tVal (pIsi (pVar 4) T.n_isinstance T.n_list))) (tOrW (tCmp (oNe hr.units) (pCallB cLen T.n_len (by decide +kernel) (qCons (pVar 4) qNil)) (pCallB cLen T.n_len (by decide +kernel) (qCons (pVar 1) qNil))) (tOr1 (tNotT (tVal (pCall T.ok_law_is_integer (hr.mono (by first | decide | exact Nat.le_refl _ | omega)) T.g_law_is_integer T.F_law_is_integer.kp T.b_law_is_integer (qCons (pVar 5) qNil)))))))) (sOne (sRet pBl)) sNil)
      (sCons (sSet (i := 6) sc_law_right.nd (pVar 5))
      (sCons (sFor PassesOwn.never rfl (iSeq (pVar 4)) (gName' (i := 7) sc_law_right.nd) (sCons (sIf (tNotT (tVal (pCall T.ok_law_is_integer (hr.mono (by first | decide | exact Nat.le_refl _ | omega)) T.g_law_is_integer T.F_law_is_integer.kp T.b_law_is_integer (qCons (pVar 7) qNil)))) (sOne (sRet pBl)) sNil)
      (sOne (sSet (i := 6) sc_law_right.nd (pCall T.ok_law_gcd (hr.mono (by first | decide | exact Nat.le_refl _ | omega)) T.g_law_gcd T.F_law_gcd.kp T.b_law_gcd (qCons (pVar 6) (qCons (pVar 7) qNil)))))))
      (sCons (sFor PassesOwn.never rfl (iRange1 (pCallB cLen T.n_len (by decide +kernel) (qCons (pVar 2) qNil)) T.n_range) (gName' (i := 8) sc_law_right.nd) (sCons (sSet (i := 9) sc_law_right.nd (pCallB (cSum rfl) T.n_sum (by decide +kernel) (qCons (pLc [("_law_k", 10)] rfl sc_law_right.nd (iRange1 (pCallB cLen T.n_len (by decide +kernel) (qCons (pVar 1) qNil)) T.n_range) (blkOk_by (N := ["_law_answer", "_law_lists", "_law_aim", "_law_inside", "_law_factors", "_law_divisor", "_law_common", "_law_factor", "_law_j", "_law_total", "_law_k"]) (sc := defScope s_law_right) (by decide +kernel)) (fun _ _ _ _ _ => (gName' (i := 10) sc_law_right.nd)) (fun _ _ _ _ _ => ptsNil) (fun _ _ _ _ _ => (pOp oMulA (pIx oIx (pVar 4) (pVar 10)) (pIx oIx (pIx oIx (pVar 1) (pVar 10)) (pVar 8)))) (gN_ok 10)) qNil)))
      (sOne (sIf (tCmp (oNe hr.units) (pVar 9) (pOp oMulA (pIx oIx (pVar 2) (pVar 8)) (pVar 5))) (sOne (sRet pBl)) sNil))))
      (sOne (sRet (pAnd (pCmp oGe (pVar 5) pInt) (pOne (pCmp (oEq hr.units) (pVar 6) pInt))))))))))))
theorem Tx.okleast_multiple (T : Tx K mg) : FnOk P w K mg base CX0 2 T.fleast_multiple T.fdleast_multiple ["one", "other"] (spP K 2 (mleast_multiple)) :=
  fnP T.Fleast_multiple scleast_multiple fun cdv A outer s H E hr =>
    (sOne (sRet (pOp oMulA (pOp oDivX (pCallB cAbs T.n_abs (by decide +kernel) (qCons (pVar 0) qNil)) (pCall T.okcommon_divisor (hr.mono (by first | decide | exact Nat.le_refl _ | omega)) T.gcommon_divisor T.Fcommon_divisor.kp T.bcommon_divisor (qCons (pVar 0) (qCons (pVar 1) qNil)))) (pCallB cAbs T.n_abs (by decide +kernel) (qCons (pVar 1) qNil)))))
theorem Tx.okcommon_multiple (T : Tx K mg) : FnOk P w K mg base CX0 3 T.fcommon_multiple T.fdcommon_multiple ["echelon"] (spP K 1 (mcommon_multiple)) :=
  fnP T.Fcommon_multiple sccommon_multiple fun cdv A outer s H E hr =>
    (sCons (sSet (i := 1) sccommon_multiple.nd pInt)
      (sCons (sFor PassesOwn.never rfl (iSeq (pVar 0)) (gTup' rfl (gsCons' (gName' (i := 2) sccommon_multiple.nd) (gsCons' (gName' (i := 3) sccommon_multiple.nd) gsNil'))) (sOne (sSet (i := 1) sccommon_multiple.nd (pCall T.okleast_multiple (hr.mono (by first | decide | exact Nat.le_refl _ | omega)) T.gleast_multiple T.Fleast_multiple.kp T.bleast_multiple (qCons (pVar 1) (qCons (pIx oIx (pVar 3) (pVar 2)) qNil))))))
      (sOne (sRet (pVar 1)))))
theorem Tx.okcombination (T : Tx K mg) : FnOk P w K mg base CX0 8 T.fcombination T.fdcombination ["vectors", "goal"] (spO K 2 (mcombination)) :=
  fnO T.Fcombination sccombination fun cdv A outer s H E hr =>
    (sCons (sSet (i := 2) sccombination.nd (pCallB cLen T.n_len (by decide +kernel) (qCons (pVar 0) qNil)))
      (sCons (sLcD (i := 3) [("at", 10)] rfl sccombination.nd (iRange1 (pCallB cLen T.n_len (by decide +kernel) (qCons (pVar 1) qNil)) T.n_range) (blkOk_by (N := ["vectors", "goal", "many", "equations", "echelon", "divisor", "factors", "index", "row", "common", "at", "vector", "factor"]) (sc := defScope scombination) (by decide +kernel)) (fun _ _ _ _ _ => (gName' (i := 10) sccombination.nd)) (fun _ _ _ _ _ => ptsNil) (fun _ _ _ _ _ => (pOp oAddA (pLc [("vector", 11)] rfl sccombination.nd (iSeq (pVar 0)) (blkOk_by (by rfl)) (fun _ _ _ _ _ => (gName' (i := 11) sccombination.nd)) (fun _ _ _ _ _ => ptsNil) (fun _ _ _ _ _ => (pIx oIx (pVar 11) (pVar 10))) (gN_ok 11)) (pLst (qCons (pIx oIx (pVar 1) (pVar 10)) qNil)))) (gN_ok 10))
      (sCons (sSet (i := 4) sccombination.nd (pCall T.okechelon_of (hr.mono (by first | decide | exact Nat.le_refl _ | omega)) T.gechelon_of T.Fechelon_of.kp T.bechelon_of (qCons (pVar 3) qNil)))
      (sCons (sIf (tCmp oIn (pVar 2) (pLc [("index", 7), ("row", 8)] rfl sccombination.nd (iSeq (pVar 4)) (blkOk_by (N := ["vectors", "goal", "many", "equations", "echelon", "divisor", "factors", "index", "row", "common", "at", "vector", "factor"]) (sc := defScope scombination) (by decide +kernel)) (fun _ _ _ _ _ => (gTup' rfl (gsCons' (gName' (i := 7) sccombination.nd) (gsCons' (gName' (i := 8) sccombination.nd) gsNil')))) (fun _ _ _ _ _ => ptsNil) (fun _ _ _ _ _ => (pVar 7)) (gT_ok (gsC_ok (gN_ok 7) (gsC_ok (gN_ok 8) gsN_ok))))) (sOne (sRetM (mO (oP pNon)))) sNil)
      (sCons (sSet (i := 5) sccombination.nd (pCall T.okcommon_multiple (hr.mono (by first | decide | exact Nat.le_refl _ | omega)) T.gcommon_multiple T.Fcommon_multiple.kp T.bcommon_multiple (qCons (pVar 4) qNil)))
      (sCons (sSetO (i := 6) sccombination.nd (oRep (qCons pInt qNil) (pVar 2)))
      (sCons (sFor PassesOwn.never rfl (iSeq (pVar 4)) (gTup' rfl (gsCons' (gName' (i := 7) sccombination.nd) (gsCons' (gName' (i := 8) sccombination.nd) gsNil'))) (sOne (sSetP (oP (pOp oMulA (pIx oIx (pVar 8) (pVar 2)) (pOp oDivX (pVar 5) (pIx oIx (pVar 8) (pVar 7))))) (plName (pv 6)) (pVar 7))))
      (sCons (sFz (i := 6) (sSet (i := 9) sccombination.nd (pCall T.okdivisor_of (hr.mono (by first | decide | exact Nat.le_refl _ | omega)) T.gdivisor_of T.Fdivisor_of.kp T.bdivisor_of (qCons (pOp oAddA (pLst (qCons (pVar 5) qNil)) (pVar 6)) qNil))))
      (sOne (sRetM (mTup' (mCons' (mO (oVw (oLc [("factor", 12)] rfl sccombination.nd (iSeq (pVar 6)) (blkOk_by (N := ["vectors", "goal", "many", "equations", "echelon", "divisor", "factors", "index", "row", "common", "at", "vector", "factor"]) (sc := defScope scombination) (by decide +kernel)) (fun _ _ _ _ _ => (gName' (i := 12) sccombination.nd)) (fun _ _ _ _ _ => ptsNil) (fun _ _ _ _ _ => (pOp oDivX (pVar 12) (pVar 9))) (gN_ok 12)))) (mCons' (mO (oP (pOp oDivX (pVar 5) (pVar 9)))) mNil')))))))))))))
theorem Tx.ok_law_reduced (T : Tx K mg) : FnOk P w K mg base CX0 1 T.f_law_reduced T.fd_law_reduced ["_law_rows", "_law_vector"] (spP K 2 (m_law_reduced)) :=
  fnP T.F_law_reduced sc_law_reduced fun cdv A outer s H E hr =>
    (sCons (sSet (i := 1) sc_law_reduced.nd (pO (oCallT cList T.n_list (by decide +kernel) (qCons (pVar 1) qNil))))
      (sCons (sSet (i := 2) sc_law_reduced.nd pInt)
      (sCons (sFor PassesOwn.never rfl (iSeq (pVar 0)) (gTup' rfl (gsCons' (gName' (i := 3) sc_law_reduced.nd) (gsCons' (gName' (i := 4) sc_law_reduced.nd) gsNil'))) (sCons (sSet (i := 5) sc_law_reduced.nd (pIx oIx (pVar 1) (pVar 3)))
      (sCons (sSet (i := 1) sc_law_reduced.nd (pLc [("_law_k", 6)] rfl sc_law_reduced.nd (iRange1 (pCallB cLen T.n_len (by decide +kernel) (qCons (pVar 1) qNil)) T.n_range) (blkOk_by (N := ["_law_rows", "_law_vector", "_law_before", "_law_lead", "_law_row_here", "_law_factor", "_law_k"]) (sc := defScope s_law_reduced) (by decide +kernel)) (fun _ _ _ _ _ => (gName' (i := 6) sc_law_reduced.nd)) (fun _ _ _ _ _ => ptsNil) (fun _ _ _ _ _ => (pOp oDivX (pOp oSub (pOp oMulA (pIx oIx (pVar 4) (pVar 3)) (pIx oIx (pVar 1) (pVar 6))) (pOp oMulA (pVar 5) (pIx oIx (pVar 4) (pVar 6)))) (pVar 2))) (gN_ok 6)))
      (sOne (sSet (i := 2) sc_law_reduced.nd (pIx oIx (pVar 4) (pVar 3)))))))
      (sOne (sRet (pVar 1))))))
theorem Tx.ok_law_with (T : Tx K mg) : FnOk P w K mg base CX0 2 T.f_law_with T.fd_law_with ["_law_rows", "_law_vector"] (spP K 2 (m_law_with)) :=
  fnP T.F_law_with sc_law_with fun cdv A outer s H E hr =>
    (sCons (sSet (i := 2) sc_law_with.nd (pCall T.ok_law_reduced (hr.mono (by first | decide | exact Nat.le_refl _ | omega)) T.g_law_reduced T.F_law_reduced.kp T.b_law_reduced (qCons (pVar 0) (qCons (pVar 1) qNil))))
      (sCons (sFor PassesOwn.never rfl (iRange1 (pCallB cLen T.n_len (by decide +kernel) (qCons (pVar 2) qNil)) T.n_range) (gName' (i := 3) sc_law_with.nd) (sOne (sIf (tCmp (oNe hr.units) (pIx oIx (pVar 2) (pVar 3)) pInt) (sOne (sRet (pOp oAddA (pVar 0) (pLst (qCons (pTup (qCons (pVar 3) (qCons (pVar 2) qNil))) qNil))))) sNil)))
      (sOne (sRet (pVar 0)))))
theorem Tx.ok_law_number (T : Tx K mg) : FnOk P w K mg base CX0 1 T.f_law_number T.fd_law_number ["_law_kind", "_law_numbers"] (spP K 2 (m_law_number)) :=
  fnP T.F_law_number sc_law_number fun cdv A outer s H E hr =>
    (sCons (sIf (tCmp oLt (pVar 0) pInt) (sOne (sRet (pOp oSub (pOp oMod (pCallT cInt T.n_int (by decide +kernel) (qCons (pIx oIx (pVar 1) pInt) qNil)) pInt) pInt))) sNil)
      (sCons (sIf (tCmp (oEq hr.units) (pVar 0) pInt) (sOne (sRet (pOp oSub (pIx oIx (pVar 1) pInt) pInt))) sNil)
      (sCons (sIf (tCmp (oEq hr.units) (pVar 0) pInt) (sOne (sRet (pIx oIx (pLst (qCons pInt (qCons pInt (qCons pInt (qCons pInt (qCons (pUn oNeg pInt) (qCons pInt qNil))))))) (pOp oMod (pCallT cInt T.n_int (by decide +kernel) (qCons (pIx oIx (pVar 1) pInt) qNil)) pInt)))) sNil)
      (sOne (sRet (pOp oAddA (pOp oAddA (pOp oMulA (pOp oSub (pIx oIx (pVar 1) pInt) pInt) (pOp oPow pInt pInt)) (pOp oMulA (pIx oIx (pVar 1) pInt) (pOp oPow pInt pInt))) (pIx oIx (pVar 1) pInt)))))))
theorem Tx.ok_law_goal (T : Tx K mg) : FnOk P w K mg base CX0 2 T.f_law_goal T.fd_law_goal ["_law_row_here", "_law_length", "_law_bases", "_law_lists"] (spP K 4 (m_law_goal)) :=
  fnP T.F_law_goal sc_law_goal fun cdv A outer s H E hr =>
    (sCons (sSet (i := 4) sc_law_goal.nd (pOp oMod (pCallT cInt T.n_int (by decide +kernel) (qCons (pIx oIx (pVar 0) pInt) qNil)) pInt))
      (sCons (sSetO (i := 5) sc_law_goal.nd (oRep (qCons pInt qNil) (pVar 1)))
      (sCons (sIf (tCmp oLt (pVar 4) pInt) (sOne (sFor PassesOwn.never rfl (iRange1 (pCallB cLen T.n_len (by decide +kernel) (qCons (pVar 2) qNil)) T.n_range) (gName' (i := 6) sc_law_goal.nd) (sCons (sSet (i := 7) sc_law_goal.nd (pOp oSub (pOp oMod (pCallT cInt T.n_int (by decide +kernel) (qCons (pIx oIx (pVar 0) (pOp oAddA pInt (pVar 6))) qNil)) pInt) pInt))
      (sOne (sSetO (i := 5) sc_law_goal.nd (oVw (oLc [("_law_j", 9)] rfl sc_law_goal.nd (iRange1 (pVar 1) T.n_range) (blkOk_by (N := ["_law_row_here", "_law_length", "_law_bases", "_law_lists", "_law_kind", "_law_aim", "_law_k", "_law_factor", "_law_place", "_law_j"]) (sc := defScope s_law_goal) (by decide +kernel)) (fun _ _ _ _ _ => (gName' (i := 9) sc_law_goal.nd)) (fun _ _ _ _ _ => ptsNil) (fun _ _ _ _ _ => (pOp oAddA (pIx oIx (pVar 5) (pVar 9)) (pOp oMulA (pVar 7) (pIx oIx (pIx oIx (pVar 2) (pVar 6)) (pVar 9))))) (gN_ok 9)))))))) sNil)
      (sCons (sIf (tW (tAndW (tChain' oLt oLt pInt (pVar 4) pInt) (tAnd1 (tCmp oGt (pVar 1) pInt)))) (sCons (sSet (i := 8) sc_law_goal.nd (pOp oMod (pCallT cInt T.n_int (by decide +kernel) (qCons (pIx oIx (pVar 0) pInt) qNil)) (pVar 1)))
      (sOne (sSetP (oP (pVwI (pOp oAddA (pIx oIx (pVar 5) (pVar 8)) (pIx oIx (pLst (qCons pInt (qCons (pUn oNeg pInt) qNil))) (pOp oMod (pCallT cInt T.n_int (by decide +kernel) (qCons (pIx oIx (pVar 0) pInt) qNil)) pInt))))) (plName (pv 5)) (pVar 8)))) sNil)
      (sCons (sIf (tW (tAndW (tCmp (oEq hr.units) (pVar 4) pInt) (tAnd1 (tCmp oGt (pCallB cLen T.n_len (by decide +kernel) (qCons (pVar 3) qNil)) pInt)))) (sOne (sRet (pO (oCallT cList T.n_list (by decide +kernel) (qCons (pIx oIx (pVar 3) (pOp oMod (pCallT cInt T.n_int (by decide +kernel) (qCons (pIx oIx (pVar 0) pInt) qNil)) (pCallB cLen T.n_len (by decide +kernel) (qCons (pVar 3) qNil)))) qNil))))) sNil)
      (sCons (sIf (tCmp (oEq hr.units) (pVar 4) pInt) (sOne (sRet (pLc [("_law_j", 9)] rfl sc_law_goal.nd (iRange1 (pVar 1) T.n_range) (blkOk_by (N := ["_law_row_here", "_law_length", "_law_bases", "_law_lists", "_law_kind", "_law_aim", "_law_k", "_law_factor", "_law_place", "_law_j"]) (sc := defScope s_law_goal) (by decide +kernel)) (fun _ _ _ _ _ => (gName' (i := 9) sc_law_goal.nd)) (fun _ _ _ _ _ => ptsNil) (fun _ _ _ _ _ => (pCall T.ok_law_number (hr.mono (by first | decide | exact Nat.le_refl _ | omega)) T.g_law_number T.F_law_number.kp T.b_law_number (qCons (pOp oMod (pCallT cInt T.n_int (by decide +kernel) (qCons (pIx oIx (pVar 0) pInt) qNil)) pInt) (qCons (pSl (pVar 0) (poSome (pOp oAddA pInt (pOp oMul pInt (pVar 9)))) (poSome (pOp oAddA pInt (pOp oMul pInt (pVar 9))))) qNil)))) (gN_ok 9)))) sNil)
      (sOne (sFz (i := 5) (sRet (pVar 5))))))))))
theorem Tx.ok_law_row (T : Tx K mg) : FnOk P w K mg base CX0 1 T.f_law_row T.fd_law_row ["_law_cell_here", "_law_many"] (spP K 2 (m_law_row)) :=
  fnP T.F_law_row sc_law_row fun cdv A outer s H E hr =>
    (sCons (sSetO (i := 2) sc_law_row.nd (oLst qNil))
      (sCons (sSet (i := 3) sc_law_row.nd (pOp oMod (pCallT cInt T.n_int (by decide +kernel) (qCons (pVar 0) qNil)) pInt))
      (sCons (sSet (i := 4) sc_law_row.nd (pOp oSub (pVar 0) (pOp oPow pInt pInt)))
      (sCons (sFor PassesOwn.never rfl (iRange1 (pVar 1) T.n_range) (gName' (i := 5) sc_law_row.nd) (sCons (sSet (i := 3) sc_law_row.nd (pOp oMod (pCallT cInt T.n_int (by decide +kernel) (qCons (pOp oAddA (pOp oAddA (pOp oMul (pVar 3) pInt) (pOp oMul pInt (pVar 5))) pInt) qNil)) pInt))
      (sCons (sSet (i := 6) sc_law_row.nd (pOp oMod (pCallT cInt T.n_int (by decide +kernel) (qCons (pOp oAddA (pOp oAddA (pOp oMul (pVar 3) pInt) (pOp oMul pInt (pVar 5))) pInt) qNil)) pInt))
      (sCons (sApp (i := 2) (pv 2) (pIf (tCmp oGe (pVar 0) (pOp oPow pInt pInt)) (pOp oMod (pCallT cInt T.n_int (by decide +kernel) (qCons (pVar 4) qNil)) pInt) (pOp oMod (pCallT cInt T.n_int (by decide +kernel) (qCons (pOp oDiv (pVar 6) pInt) qNil)) pInt)))
      (sOne (sSet (i := 4) sc_law_row.nd (pOp oDiv (pVar 4) pInt)))))))
      (sOne (sFz (i := 2) (sRet (pVar 2))))))))
theorem Tx.ok_law_cell (T : Tx K mg) : FnOk P w K mg base CX0 1 T.f_law_cell T.fd_law_cell ["_law_script", "_law_k"] (spP K 2 (m_law_cell)) :=
  fnP T.F_law_cell sc_law_cell fun cdv A outer s H E hr =>
    (sOne (sRet (pIf (tCmp oLt (pVar 1) (pCallB cLen T.n_len (by decide +kernel) (qCons (pVar 0) qNil))) (pCallT cInt T.n_int (by decide +kernel) (qCons (pIx oIx (pVar 0) (pVar 1)) qNil)) pInt)))
theorem Tx.ok_law_seed (T : Tx K mg) : FnOk P w K mg base CX0 2 T.f_law_seed T.fd_law_seed ["_law_script", "_law_k"] (spP K 2 (m_law_seed)) :=
  fnP T.F_law_seed sc_law_seed fun cdv A outer s H E hr =>
    (sCons (sIf (tCmp oLt (pVar 1) (pCallB cLen T.n_len (by decide +kernel) (qCons (pVar 0) qNil))) (sOne (sRet (pCallT cInt T.n_int (by decide +kernel) (qCons (pIx oIx (pVar 0) (pVar 1)) qNil)))) sNil)
      (sOne (sRet (pOp oMod (pCallT cInt T.n_int (by decide +kernel) (qCons (pOp oAddA (pOp oAddA (pOp oMul (pCall T.ok_law_cell (hr.mono (by first | decide | exact Nat.le_refl _ | omega)) T.g_law_cell T.F_law_cell.kp T.b_law_cell (qCons (pVar 0) (qCons pInt qNil))) pInt) (pOp oMul (pCall T.ok_law_cell (hr.mono (by first | decide | exact Nat.le_refl _ | omega)) T.g_law_cell T.F_law_cell.kp T.b_law_cell (qCons (pVar 0) (qCons pInt qNil))) pInt)) (pOp oMul pInt (pVar 1))) qNil)) pInt))))
theorem Tx.ok_law_times (T : Tx K mg) : FnOk P w K mg base CX0 1 T.f_law_times T.fd_law_times ["_law_row_here"] (spP K 1 (m_law_times)) :=
  fnP T.F_law_times sc_law_times fun cdv A outer s H E hr =>
    (sCons (sIf (tCmp oLt (pOp oMod (pCallT cInt T.n_int (by decide +kernel) (qCons (pIx oIx (pVar 0) pInt) qNil)) pInt) pInt) (sCons (sSet (i := 1) sc_law_times.nd (pLst (qCons pInt (qCons pInt (qCons pInt (qCons pInt qNil))))))
      (sOne (sRet (pIx oIx (pOp oAddA (pLst (qCons pInt (qCons pInt (qCons pInt (qCons pInt (qCons pInt (qCons pInt (qCons (pUn oNeg pInt) qNil)))))))) (pVar 1)) (pOp oMod (pCallT cInt T.n_int (by decide +kernel) (qCons (pIx oIx (pVar 0) pInt) qNil)) pInt))))) sNil)
      (sOne (sRet (pIx oIx (pLst (qCons pInt (qCons pInt (qCons pInt (qCons pInt (qCons pInt (qCons (pUn oNeg pInt) qNil))))))) (pOp oMod (pCallT cInt T.n_int (by decide +kernel) (qCons (pIx oIx (pVar 0) pInt) qNil)) pInt)))))
theorem Tx.ok_law_base (T : Tx K mg) : FnOk P w K mg base CX0 2 T.f_law_base T.fd_law_base ["_law_row_here", "_law_length", "_law_earlier"] (spO K 3 (m_law_base)) :=
  fnO T.F_law_base sc_law_base fun cdv A outer s H E hr =>
    (sCons (sSet (i := 3) sc_law_base.nd (pOp oMod (pCallT cInt T.n_int (by decide +kernel) (qCons (pIx oIx (pVar 0) pInt) qNil)) pInt))
      (sCons (sIf (tW (tAndW (tCmp oGt (pVar 3) pInt) (tAnd1 (tCmp oGt (pCallB cLen T.n_len (by decide +kernel) (qCons (pVar 2) qNil)) pInt)))) (sCons (sSet (i := 4) sc_law_base.nd (pIx oIx (pVar 2) (pOp oMod (pCallT cInt T.n_int (by decide +kernel) (qCons (pIx oIx (pVar 0) pInt) qNil)) (pCallB cLen T.n_len (by decide +kernel) (qCons (pVar 2) qNil)))))
      (sCons (sSet (i := 5) sc_law_base.nd (pIx oIx (pVar 2) (pOp oMod (pCallT cInt T.n_int (by decide +kernel) (qCons (pIx oIx (pVar 0) pInt) qNil)) (pCallB cLen T.n_len (by decide +kernel) (qCons (pVar 2) qNil)))))
      (sCons (sSet (i := 6) sc_law_base.nd (pIx oIx (pLst (qCons pInt (qCons (pOp oSub (pOp oMod (pCallT cInt T.n_int (by decide +kernel) (qCons (pIx oIx (pVar 0) pInt) qNil)) pInt) pInt) qNil))) (pOp oSub (pVar 3) pInt)))
      (sCons (sSet (i := 7) sc_law_base.nd (pIx oIx (pLst (qCons pInt (qCons (pOp oSub (pOp oMod (pCallT cInt T.n_int (by decide +kernel) (qCons (pIx oIx (pVar 0) pInt) qNil)) pInt) pInt) qNil))) (pOp oSub (pVar 3) pInt)))
      (sOne (sRetM (mO (oLc [("_law_j", 8)] rfl sc_law_base.nd (iRange1 (pVar 1) T.n_range) (blkOk_by (N := ["_law_row_here", "_law_length", "_law_earlier", "_law_kind", "_law_one", "_law_other", "_law_first", "_law_second", "_law_j"]) (sc := defScope s_law_base) (by decide +kernel)) (fun _ _ _ _ _ => (gName' (i := 8) sc_law_base.nd)) (fun _ _ _ _ _ => ptsNil) (fun _ _ _ _ _ => (pOp oAddA (pOp oMulA (pVar 6) (pIx oIx (pVar 4) (pVar 8))) (pOp oMulA (pVar 7) (pIx oIx (pVar 5) (pVar 8))))) (gN_ok 8))))))))) sNil)
      (sOne (sRetM (mO (oLc [("_law_j", 8)] rfl sc_law_base.nd (iRange1 (pVar 1) T.n_range) (blkOk_by (N := ["_law_row_here", "_law_length", "_law_earlier", "_law_kind", "_law_one", "_law_other", "_law_first", "_law_second", "_law_j"]) (sc := defScope s_law_base) (by decide +kernel)) (fun _ _ _ _ _ => (gName' (i := 8) sc_law_base.nd)) (fun _ _ _ _ _ => ptsNil) (fun _ _ _ _ _ => (pCall T.ok_law_number (hr.mono (by first | decide | exact Nat.le_refl _ | omega)) T.g_law_number T.F_law_number.kp T.b_law_number (qCons (pVar 3) (qCons (pSl (pVar 0) (poSome (pOp oAddA pInt (pOp oMul pInt (pVar 8)))) (poSome (pOp oAddA pInt (pOp oMul pInt (pVar 8))))) qNil)))) (gN_ok 8)))))))
theorem Tx.oklaw (T : Tx K mg) : FnOk P w K mg base CX0 9 T.flaw T.fdlaw ["_law_script"] (spP K 1 (mlaw)) :=
  fnP T.Flaw sclaw fun cdv A outer s H E hr =>
    (sCons (sSet (i := 1) sclaw.nd (pCall T.ok_law_row (hr.mono (by first | decide | exact Nat.le_refl _ | omega)) T.g_law_row T.F_law_row.kp T.b_law_row (qCons (pCall T.ok_law_seed (hr.mono (by first | decide | exact Nat.le_refl _ | omega)) T.g_law_seed T.F_law_seed.kp T.b_law_seed (qCons (pVar 0) (qCons pInt qNil))) (qCons pInt qNil))))
      (sCons (sSet (i := 2) sclaw.nd (pOp oMod (pCallT cInt T.n_int (by decide +kernel) (qCons (pIx oIx (pVar 1) pInt) qNil)) pInt))
      (sCons (sSet (i := 3) sclaw.nd (pOp oMod (pCallT cInt T.n_int (by decide +kernel) (qCons (pIx oIx (pVar 1) pInt) qNil)) pInt))
      (sCons (sIf (tCmp (oEq hr.units) (pOp oMod (pCallT cInt T.n_int (by decide +kernel) (qCons (pIx oIx (pVar 1) pInt) qNil)) pInt) pInt) (sCons (sSet (i := 2) sclaw.nd (pOp oMod (pCallT cInt T.n_int (by decide +kernel) (qCons (pIx oIx (pVar 1) pInt) qNil)) pInt))
      (sOne (sSet (i := 3) sclaw.nd (pOp oMod (pCallT cInt T.n_int (by decide +kernel) (qCons (pIx oIx (pVar 1) pInt) qNil)) pInt)))) sNil)
      (sCons (sSetO (i := 4) sclaw.nd (oLst qNil))
      (sCons (sSetO (i := 5) sclaw.nd (oLst qNil))
      (sCons (sFor PassesOwn.never rfl (iRange1 (pVar 3) T.n_range) (gName' (i := 6) sclaw.nd) (sCons (sSet (i := 7) sclaw.nd (pCall T.ok_law_row (hr.mono (by first | decide | exact Nat.le_refl _ | omega)) T.g_law_row T.F_law_row.kp T.b_law_row (qCons (pCall T.ok_law_seed (hr.mono (by first | decide | exact Nat.le_refl _ | omega)) T.g_law_seed T.F_law_seed.kp T.b_law_seed (qCons (pVar 0) (qCons (pOp oAddA pInt (pVar 6)) qNil))) (qCons pInt qNil))))
      (sCons (sApp (i := 4) (pv 4) (pO (oVw (oCall T.ok_law_base (hr.mono (by first | decide | exact Nat.le_refl _ | omega)) T.g_law_base T.F_law_base.kp T.b_law_base (qCons (pVar 7) (qCons (pVar 2) (qCons (pVar 4) qNil)))))))
      (sOne (sApp (i := 5) (pv 5) (pO (oVw (oLc [("_law_number_here", 17)] rfl sclaw.nd (iSeq (pIx oIx (pVar 4) (pVar 6))) (blkOk_by (N := ["_law_script", "_law_shape", "_law_length", "_law_many", "_law_bases", "_law_lists", "_law_k", "_law_row_here", "_law_aim", "_law_rows", "_law_vector", "_law_inside", "_law_passed", "_law_wish", "_law_answer", "_law_factors", "_law_longer", "_law_number_here"]) (sc := defScope slaw) (by decide +kernel)) (fun _ _ _ _ _ => (gName' (i := 17) sclaw.nd)) (fun _ _ _ _ _ => ptsNil) (fun _ _ _ _ _ => (pOp oMulA (pCall T.ok_law_times (hr.mono (by first | decide | exact Nat.le_refl _ | omega)) T.g_law_times T.F_law_times.kp T.b_law_times (qCons (pVar 7) qNil)) (pVar 17))) (gN_ok 17)))))))))
      (sCons (sFz (i := 5) (sFz (i := 4) (sSet (i := 8) sclaw.nd (pCall T.ok_law_goal (hr.mono (by first | decide | exact Nat.le_refl _ | omega)) T.g_law_goal T.F_law_goal.kp T.b_law_goal (qCons (pCall T.ok_law_row (hr.mono (by first | decide | exact Nat.le_refl _ | omega)) T.g_law_row T.F_law_row.kp T.b_law_row (qCons (pCall T.ok_law_seed (hr.mono (by first | decide | exact Nat.le_refl _ | omega)) T.g_law_seed T.F_law_seed.kp T.b_law_seed (qCons (pVar 0) (qCons pInt qNil))) (qCons pInt qNil))) (qCons (pVar 2) (qCons (pVar 4) (qCons (pVar 5) qNil))))))))
      (sCons (sSet (i := 9) sclaw.nd (pLst qNil))
      (sCons (sFz (i := 5) (sFor PassesOwn.never rfl (iSeq (pVar 5)) (gName' (i := 10) sclaw.nd) (sOne (sSet (i := 9) sclaw.nd (pCall T.ok_law_with (hr.mono (by first | decide | exact Nat.le_refl _ | omega)) T.g_law_with T.F_law_with.kp T.b_law_with (qCons (pVar 9) (qCons (pVar 10) qNil)))))))
      (sCons (sSet (i := 11) sclaw.nd (pCmp (oEq hr.units) (pCallB cLen T.n_len (by decide +kernel) (qCons (pCall T.ok_law_with (hr.mono (by first | decide | exact Nat.le_refl _ | omega)) T.g_law_with T.F_law_with.kp T.b_law_with (qCons (pVar 9) (qCons (pVar 8) qNil))) qNil)) (pCallB cLen T.n_len (by decide +kernel) (qCons (pVar 9) qNil))))
      (sCons (sFz (i := 5) (sLcD (i := 12) [("_law_vector", 10)] rfl sclaw.nd (iSeq (pVar 5)) (blkOk_by (N := ["_law_script", "_law_shape", "_law_length", "_law_many", "_law_bases", "_law_lists", "_law_k", "_law_row_here", "_law_aim", "_law_rows", "_law_vector", "_law_inside", "_law_passed", "_law_wish", "_law_answer", "_law_factors", "_law_longer", "_law_number_here"]) (sc := defScope slaw) (by decide +kernel)) (fun _ _ _ _ _ => (gName' (i := 10) sclaw.nd)) (fun _ _ _ _ _ => ptsNil) (fun _ _ _ _ _ => (pO (oCallT cList T.n_list (by decide +kernel) (qCons (pVar 10) qNil)))) (gN_ok 10)))
      (sCons (sSet (i := 13) sclaw.nd (pO (oCallT cList T.n_list (by decide +kernel) (qCons (pVar 8) qNil))))
      (sCons (sIf (tCmp (oEq hr.units) (pOp oMod (pCallT cInt T.n_int (by decide +kernel) (qCons (pIx oIx (pVar 1) pInt) qNil)) pInt) pInt) (sCons (sFz (i := 5) (sSet (i := 12) sclaw.nd (pCallT cTup T.n_tuple (by decide +kernel) (qCons (pLc [("_law_vector", 10)] rfl sclaw.nd (iSeq (pVar 5)) (blkOk_by (N := ["_law_script", "_law_shape", "_law_length", "_law_many", "_law_bases", "_law_lists", "_law_k", "_law_row_here", "_law_aim", "_law_rows", "_law_vector", "_law_inside", "_law_passed", "_law_wish", "_law_answer", "_law_factors", "_law_longer", "_law_number_here"]) (sc := defScope slaw) (by decide +kernel)) (fun _ _ _ _ _ => (gName' (i := 10) sclaw.nd)) (fun _ _ _ _ _ => ptsNil) (fun _ _ _ _ _ => (pCallT cTup T.n_tuple (by decide +kernel) (qCons (pVar 10) qNil))) (gN_ok 10)) qNil))))
      (sOne (sSet (i := 13) sclaw.nd (pCallT cTup T.n_tuple (by decide +kernel) (qCons (pVar 8) qNil))))) sNil)
      (sCons (sIf (tNotT (tVal (pCall T.ok_law_is_rank (hr.mono (by first | decide | exact Nat.le_refl _ | omega)) T.g_law_is_rank T.F_law_is_rank.kp T.b_law_is_rank (qCons (pCall T.okrank_of (hr.mono (by first | decide | exact Nat.le_refl _ | omega)) T.grank_of T.Frank_of.kp T.brank_of (qCons (pVar 12) qNil)) (qCons (pCallB cLen T.n_len (by decide +kernel) (qCons (pVar 9) qNil)) qNil))))) (sOne (sRet pBl)) sNil)
      (sCons (sSetO (i := 14) sclaw.nd (oCall T.okcombination (hr.mono (by first | decide | exact Nat.le_refl _ | omega)) T.gcombination T.Fcombination.kp T.bcombination (qCons (pVar 12) (qCons (pVar 13) qNil))))
      (sCons (sIf (tVw (tNotT (tVal (pCall T.ok_law_right (hr.mono (by first | decide | exact Nat.le_refl _ | omega)) T.g_law_right T.F_law_right.kp T.b_law_right (qCons (pVar 14) (qCons (pVar 5) (qCons (pVar 8) (qCons (pVar 11) qNil)))))))) (sOne (sRet pBl)) sNil)
      (sCons (sIf (tVal (pVar 11)) (sAppA sclaw.nd (plIx (plName (pv 14)) pInt) (pv 15) (oP pInt)) sNil)
      (sCons (sIf (tVw (tNotT (tVal (pCall T.ok_law_right (hr.mono (by first | decide | exact Nat.le_refl _ | omega)) T.g_law_right T.F_law_right.kp T.b_law_right (qCons (pO (oCallK T.okcombination (hr.mono (by first | decide | exact Nat.le_refl _ | omega)) T.gcombination T.Fcombination.kp T.kcombination rfl (kCons (pVar 12) (kCons (pVar 13) kNil)))) (qCons (pVar 5) (qCons (pVar 8) (qCons (pVar 11) qNil)))))))) (sOne (sRet pBl)) sNil)
      (sCons (sFz (i := 5) (sSet (i := 16) sclaw.nd (pOp oAddA (pLc [("_law_vector", 10)] rfl sclaw.nd (iSeq (pVar 5)) (blkOk_by (N := ["_law_script", "_law_shape", "_law_length", "_law_many", "_law_bases", "_law_lists", "_law_k", "_law_row_here", "_law_aim", "_law_rows", "_law_vector", "_law_inside", "_law_passed", "_law_wish", "_law_answer", "_law_factors", "_law_longer", "_law_number_here"]) (sc := defScope slaw) (by decide +kernel)) (fun _ _ _ _ _ => (gName' (i := 10) sclaw.nd)) (fun _ _ _ _ _ => ptsNil) (fun _ _ _ _ _ => (pO (oCallT cList T.n_list (by decide +kernel) (qCons (pVar 10) qNil)))) (gN_ok 10)) (pLst (qCons (pO (oCallT cList T.n_list (by decide +kernel) (qCons (pVar 8) qNil))) qNil)))))
      (sCons (sIf (tNotT (tVal (pCall T.ok_law_is_rank (hr.mono (by first | decide | exact Nat.le_refl _ | omega)) T.g_law_is_rank T.F_law_is_rank.kp T.b_law_is_rank (qCons (pCallK T.okrank_of (hr.mono (by first | decide | exact Nat.le_refl _ | omega)) T.grank_of T.Frank_of.kp T.krank_of rfl (kCons (pVar 16) kNil)) (qCons (pOp oAddA (pCallB cLen T.n_len (by decide +kernel) (qCons (pVar 9) qNil)) (pCallT cInt T.n_int (by decide +kernel) (qCons (pNot (pVar 11)) qNil))) qNil))))) (sOne (sRet pBl)) sNil)
      (sCons (sIf (tNotT (tVal (pCall T.ok_law_is_rank (hr.mono (by first | decide | exact Nat.le_refl _ | omega)) T.g_law_is_rank T.F_law_is_rank.kp T.b_law_is_rank (qCons (pCall T.okrank_of (hr.mono (by first | decide | exact Nat.le_refl _ | omega)) T.grank_of T.Frank_of.kp T.brank_of (qCons (pVar 12) qNil)) (qCons (pCallB cLen T.n_len (by decide +kernel) (qCons (pVar 9) qNil)) qNil))))) (sOne (sRet pBl)) sNil)
      (sOne (sFz (i := 5) (sRet (pAnd (pCmp (oEq hr.units) (pLc [("_law_vector", 10)] rfl sclaw.nd (iSeq (pVar 12)) (blkOk_by (N := ["_law_script", "_law_shape", "_law_length", "_law_many", "_law_bases", "_law_lists", "_law_k", "_law_row_here", "_law_aim", "_law_rows", "_law_vector", "_law_inside", "_law_passed", "_law_wish", "_law_answer", "_law_factors", "_law_longer", "_law_number_here"]) (sc := defScope slaw) (by decide +kernel)) (fun _ _ _ _ _ => (gName' (i := 10) sclaw.nd)) (fun _ _ _ _ _ => ptsNil) (fun _ _ _ _ _ => (pO (oCallT cList T.n_list (by decide +kernel) (qCons (pVar 10) qNil)))) (gN_ok 10)) (pVar 5)) (pOne (pCmp (oEq hr.units) (pO (oCallT cList T.n_list (by decide +kernel) (qCons (pVar 13) qNil))) (pVar 8)))))))))))))))))))))))))))))
end
theorem tx_mk {K : PySem.W.Frag} {h : Heap} {mg : Str → Option Value} (X : K.In h) (G : h.Ns mainGlobals mg)
    (z0 : PySem.W.nsIn K mainGlobals "abs" = some none)
    (z1 : PySem.W.nsIn K mainGlobals "bool" = some none)
    (z2 : PySem.W.nsIn K mainGlobals "enumerate" = some none)
    (z3 : PySem.W.nsIn K mainGlobals "int" = some none)
    (z4 : PySem.W.nsIn K mainGlobals "isinstance" = some none)
    (z5 : PySem.W.nsIn K mainGlobals "len" = some none)
    (z6 : PySem.W.nsIn K mainGlobals "list" = some none)
    (z7 : PySem.W.nsIn K mainGlobals "range" = some none)
    (z8 : PySem.W.nsIn K mainGlobals "sum" = some none)
    (z9 : PySem.W.nsIn K mainGlobals "tuple" = some none)
    (z10 : PySem.W.nsIn K mainGlobals "zip" = some none)
    {f0 : Addr} {oc0 kV0 dc0 pm0 cd0 ct0 : Value} {od0 an0 : Option Addr} {sl0 : Array (Option Value)}
    (a0 : PySem.W.nsIn K mainGlobals "_law_is_integer" = some (some (.ref f0)))
    (l0 : K.lookup f0 = some ⟨oc0, od0, .func (PySem.W.fnOf "_law_is_integer" "_law_is_integer" (defArgs s_law_is_integer) (defBody s_law_is_integer) (defScope s_law_is_integer) .none kV0 dc0 pm0 an0 cd0 ct0), sl0⟩)
    (c0 : PySem.W.codeIn K cd0 "_law_is_integer" = true)
    (k0 : PySem.W.keepIn K (.ref f0) = true)
    {f1 : Addr} {oc1 kV1 dc1 pm1 cd1 ct1 : Value} {od1 an1 : Option Addr} {sl1 : Array (Option Value)}
    (a1 : PySem.W.nsIn K mainGlobals "_law_is_rank" = some (some (.ref f1)))
    (l1 : K.lookup f1 = some ⟨oc1, od1, .func (PySem.W.fnOf "_law_is_rank" "_law_is_rank" (defArgs s_law_is_rank) (defBody s_law_is_rank) (defScope s_law_is_rank) .none kV1 dc1 pm1 an1 cd1 ct1), sl1⟩)
    (c1 : PySem.W.codeIn K cd1 "_law_is_rank" = true)
    (k1 : PySem.W.keepIn K (.ref f1) = true)
    {f2 : Addr} {oc2 kV2 dc2 pm2 cd2 ct2 : Value} {od2 an2 : Option Addr} {sl2 : Array (Option Value)}
    (a2 : PySem.W.nsIn K mainGlobals "common_divisor" = some (some (.ref f2)))
    (l2 : K.lookup f2 = some ⟨oc2, od2, .func (PySem.W.fnOf "common_divisor" "common_divisor" (defArgs scommon_divisor) (defBody scommon_divisor) (defScope scommon_divisor) .none kV2 dc2 pm2 an2 cd2 ct2), sl2⟩)
    (c2 : PySem.W.codeIn K cd2 "common_divisor" = true)
    (k2 : PySem.W.keepIn K (.ref f2) = true)
    {f3 : Addr} {oc3 kV3 dc3 pm3 cd3 ct3 : Value} {od3 an3 : Option Addr} {sl3 : Array (Option Value)}
    (a3 : PySem.W.nsIn K mainGlobals "divisor_of" = some (some (.ref f3)))
    (l3 : K.lookup f3 = some ⟨oc3, od3, .func (PySem.W.fnOf "divisor_of" "divisor_of" (defArgs sdivisor_of) (defBody sdivisor_of) (defScope sdivisor_of) .none kV3 dc3 pm3 an3 cd3 ct3), sl3⟩)
    (c3 : PySem.W.codeIn K cd3 "divisor_of" = true)
    (k3 : PySem.W.keepIn K (.ref f3) = true)
    {f4 : Addr} {oc4 kV4 dc4 pm4 cd4 ct4 : Value} {od4 an4 : Option Addr} {sl4 : Array (Option Value)}
    (a4 : PySem.W.nsIn K mainGlobals "lowest_terms" = some (some (.ref f4)))
    (l4 : K.lookup f4 = some ⟨oc4, od4, .func (PySem.W.fnOf "lowest_terms" "lowest_terms" (defArgs slowest_terms) (defBody slowest_terms) (defScope slowest_terms) .none kV4 dc4 pm4 an4 cd4 ct4), sl4⟩)
    (c4 : PySem.W.codeIn K cd4 "lowest_terms" = true)
    (k4 : PySem.W.keepIn K (.ref f4) = true)
    {f5 : Addr} {oc5 kV5 dc5 pm5 cd5 ct5 : Value} {od5 an5 : Option Addr} {sl5 : Array (Option Value)}
    (a5 : PySem.W.nsIn K mainGlobals "cleared" = some (some (.ref f5)))
    (l5 : K.lookup f5 = some ⟨oc5, od5, .func (PySem.W.fnOf "cleared" "cleared" (defArgs scleared) (defBody scleared) (defScope scleared) .none kV5 dc5 pm5 an5 cd5 ct5), sl5⟩)
    (c5 : PySem.W.codeIn K cd5 "cleared" = true)
    (k5 : PySem.W.keepIn K (.ref f5) = true)
    {f6 : Addr} {oc6 kV6 dc6 pm6 cd6 ct6 : Value} {od6 an6 : Option Addr} {sl6 : Array (Option Value)}
    (a6 : PySem.W.nsIn K mainGlobals "first_nonzero" = some (some (.ref f6)))
    (l6 : K.lookup f6 = some ⟨oc6, od6, .func (PySem.W.fnOf "first_nonzero" "first_nonzero" (defArgs sfirst_nonzero) (defBody sfirst_nonzero) (defScope sfirst_nonzero) .none kV6 dc6 pm6 an6 cd6 ct6), sl6⟩)
    (c6 : PySem.W.codeIn K cd6 "first_nonzero" = true)
    (k6 : PySem.W.keepIn K (.ref f6) = true)
    {f7 : Addr} {oc7 kV7 dc7 pm7 cd7 ct7 : Value} {od7 an7 : Option Addr} {sl7 : Array (Option Value)}
    (a7 : PySem.W.nsIn K mainGlobals "rest_of" = some (some (.ref f7)))
    (l7 : K.lookup f7 = some ⟨oc7, od7, .func (PySem.W.fnOf "rest_of" "rest_of" (defArgs srest_of) (defBody srest_of) (defScope srest_of) .none kV7 dc7 pm7 an7 cd7 ct7), sl7⟩)
    (c7 : PySem.W.codeIn K cd7 "rest_of" = true)
    (k7 : PySem.W.keepIn K (.ref f7) = true)
    {f8 : Addr} {oc8 kV8 dc8 pm8 cd8 ct8 : Value} {od8 an8 : Option Addr} {sl8 : Array (Option Value)}
    (a8 : PySem.W.nsIn K mainGlobals "extended" = some (some (.ref f8)))
    (l8 : K.lookup f8 = some ⟨oc8, od8, .func (PySem.W.fnOf "extended" "extended" (defArgs sextended) (defBody sextended) (defScope sextended) .none kV8 dc8 pm8 an8 cd8 ct8), sl8⟩)
    (c8 : PySem.W.codeIn K cd8 "extended" = true)
    (k8 : PySem.W.keepIn K (.ref f8) = true)
    {f9 : Addr} {oc9 kV9 dc9 pm9 cd9 ct9 : Value} {od9 an9 : Option Addr} {sl9 : Array (Option Value)}
    (a9 : PySem.W.nsIn K mainGlobals "echelon_of" = some (some (.ref f9)))
    (l9 : K.lookup f9 = some ⟨oc9, od9, .func (PySem.W.fnOf "echelon_of" "echelon_of" (defArgs sechelon_of) (defBody sechelon_of) (defScope sechelon_of) .none kV9 dc9 pm9 an9 cd9 ct9), sl9⟩)
    (c9 : PySem.W.codeIn K cd9 "echelon_of" = true)
    (k9 : PySem.W.keepIn K (.ref f9) = true)
    {f10 : Addr} {oc10 kV10 dc10 pm10 cd10 ct10 : Value} {od10 an10 : Option Addr} {sl10 : Array (Option Value)}
    (a10 : PySem.W.nsIn K mainGlobals "rank_of" = some (some (.ref f10)))
    (l10 : K.lookup f10 = some ⟨oc10, od10, .func (PySem.W.fnOf "rank_of" "rank_of" (defArgs srank_of) (defBody srank_of) (defScope srank_of) .none kV10 dc10 pm10 an10 cd10 ct10), sl10⟩)
    (c10 : PySem.W.codeIn K cd10 "rank_of" = true)
    (k10 : PySem.W.keepIn K (.ref f10) = true)
    {f11 : Addr} {oc11 kV11 dc11 pm11 cd11 ct11 : Value} {od11 an11 : Option Addr} {sl11 : Array (Option Value)}
    (a11 : PySem.W.nsIn K mainGlobals "_law_gcd" = some (some (.ref f11)))
    (l11 : K.lookup f11 = some ⟨oc11, od11, .func (PySem.W.fnOf "_law_gcd" "_law_gcd" (defArgs s_law_gcd) (defBody s_law_gcd) (defScope s_law_gcd) .none kV11 dc11 pm11 an11 cd11 ct11), sl11⟩)
    (c11 : PySem.W.codeIn K cd11 "_law_gcd" = true)
    (k11 : PySem.W.keepIn K (.ref f11) = true)
    {f12 : Addr} {oc12 kV12 dc12 pm12 cd12 ct12 : Value} {od12 an12 : Option Addr} {sl12 : Array (Option Value)}
    (a12 : PySem.W.nsIn K mainGlobals "_law_right" = some (some (.ref f12)))
    (l12 : K.lookup f12 = some ⟨oc12, od12, .func (PySem.W.fnOf "_law_right" "_law_right" (defArgs s_law_right) (defBody s_law_right) (defScope s_law_right) .none kV12 dc12 pm12 an12 cd12 ct12), sl12⟩)
    (c12 : PySem.W.codeIn K cd12 "_law_right" = true)
    (k12 : PySem.W.keepIn K (.ref f12) = true)
    {f13 : Addr} {oc13 kV13 dc13 pm13 cd13 ct13 : Value} {od13 an13 : Option Addr} {sl13 : Array (Option Value)}
    (a13 : PySem.W.nsIn K mainGlobals "least_multiple" = some (some (.ref f13)))
    (l13 : K.lookup f13 = some ⟨oc13, od13, .func (PySem.W.fnOf "least_multiple" "least_multiple" (defArgs sleast_multiple) (defBody sleast_multiple) (defScope sleast_multiple) .none kV13 dc13 pm13 an13 cd13 ct13), sl13⟩)
    (c13 : PySem.W.codeIn K cd13 "least_multiple" = true)
    (k13 : PySem.W.keepIn K (.ref f13) = true)
    {f14 : Addr} {oc14 kV14 dc14 pm14 cd14 ct14 : Value} {od14 an14 : Option Addr} {sl14 : Array (Option Value)}
    (a14 : PySem.W.nsIn K mainGlobals "common_multiple" = some (some (.ref f14)))
    (l14 : K.lookup f14 = some ⟨oc14, od14, .func (PySem.W.fnOf "common_multiple" "common_multiple" (defArgs scommon_multiple) (defBody scommon_multiple) (defScope scommon_multiple) .none kV14 dc14 pm14 an14 cd14 ct14), sl14⟩)
    (c14 : PySem.W.codeIn K cd14 "common_multiple" = true)
    (k14 : PySem.W.keepIn K (.ref f14) = true)
    {f15 : Addr} {oc15 kV15 dc15 pm15 cd15 ct15 : Value} {od15 an15 : Option Addr} {sl15 : Array (Option Value)}
    (a15 : PySem.W.nsIn K mainGlobals "combination" = some (some (.ref f15)))
    (l15 : K.lookup f15 = some ⟨oc15, od15, .func (PySem.W.fnOf "combination" "combination" (defArgs scombination) (defBody scombination) (defScope scombination) .none kV15 dc15 pm15 an15 cd15 ct15), sl15⟩)
    (c15 : PySem.W.codeIn K cd15 "combination" = true)
    (k15 : PySem.W.keepIn K (.ref f15) = true)
    {f16 : Addr} {oc16 kV16 dc16 pm16 cd16 ct16 : Value} {od16 an16 : Option Addr} {sl16 : Array (Option Value)}
    (a16 : PySem.W.nsIn K mainGlobals "_law_reduced" = some (some (.ref f16)))
    (l16 : K.lookup f16 = some ⟨oc16, od16, .func (PySem.W.fnOf "_law_reduced" "_law_reduced" (defArgs s_law_reduced) (defBody s_law_reduced) (defScope s_law_reduced) .none kV16 dc16 pm16 an16 cd16 ct16), sl16⟩)
    (c16 : PySem.W.codeIn K cd16 "_law_reduced" = true)
    (k16 : PySem.W.keepIn K (.ref f16) = true)
    {f17 : Addr} {oc17 kV17 dc17 pm17 cd17 ct17 : Value} {od17 an17 : Option Addr} {sl17 : Array (Option Value)}
    (a17 : PySem.W.nsIn K mainGlobals "_law_with" = some (some (.ref f17)))
    (l17 : K.lookup f17 = some ⟨oc17, od17, .func (PySem.W.fnOf "_law_with" "_law_with" (defArgs s_law_with) (defBody s_law_with) (defScope s_law_with) .none kV17 dc17 pm17 an17 cd17 ct17), sl17⟩)
    (c17 : PySem.W.codeIn K cd17 "_law_with" = true)
    (k17 : PySem.W.keepIn K (.ref f17) = true)
    {f18 : Addr} {oc18 kV18 dc18 pm18 cd18 ct18 : Value} {od18 an18 : Option Addr} {sl18 : Array (Option Value)}
    (a18 : PySem.W.nsIn K mainGlobals "_law_number" = some (some (.ref f18)))
    (l18 : K.lookup f18 = some ⟨oc18, od18, .func (PySem.W.fnOf "_law_number" "_law_number" (defArgs s_law_number) (defBody s_law_number) (defScope s_law_number) .none kV18 dc18 pm18 an18 cd18 ct18), sl18⟩)
    (c18 : PySem.W.codeIn K cd18 "_law_number" = true)
    (k18 : PySem.W.keepIn K (.ref f18) = true)
    {f19 : Addr} {oc19 kV19 dc19 pm19 cd19 ct19 : Value} {od19 an19 : Option Addr} {sl19 : Array (Option Value)}
    (a19 : PySem.W.nsIn K mainGlobals "_law_goal" = some (some (.ref f19)))
    (l19 : K.lookup f19 = some ⟨oc19, od19, .func (PySem.W.fnOf "_law_goal" "_law_goal" (defArgs s_law_goal) (defBody s_law_goal) (defScope s_law_goal) .none kV19 dc19 pm19 an19 cd19 ct19), sl19⟩)
    (c19 : PySem.W.codeIn K cd19 "_law_goal" = true)
    (k19 : PySem.W.keepIn K (.ref f19) = true)
    {f20 : Addr} {oc20 kV20 dc20 pm20 cd20 ct20 : Value} {od20 an20 : Option Addr} {sl20 : Array (Option Value)}
    (a20 : PySem.W.nsIn K mainGlobals "_law_row" = some (some (.ref f20)))
    (l20 : K.lookup f20 = some ⟨oc20, od20, .func (PySem.W.fnOf "_law_row" "_law_row" (defArgs s_law_row) (defBody s_law_row) (defScope s_law_row) .none kV20 dc20 pm20 an20 cd20 ct20), sl20⟩)
    (c20 : PySem.W.codeIn K cd20 "_law_row" = true)
    (k20 : PySem.W.keepIn K (.ref f20) = true)
    {f21 : Addr} {oc21 kV21 dc21 pm21 cd21 ct21 : Value} {od21 an21 : Option Addr} {sl21 : Array (Option Value)}
    (a21 : PySem.W.nsIn K mainGlobals "_law_cell" = some (some (.ref f21)))
    (l21 : K.lookup f21 = some ⟨oc21, od21, .func (PySem.W.fnOf "_law_cell" "_law_cell" (defArgs s_law_cell) (defBody s_law_cell) (defScope s_law_cell) .none kV21 dc21 pm21 an21 cd21 ct21), sl21⟩)
    (c21 : PySem.W.codeIn K cd21 "_law_cell" = true)
    (k21 : PySem.W.keepIn K (.ref f21) = true)
    {f22 : Addr} {oc22 kV22 dc22 pm22 cd22 ct22 : Value} {od22 an22 : Option Addr} {sl22 : Array (Option Value)}
    (a22 : PySem.W.nsIn K mainGlobals "_law_seed" = some (some (.ref f22)))
    (l22 : K.lookup f22 = some ⟨oc22, od22, .func (PySem.W.fnOf "_law_seed" "_law_seed" (defArgs s_law_seed) (defBody s_law_seed) (defScope s_law_seed) .none kV22 dc22 pm22 an22 cd22 ct22), sl22⟩)
    (c22 : PySem.W.codeIn K cd22 "_law_seed" = true)
    (k22 : PySem.W.keepIn K (.ref f22) = true)
    {f23 : Addr} {oc23 kV23 dc23 pm23 cd23 ct23 : Value} {od23 an23 : Option Addr} {sl23 : Array (Option Value)}
    (a23 : PySem.W.nsIn K mainGlobals "_law_times" = some (some (.ref f23)))
    (l23 : K.lookup f23 = some ⟨oc23, od23, .func (PySem.W.fnOf "_law_times" "_law_times" (defArgs s_law_times) (defBody s_law_times) (defScope s_law_times) .none kV23 dc23 pm23 an23 cd23 ct23), sl23⟩)
    (c23 : PySem.W.codeIn K cd23 "_law_times" = true)
    (k23 : PySem.W.keepIn K (.ref f23) = true)
    {f24 : Addr} {oc24 kV24 dc24 pm24 cd24 ct24 : Value} {od24 an24 : Option Addr} {sl24 : Array (Option Value)}
    (a24 : PySem.W.nsIn K mainGlobals "_law_base" = some (some (.ref f24)))
    (l24 : K.lookup f24 = some ⟨oc24, od24, .func (PySem.W.fnOf "_law_base" "_law_base" (defArgs s_law_base) (defBody s_law_base) (defScope s_law_base) .none kV24 dc24 pm24 an24 cd24 ct24), sl24⟩)
    (c24 : PySem.W.codeIn K cd24 "_law_base" = true)
    (k24 : PySem.W.keepIn K (.ref f24) = true)
    {f25 : Addr} {oc25 kV25 dc25 pm25 cd25 ct25 : Value} {od25 an25 : Option Addr} {sl25 : Array (Option Value)}
    (a25 : PySem.W.nsIn K mainGlobals "law" = some (some (.ref f25)))
    (l25 : K.lookup f25 = some ⟨oc25, od25, .func (PySem.W.fnOf "law" "law" (defArgs slaw) (defBody slaw) (defScope slaw) .none kV25 dc25 pm25 an25 cd25 ct25), sl25⟩)
    (c25 : PySem.W.codeIn K cd25 "law" = true)
    (k25 : PySem.W.keepIn K (.ref f25) = true)
    : ∃ T : Tx K mg, ∀ (s : Shared) (v : Value), BindsTo s T.fdlaw ⟨[v], []⟩ [("_law_script", v)] := by
  have F0 := fun_mk (st := s_law_is_integer) l0 c0 k0
  have b0 := F0.binds (ps := ["_law_actual"]) fun _ _ _ _ _ _ us hl => match us, hl with | [_], _ => rfl
  have F1 := fun_mk (st := s_law_is_rank) l1 c1 k1
  have b1 := F1.binds (ps := ["_law_actual", "_law_expected"]) fun _ _ _ _ _ _ us hl => match us, hl with | [_, _], _ => rfl
  have F2 := fun_mk (st := scommon_divisor) l2 c2 k2
  have b2 := F2.binds (ps := ["one", "other"]) fun _ _ _ _ _ _ us hl => match us, hl with | [_, _], _ => rfl
  have F3 := fun_mk (st := sdivisor_of) l3 c3 k3
  have b3 := F3.binds (ps := ["numbers"]) fun _ _ _ _ _ _ us hl => match us, hl with | [_], _ => rfl
  have F4 := fun_mk (st := slowest_terms) l4 c4 k4
  have b4 := F4.binds (ps := ["row"]) fun _ _ _ _ _ _ us hl => match us, hl with | [_], _ => rfl
  have F5 := fun_mk (st := scleared) l5 c5 k5
  have b5 := F5.binds (ps := ["row", "pivot", "index"]) fun _ _ _ _ _ _ us hl => match us, hl with | [_, _, _], _ => rfl
  have F6 := fun_mk (st := sfirst_nonzero) l6 c6 k6
  have b6 := F6.binds (ps := ["row"]) fun _ _ _ _ _ _ us hl => match us, hl with | [_], _ => rfl
  have F7 := fun_mk (st := srest_of) l7 c7 k7
  have b7 := F7.binds (ps := ["echelon", "row"]) fun _ _ _ _ _ _ us hl => match us, hl with | [_, _], _ => rfl
  have F8 := fun_mk (st := sextended) l8 c8 k8
  have b8 := F8.binds (ps := ["echelon", "row"]) fun _ _ _ _ _ _ us hl => match us, hl with | [_, _], _ => rfl
  have F9 := fun_mk (st := sechelon_of) l9 c9 k9
  have b9 := F9.binds (ps := ["rows"]) fun _ _ _ _ _ _ us hl => match us, hl with | [_], _ => rfl
  have F10 := fun_mk (st := srank_of) l10 c10 k10
  have b10 := F10.binds (ps := ["vectors"]) fun _ _ _ _ _ _ us hl => match us, hl with | [_], _ => rfl
  have q10 := kbn_of (ps := ["vectors"]) F10 fun _ _ _ _ _ _ ws hl => match ws, hl with | [_], _ => rfl
  have F11 := fun_mk (st := s_law_gcd) l11 c11 k11
  have b11 := F11.binds (ps := ["_law_one", "_law_other"]) fun _ _ _ _ _ _ us hl => match us, hl with | [_, _], _ => rfl
  have F12 := fun_mk (st := s_law_right) l12 c12 k12
  have b12 := F12.binds (ps := ["_law_answer", "_law_lists", "_law_aim", "_law_inside"]) fun _ _ _ _ _ _ us hl => match us, hl with | [_, _, _, _], _ => rfl
  have F13 := fun_mk (st := sleast_multiple) l13 c13 k13
  have b13 := F13.binds (ps := ["one", "other"]) fun _ _ _ _ _ _ us hl => match us, hl with | [_, _], _ => rfl
  have F14 := fun_mk (st := scommon_multiple) l14 c14 k14
  have b14 := F14.binds (ps := ["echelon"]) fun _ _ _ _ _ _ us hl => match us, hl with | [_], _ => rfl
  have F15 := fun_mk (st := scombination) l15 c15 k15
  have b15 := F15.binds (ps := ["vectors", "goal"]) fun _ _ _ _ _ _ us hl => match us, hl with | [_, _], _ => rfl
  have q15 := kbn_of (ps := ["vectors", "goal"]) F15 fun _ _ _ _ _ _ ws hl => match ws, hl with | [_, _], _ => rfl
  have F16 := fun_mk (st := s_law_reduced) l16 c16 k16
  have b16 := F16.binds (ps := ["_law_rows", "_law_vector"]) fun _ _ _ _ _ _ us hl => match us, hl with | [_, _], _ => rfl
  have F17 := fun_mk (st := s_law_with) l17 c17 k17
  have b17 := F17.binds (ps := ["_law_rows", "_law_vector"]) fun _ _ _ _ _ _ us hl => match us, hl with | [_, _], _ => rfl
  have F18 := fun_mk (st := s_law_number) l18 c18 k18
  have b18 := F18.binds (ps := ["_law_kind", "_law_numbers"]) fun _ _ _ _ _ _ us hl => match us, hl with | [_, _], _ => rfl
  have F19 := fun_mk (st := s_law_goal) l19 c19 k19
  have b19 := F19.binds (ps := ["_law_row_here", "_law_length", "_law_bases", "_law_lists"]) fun _ _ _ _ _ _ us hl => match us, hl with | [_, _, _, _], _ => rfl
  have F20 := fun_mk (st := s_law_row) l20 c20 k20
  have b20 := F20.binds (ps := ["_law_cell_here", "_law_many"]) fun _ _ _ _ _ _ us hl => match us, hl with | [_, _], _ => rfl
  have F21 := fun_mk (st := s_law_cell) l21 c21 k21
  have b21 := F21.binds (ps := ["_law_script", "_law_k"]) fun _ _ _ _ _ _ us hl => match us, hl with | [_, _], _ => rfl
  have F22 := fun_mk (st := s_law_seed) l22 c22 k22
  have b22 := F22.binds (ps := ["_law_script", "_law_k"]) fun _ _ _ _ _ _ us hl => match us, hl with | [_, _], _ => rfl
  have F23 := fun_mk (st := s_law_times) l23 c23 k23
  have b23 := F23.binds (ps := ["_law_row_here"]) fun _ _ _ _ _ _ us hl => match us, hl with | [_], _ => rfl
  have F24 := fun_mk (st := s_law_base) l24 c24 k24
  have b24 := F24.binds (ps := ["_law_row_here", "_law_length", "_law_earlier"]) fun _ _ _ _ _ _ us hl => match us, hl with | [_, _, _], _ => rfl
  have F25 := fun_mk (st := slaw) l25 c25 k25
  have b25 := F25.binds (ps := ["_law_script"]) fun _ _ _ _ _ _ us hl => match us, hl with | [_], _ => rfl
  exact ⟨{ n_abs := PySem.W.mg_none_of X G z0, n_bool := PySem.W.mg_none_of X G z1, n_enumerate := PySem.W.mg_none_of X G z2, n_int := PySem.W.mg_none_of X G z3, n_isinstance := PySem.W.mg_none_of X G z4, n_len := PySem.W.mg_none_of X G z5, n_list := PySem.W.mg_none_of X G z6, n_range := PySem.W.mg_none_of X G z7, n_sum := PySem.W.mg_none_of X G z8, n_tuple := PySem.W.mg_none_of X G z9, n_zip := PySem.W.mg_none_of X G z10, f_law_is_integer := f0, fd_law_is_integer := _, F_law_is_integer := F0, b_law_is_integer := b0, g_law_is_integer := PySem.W.mg_of X G a0, f_law_is_rank := f1, fd_law_is_rank := _, F_law_is_rank := F1, b_law_is_rank := b1, g_law_is_rank := PySem.W.mg_of X G a1, fcommon_divisor := f2, fdcommon_divisor := _, Fcommon_divisor := F2, bcommon_divisor := b2, gcommon_divisor := PySem.W.mg_of X G a2, fdivisor_of := f3, fddivisor_of := _, Fdivisor_of := F3, bdivisor_of := b3, gdivisor_of := PySem.W.mg_of X G a3, flowest_terms := f4, fdlowest_terms := _, Flowest_terms := F4, blowest_terms := b4, glowest_terms := PySem.W.mg_of X G a4, fcleared := f5, fdcleared := _, Fcleared := F5, bcleared := b5, gcleared := PySem.W.mg_of X G a5, ffirst_nonzero := f6, fdfirst_nonzero := _, Ffirst_nonzero := F6, bfirst_nonzero := b6, gfirst_nonzero := PySem.W.mg_of X G a6, frest_of := f7, fdrest_of := _, Frest_of := F7, brest_of := b7, grest_of := PySem.W.mg_of X G a7, fextended := f8, fdextended := _, Fextended := F8, bextended := b8, gextended := PySem.W.mg_of X G a8, fechelon_of := f9, fdechelon_of := _, Fechelon_of := F9, bechelon_of := b9, gechelon_of := PySem.W.mg_of X G a9, frank_of := f10, fdrank_of := _, Frank_of := F10, brank_of := b10, grank_of := PySem.W.mg_of X G a10, krank_of := q10, f_law_gcd := f11, fd_law_gcd := _, F_law_gcd := F11, b_law_gcd := b11, g_law_gcd := PySem.W.mg_of X G a11, f_law_right := f12, fd_law_right := _, F_law_right := F12, b_law_right := b12, g_law_right := PySem.W.mg_of X G a12, fleast_multiple := f13, fdleast_multiple := _, Fleast_multiple := F13, bleast_multiple := b13, gleast_multiple := PySem.W.mg_of X G a13, fcommon_multiple := f14, fdcommon_multiple := _, Fcommon_multiple := F14, bcommon_multiple := b14, gcommon_multiple := PySem.W.mg_of X G a14, fcombination := f15, fdcombination := _, Fcombination := F15, bcombination := b15, gcombination := PySem.W.mg_of X G a15, kcombination := q15, f_law_reduced := f16, fd_law_reduced := _, F_law_reduced := F16, b_law_reduced := b16, g_law_reduced := PySem.W.mg_of X G a16, f_law_with := f17, fd_law_with := _, F_law_with := F17, b_law_with := b17, g_law_with := PySem.W.mg_of X G a17, f_law_number := f18, fd_law_number := _, F_law_number := F18, b_law_number := b18, g_law_number := PySem.W.mg_of X G a18, f_law_goal := f19, fd_law_goal := _, F_law_goal := F19, b_law_goal := b19, g_law_goal := PySem.W.mg_of X G a19, f_law_row := f20, fd_law_row := _, F_law_row := F20, b_law_row := b20, g_law_row := PySem.W.mg_of X G a20, f_law_cell := f21, fd_law_cell := _, F_law_cell := F21, b_law_cell := b21, g_law_cell := PySem.W.mg_of X G a21, f_law_seed := f22, fd_law_seed := _, F_law_seed := F22, b_law_seed := b22, g_law_seed := PySem.W.mg_of X G a22, f_law_times := f23, fd_law_times := _, F_law_times := F23, b_law_times := b23, g_law_times := PySem.W.mg_of X G a23, f_law_base := f24, fd_law_base := _, F_law_base := F24, b_law_base := b24, g_law_base := PySem.W.mg_of X G a24, flaw := f25, fdlaw := _, Flaw := F25, blaw := b25, glaw := PySem.W.mg_of X G a25 }, fun s v => .of_eq rfl⟩
end K34

namespace Ln
open PySem PySem.Spec L2 PD LA
theorem imm_dats34 : ∀ ds : List D, immOs (ds.map .dat) = immDs ds
  | [] => rfl
  | d :: ds => by show (immD d && immOs (ds.map .dat)) = _; rw [imm_dats34 ds]; rfl
theorem imm_ints34 : ∀ r : List Int, immDs (r.map .int) = true
  | [] => rfl
  | _ :: r => imm_ints34 r
theorem immH_ints34 (r : List Int) : immH (O.dats (r.map .int)) = some (O.dats (r.map .int)) := if_pos (by
  show immOs ((r.map D.int).map .dat) = true
  rw [imm_dats34, imm_ints34])
theorem set_dats34 (v : List Int) (k : Nat) (y : Int) : O.lst (((v.map D.int).map O.dat).set k (.dat (.int y))) = O.dats ((v.set k y).map .int) := by
  unfold O.dats
  rw [List.map_set, List.map_set]
theorem rep_ints34 : ∀ n : Nat, (List.replicate n [D.int 0]).flatten = (List.replicate n (0 : Int)).map .int
  | 0 => rfl
  | n + 1 => by rw [List.replicate_succ, List.flatten_cons, rep_ints34 n]; rfl
theorem rep_run34 {fb : Ev → Option D} {ρ : Ev} {n : Nat} (hn : n ≤ 1000) (h : fb ρ = some (.int n)) : repO (aCons (kI 0) aNil) fb ρ = some (O.dats ((List.replicate n (0 : Int)).map .int)) := by
  unfold repO
  rw [show (aCons (kI 0) aNil) ρ = some [.int 0] from rfl, Option.bind_some, h, Option.bind_some]
  have hs : ([D.int 0].length ≤ sizeLine ∧ (-(2 ^ 63) ≤ (n : Int) ∧ (n : Int) < 2 ^ 63) ∧ [D.int 0].length * (n : Int).toNat ≤ sizeLine) := by
    refine ⟨by decide, ⟨by omega, by omega⟩, ?_⟩
    refine line_of ?_
    show 1 * (n : Int).toNat ≤ 1000000
    omega
  simp only []
  rw [if_pos hs, Int.toNat_natCast, rep_ints34]
  rfl
def ownl34 (e : LE) : List Int := e.map fun x => ((x.1 : Nat) : Int)
def fvec (m : Nat) (D : Int) (e : LE) : List Int := e.foldl (fun v x => v.set x.1 (vc x.2 m * D.fdiv (vc x.2 x.1))) (List.replicate m 0)
def rowsD (t : List (List Int)) : D := .lst (t.map fun r => .lst (r.map .int))
def eqs (n : Nat) (vs : List (List Int)) (g : List Int) : List (List Int) := (List.range n).map fun i => (vs.map fun v => vc v i) ++ [vc g i]
end Ln
namespace LA
theorem fvec_ok {M m : Nat} {st : Ech} {e : LE} (h : EchOk M (m + 1) st e) (hml : m ∉ leads st) {D : Int} (hD : ∀ x ∈ e, vc x.2 x.1 ∣ D) : ∀ i, i ≤ e.length →
    (Ln.fvec m D (e.take i)).length = m ∧ ∀ k, k < m → vc (Ln.fvec m D (e.take i)) k = - vc (bvec m D (e.take i) (m + 1)) k
  | 0, _ => by
    refine ⟨by simp [Ln.fvec], fun k hk => ?_⟩
    show vc (List.replicate m 0) k = - vc ((List.replicate (m + 1) 0).set m D) k
    rw [vc_set (by simp), if_neg (by omega), vc_rep, vc_rep]; rfl
  | i + 1, hi => by
    obtain ⟨a, b⟩ := fvec_ok h hml hD i (by omega)
    obtain ⟨a1, a2, a3, a4⟩ := bvec_ok h (show m < m + 1 by omega) hml D i (by omega)
    have hx : e[i] ∈ e := List.getElem_mem _
    have hxl := h.lt _ (h.mem hx)
    have hxm : e[i].1 ≠ m := fun z => hml (z ▸ h.mem hx)
    rw [List.take_succ_eq_append_getElem (by omega)]
    unfold Ln.fvec bvec at *
    rw [List.foldl_append, List.foldl_append]
    generalize (e.take i).foldl _ (List.replicate m (0 : Int)) = F at *
    generalize (e.take i).foldl _ ((List.replicate (m + 1) (0 : Int)).set m D) = V at *
    refine ⟨by simp [a], fun k hk => ?_⟩
    show vc (F.set e[i].1 (vc e[i].2 m * D.fdiv (vc e[i].2 e[i].1))) k = - vc (V.set e[i].1 (-(vc e[i].2 m) * (vc V m).fdiv (vc e[i].2 e[i].1))) k
    rw [vc_set (by omega), vc_set (by omega), a2]
    split
    · grind
    · exact b k hk
end LA
namespace K34
open PySem PySem.Spec L2 PD LA Ln
theorem eqs_vc {n : Nat} {vs : List (List Int)} {g : List Int} (i : Nat) : ∀ k, k < vs.length → vc ((vs.map fun v => vc v i) ++ [vc g i]) k = vc (vs.getD k []) i := fun k hk => by
  rw [vc_eq (by simp; omega), List.getElem_append_left (by simpa using hk)]
  simp [List.getD_eq_getElem?_getD, hk]
theorem eqs_last {vs : List (List Int)} {g : List Int} (i : Nat) : vc ((vs.map fun v => vc v i) ++ [vc g i]) vs.length = vc g i := by
  rw [vc_eq (by simp)]
  simp
structure InOk (n m : Nat) (vs : List (List Int)) (g : List Int) : Prop where
  hn : n ≤ 8
  hm : m ≤ 9
  vl : vs.length = m
  vi : ∀ v ∈ vs, v.length = n ∧ ∀ k, (vc v k).natAbs ≤ MM
  gl_ : g.length = n
  gb : ∀ k, (vc g k).natAbs ≤ MM
theorem InOk.eq {n m : Nat} {vs : List (List Int)} {g : List Int} (h : InOk n m vs g) : ∀ r ∈ eqs n vs g, r.length = m + 1 ∧ ∀ k, (vc r k).natAbs ≤ MM := fun r hr => by
  obtain ⟨i, hi, rfl⟩ := List.mem_map.mp hr
  refine ⟨by simp [h.vl], fun k => ?_⟩
  by_cases k1 : k < vs.length
  · rw [eqs_vc (n := n) i k k1, List.getD_eq_getElem?_getD, List.getElem?_eq_getElem k1]
    exact (h.vi _ (List.getElem_mem _)).2 i
  · by_cases k2 : k = vs.length
    · rw [k2, eqs_last]; exact h.gb i
    · rw [vc_out (by simp; omega)]; exact Nat.zero_le _
theorem dot_eq {n m : Nat} {vs : List (List Int)} {g : List Int} (hl : vs.length = m) (i : Nat) (w : Vec) : dot (m + 1) (vc ((vs.map fun v => vc v i) ++ [vc g i])) w = ((List.range m).map fun k => w k * vc (vs.getD k []) i).sum + vc g i * w m := by
  unfold dot
  rw [List.range_succ, List.map_append, List.sum_append]
  congr 1
  · congr 1
    apply List.map_congr_left
    intro k hk
    rw [eqs_vc (n := n) i k (by have : k < m := by simpa using hk
                                omega)]
    exact Int.mul_comm _ _
  · simp only [List.map_cons, List.map_nil, List.sum_cons, List.sum_nil]
    rw [← hl, eqs_last]; omega
/-- a lead in the last column: no combination -/
theorem no_comb {n m : Nat} {vs : List (List Int)} {g : List Int} (h : InOk n m vs g) {st : Ech} (ok : EchOk MM (m + 1) st (echl (eqs n vs g))) (hr : ∀ r ∈ rows st, ∃ i, i < n ∧ r = vc ((vs.map fun v => vc v i) ++ [vc g i])) (hml : m ∈ leads st) : ¬ InS (vs.map vc) (vc g) := by
  intro hin
  obtain ⟨N, cs, hN, hl, e⟩ := InS.coef hin
  have hl' : cs.length = vs.length := by simpa using hl
  have : m ∈ (echl (eqs n vs g)).map (·.1) := by rw [ok.ls]; exact List.mem_reverse.mpr hml
  obtain ⟨x, hx, hx1⟩ := List.mem_map.mp this
  have last := echl_last (m := m) h.eq (eqs n vs g).length (Nat.le_refl _) x (by rw [List.take_length]; exact hx) hx1
  have xm : vc x.2 m ≠ 0 := by have := ok.pv x hx; rwa [hx1] at this
  have hw : ∀ b ∈ rows st, dot (m + 1) b (fun k => if k = m then -N else vc cs k) = 0 := fun b hb => by
    obtain ⟨i, hi, rfl⟩ := hr b hb
    rw [dot_eq (n := n) h.vl i, if_pos rfl]
    have e1 : ((List.range m).map fun k => (if k = m then -N else vc cs k) * vc (vs.getD k []) i).sum = lc cs (vs.map vc) i := by
      rw [← lc_sum cs vs i hl', h.vl]
      congr 1
      apply List.map_congr_left
      intro k hk
      have : k < m := by simpa using hk
      rw [if_neg (by omega)]
    rw [e1, ← e i]; grind
  have h1 := InS.orth hw (ok.sp x hx)
  have h2 : dot (m + 1) (vc x.2) (fun k => if k = m then -N else vc cs k) = vc x.2 m * -N := by
    unfold dot
    rw [sum_one (a := m) List.nodup_range (by simp) (fun k hk hne => by
      have : k < m + 1 := by simpa using hk
      rw [last k (by omega)]; simp)]
    simp
  rw [h2] at h1
  rcases Int.mul_eq_zero.mp h1 with z | z
  · exact xm z
  · omega
/-- what a combination is -/
structure Cmb (n m : Nat) (vs : List (List Int)) (g : List Int) (fs : List Int) (dv : Int) : Prop where
  fl : fs.length = m
  pos : 1 ≤ dv
  one : gl (dv :: fs) = 1
  sum : ∀ i, i < n → ((List.range m).map fun k => vc fs k * vc (vs.getD k []) i).sum = vc g i * dv
  fb : ∀ k, (vc fs k).natAbs < 2 ^ 6500
  db : dv.natAbs < 2 ^ 6500
theorem Cmb.ins {n m : Nat} {vs : List (List Int)} {g : List Int} {fs : List Int} {dv : Int} (h : InOk n m vs g) (c : Cmb n m vs g fs dv) : InS (vs.map vc) (vc g) := by
  refine InS.div (N := dv) (by have := c.pos; omega) ((lc_span fs (vs.map vc)).ext fun k => ?_)
  rw [← lc_sum fs vs k (by rw [c.fl, h.vl]), h.vl]
  by_cases hk : k < n
  · rw [c.sum k hk]; exact Int.mul_comm _ _
  · rw [vc_out (r := g) (by rw [h.gl_]; omega)]
    rw [sum_zero fun j hj => by
      have : j < vs.length := by have : j < m := by simpa using hj
                                 rw [h.vl]; omega
      rw [List.getD_eq_getElem?_getD, List.getElem?_eq_getElem this, Option.getD_some, vc_out (r := vs[j]) (k := k) (by rw [(h.vi _ (List.getElem_mem _)).1]; omega)]; simp]
    simp
theorem eqs_run {n m : Nat} {vs : List (List Int)} {g : List Int} (h : InOk n m vs g) {psi : List Int → D} (hpsi : ∀ r, Rw (psi r) r) {d dg : D} (hd : seqD d = some (vs.map psi)) (hg : Rw dg g) (x2 x3 x4 x5 x6 x7 x8 x9 x12 : O) :
    lcD (rng1 (cB (aCons (gv 1) aNil) lenD)) (gN 10) yes (b2 (lcD (iOf (gv 0)) (gN 11) yes (b2 (gv 11) (gv 10) ixD) [11]) (mkLst (aCons (b2 (gv 1) (gv 10) ixD) aNil)) addA) [10] [.dat d, .dat dg, x2, x3, x4, x5, x6, x7, x8, x9, .unk, .unk, x12] = some (rowsD (eqs n vs g)) := by
  have h1 := h.hn
  have h2 := h.hm
  have hv := h.vl
  have hgl := h.gl_
  have hlen := hg.len
  rw [hgl] at hlen
  have el := lc_map (fi := rng1 (cB (aCons (gv 1) aNil) lenD)) (gt := gN 10) (f := b2 (lcD (iOf (gv 0)) (gN 11) yes (b2 (gv 11) (gv 10) ixD) [11]) (mkLst (aCons (b2 (gv 1) (gv 10) ixD) aNil)) addA) (vs := [10])
    (ρ := [.dat d, .dat dg, x2, x3, x4, x5, x6, x7, x8, x9, .unk, .unk, x12]) (φ := fun k : Nat => .int (k : Int)) (fun i : Nat => .lst (((vs.map fun v => vc v i) ++ [vc g i]).map .int)) (xs := List.range n) rfl
    (by
      show rng1 _ [_, .dat dg, _, _, _, _, _, _, _, _, _, _, _] = _
      have hh : ((n : Nat) : Int) < 4611686018427387904 ∧ -4611686018427387904 ≤ ((n : Nat) : Int) := by omega
      (simp (disch := first | assumption | omega) only [hlen, range0, MV, MW])
      rfl) (by simp; omega) fun i hi => ⟨_, rfl, by
      have hi : i < n := by simpa using hi
      have e1 := lc_map (fi := iOf (gv 0)) (gt := gN 11) (f := b2 (gv 11) (gv 10) ixD) (vs := [11]) (ρ := [.dat d, .dat dg, x2, x3, x4, x5, x6, x7, x8, x9, .dat (.int (i : Nat)), .unk, x12]) (φ := psi) (fun v => .int (vc v i)) (xs := vs) rfl (iof rfl hd) (by omega) fun v hvm => ⟨_, rfl, by
        have := (hpsi v).ix (k := i) (by rw [(h.vi v hvm).1]; exact hi)
        show b2 _ _ _ [_, _, _, _, _, _, _, _, _, _, .dat (.int (i : Nat)), .dat (psi v), _] = _
        (simp (disch := first | assumption | omega) only [this, MV, MW])⟩
      have e2 := hg.ix (k := i) (by omega)
      have e3 : vs.map (fun v => D.int (vc v i)) = (vs.map fun v => vc v i).map .int := by rw [List.map_map]; rfl
      rw [e3] at e1
      have hl : ((vs.map fun v => vc v i).map D.int).length + [D.int (vc g i)].length ≤ 1000000 := by simp; omega
      have e4 := ev_catL hl
      show b2 (lcD _ _ _ _ _) _ _ [.dat d, .dat dg, x2, x3, x4, x5, x6, x7, x8, x9, .dat (.int (i : Nat)), .unk, x12] = _
      (simp (disch := first | assumption | omega) only [e1, e2, e4, MV, MW])⟩
  rw [el]
  unfold eqs rowsD
  rw [List.map_map]
  rfl
end K34

namespace K34
open PySem PySem.Spec L2 PD LA Ln
theorem toD_pair (fs : List Int) (dv : Int) : (O.tup [.dats (fs.map .int), .dat (.int dv)]).toD = some (.tup [.lst (fs.map .int), .int dv]) := by
  unfold O.toD O.toDs
  rw [toD_dats]
  rfl
theorem comb_run {n m : Nat} {vs : List (List Int)} {g : List Int} (h : InOk n m vs g) {psi : List Int → D} (hpsi : ∀ r, Rw (psi r) r) {d dg : D} (hd : seqD d = some (vs.map psi)) (hdl : lenD [d] = some (.int m)) (hg : Rw dg g) :
    (¬ InS (vs.map vc) (vc g) ∧ mcombination [d, dg] = some (.dat .non)) ∨ ∃ fs dv, Cmb n m vs g fs dv ∧ mcombination [d, dg] = some (.tup [.dats (fs.map .int), .dat (.int dv)]) := by
  have h1 := h.hn
  have h2 := h.hm
  have hv := h.vl
  have hgl := h.gl_
  have e1 := echl_run (n := m + 1) (by omega) (rs := eqs n vs g) (psi := fun r => .lst (r.map .int)) (fun r => .inl rfl) (d := rowsD (eqs n vs g)) rfl h.eq
  obtain ⟨st, ok, gd⟩ := echl_ok h.eq (eqs n vs g).length (Nat.le_refl _)
  rw [List.take_length] at ok gd
  have e2 := cm_run ok (by omega)
  have hel := ok.elen
  have hstl := leads_le ok.good ok.lt
  have hown : ∀ k : Nat, (((k : Nat) : Int) ∈ ownl34 (echl (eqs n vs g))) ↔ k ∈ leads st := fun k => by
    have : k ∈ leads st ↔ k ∈ (echl (eqs n vs g)).map (·.1) := by rw [ok.ls]; exact List.mem_reverse.symm
    unfold ownl34
    rw [this, List.mem_map, List.mem_map]
    constructor
    · rintro ⟨x, hx, q⟩; exact ⟨x, hx, by omega⟩
    · rintro ⟨x, hx, q⟩; exact ⟨x, hx, by omega⟩
  have hrows : ∀ r ∈ rows st, ∃ i, i < n ∧ r = vc ((vs.map fun v => vc v i) ++ [vc g i]) := fun r hr => by
    have := gd.sub.subset hr
    rw [List.mem_reverse] at this
    obtain ⟨q, hq, rfl⟩ := List.mem_map.mp this
    obtain ⟨i, hi, rfl⟩ := List.mem_map.mp hq
    exact ⟨i, by simpa using hi, rfl⟩
  have nc := no_comb h ok hrows
  have hspan : ∀ i, i < n → InS (rows st) (vc ((vs.map fun v => vc v i) ++ [vc g i])) := fun i hi => gd.span _ (List.mem_reverse.mpr (List.mem_map_of_mem (List.mem_map_of_mem (f := fun i => (vs.map fun v => vc v i) ++ [vc g i]) (by simpa using hi))))
  have eqr := eqs_run h hpsi hd hg
  generalize echl (eqs n vs g) = e at *
  -- the walk down to the test
  have q0 : ∀ (R : O → Prop), (m ∈ leads st → R (.dat .non)) → (m ∉ leads st → Rn (sq (stV 5 (cB (aCons (gv 4) aNil) (len? 1 (mcommon_multiple))))
    (sq (stO 6 (repO (aCons (kI 0) aNil) (gv 2)))
    (sq (forS (iOf (gv 4)) (gT 2 (gsC (gN 7) (gsC (gN 8) gsN))) (setP 6 plN (gv 7) (thaw (b2 (b2 (gv 8) (gv 2) ixD) (b2 (gv 5) (b2 (gv 8) (gv 7) ixD) divX) mulA))))
    (sq (fz 6 (stV 9 (cB (aCons (b2 (mkLst (aCons (gv 5) aNil)) (gv 6) addA) aNil) (len? 1 (mdivisor_of)))))
    (rtM (mTup (mCons (stay (vwO (lcO (iOf (gv 6)) (gN 12) yes (b2 (gv 12) (gv 9) divX) [12]))) (mCons (stay (thaw (b2 (gv 5) (gv 9) divX))) mNil))))))))
      [.dat d, .dat dg, .dat (.int m), .dat (rowsD (eqs n vs g)), .dat (.lst (e.map phi)), .unk, .unk, .unk, .unk, .unk, .unk, .unk, .unk] fun r => ∃ o, outO r = some o ∧ R o) → ∃ o, mcombination [d, dg] = some o ∧ R o := fun R k1 k2 => by
    refine runO_of ?_
    unfold bcombination
    show Rn _ [.dat d, .dat dg, .unk, .unk, .unk, .unk, .unk, .unk, .unk, .unk, .unk, .unk, .unk] _
    refine Rn.sqst (d := .int m) (by show cB _ _ [.dat d, _, _, _, _, _, _, _, _, _, _, _, _] = _; (simp (disch := first | assumption | omega) only [hdl, MV, MW])) ?_
    refine Rn.sqst (d := rowsD (eqs n vs g)) (eqr (.dat (.int m)) .unk .unk .unk .unk .unk .unk .unk .unk) ?_
    have e1' : mechelon_of [rowsD (eqs n vs g)] = some (.lst (e.map phi)) := e1
    refine Rn.sqst (d := .lst (e.map phi)) (by show cB _ _ [_, _, _, .dat (rowsD (eqs n vs g)), _, _, _, _, _, _, _, _, _] = _; (simp (disch := first | assumption | omega) only [e1', MV, MW])) ?_
    have e3 := lc_map (fi := iOf (gv 4)) (gt := gT 2 (gsC (gN 7) (gsC (gN 8) gsN))) (f := gv 7) (vs := [7, 8]) (ρ := [.dat d, .dat dg, .dat (.int m), .dat (rowsD (eqs n vs g)), .dat (.lst (e.map phi)), .unk, .unk, .unk, .unk, .unk, .unk, .unk, .unk]) (φ := phi) (fun x => .int (x.1 : Nat)) (xs := e) rfl rfl (by omega) fun x hx => ⟨_, rfl, rfl⟩
    have e4 : e.map (fun x => D.int (x.1 : Nat)) = (ownl34 e).map .int := by unfold ownl34; rw [List.map_map]; rfl
    rw [e4] at e3
    have q := in_ints ((m : Nat) : Int) (ownl34 e)
    have q2 : inD (.int (m : Nat)) (.lst ((ownl34 e).map .int)) = some (.bl (decide (((m : Nat) : Int) ∈ ownl34 e))) := by unfold inD; rw [q]; rfl
    refine Rn.sqif (p := ((m : Nat) : Int) ∈ ownl34 e) (by
      show asB (b2 (gv 2) (lcD _ _ _ _ _) inD) [.dat d, .dat dg, .dat (.int m), .dat (rowsD (eqs n vs g)), .dat (.lst (e.map phi)), .unk, .unk, .unk, .unk, .unk, .unk, .unk, .unk] = _
      (simp (disch := first | assumption | omega) only [e3, q2, MV, MW])) (fun hm => ?_) fun hm => ?_
    · exact Rn.sq (Rn.rtM (o := .dat .non) rfl ⟨_, rfl, k1 ((hown m).mp hm)⟩)
    · exact Rn.sqskip (k2 fun z => hm ((hown m).mpr z))
  by_cases hml : m ∈ leads st
  · obtain ⟨o, eo, ho⟩ := q0 (fun o => o = .dat .non) (fun _ => rfl) (fun z => absurd hml z)
    exact .inl ⟨nc hml, by rw [eo, ho]⟩
  · right
    have hdv : ∀ x ∈ e, vc x.2 x.1 ∣ ((cm e : Nat) : Int) := fun x hx => by
      have d := dvd_cm (e := e) e.length (Nat.le_refl _) x (by rw [List.take_length]; exact hx)
      rw [List.take_length] at d
      exact Int.natAbs_dvd.mp (Int.ofNat_dvd.mpr d)
    have cp := cm_pos ok.pv e.length (Nat.le_refl _)
    rw [List.take_length] at cp
    have cb : (cm e : Nat) < 2 ^ 2400 := by
      have hd : ∀ x ∈ e, (vc x.2 x.1).natAbs ∣ (piv st).natAbs := fun x hx => Int.natAbs_dvd_natAbs.mpr (ok.pdvd hx)
      have c1 := cm_dvd hd e.length (Nat.le_refl _)
      rw [List.take_length] at c1
      have pn := piv_nz ok.good
      have := Nat.le_of_dvd (by omega) c1
      refine Nat.lt_of_le_of_lt (Nat.le_trans this ok.pvle) ((by decide +kernel : ∀ m, m < 12 → Bd MM m < 2 ^ 2400) _ (by omega))
    have qb : ∀ x ∈ e, (((cm e : Nat) : Int).fdiv (vc x.2 x.1)).natAbs < 2 ^ 2400 := fun x hx => by
      have pv := ok.pv _ hx
      obtain ⟨t, ht⟩ := hdv x hx
      have e9 : ((cm e : Nat) : Int).fdiv (vc x.2 x.1) = t := by rw [ht, Int.mul_fdiv_cancel_left _ pv]
      rw [e9]
      have : ((cm e : Nat) : Int).natAbs = (vc x.2 x.1).natAbs * t.natAbs := by rw [ht, Int.natAbs_mul]
      have h1 : t.natAbs ≤ (vc x.2 x.1).natAbs * t.natAbs := Nat.le_mul_of_pos_left _ (by omega)
      have h2 : ((cm e : Nat) : Int).natAbs = cm e := Int.natAbs_natCast _
      omega
    obtain ⟨f1, f2⟩ := fvec_ok ok hml hdv e.length (Nat.le_refl _)
    obtain ⟨a1, a2, a3, a4⟩ := bvec_ok ok (show m < m + 1 by omega) hml (cm e : Nat) e.length (Nat.le_refl _)
    rw [List.take_length] at f1 f2 a1 a2 a3 a4
    have orth := bvec_orth ok (show m < m + 1 by omega) hml
    -- the sums
    have sums : ∀ i, i < n → ((List.range m).map fun k => vc (fvec m (cm e : Nat) e) k * vc (vs.getD k []) i).sum = vc g i * (cm e : Nat) := fun i hi => by
      have o1 := ok.orth orth (hspan i hi)
      rw [dot_eq (n := n) hv i, a2] at o1
      have : ((List.range m).map fun k => vc (bvec m (cm e : Nat) e (m + 1)) k * vc (vs.getD k []) i) = (List.range m).map fun k => (-1) * (vc (fvec m (cm e : Nat) e) k * vc (vs.getD k []) i) + 0 * 0 := by
        apply List.map_congr_left
        intro k hk
        rw [f2 k (by simpa using hk)]; grind
      rw [this, sum_lin] at o1
      omega
    have Fb : ∀ k, (vc (fvec m (cm e : Nat) e) k).natAbs < 2 ^ 6500 := fun k => by
      by_cases hk : k < m
      · rw [f2 k hk, Int.natAbs_neg]
        by_cases k2 : k ∈ e.map (·.1)
        · obtain ⟨x, hx, rfl⟩ := List.mem_map.mp k2
          rw [a3 x hx]
          have hm := mul_lt (i := -(vc x.2 m)) (a := 4000) (by rw [Int.natAbs_neg]; exact ech_small ok (by omega) hx m) (qb x hx)
          exact Nat.lt_trans hm (Nat.pow_lt_pow_right (by decide) (by decide))
        · rw [a4 k (by omega) k2]
          exact Nat.pow_pos (by decide)
      · rw [vc_out (by omega)]; exact Nat.pow_pos (by decide)
    -- the parts
    have hmul := low_mul (((cm e : Nat) : Int) :: fvec m (cm e : Nat) e)
    have hone := low_pm (((cm e : Nat) : Int) :: fvec m (cm e : Nat) e) ⟨0, by show ((cm e : Nat) : Int) ≠ 0; omega⟩
    have hgl0 : gl (((cm e : Nat) : Int) :: fvec m (cm e : Nat) e) ≠ 0 := fun z => by
      have := gl_zero z 0
      have : ((cm e : Nat) : Int) = 0 := this
      omega
    have hgb : gl (((cm e : Nat) : Int) :: fvec m (cm e : Nat) e) < 2 ^ 2400 := by
      have h1 := gl_dvd (ns := ((cm e : Nat) : Int) :: fvec m (cm e : Nat) e) (x := ((cm e : Nat) : Int)) List.mem_cons_self
      rw [Int.natAbs_natCast] at h1
      have := Nat.le_of_dvd cp h1
      omega
    have elow : low (((cm e : Nat) : Int) :: fvec m (cm e : Nat) e) = ((cm e : Nat) : Int).fdiv (gl (((cm e : Nat) : Int) :: fvec m (cm e : Nat) e) : Nat) :: (fvec m (cm e : Nat) e).map fun x => x.fdiv (gl (((cm e : Nat) : Int) :: fvec m (cm e : Nat) e) : Nat) := by
      unfold low
      rw [if_neg hgl0]; rfl
    have hgd : ∀ x ∈ ((cm e : Nat) : Int) :: fvec m (cm e : Nat) e, ((gl (((cm e : Nat) : Int) :: fvec m (cm e : Nat) e) : Nat) : Int) ∣ x := fun x hx => Int.dvd_natAbs.mp (Int.ofNat_dvd.mpr (gl_dvd hx))
    have f0 : fvec m (cm e : Nat) e = e.foldl (fun v x => v.set x.1 (vc x.2 m * ((cm e : Nat) : Int).fdiv (vc x.2 x.1))) (List.replicate m 0) := rfl
    have f3 := fvec_ok ok hml hdv
    generalize hG : gl (((cm e : Nat) : Int) :: fvec m (cm e : Nat) e) = G at *
    refine ⟨(fvec m (cm e : Nat) e).map fun x => x.fdiv (G : Nat), ((cm e : Nat) : Int).fdiv (G : Nat), ?_, ?_⟩
    · have Gd0 : ((G : Nat) : Int) ≠ 0 := by omega
      have dvG : ((cm e : Nat) : Int) = (G : Nat) * ((cm e : Nat) : Int).fdiv (G : Nat) := (Int.mul_fdiv_cancel' (hgd _ List.mem_cons_self)).symm
      have fvG : ∀ k, vc (fvec m (cm e : Nat) e) k = (G : Nat) * vc ((fvec m (cm e : Nat) e).map fun x => x.fdiv (G : Nat)) k := fun k => by
        rw [vc_map (by simp)]
        by_cases z : vc (fvec m (cm e : Nat) e) k = 0
        · rw [z]; simp
        · exact (Int.mul_fdiv_cancel' (hgd _ (List.mem_cons_of_mem _ (vc_mem z)))).symm
      refine ⟨by simp [f1], ?_, by rw [← elow]; exact hone, fun i hi => ?_, fun k => Nat.lt_of_le_of_lt (par_le Gd0 fvG k) (Fb k), ?_⟩
      · have : 0 < ((G : Nat) : Int) * ((cm e : Nat) : Int).fdiv (G : Nat) := by rw [← dvG]; omega
        have h3 : 0 < ((cm e : Nat) : Int).fdiv (G : Nat) := Int.pos_of_mul_pos_right this (by omega)
        omega
      · refine Int.eq_of_mul_eq_mul_left Gd0 ?_
        have := sums i hi
        have e5 : ((List.range m).map fun k => vc (fvec m (cm e : Nat) e) k * vc (vs.getD k []) i) = (List.range m).map fun k => ((G : Nat) : Int) * (vc ((fvec m (cm e : Nat) e).map fun x => x.fdiv (G : Nat)) k * vc (vs.getD k []) i) + 0 * 0 := by
          apply List.map_congr_left
          intro k _
          rw [fvG k]; grind
        rw [e5, sum_lin] at this
        grind
      · have h3 : (((cm e : Nat) : Int).fdiv (G : Nat)).natAbs ≤ ((cm e : Nat) : Int).natAbs := by
          have h4 : ((cm e : Nat) : Int).natAbs = G * (((cm e : Nat) : Int).fdiv (G : Nat)).natAbs := by
            have := congrArg Int.natAbs dvG
            rwa [Int.natAbs_mul, Int.natAbs_natCast] at this
          rw [h4]
          exact Nat.le_mul_of_pos_left _ (by omega)
        have h5 : (2 : Nat) ^ 2400 < 2 ^ 6500 := Nat.pow_lt_pow_right (by decide) (by decide)
        have h6 : ((cm e : Nat) : Int).natAbs = cm e := Int.natAbs_natCast _
        omega
    · obtain ⟨o, eo, ho⟩ := q0 (fun o => o = .tup [.dats (((fvec m (cm e : Nat) e).map fun x => x.fdiv (G : Nat)).map .int), .dat (.int (((cm e : Nat) : Int).fdiv (G : Nat)))]) (fun z => absurd z hml) (fun _ => by
        have e2' : mcommon_multiple [.lst (e.map phi)] = some (.int (cm e : Nat)) := e2
        refine Rn.sqst (d := .int (cm e : Nat)) (by show cB _ _ [_, _, _, _, .dat (.lst (e.map phi)), _, _, _, _, _, _, _, _] = _; (simp (disch := first | assumption | omega) only [e2', MV, MW])) ?_
        refine Rn.sqstO (o := .dats ((List.replicate m (0 : Int)).map .int)) (rep_run34 (n := m) (by omega) (by rfl)) ?_
        refine Rn.sqfor (xs := e) (φ := phi) rfl (fun i ρ => ∃ x7 x8, ρ = [.dat d, .dat dg, .dat (.int m), .dat (rowsD (eqs n vs g)), .dat (.lst (e.map phi)), .dat (.int (cm e : Nat)), .dats ((fvec m (cm e : Nat) (e.take i)).map .int), x7, x8, .unk, .unk, .unk, .unk]) ⟨_, _, rfl⟩ (fun i hi ρ hI => ?_) (fun ρ hI => ?_)
        · obtain ⟨x7, x8, rfl⟩ := hI
          refine ⟨_, rfl, ?_⟩
          have hx : e[i] ∈ e := List.getElem_mem _
          have hxm : e[i].1 ≠ m := fun z => hml (z ▸ ok.mem hx)
          have hxl := ok.lt _ (ok.mem hx)
          have hxn := ok.len _ hx
          have fl := (f3 i (by omega)).1
          have es : fvec m (cm e : Nat) (e.take (i + 1)) = (fvec m (cm e : Nat) (e.take i)).set e[i].1 (vc e[i].2 m * ((cm e : Nat) : Int).fdiv (vc e[i].2 e[i].1)) := by
            rw [List.take_succ_eq_append_getElem hi]
            conv => lhs; unfold fvec
            rw [List.foldl_append]; rfl
          have b1 := ech_small ok (by omega) hx
          have pv := ok.pv _ hx
          have qbx := qb _ hx
          generalize hxe : e[i] = x at *
          generalize fvec m (cm e : Nat) (e.take i) = V at *
          have r2 := at_vc (r := x.2) (k := m) (by omega)
          have r3 := at_vc (r := x.2) (k := x.1) (by omega)
          have r4 := div_bt (i := ((cm e : Nat) : Int)) pv (b1 x.1) (by decide) (by decide)
          have r5 := mul_bt (b1 m) qbx (by decide) (by decide) (by decide)
          refine Rn.setP0 (os := (V.map D.int).map .dat) (k := x.1) (y := .dat (.int (vc x.2 m * ((cm e : Nat) : Int).fdiv (vc x.2 x.1)))) rfl (by
              show thaw _ [.dat d, .dat dg, .dat (.int m), _, _, .dat (.int (cm e : Nat)), _, .dat (.int (x.1 : Nat)), .dat (.lst (x.2.map .int)), _, _, _, _] = _
              (simp (disch := first | assumption | omega) only [r2, r3, r4, r5, MV, MW])) rfl (by simp; omega) ?_
          rw [set_dats34]
          refine ⟨.dat (.int (x.1 : Nat)), .dat (.lst (x.2.map .int)), ?_⟩
          rw [es]; rfl
        · obtain ⟨x7, x8, rfl⟩ := hI
          rw [List.take_length]
          refine Rn.sq (Rn.fzD rfl ?_)
          have ed : mdivisor_of [.lst ((((cm e : Nat) : Int) :: fvec m (cm e : Nat) e).map .int)] = some (.int (G : Nat)) := by
            rw [← hG]; exact do_eq (.inl rfl)
          have hll : [D.int (cm e : Nat)].length + ((fvec m (cm e : Nat) e).map D.int).length ≤ 1000000 := by simp; omega
          have ec := ev_catL hll
          have ed' : mdivisor_of [.lst ([D.int (cm e : Nat)] ++ (fvec m (cm e : Nat) e).map D.int)] = some (.int (G : Nat)) := ed
          refine Rn.st (d := .int (G : Nat)) (by
            show cB _ _ [_, _, _, _, _, .dat (.int (cm e : Nat)), .dat (.lst ((fvec m (cm e : Nat) e).map .int)), _, _, _, _, _, _] = _
            (simp (disch := first | assumption | omega) only [ec, ed', MV, MW])) ?_
          have Gd0 : ((G : Nat) : Int) ≠ 0 := by omega
          have dv0 : ∀ x : Int, divX (.int x) (.int (G : Nat)) = some (.int (x.fdiv (G : Nat))) := fun x => div_bt (b := 2400) Gd0 (by rw [Int.natAbs_natCast]; exact hgb) (by decide) (by decide)
          refine Rn.rtM (o := .tup [.dats (((fvec m (cm e : Nat) e).map fun x => x.fdiv (G : Nat)).map .int), .dat (.int (((cm e : Nat) : Int).fdiv (G : Nat)))]) (ρ' := [.dat d, .dat dg, .dat (.int m), .dat (rowsD (eqs n vs g)), .dat (.lst (e.map phi)), .dat (.int (cm e : Nat)), .dat (.lst ((fvec m (cm e : Nat) e).map .int)), x7, x8, .dat (.int (G : Nat)), .unk, .unk, .unk]) ?_ ⟨_, rfl, rfl⟩
          have el := lcO_map (fi := iOf (gv 6)) (gt := gN 12) (f := b2 (gv 12) (gv 9) divX) (vs := [12]) (ρ := [.dat d, .dat dg, .dat (.int m), .dat (rowsD (eqs n vs g)), .dat (.lst (e.map phi)), .dat (.int (cm e : Nat)), .dat (.lst ((fvec m (cm e : Nat) e).map .int)), x7.vw, x8.vw, .dat (.int (G : Nat)), .unk, .unk, .unk]) (φ := .int) (fun x => .int (x.fdiv (G : Nat))) (xs := fvec m (cm e : Nat) e) rfl rfl (by omega) fun x hx => ⟨_, rfl, by
            have := dv0 x
            show b2 _ _ _ [_, _, _, _, _, _, _, _, _, .dat (.int (G : Nat)), _, _, .dat (.int x)] = _
            (simp (disch := first | assumption | omega) only [this, MV, MW])⟩
          have e8 : (fvec m (cm e : Nat) e).map (fun x => D.int (x.fdiv (G : Nat))) = ((fvec m (cm e : Nat) e).map fun x => x.fdiv (G : Nat)).map .int := by rw [List.map_map]; rfl
          rw [e8] at el
          have im := immH_ints34 ((fvec m (cm e : Nat) e).map fun x => x.fdiv (G : Nat))
          have d1 := dv0 ((cm e : Nat) : Int)
          have p1 : stay (vwO (lcO (iOf (gv 6)) (gN 12) yes (b2 (gv 12) (gv 9) divX) [12])) [.dat d, .dat dg, .dat (.int m), .dat (rowsD (eqs n vs g)), .dat (.lst (e.map phi)), .dat (.int (cm e : Nat)), .dat (.lst ((fvec m (cm e : Nat) e).map .int)), x7, x8, .dat (.int (G : Nat)), .unk, .unk, .unk] = some (.dats (((fvec m (cm e : Nat) e).map fun x => x.fdiv (G : Nat)).map .int), [.dat d, .dat dg, .dat (.int m), .dat (rowsD (eqs n vs g)), .dat (.lst (e.map phi)), .dat (.int (cm e : Nat)), .dat (.lst ((fvec m (cm e : Nat) e).map .int)), x7, x8, .dat (.int (G : Nat)), .unk, .unk, .unk]) := by
            (simp (disch := first | assumption | omega) only [ew_stay, el, im, MV, MW])
          have p2 : stay (thaw (b2 (gv 5) (gv 9) divX)) [.dat d, .dat dg, .dat (.int m), .dat (rowsD (eqs n vs g)), .dat (.lst (e.map phi)), .dat (.int (cm e : Nat)), .dat (.lst ((fvec m (cm e : Nat) e).map .int)), x7, x8, .dat (.int (G : Nat)), .unk, .unk, .unk] = some (.dat (.int (((cm e : Nat) : Int).fdiv (G : Nat))), [.dat d, .dat dg, .dat (.int m), .dat (rowsD (eqs n vs g)), .dat (.lst (e.map phi)), .dat (.int (cm e : Nat)), .dat (.lst ((fvec m (cm e : Nat) e).map .int)), x7, x8, .dat (.int (G : Nat)), .unk, .unk, .unk]) := by
            (simp (disch := first | assumption | omega) only [ew_stay, d1, MV, MW])
          show mTup (mCons _ (mCons _ mNil)) [.dat d, .dat dg, .dat (.int m), .dat (rowsD (eqs n vs g)), .dat (.lst (e.map phi)), .dat (.int (cm e : Nat)), .dat (.lst ((fvec m (cm e : Nat) e).map .int)), x7, x8, .dat (.int (G : Nat)), .unk, .unk, .unk] = _
          unfold mTup mCons
          rw [p1, Option.bind_some]
          simp only [p2, mNil, Option.bind_some, Option.map_some]
          rfl)
      rw [eo, ho]
end K34

namespace K34
open PySem PySem.Spec L2 PD LA Ln
theorem rng_vc {rs : List Int} (hr : ∀ r ∈ rs, 0 ≤ r ∧ r < 1000) (k : Nat) : 0 ≤ vc rs k ∧ vc rs k < 1000 := by
  by_cases h : k < rs.length
  · rw [vc_eq h]; exact hr _ (List.getElem_mem _)
  · rw [vc_out (by omega)]; decide
/-- an item of a list of constants -/
theorem at_mod (L : List Int) (x : Int) (m : Int) (hm : 0 < m) (hl : m = L.length) : ∃ k : Nat, k < L.length ∧ ixD (.lst (L.map .int)) (.int (x % m)) = some (.int (vc L k)) := by
  have h0 := Int.emod_nonneg x (show m ≠ 0 by omega)
  have h1 := Int.emod_lt_of_pos x hm
  refine ⟨(x % m).toNat, by omega, ?_⟩
  have := at_vc (r := L) (k := (x % m).toNat) (by omega)
  rwa [Int.toNat_of_nonneg h0] at this
theorem vc_all {P : Int → Prop} {L : List Int} (h : ∀ x ∈ L, P x) {k : Nat} (hk : k < L.length) : P (vc L k) := by rw [vc_eq hk]; exact h _ (List.getElem_mem _)
theorem times_run {rs : List Int} (hl : rs.length = 30) : ∃ t : Int, t ≠ 0 ∧ t.natAbs < 2 ^ 62 ∧ m_law_times [.lst (rs.map .int)] = some (.int t) := by
  have e0 : ixD (.lst (rs.map .int)) (.int 0) = some (.int (vc rs 0)) := at_vc (k := 0) (by omega)
  have e29 : ixD (.lst (rs.map .int)) (.int 29) = some (.int (vc rs 29)) := at_vc (k := 29) (by omega)
  have go : ∀ (L : List Int), (∀ x ∈ L, x ≠ 0 ∧ x.natAbs < 2 ^ 62) → ∀ k, k < L.length → m_law_times [.lst (rs.map .int)] = some (.int (vc L k)) → ∃ t : Int, t ≠ 0 ∧ t.natAbs < 2 ^ 62 ∧ m_law_times [.lst (rs.map .int)] = some (.int t) := fun L hL k hk e =>
    ⟨vc L k, (vc_all (P := fun x => x ≠ 0 ∧ x.natAbs < 2 ^ 62) hL hk).1, (vc_all (P := fun x => x ≠ 0 ∧ x.natAbs < 2 ^ 62) hL hk).2, e⟩
  by_cases h : vc rs 0 % 8 < 5
  · obtain ⟨k, hk, e⟩ := at_mod [1, 1, 2, 3, 6, 10, -1, 998244353, 1000000007, 2147483647, 2305843009213693951] (vc rs 29) 11 (by decide) rfl
    refine go _ (by decide) k hk (runP_eq ?_)
    unfold b_law_times
    show Rn _ [.dat (.lst (rs.map .int)), .unk] _
    refine Rn.sqifT (by
      have hd : decide (vc rs 0 % 8 < 5) = true := decide_eq_true h
      show asB _ [.dat (.lst (rs.map .int)), _] = _
      (simp (disch := first | assumption | omega) only [e0, hd, MV, MW])) ?_
    refine Rn.assoc ?_
    refine Rn.sqst (d := .lst [.int 998244353, .int 1000000007, .int 2147483647, .int 2305843009213693951]) rfl ?_
    refine Rn.sqret (d := .int (vc [1, 1, 2, 3, 6, 10, -1, 998244353, 1000000007, 2147483647, 2305843009213693951] k)) ?_ ⟨_, rfl, rfl⟩
    have e' : ixD (.lst [.int 1, .int 1, .int 2, .int 3, .int 6, .int 10, .int (-1), .int 998244353, .int 1000000007, .int 2147483647, .int 2305843009213693951]) (.int (vc rs 29 % 11)) = _ := e
    have ea : b2 (mkLst (aCons (kI 1) (aCons (kI 1) (aCons (kI 2) (aCons (kI 3) (aCons (kI 6) (aCons (kI 10) (aCons (b1 (kI 1) negI) aNil)))))))) (gv 1) addA [.dat (.lst (rs.map .int)), .dat (.lst [.int 998244353, .int 1000000007, .int 2147483647, .int 2305843009213693951])] = some (.lst [.int 1, .int 1, .int 2, .int 3, .int 6, .int 10, .int (-1), .int 998244353, .int 1000000007, .int 2147483647, .int 2305843009213693951]) := rfl
    show b2 (b2 _ _ _) _ _ [.dat (.lst (rs.map .int)), .dat (.lst [.int 998244353, .int 1000000007, .int 2147483647, .int 2305843009213693951])] = _
    rw [ev_b2, ea]
    (simp (disch := first | assumption | omega) only [e29, e', MV, MW])
  · obtain ⟨k, hk, e⟩ := at_mod [1, 1, 2, 3, 6, -1] (vc rs 29) 6 (by decide) rfl
    refine go _ (by decide) k hk (runP_eq ?_)
    unfold b_law_times
    show Rn _ [.dat (.lst (rs.map .int)), .unk] _
    refine Rn.sqifF (by
      have hd : decide (vc rs 0 % 8 < 5) = false := decide_eq_false h
      show asB _ [.dat (.lst (rs.map .int)), _] = _
      (simp (disch := first | assumption | omega) only [e0, hd, MV, MW])) (Rn.sqskip ?_)
    refine Rn.ret (d := .int (vc [1, 1, 2, 3, 6, -1] k)) ?_ ⟨_, rfl, rfl⟩
    have e' : ixD (.lst [.int 1, .int 1, .int 2, .int 3, .int 6, .int (-1)]) (.int (vc rs 29 % 6)) = _ := e
    have ea : mkLst (aCons (kI 1) (aCons (kI 1) (aCons (kI 2) (aCons (kI 3) (aCons (kI 6) (aCons (b1 (kI 1) negI) aNil)))))) [.dat (.lst (rs.map .int)), .unk] = some (.lst [.int 1, .int 1, .int 2, .int 3, .int 6, .int (-1)]) := rfl
    show b2 (mkLst _) _ _ [.dat (.lst (rs.map .int)), .unk] = _
    rw [ev_b2, ea]
    (simp (disch := first | assumption | omega) only [e29, e', MV, MW])
theorem number_run (kd : Int) {rs : List Int} (hl : rs.length = 3) (hr : ∀ r ∈ rs, 0 ≤ r ∧ r < 1000) : ∃ x : Int, x.natAbs < 2 ^ 110 ∧ m_law_number [.int kd, .lst (rs.map .int)] = some (.int x) := by
  have e0 : ixD (.lst (rs.map .int)) (.int 0) = some (.int (vc rs 0)) := at_vc (k := 0) (by omega)
  have e1 : ixD (.lst (rs.map .int)) (.int 1) = some (.int (vc rs 1)) := at_vc (k := 1) (by omega)
  have e2 : ixD (.lst (rs.map .int)) (.int 2) = some (.int (vc rs 2)) := at_vc (k := 2) (by omega)
  have b0 := rng_vc hr 0
  have b1 := rng_vc hr 1
  have b2' := rng_vc hr 2
  by_cases h3 : kd < 3
  · refine ⟨vc rs 0 % 5 - 2, by omega, runP_eq ?_⟩
    unfold b_law_number
    show Rn _ [.dat (.int kd), .dat (.lst (rs.map .int))] _
    have hd : decide (kd < 3) = true := decide_eq_true h3
    refine Rn.sqifT (by show asB _ [.dat (.int kd), _] = _; (simp (disch := first | assumption | omega) only [hd, MV, MW])) ?_
    exact Rn.sqret (d := .int (vc rs 0 % 5 - 2)) (by show b2 _ _ _ [_, .dat (.lst (rs.map .int))] = _; (simp (disch := first | assumption | omega) only [e0, MV, MW])) ⟨_, rfl, rfl⟩
  by_cases h4 : kd = 3
  · subst h4
    refine ⟨vc rs 0 - 500, by omega, runP_eq ?_⟩
    unfold b_law_number
    show Rn _ [.dat (.int 3), .dat (.lst (rs.map .int))] _
    refine Rn.sqifF rfl (Rn.sqskip ?_)
    refine Rn.sqifT rfl ?_
    exact Rn.sqret (d := .int (vc rs 0 - 500)) (by show b2 _ _ _ [_, .dat (.lst (rs.map .int))] = _; (simp (disch := first | assumption | omega) only [e0, MV, MW])) ⟨_, rfl, rfl⟩
  by_cases h5 : kd = 4
  · subst h5
    obtain ⟨k, hk, e⟩ := at_mod [0, 0, 0, 1, -1, 7] (vc rs 0) 6 (by decide) rfl
    refine ⟨vc [0, 0, 0, 1, -1, 7] k, vc_all (P := fun x => x.natAbs < 2 ^ 110) (by decide) hk, runP_eq ?_⟩
    unfold b_law_number
    show Rn _ [.dat (.int 4), .dat (.lst (rs.map .int))] _
    refine Rn.sqifF rfl (Rn.sqskip ?_)
    refine Rn.sqifF rfl (Rn.sqskip ?_)
    refine Rn.sqifT rfl ?_
    refine Rn.sqret (d := .int (vc [0, 0, 0, 1, -1, 7] k)) ?_ ⟨_, rfl, rfl⟩
    have e' : ixD (.lst [.int 0, .int 0, .int 0, .int 1, .int (-1), .int 7]) (.int (vc rs 0 % 6)) = _ := e
    have ea : mkLst (aCons (kI 0) (aCons (kI 0) (aCons (kI 0) (aCons (kI 1) (aCons (PD.b1 (kI 1) negI) (aCons (kI 7) aNil)))))) [.dat (.int 4), .dat (.lst (rs.map .int))] = some (.lst [.int 0, .int 0, .int 0, .int 1, .int (-1), .int 7]) := rfl
    show b2 (mkLst _) _ _ [.dat (.int 4), .dat (.lst (rs.map .int))] = _
    rw [ev_b2, ea]
    (simp (disch := first | assumption | omega) only [e0, e', MV, MW])
  · have p27 : powI (.int 10) (.int 27) = some (.int 1000000000000000000000000000) := rfl
    have p13 : powI (.int 10) (.int 13) = some (.int 10000000000000) := rfl
    refine ⟨(vc rs 0 - 500) * 1000000000000000000000000000 + vc rs 1 * 10000000000000 + vc rs 2, by omega, runP_eq ?_⟩
    unfold b_law_number
    show Rn _ [.dat (.int kd), .dat (.lst (rs.map .int))] _
    have hd : decide (kd < 3) = false := decide_eq_false h3
    have hd2 : decide (kd = 3) = false := decide_eq_false h4
    have hd3 : decide (kd = 4) = false := decide_eq_false h5
    refine Rn.chk (by show asB _ [.dat (.int kd), _] = _; (simp (disch := first | assumption | omega) only [hd, MV, MW])) ?_
    refine Rn.chk (by show asB _ [.dat (.int kd), _] = _; (simp (disch := first | assumption | omega) only [hd2, MV, MW])) ?_
    refine Rn.chk (by show asB _ [.dat (.int kd), _] = _; (simp (disch := first | assumption | omega) only [hd3, MV, MW])) ?_
    have m1 := mul_bt (i := vc rs 0 - 500) (j := 1000000000000000000000000000) (a := 20) (b := 100) (by omega) (by decide) (by decide) (by decide) (by decide)
    have m2 := mul_bt (i := vc rs 1) (j := 10000000000000) (a := 20) (b := 100) (by omega) (by decide) (by decide) (by decide) (by decide)
    exact Rn.ret (d := .int ((vc rs 0 - 500) * 1000000000000000000000000000 + vc rs 1 * 10000000000000 + vc rs 2)) (by show b2 _ _ _ [_, .dat (.lst (rs.map .int))] = _; (simp (disch := first | assumption | omega) only [e0, e1, e2, p27, p13, m1, m2, MV, MW])) ⟨_, rfl, rfl⟩

def lrow (r : List Int) : D := .lst (r.map .int)
def trow (r : List Int) : D := .tup (r.map .int)
theorem lrows_at {es : List (List Int)} {k : Nat} (hk : k < es.length) : ixD (.lst (es.map lrow)) (.int k) = some (lrow es[k]) := by
  show atI (es.map lrow) (k : Int) = _
  exact atI_nat (by rw [List.getElem?_map, List.getElem?_eq_getElem hk]; rfl)
theorem mod_nat (x : Int) {n : Nat} (h : 0 < n) : ∃ k : Nat, k < n ∧ x % (n : Int) = (k : Int) := by
  have h0 := Int.emod_nonneg x (show (n : Int) ≠ 0 by omega)
  have h1 := Int.emod_lt_of_pos x (show (0 : Int) < n by omega)
  exact ⟨(x % (n : Int)).toNat, by omega, by omega⟩
theorem rng_run {f : Ev → Option D} {ρ : Ev} {n : Nat} (hn : n ≤ 1000000) (h : f ρ = some (.int n)) : rng1 f ρ = some ((List.range n).map fun k : Nat => .int (k : Int)) := by
  have hh : ((n : Nat) : Int) < 4611686018427387904 ∧ -4611686018427387904 ≤ ((n : Nat) : Int) := by omega
  rw [ev_rng1, h, Option.bind_some, ev_rngI hh, range0]
  rfl
theorem base_run {n : Nat} (hn : n ≤ 8) {rs : List Int} (hl : rs.length = 30) (hr : ∀ r ∈ rs, 0 ≤ r ∧ r < 1000) {es : List (List Int)} (hel : es.length ≤ 10) {C : Nat} (hC : 2 ^ 110 ≤ C) (hC2 : C < 2 ^ 200) (he : ∀ e ∈ es, e.length = n ∧ ∀ k, (vc e k).natAbs ≤ C) :
    ∃ b : List Int, b.length = n ∧ (∀ k, (vc b k).natAbs ≤ 6 * C) ∧ m_law_base [.lst (rs.map .int), .int n, .lst (es.map lrow)] = some (.dats (b.map .int)) := by
  have e0 : ixD (.lst (rs.map .int)) (.int 0) = some (.int (vc rs 0)) := at_vc (k := 0) (by omega)
  have e1 : ixD (.lst (rs.map .int)) (.int 1) = some (.int (vc rs 1)) := at_vc (k := 1) (by omega)
  have e2 : ixD (.lst (rs.map .int)) (.int 2) = some (.int (vc rs 2)) := at_vc (k := 2) (by omega)
  have e3 : ixD (.lst (rs.map .int)) (.int 3) = some (.int (vc rs 3)) := at_vc (k := 3) (by omega)
  have e4 : ixD (.lst (rs.map .int)) (.int 4) = some (.int (vc rs 4)) := at_vc (k := 4) (by omega)
  have b0 := rng_vc hr 0
  have fin : ∀ F : Nat → Int, (∀ k, k < n → (F k).natAbs ≤ 6 * C) → m_law_base [.lst (rs.map .int), .int n, .lst (es.map lrow)] = some (.dats ((List.range n).map fun k => .int (F k))) → ∃ b : List Int, b.length = n ∧ (∀ k, (vc b k).natAbs ≤ 6 * C) ∧ m_law_base [.lst (rs.map .int), .int n, .lst (es.map lrow)] = some (.dats (b.map .int)) := fun F hF h => by
    refine ⟨(List.range n).map F, by simp, fun k => ?_, ?_⟩
    · by_cases hk : k < n
      · rw [vc_eq (by simpa using hk)]
        simp only [List.getElem_map, List.getElem_range]
        exact hF k hk
      · rw [vc_out (by simp; omega)]; exact Nat.zero_le _
    · rw [List.map_map]; exact h
  by_cases hc : 5 < vc rs 0 % 8 ∧ 0 < es.length
  · obtain ⟨k1, hk1, m1⟩ := mod_nat (vc rs 1) hc.2
    obtain ⟨k2, hk2, m2⟩ := mod_nat (vc rs 2) hc.2
    have l1 := lrows_at hk1
    have l2 := lrows_at hk2
    have he1 := he es[k1] (List.getElem_mem _)
    have he2 := he es[k2] (List.getElem_mem _)
    generalize es[k1] = u at l1 he1
    generalize es[k2] = w at l2 he2
    obtain ⟨i, hi, ei⟩ : ∃ i : Nat, i < 2 ∧ vc rs 0 % 8 - 6 = (i : Int) := ⟨(vc rs 0 % 8 - 6).toNat, by omega, by omega⟩
    have hi0 : i = 0 ∨ i = 1 := by omega
    have p1 : ∃ f : Int, f.natAbs ≤ 3 ∧ ixD (.lst [.int 1, .int (vc rs 3 % 7 - 3)]) (.int (i : Nat)) = some (.int f) := by
      rcases hi0 with rfl | rfl
      · exact ⟨1, by decide, rfl⟩
      · exact ⟨vc rs 3 % 7 - 3, by omega, rfl⟩
    have p2 : ∃ f : Int, f.natAbs ≤ 3 ∧ ixD (.lst [.int 0, .int (vc rs 4 % 7 - 3)]) (.int (i : Nat)) = some (.int f) := by
      rcases hi0 with rfl | rfl
      · exact ⟨0, by decide, rfl⟩
      · exact ⟨vc rs 4 % 7 - 3, by omega, rfl⟩
    obtain ⟨f1, bf1, p1⟩ := p1
    obtain ⟨f2, bf2, p2⟩ := p2
    refine fin (fun k => f1 * vc u k + f2 * vc w k) (fun k hk => ?_) ?_
    · have h1 : (f1 * vc u k).natAbs ≤ 3 * C := by rw [Int.natAbs_mul]; exact Nat.mul_le_mul bf1 (he1.2 k)
      have h2 : (f2 * vc w k).natAbs ≤ 3 * C := by rw [Int.natAbs_mul]; exact Nat.mul_le_mul bf2 (he2.2 k)
      have := Int.natAbs_add_le (f1 * vc u k) (f2 * vc w k)
      omega
    · obtain ⟨o, eo, ho⟩ : ∃ o, m_law_base [.lst (rs.map .int), .int n, .lst (es.map lrow)] = some o ∧ o = .dats ((List.range n).map fun k => .int (f1 * vc u k + f2 * vc w k)) := by
        refine runO_of ?_
        unfold b_law_base
        show Rn _ [.dat (.lst (rs.map .int)), .dat (.int n), .dat (.lst (es.map lrow)), .unk, .unk, .unk, .unk, .unk, .unk] _
        refine Rn.sqst (d := .int (vc rs 0 % 8)) (by show b2 _ _ _ [.dat (.lst (rs.map .int)), _, _, _, _, _, _, _, _] = _; (simp (disch := first | assumption | omega) only [e0, MV, MW])) ?_
        have h5 : decide (5 < vc rs 0 % 8) = true := decide_eq_true hc.1
        have h6 : decide ((0 : Int) < (es.length : Int)) = true := decide_eq_true (by omega)
        have hes : (0 : Int) < (es.length : Int) := by omega
        refine Rn.sqifT (by
          show andT _ _ [_, _, .dat (.lst (es.map lrow)), .dat (.int (vc rs 0 % 8)), _, _, _, _, _] = _
          (simp (disch := first | assumption | omega) only [List.length_map, h5, h6, MV, MW])) ?_
        refine Rn.assoc ?_
        refine Rn.sqst (d := lrow u) (by
          show b2 _ _ _ [.dat (.lst (rs.map .int)), _, .dat (.lst (es.map lrow)), _, _, _, _, _, _] = _
          (simp (disch := first | assumption | omega) only [e1, List.length_map, m1, l1, MV, MW])) ?_
        refine Rn.assoc ?_
        refine Rn.sqst (d := lrow w) (by
          show b2 _ _ _ [.dat (.lst (rs.map .int)), _, .dat (.lst (es.map lrow)), _, _, _, _, _, _] = _
          (simp (disch := first | assumption | omega) only [e2, List.length_map, m2, l2, MV, MW])) ?_
        refine Rn.assoc ?_
        refine Rn.sqst (d := .int f1) (by
          show b2 _ _ _ [.dat (.lst (rs.map .int)), _, _, .dat (.int (vc rs 0 % 8)), _, _, _, _, _] = _
          (simp (disch := first | assumption | omega) only [e3, ei, p1, List.length_cons, List.length_nil, MV, MW])) ?_
        refine Rn.assoc ?_
        refine Rn.sqst (d := .int f2) (by
          show b2 _ _ _ [.dat (.lst (rs.map .int)), _, _, .dat (.int (vc rs 0 % 8)), _, _, _, _, _] = _
          (simp (disch := first | assumption | omega) only [e4, ei, p2, List.length_cons, List.length_nil, MV, MW])) ?_
        refine Rn.sq (Rn.rtM (o := .dats ((List.range n).map fun k => .int (f1 * vc u k + f2 * vc w k))) (ρ' := [.dat (.lst (rs.map .int)), .dat (.int n), .dat (.lst (es.map lrow)), .dat (.int (vc rs 0 % 8)), .dat (lrow u), .dat (lrow w), .dat (.int f1), .dat (.int f2), .unk]) ?_ ⟨_, rfl, rfl⟩)
        have el := lcO_map (fi := rng1 (gv 1)) (gt := gN 8) (f := b2 (b2 (gv 6) (b2 (gv 4) (gv 8) ixD) mulA) (b2 (gv 7) (b2 (gv 5) (gv 8) ixD) mulA) addA) (vs := [8]) (ρ := [.dat (.lst (rs.map .int)), .dat (.int n), .dat (.lst (es.map lrow)), .dat (.int (vc rs 0 % 8)), .dat (lrow u), .dat (lrow w), .dat (.int f1), .dat (.int f2), .unk]) (φ := fun k : Nat => .int (k : Int)) (fun k : Nat => .int (f1 * vc u k + f2 * vc w k)) (xs := List.range n) rfl
          (rng_run (by omega) rfl) (by simp; omega) fun k hk => ⟨_, rfl, by
            have hk : k < n := by simpa using hk
            have a1 : ixD (lrow u) (.int (k : Nat)) = some (.int (vc u k)) := at_vc (by omega)
            have a2 : ixD (lrow w) (.int (k : Nat)) = some (.int (vc w k)) := at_vc (by omega)
            have q1 := mul_bt (i := f1) (j := vc u k) (a := 2) (b := 200) (by omega) (Nat.lt_of_le_of_lt (he1.2 k) hC2) (by decide) (by decide) (by decide)
            have q2 := mul_bt (i := f2) (j := vc w k) (a := 2) (b := 200) (by omega) (Nat.lt_of_le_of_lt (he2.2 k) hC2) (by decide) (by decide) (by decide)
            show b2 _ _ _ [_, _, _, _, .dat (lrow u), .dat (lrow w), .dat (.int f1), .dat (.int f2), .dat (.int (k : Nat))] = _
            (simp (disch := first | assumption | omega) only [a1, a2, q1, q2, MV, MW])⟩
        show stay (lcO _ _ _ _ _) [.dat (.lst (rs.map .int)), .dat (.int n), .dat (.lst (es.map lrow)), .dat (.int (vc rs 0 % 8)), .dat (lrow u), .dat (lrow w), .dat (.int f1), .dat (.int f2), .unk] = _
        (simp (disch := first | assumption | omega) only [ew_stay, el, MV, MW])
      rw [eo, ho]
  · have key : ∀ j : Nat, ∃ x : Int, j < n → x.natAbs < 2 ^ 110 ∧ m_law_number [.int (vc rs 0 % 8), .lst (cutD (rs.map .int) (some (5 + 3 * (j : Int))) (some (8 + 3 * (j : Int))))] = some (.int x) := fun j => by
      by_cases hj : j < n
      · rw [cut_map]
        obtain ⟨x, h1, h2⟩ := number_run (vc rs 0 % 8) (rs := cutD rs (some (5 + 3 * (j : Int))) (some (8 + 3 * (j : Int)))) (by
          have := cut_len (xs := rs) (a := 5 + 3 * (j : Int)) (b := 8 + 3 * (j : Int)) (by omega) (by omega) (by omega)
          omega) fun r h => hr r (cut_sub h)
        exact ⟨x, fun _ => ⟨h1, h2⟩⟩
      · exact ⟨0, fun z => absurd z hj⟩
    obtain ⟨F, hF⟩ := Classical.axiomOfChoice key
    refine fin F (fun k hk => by have := (hF k hk).1; omega) ?_
    obtain ⟨o, eo, ho⟩ : ∃ o, m_law_base [.lst (rs.map .int), .int n, .lst (es.map lrow)] = some o ∧ o = .dats ((List.range n).map fun k => .int (F k)) := by
      refine runO_of ?_
      unfold b_law_base
      show Rn _ [.dat (.lst (rs.map .int)), .dat (.int n), .dat (.lst (es.map lrow)), .unk, .unk, .unk, .unk, .unk, .unk] _
      refine Rn.sqst (d := .int (vc rs 0 % 8)) (by show b2 _ _ _ [.dat (.lst (rs.map .int)), _, _, _, _, _, _, _, _] = _; (simp (disch := first | assumption | omega) only [e0, MV, MW])) ?_
      refine Rn.sqifF (by
        show andT _ _ [_, _, .dat (.lst (es.map lrow)), .dat (.int (vc rs 0 % 8)), _, _, _, _, _] = _
        by_cases h5 : 5 < vc rs 0 % 8
        · have h5' : decide (5 < vc rs 0 % 8) = true := decide_eq_true h5
          have h6 : decide ((0 : Int) < (es.length : Int)) = false := decide_eq_false (by omega)
          (simp (disch := first | assumption | omega) only [List.length_map, h5', h6, MV, MW])
        · have h5' : decide (5 < vc rs 0 % 8) = false := decide_eq_false h5
          (simp (disch := first | assumption | omega) only [h5', MV, MW])) (Rn.sqskip ?_)
      refine Rn.rtM (o := .dats ((List.range n).map fun k => .int (F k))) (ρ' := [.dat (.lst (rs.map .int)), .dat (.int n), .dat (.lst (es.map lrow)), .dat (.int (vc rs 0 % 8)), .unk, .unk, .unk, .unk, .unk]) ?_ ⟨_, rfl, rfl⟩
      have el := lcO_map (fi := rng1 (gv 1)) (gt := gN 8) (f := cB (aCons (gv 3) (aCons (slc (gv 0) (part (b2 (kI 5) (b2 (kI 3) (gv 8) mulI) addA)) (part (b2 (kI 8) (b2 (kI 3) (gv 8) mulI) addA))) aNil)) (len? 2 (m_law_number))) (vs := [8]) (ρ := [.dat (.lst (rs.map .int)), .dat (.int n), .dat (.lst (es.map lrow)), .dat (.int (vc rs 0 % 8)), .unk, .unk, .unk, .unk, .unk]) (φ := fun k : Nat => .int (k : Int)) (fun k : Nat => .int (F k)) (xs := List.range n) rfl
        (rng_run (by omega) rfl) (by simp; omega) fun k hk => ⟨_, rfl, by
          have e5 := (hF k (by simpa using hk)).2
          show cB _ _ [.dat (.lst (rs.map .int)), _, _, .dat (.int (vc rs 0 % 8)), _, _, _, _, .dat (.int (k : Nat))] = _
          (simp (disch := first | assumption | omega) only [e5, MV, MW])⟩
      show stay (lcO _ _ _ _ _) [.dat (.lst (rs.map .int)), .dat (.int n), .dat (.lst (es.map lrow)), .dat (.int (vc rs 0 % 8)), .unk, .unk, .unk, .unk, .unk] = _
      (simp (disch := first | assumption | omega) only [ew_stay, el, MV, MW])
    rw [eo, ho]
end K34

namespace K34
open PySem PySem.Spec L2 PD LA Ln
theorem chn_ll {fa fb fc : Ev → Option D} {ρ : Ev} {x y z : Int} (h1 : fa ρ = some (.int x)) (h2 : fb ρ = some (.int y)) (h3 : fc ρ = some (.int z)) : chn fa fb fc ltI ltI ρ = some (.bl (decide (x < y ∧ y < z))) := by
  unfold chn
  rw [h1, h2, h3, Option.bind_some, Option.bind_some, ev_lt, Option.bind_some]
  by_cases h : x < y
  · rw [decide_eq_true h]
    simp only [Option.bind_some, ev_lt, h, true_and]
  · rw [decide_eq_false h]
    simp [h]
theorem goal_run {n : Nat} (hn : n ≤ 8) {rs : List Int} (hl : rs.length = 38) (hr : ∀ r ∈ rs, 0 ≤ r ∧ r < 1000) {es ls : List (List Int)} (hel : es.length ≤ 9) (hll : ls.length ≤ 9) {C : Nat} (hC : 2 ^ 110 ≤ C) (hC2 : 30 * C ≤ MM) (he : ∀ e ∈ es, e.length = n ∧ ∀ k, (vc e k).natAbs ≤ C) (hls : ∀ e ∈ ls, e.length = n ∧ ∀ k, (vc e k).natAbs ≤ MM) :
    ∃ g : List Int, g.length = n ∧ (∀ k, (vc g k).natAbs ≤ MM) ∧ m_law_goal [.lst (rs.map .int), .int n, .lst (es.map lrow), .lst (ls.map lrow)] = some (.lst (g.map .int)) := by
  have e0 : ixD (.lst (rs.map .int)) (.int 0) = some (.int (vc rs 0)) := at_vc (k := 0) (by omega)
  have e10 : ixD (.lst (rs.map .int)) (.int 10) = some (.int (vc rs 10)) := at_vc (k := 10) (by omega)
  have e11 : ixD (.lst (rs.map .int)) (.int 11) = some (.int (vc rs 11)) := at_vc (k := 11) (by omega)
  have e12 : ixD (.lst (rs.map .int)) (.int 12) = some (.int (vc rs 12)) := at_vc (k := 12) (by omega)
  have e13 : ixD (.lst (rs.map .int)) (.int 13) = some (.int (vc rs 13)) := at_vc (k := 13) (by omega)
  have b0 := rng_vc hr 0
  have CM : C < 2 ^ 200 := by
    have : MM = 2 ^ 200 := rfl
    omega
  obtain ⟨d, e, g, h1, h2, rfl⟩ : ∃ d, m_law_goal [.lst (rs.map .int), .int n, .lst (es.map lrow), .lst (ls.map lrow)] = some d ∧ ∃ g : List Int, g.length = n ∧ (∀ k, (vc g k).natAbs ≤ MM) ∧ d = .lst (g.map .int) := by
    refine runP_of ?_
    unfold b_law_goal
    show Rn _ [.dat (.lst (rs.map .int)), .dat (.int n), .dat (.lst (es.map lrow)), .dat (.lst (ls.map lrow)), .unk, .unk, .unk, .unk, .unk, .unk] _
    refine Rn.sqst (d := .int (vc rs 0 % 8)) (by show b2 _ _ _ [.dat (.lst (rs.map .int)), _, _, _, _, _, _, _, _, _] = _; (simp (disch := first | assumption | omega) only [e0, MV, MW])) ?_
    generalize hkd : vc rs 0 % 8 = kd
    refine Rn.sqstO (o := .dats ((List.replicate n (0 : Int)).map .int)) (rep_run34 (n := n) (by omega) (by rfl)) ?_
    refine Rn.join (P := fun ρ => ∃ (a : List Int) (x6 x7 : O), a.length = n ∧ (∀ k, (vc a k).natAbs ≤ 27 * C) ∧ ρ = [.dat (.lst (rs.map .int)), .dat (.int n), .dat (.lst (es.map lrow)), .dat (.lst (ls.map lrow)), .dat (.int kd), .dats (a.map .int), x6, x7, .unk, .unk]) ?_ ?_
    · refine Rn.iteP (p := kd < 5) (by show asB _ [_, _, _, _, .dat (.int kd), _, _, _, _, _] = _; (simp (disch := first | assumption | omega) only [MV, MW])) (fun _ => ?_) fun _ => ?_
      · refine Rn.forT (xs := List.range es.length) (φ := fun k : Nat => .int (k : Int)) (rng_run (by omega) (by
            show cB _ _ [_, _, .dat (.lst (es.map lrow)), _, _, _, _, _, _, _] = _
            (simp (disch := first | assumption | omega) only [List.length_map, MV, MW]))) (fun i ρ => ∃ (a : List Int) (x6 x7 : O), a.length = n ∧ (∀ k, (vc a k).natAbs ≤ i * (3 * C)) ∧ ρ = [.dat (.lst (rs.map .int)), .dat (.int n), .dat (.lst (es.map lrow)), .dat (.lst (ls.map lrow)), .dat (.int kd), .dats (a.map .int), x6, x7, .unk, .unk])
          ⟨List.replicate n 0, .unk, .unk, by simp, fun k => by rw [vc_rep]; simp, rfl⟩ (fun i hi ρ hI => ?_) (fun ρ hI => ?_)
        · obtain ⟨a, x6, x7, al, ab, rfl⟩ := hI
          have hi' : i < es.length := by simpa using hi
          rw [List.getElem_range]
          refine ⟨_, rfl, ?_⟩
          have eb := lrows_at hi'
          have hp := he es[i] (List.getElem_mem _)
          generalize es[i] = p at eb hp
          have ef : ixD (.lst (rs.map .int)) (.int (1 + (i : Int))) = some (.int (vc rs (1 + i))) := by
            have := at_vc (r := rs) (k := 1 + i) (by omega)
            rwa [show ((1 + i : Nat) : Int) = 1 + (i : Int) by omega] at this
          have hf := rng_vc hr (1 + i)
          generalize hfe : vc rs (1 + i) % 7 - 3 = f
          have fb : -3 ≤ f ∧ f ≤ 3 := by omega
          refine Rn.sqst (d := .int f) (by
            show b2 _ _ _ [.dat (.lst (rs.map .int)), _, _, _, _, _, .dat (.int (i : Nat)), _, _, _] = _
            (simp (disch := first | assumption | omega) only [ef, hfe, MV, MW])) ?_
          have el := lcO_map (fi := rng1 (gv 1)) (gt := gN 9) (f := b2 (b2 (gv 5) (gv 9) ixD) (b2 (gv 7) (b2 (b2 (gv 2) (gv 6) ixD) (gv 9) ixD) mulA) addA) (vs := [9])
            (ρ := [.dat (.lst (rs.map .int)), .dat (.int n), .dat (.lst (es.map lrow)), .dat (.lst (ls.map lrow)), .dat (.int kd), .dat (.lst (a.map .int)), .dat (.int (i : Nat)), .dat (.int f), .unk, .unk]) (φ := fun k : Nat => .int (k : Int)) (fun k : Nat => .int (vc a k + f * vc p k)) (xs := List.range n) rfl
            (rng_run (by omega) rfl) (by simp; omega) fun k hk => ⟨_, rfl, by
              have hk : k < n := by simpa using hk
              have a3 := at_vc (r := a) (k := k) (by omega)
              have a4 : ixD (lrow p) (.int (k : Nat)) = some (.int (vc p k)) := at_vc (by omega)
              have m1 := mul_bt (i := f) (j := vc p k) (a := 2) (b := 200) (by omega) (Nat.lt_of_le_of_lt (hp.2 k) CM) (by decide) (by decide) (by decide)
              show b2 _ _ _ [_, _, .dat (.lst (es.map lrow)), _, _, .dat (.lst (a.map .int)), .dat (.int (i : Nat)), .dat (.int f), _, .dat (.int (k : Nat))] = _
              (simp (disch := first | assumption | omega) only [eb, a3, a4, m1, MV, MW])⟩
          have e8 : ((List.range n).map fun k : Nat => D.int (vc a k + f * vc p k)) = ((List.range n).map fun k : Nat => vc a k + f * vc p k).map .int := by rw [List.map_map]; rfl
          rw [e8] at el
          have im := immH_ints34 ((List.range n).map fun k : Nat => vc a k + f * vc p k)
          refine Rn.stO (o := .dats (((List.range n).map fun k : Nat => vc a k + f * vc p k).map .int)) (by
            show vwO (lcO _ _ _ _ _) [.dat (.lst (rs.map .int)), .dat (.int n), .dat (.lst (es.map lrow)), .dat (.lst (ls.map lrow)), .dat (.int kd), .dats (a.map .int), .dat (.int (i : Nat)), .dat (.int f), .unk, .unk] = _
            (simp (disch := first | assumption | omega) only [el, im, MV, MW])) ?_
          have vo : ∀ k, vc ((List.range n).map fun k : Nat => vc a k + f * vc p k) k = vc a k + f * vc p k := fun k => vc_range _ (fun k hk => by rw [vc_out (r := a) (k := k) (by omega), vc_out (r := p) (k := k) (by omega)]; simp) k
          refine ⟨(List.range n).map fun k : Nat => vc a k + f * vc p k, .dat (.int (i : Nat)), .dat (.int f), by simp, fun k => ?_, rfl⟩
          rw [vo]
          have h2 := ab k
          have h4 := Int.natAbs_add_le (vc a k) (f * vc p k)
          have h5 : (f * vc p k).natAbs ≤ 3 * C := by
            rw [Int.natAbs_mul]
            exact Nat.mul_le_mul (by omega) (hp.2 k)
          rw [Nat.add_mul i, Nat.one_mul]
          omega
        · obtain ⟨a, x6, x7, al, ab, rfl⟩ := hI
          rw [List.length_range] at ab
          refine ⟨a, x6, x7, al, fun k => Nat.le_trans (ab k) ?_, rfl⟩
          have : es.length * (3 * C) ≤ 9 * (3 * C) := Nat.mul_le_mul_right _ hel
          omega
      · exact Rn.skip ⟨List.replicate n 0, .unk, .unk, by simp, fun k => by rw [vc_rep]; exact Nat.zero_le _, rfl⟩
    · rintro ρ ⟨a, x6, x7, al, ab, rfl⟩
      refine Rn.join (P := fun ρ => ∃ (a : List Int) (x8 : O), a.length = n ∧ (∀ k, (vc a k).natAbs ≤ 30 * C) ∧ ρ = [.dat (.lst (rs.map .int)), .dat (.int n), .dat (.lst (es.map lrow)), .dat (.lst (ls.map lrow)), .dat (.int kd), .dats (a.map .int), x6, x7, x8, .unk]) ?_ ?_
      · have ech := chn_ll (fa := kI 2) (fb := gv 4) (fc := kI 5) (ρ := [.dat (.lst (rs.map .int)), .dat (.int n), .dat (.lst (es.map lrow)), .dat (.lst (ls.map lrow)), .dat (.int kd), .dats (a.map .int), x6, x7, .unk, .unk]) (x := 2) (y := kd) (z := 5) rfl rfl rfl
        refine Rn.iteP (p := (2 < kd ∧ kd < 5) ∧ (0 : Int) < (n : Int)) (by
          show andT (asB (chn _ _ _ _ _)) _ [.dat (.lst (rs.map .int)), .dat (.int n), .dat (.lst (es.map lrow)), .dat (.lst (ls.map lrow)), .dat (.int kd), .dats (a.map .int), x6, x7, .unk, .unk] = _
          (simp (disch := first | assumption | omega) only [ech, MV, MW])) (fun hc => ?_) fun _ => ?_
        · have hn0 : 0 < n := by omega
          have hnI : (0 : Int) < (n : Int) := by omega
          obtain ⟨k1, hk1, m1⟩ := mod_nat (vc rs 10) hn0
          refine Rn.sqst (d := .int (k1 : Nat)) (by
            show b2 _ _ _ [.dat (.lst (rs.map .int)), .dat (.int n), _, _, _, _, _, _, _, _] = _
            (simp (disch := first | assumption | omega) only [e10, m1, MV, MW])) ?_
          have a3 := at_vc (r := a) (k := k1) (by omega)
          obtain ⟨k2, hk2, e2⟩ := at_mod [1, -1] (vc rs 11) 2 (by decide) rfl
          have e2' : ixD (.lst [.int 1, .int (-1)]) (.int (vc rs 11 % 2)) = some (.int (vc [1, -1] k2)) := e2
          have b2' := vc_all (P := fun x => x.natAbs ≤ 1) (L := [1, -1]) (by decide) hk2
          generalize vc [1, -1] k2 = y at e2' b2'
          refine Rn.setP0 (os := (a.map D.int).map .dat) (k := k1) (y := .dat (.int (vc a k1 + y))) rfl (by
            show thaw (vwI _) [.dat (.lst (rs.map .int)), .dat (.int n), _, _, _, .dats (a.map .int), _, _, .dat (.int (k1 : Nat)), _] = _
            (simp (disch := first | assumption | omega) only [e11, a3, e2', List.length_cons, List.length_nil, MV, MW])) rfl (by simp; omega) ?_
          rw [set_dats34]
          refine ⟨a.set k1 (vc a k1 + y), .dat (.int (k1 : Nat)), by simp [al], fun k => ?_, rfl⟩
          rw [vc_set (by omega)]
          split
          · have := ab k1
            have := Int.natAbs_add_le (vc a k1) y
            omega
          · have := ab k
            omega
        · exact Rn.skip ⟨a, .unk, al, fun k => by have := ab k; omega, rfl⟩
      · rintro ρ ⟨a, x8, al, ab, rfl⟩
        refine Rn.sqif (p := kd = 5 ∧ (0 : Int) < (ls.length : Int)) (by
          show andT _ _ [_, _, _, .dat (.lst (ls.map lrow)), .dat (.int kd), _, _, _, _, _] = _
          (simp (disch := first | assumption | omega) only [List.length_map, MV, MW])) (fun hc => ?_) fun _ => Rn.sqskip ?_
        · have hl0 : 0 < ls.length := by omega
          have hlI : (0 : Int) < (ls.length : Int) := hc.2
          obtain ⟨k1, hk1, m1⟩ := mod_nat (vc rs 12) hl0
          have l1 := lrows_at hk1
          have hq := hls ls[k1] (List.getElem_mem _)
          generalize ls[k1] = q at l1 hq
          have hlist : listO [lrow q] = some (.dats (q.map .int)) := rfl
          refine Rn.sqret (d := .lst (q.map .int)) (by
            show frz _ [.dat (.lst (rs.map .int)), _, _, .dat (.lst (ls.map lrow)), _, _, _, _, _, _] = _
            (simp (disch := first | assumption | omega) only [e12, List.length_map, m1, l1, hlist, MV, MW])) ⟨_, _, rfl, rfl, q, hq.1, hq.2, rfl⟩
        · refine Rn.sqif (p := kd = 6) (by
            show asB _ [_, _, _, _, .dat (.int kd), _, _, _, _, _] = _
            (simp (disch := first | assumption | omega) only [MV, MW])) (fun hc => ?_) fun _ => Rn.sqskip ?_
          · have key : ∀ j : Nat, ∃ x : Int, j < n → x.natAbs < 2 ^ 110 ∧ m_law_number [.int (vc rs 13 % 6), .lst (cutD (rs.map .int) (some (14 + 3 * (j : Int))) (some (17 + 3 * (j : Int))))] = some (.int x) := fun j => by
              by_cases hj : j < n
              · rw [cut_map]
                obtain ⟨x, h1, h2⟩ := number_run (vc rs 13 % 6) (rs := cutD rs (some (14 + 3 * (j : Int))) (some (17 + 3 * (j : Int)))) (by
                  have := cut_len (xs := rs) (a := 14 + 3 * (j : Int)) (b := 17 + 3 * (j : Int)) (by omega) (by omega) (by omega)
                  omega) fun r h => hr r (cut_sub h)
                exact ⟨x, fun _ => ⟨h1, h2⟩⟩
              · exact ⟨0, fun z => absurd z hj⟩
            obtain ⟨F, hF⟩ := Classical.axiomOfChoice key
            have el := lc_map (fi := rng1 (gv 1)) (gt := gN 9) (f := cB (aCons (b2 (cB (aCons (b2 (gv 0) (kI 13) ixD) aNil) intD) (kI 6) modI) (aCons (slc (gv 0) (part (b2 (kI 14) (b2 (kI 3) (gv 9) mulI) addA)) (part (b2 (kI 17) (b2 (kI 3) (gv 9) mulI) addA))) aNil)) (len? 2 (m_law_number))) (vs := [9])
              (ρ := [.dat (.lst (rs.map .int)), .dat (.int n), .dat (.lst (es.map lrow)), .dat (.lst (ls.map lrow)), .dat (.int kd), .dats (a.map .int), x6, x7, x8, .unk]) (φ := fun k : Nat => .int (k : Int)) (fun k : Nat => .int (F k)) (xs := List.range n) rfl
              (rng_run (by omega) rfl) (by simp; omega) fun k hk => ⟨_, rfl, by
                have e5 := (hF k (by simpa using hk)).2
                show cB _ _ [.dat (.lst (rs.map .int)), _, _, _, _, _, _, _, _, .dat (.int (k : Nat))] = _
                (simp (disch := first | assumption | omega) only [e13, e5, MV, MW])⟩
            have e8 : (List.range n).map (fun k : Nat => D.int (F k)) = ((List.range n).map F).map .int := by rw [List.map_map]; rfl
            rw [e8] at el
            refine Rn.sqret el ⟨_, _, rfl, rfl, (List.range n).map F, by simp, fun k => ?_, rfl⟩
            by_cases hk : k < n
            · rw [vc_eq (by simpa using hk)]
              simp only [List.getElem_map, List.getElem_range]
              have := (hF k hk).1
              omega
            · rw [vc_out (by simp; omega)]; exact Nat.zero_le _
          · refine Rn.fzD rfl ?_
            exact Rn.ret (d := .lst (a.map .int)) rfl ⟨_, _, rfl, rfl, a, al, fun k => Nat.le_trans (ab k) hC2, rfl⟩
  exact ⟨g, h1, h2, e⟩
end K34

namespace PD
theorem Rn.appAT {i j k : Nat} {ρ : Ev} {Q : Fl → Prop} {fb : Ev → Option D} {fe : Ev → Option O} {oss os : List O} {y : O} (hj : j < ρ.length) (h0 : ρ[i]? = some (.tup oss)) (hb : fb (ρ.map O.vw) = some (.int k)) (hk : oss[k]? = some (.lst os)) (hf : fe ((ρ.set j .unk).map O.vw) = some y) (im : immO y = true) (hl : os.length < 1000000)
    (q : Q (.nx ((ρ.set j .unk).set i (.tup (oss.set k (.lst (os ++ [y]))))))) : Rn (appA j i (plI i plN fb) fe) ρ Q := by
  have hk' := (List.getElem?_eq_some_iff.mp hk).1
  have e1 : plI i plN fb ρ = some [k] := by
    unfold plI plN
    rw [Option.bind_some, hb]
    simp only [onSub, h0, Option.bind_some, O.sub, ixN_nat hk', List.getD_eq_getElem?_getD, hk, Option.getD_some]
    rfl
  have e2 : onSub i [k] ρ = some (.lst os) := by
    simp only [onSub, h0, Option.bind_some, O.sub, O.kid, hk]
  refine ⟨_, ?_, q⟩
  unfold appA
  rw [e1, Option.bind_some, e2]
  simp only [vwO, hf, Option.bind_some, if_pos im]
  rw [if_pos ⟨hj, Nat.lt_of_lt_of_le hl (by decide)⟩, getD_of h0]
  simp only [O.put, O.kid, hk, O.setKid]
end PD
namespace K34
open PySem PySem.Spec L2 PD LA Ln
theorem right_no {ls g : D} : m_law_right [.non, ls, g, .bl false] = some (.bl true) := by
  refine runP_eq ?_
  unfold b_law_right
  show Rn _ [.dat .non, .dat ls, .dat g, .dat (.bl false), .unk, .unk, .unk, .unk, .unk, .unk, .unk] _
  refine Rn.sqifT (by
    show orT _ _ [.dat .non, _, _, .dat (.bl false), _, _, _, _, _, _, _] = _
    (simp (disch := first | assumption | omega) only [MV, MW])) ?_
  exact Rn.sqret (d := .bl true) (by
    show andV _ _ [.dat .non, _, _, .dat (.bl false), _, _, _, _, _, _, _] = _
    (simp (disch := first | assumption | omega) only [MV, MW])) ⟨_, rfl, rfl⟩
theorem right_yes {n m : Nat} {vs : List (List Int)} {g fs : List Int} {dv : Int} (h : InOk n m vs g) (c : Cmb n m vs g fs dv) : m_law_right [.tup [.lst (fs.map .int), .int dv], .lst (vs.map lrow), .lst (g.map .int), .bl true] = some (.bl true) := by
  have h1 := h.hn
  have h2 := h.hm
  have hv := h.vl
  have hgl := h.gl_
  have fl := c.fl
  have pos := c.pos
  refine runP_eq ?_
  unfold b_law_right
  show Rn _ [.dat (.tup [.lst (fs.map .int), .int dv]), .dat (.lst (vs.map lrow)), .dat (.lst (g.map .int)), .dat (.bl true), .unk, .unk, .unk, .unk, .unk, .unk, .unk] _
  refine Rn.chk (by
    show orT _ _ [.dat (.tup [.lst (fs.map .int), .int dv]), _, _, .dat (.bl true), _, _, _, _, _, _, _] = _
    (simp (disch := first | assumption | omega) only [MV, MW])) ?_
  refine Rn.chk (by
    show orT _ _ [.dat (.tup [.lst (fs.map .int), .int dv]), _, _, _, _, _, _, _, _, _, _] = _
    (simp (disch := first | assumption | omega) only [MV, MW])
    rfl) ?_
  refine Rn.sqasg (d := .tup [.lst (fs.map .int), .int dv]) (ρ' := [.dat (.tup [.lst (fs.map .int), .int dv]), .dat (.lst (vs.map lrow)), .dat (.lst (g.map .int)), .dat (.bl true), .dat (.lst (fs.map .int)), .dat (.int dv), .unk, .unk, .unk, .unk, .unk]) rfl rfl ?_
  have i1 : m_law_is_integer [.int dv] = some (.bl true) := rfl
  have q1 : decide ((fs.length : Int) ≠ (vs.length : Int)) = false := decide_eq_false (by omega)
  refine Rn.chk (by
    show orT _ _ [_, .dat (.lst (vs.map lrow)), _, _, .dat (.lst (fs.map .int)), .dat (.int dv), _, _, _, _, _] = _
    (simp (disch := first | assumption | omega) only [List.length_map, q1, i1, MV, MW])) ?_
  refine Rn.sqst (d := .int dv) rfl ?_
  refine Rn.sqfor (xs := fs) (φ := .int) rfl (fun i ρ => ∃ x7, ρ = [.dat (.tup [.lst (fs.map .int), .int dv]), .dat (.lst (vs.map lrow)), .dat (.lst (g.map .int)), .dat (.bl true), .dat (.lst (fs.map .int)), .dat (.int dv), .dat (.int (gl (dv :: fs.take i) : Nat)), x7, .unk, .unk, .unk])
    ⟨.unk, by
      have : ((gl (dv :: fs.take 0) : Nat) : Int) = dv := by
        rw [List.take_zero, gl_cons]
        show ((Nat.gcd dv.natAbs 0 : Nat) : Int) = dv
        rw [Nat.gcd_zero_right]; omega
      rw [this]; rfl⟩ (fun i hi ρ hI => ?_) (fun ρ hI => ?_)
  · obtain ⟨x7, rfl⟩ := hI
    refine ⟨_, rfl, ?_⟩
    have i2 : m_law_is_integer [.int fs[i]] = some (.bl true) := rfl
    have i3 : m_law_gcd [.int (gl (dv :: fs.take i) : Nat), .int fs[i]] = some (.int (Nat.gcd (gl (dv :: fs.take i)) fs[i].natAbs : Nat)) := by
      have hbi := c.fb i
      rw [vc_eq hi] at hbi
      have := gcd_run (gl (dv :: fs.take i) : Nat) fs[i] (Nat.lt_trans hbi (Nat.pow_lt_pow_right (by decide) (by decide)))
      rwa [Int.natAbs_natCast] at this
    have e5 : gl (dv :: fs.take (i + 1)) = Nat.gcd (gl (dv :: fs.take i)) fs[i].natAbs := by
      rw [List.take_succ_eq_append_getElem hi, ← List.cons_append, gl_snoc]
    rw [e5]
    refine Rn.chk (by show notT _ [_, _, _, _, _, _, _, .dat (.int fs[i]), _, _, _] = _; (simp (disch := first | assumption | omega) only [i2, MV, MW])) ?_
    exact Rn.st (d := .int (Nat.gcd (gl (dv :: fs.take i)) fs[i].natAbs : Nat)) (by show cB _ _ [_, _, _, _, _, _, .dat (.int (gl (dv :: fs.take i) : Nat)), .dat (.int fs[i]), _, _, _] = _; (simp (disch := first | assumption | omega) only [i3, MV, MW])) ⟨_, rfl⟩
  · obtain ⟨x7, rfl⟩ := hI
    rw [List.take_length, c.one]
    refine Rn.sqfor (xs := List.range n) (φ := fun k : Nat => .int (k : Int)) (rng_run (by omega) (by
        show cB _ _ [_, _, .dat (.lst (g.map .int)), _, _, _, _, _, _, _, _] = _
        (simp (disch := first | assumption | omega) only [List.length_map, hgl, MV, MW]))) (fun i ρ => ∃ x8 x9, ρ = [.dat (.tup [.lst (fs.map .int), .int dv]), .dat (.lst (vs.map lrow)), .dat (.lst (g.map .int)), .dat (.bl true), .dat (.lst (fs.map .int)), .dat (.int dv), .dat (.int (1 : Nat)), x7, x8, x9, .unk]) ⟨_, _, rfl⟩ (fun i hi ρ hI => ?_) (fun ρ hI => ?_)
    · obtain ⟨x8, x9, rfl⟩ := hI
      have hi' : i < n := by simpa using hi
      rw [List.getElem_range]
      refine ⟨[.dat (.tup [.lst (fs.map .int), .int dv]), .dat (.lst (vs.map lrow)), .dat (.lst (g.map .int)), .dat (.bl true), .dat (.lst (fs.map .int)), .dat (.int dv), .dat (.int (1 : Nat)), x7, .dat (.int (i : Nat)), x9, .unk], rfl, ?_⟩
      have el := PD.lc_map (fi := rng1 (cB (aCons (gv 1) aNil) lenD)) (gt := gN 10) (f := b2 (b2 (gv 4) (gv 10) ixD) (b2 (b2 (gv 1) (gv 10) ixD) (gv 8) ixD) mulA) (vs := [10])
        (ρ := [.dat (.tup [.lst (fs.map .int), .int dv]), .dat (.lst (vs.map lrow)), .dat (.lst (g.map .int)), .dat (.bl true), .dat (.lst (fs.map .int)), .dat (.int dv), .dat (.int (1 : Nat)), x7, .dat (.int (i : Nat)), x9, .unk]) (φ := fun k : Nat => .int (k : Int)) (fun k : Nat => .int (vc fs k * vc (vs.getD k []) i)) (xs := List.range m) rfl
        (rng_run (by omega) (by
          show cB _ _ [_, .dat (.lst (vs.map lrow)), _, _, _, _, _, _, _, _, _] = _
          (simp (disch := first | assumption | omega) only [List.length_map, hv, MV, MW]))) (by simp; omega) fun k hk => ⟨_, rfl, by
          have hk : k < m := by simpa using hk
          have hkv : k < vs.length := by omega
          have a1 := at_vc (r := fs) (k := k) (by omega)
          have a2 := lrows_at hkv
          have ev : vs.getD k [] = vs[k] := by rw [List.getD_eq_getElem?_getD, List.getElem?_eq_getElem hkv]; rfl
          have hvi := h.vi vs[k] (List.getElem_mem _)
          rw [ev]
          generalize vs[k] = u at a2 hvi
          have a3 : ixD (lrow u) (.int (i : Nat)) = some (.int (vc u i)) := at_vc (by omega)
          have m1 := mul_bt (i := vc fs k) (j := vc u i) (a := 6500) (b := 201) (c.fb k) (Nat.lt_of_le_of_lt (hvi.2 i) (show MM < 2 ^ 201 from Nat.pow_lt_pow_right (by decide) (by decide))) (by decide) (by decide) (by decide)
          show b2 _ _ _ [_, .dat (.lst (vs.map lrow)), _, _, .dat (.lst (fs.map .int)), _, _, _, .dat (.int (i : Nat)), _, .dat (.int (k : Nat))] = _
          (simp (disch := first | assumption | omega) only [a1, a2, a3, m1, MV, MW])⟩
      have es : sumD [.lst ((List.range m).map fun k : Nat => .int (vc fs k * vc (vs.getD k []) i))] = some (.int (vc g i * dv)) := by
        have : ((List.range m).map fun k : Nat => D.int (vc fs k * vc (vs.getD k []) i)) = ((List.range m).map fun k : Nat => vc fs k * vc (vs.getD k []) i).map .int := by rw [List.map_map]; rfl
        rw [this]
        unfold sumD
        simp only [intsD_map]
        show some (D.int _) = _
        rw [c.sum i hi']
      refine Rn.sqst (d := .int (vc g i * dv)) (by
        show cB (aCons (lcD _ _ _ _ _) aNil) sumD _ = _
        (simp (disch := first | assumption | omega) only [el, es, MV, MW])) ?_
      have a4 := at_vc (r := g) (k := i) (by omega)
      have m2 := mul_bt (i := vc g i) (j := dv) (a := 201) (b := 6500) (Nat.lt_of_le_of_lt (h.gb i) (show MM < 2 ^ 201 from Nat.pow_lt_pow_right (by decide) (by decide))) c.db (by decide) (by decide) (by decide)
      have q3 : decide (vc g i * dv ≠ vc g i * dv) = false := decide_eq_false (by simp)
      refine Rn.iteP (p := vc g i * dv ≠ vc g i * dv) (by
        show asB _ [_, _, .dat (.lst (g.map .int)), _, _, .dat (.int dv), _, _, .dat (.int (i : Nat)), .dat (.int (vc g i * dv)), _] = _
        (simp (disch := first | assumption | omega) only [a4, m2, MV, MW])) (fun z => absurd rfl z) fun _ => Rn.skip ⟨_, _, rfl⟩
    · obtain ⟨x8, x9, rfl⟩ := hI
      have q4 : decide ((1 : Int) ≤ dv) = true := decide_eq_true pos
      refine Rn.ret (d := .bl true) ?_ ⟨_, rfl, rfl⟩
      show andV _ _ [_, _, _, _, _, .dat (.int dv), .dat (.int (1 : Nat)), _, _, _, _] = _
      (simp (disch := first | assumption | omega) only [q4, MV, MW])
      rfl
theorem isrank_run (a b : Int) : m_law_is_rank [.int a, .int b] = some (.bl (decide (a = b))) := by
  refine runP_eq ?_
  unfold b_law_is_rank
  show Rn _ [.dat (.int a), .dat (.int b)] _
  have i1 : m_law_is_integer [.int a] = some (.bl true) := rfl
  exact Rn.ret (d := .bl (decide (a = b))) (by
    show andV _ _ [.dat (.int a), .dat (.int b)] = _
    (simp (disch := first | assumption | omega) only [i1, MV, MW])) ⟨_, rfl, rfl⟩
theorem rank_run {n : Nat} (hn : n ≤ 8) {vs : List (List Int)} (hv : ∀ r ∈ vs, r.length = n ∧ ∀ k, (vc r k).natAbs ≤ MM) {psi : List Int → D} (hpsi : ∀ r, Rw (psi r) r) {d : D} (hd : seqD d = some (vs.map psi)) {X : List Vec} (g : Gd (vs.map vc).reverse X) : mrank_of [d] = some (.int X.length) := by
  have e1 := echl_run (n := n) (by omega) hpsi hd hv
  obtain ⟨st, ok, gd⟩ := echl_ok hv vs.length (Nat.le_refl _)
  rw [List.take_length] at ok gd
  have : (echl vs).length = X.length := by
    rw [ok.elen, ← Gd.one gd g]
    simp [rows]
  have e1' : mechelon_of [d] = some (.lst ((echl vs).map phi)) := e1
  refine runP_eq ?_
  unfold brank_of
  show Rn _ [.dat d] _
  exact Rn.ret (d := .int X.length) (by
    show cB _ _ [.dat d] = _
    (simp (disch := first | assumption | omega) only [e1', List.length_map, this, MV, MW])) ⟨_, rfl, rfl⟩
end K34

namespace K34
open PySem PySem.Spec L2 PD LA Ln
def tml (t : Int) (b : List Int) : List Int := b.map fun x => t * x
theorem tml_vc (t : Int) (b : List Int) (k : Nat) : vc (tml t b) k = t * vc b k := vc_map (by simp) _ k
def env (ns sh : List Int) (n m : Nat) (es ls : List (List Int)) (x6 x7 : O) : Ev := [.dat (.lst (ns.map .int)), .dat (.lst (sh.map .int)), .dat (.int n), .dat (.int m), .dats (es.map lrow), .dats (ls.map lrow), x6, x7, .unk, .unk, .unk, .unk, .unk, .unk, .unk, .unk, .unk, .unk]
def CC (k : Nat) : Nat := 6 ^ k * 2 ^ 110
theorem cc_lo (k : Nat) : 2 ^ 110 ≤ CC k := Nat.le_mul_of_pos_left _ (Nat.pow_pos (by decide))
theorem cc_hi : ∀ k, k < 10 → CC k < 2 ^ 137 := by decide +kernel
theorem cc_s (k : Nat) : CC (k + 1) = 6 * CC k := by unfold CC; rw [Nat.pow_succ]; grind
structure LS (n k : Nat) (es ls : List (List Int)) : Prop where
  el : es.length = k
  ll : ls.length = k
  ei : ∀ e ∈ es, e.length = n ∧ ∀ j, (vc e j).natAbs ≤ CC k
  li : ∀ e ∈ ls, e.length = n ∧ ∀ j, (vc e j).natAbs ≤ MM
theorem lists_run {ns sh : List Int} {n m : Nat} (hn : n ≤ 8) (hm : m ≤ 9) {g : Ev → Option Fl} {Q : Fl → Prop}
    (q : ∀ es ls x6 x7, LS n m es ls → Rn g (env ns sh n m es ls x6 x7) Q) :
    Rn (sq (forS (rng1 (gv 3)) (gN 6) (sq (stV 7 (cB (aCons (cB (aCons (gv 0) (aCons (b2 (kI 1) (gv 6) addA) aNil)) (len? 2 (m_law_seed))) (aCons (kI 30) aNil)) (len? 2 (m_law_row))))
    (sq (app 4 (frz (vwO (cO' (aCons (gv 7) (aCons (gv 2) (aCons (gv 4) aNil))) 3 (m_law_base)))))
    (app 5 (frz (vwO (lcO (iOf (b2 (gv 4) (gv 6) ixD)) (gN 17) yes (b2 (cB (aCons (gv 7) aNil) (len? 1 (m_law_times))) (gv 17) mulA) [17]))))))) g) (env ns sh n m [] [] .unk .unk) Q := by
  refine Rn.sqfor (xs := List.range m) (φ := fun k : Nat => .int (k : Int)) (rng_run (by omega) rfl) (fun i ρ => ∃ es ls x6 x7, ρ = env ns sh n m es ls x6 x7 ∧ LS n i es ls)
    ⟨[], [], .unk, .unk, rfl, ⟨rfl, rfl, fun e h => (nomatch h), fun e h => (nomatch h)⟩⟩ (fun i hi ρ hI => ?_) (fun ρ hI => ?_)
  · obtain ⟨es, ls, x6, x7, rfl, S⟩ := hI
    have hi' : i < m := by simpa using hi
    rw [List.getElem_range]
    refine ⟨env ns sh n m es ls (.dat (.int (i : Nat))) x7, rfl, ?_⟩
    obtain ⟨s, es1⟩ := seed_run ns (1 + i)
    obtain ⟨dr, ed, dl, db⟩ := row_run s 30 (by decide)
    have es' : K34.m_law_seed [.lst (ns.map .int), .int (1 + (i : Int))] = some (.int s) := by
      have := es1
      rwa [show ((1 + i : Nat) : Int) = 1 + (i : Int) by omega] at this
    have ed' : K34.m_law_row [.int s, .int 30] = some (.lst (dr.map .int)) := ed
    refine Rn.sqst (d := .lst (dr.map .int)) (by
      show cB _ _ [.dat (.lst (ns.map .int)), _, _, _, _, _, .dat (.int i), _, _, _, _, _, _, _, _, _, _, _] = _
      (simp (disch := first | assumption | omega) only [es', ed', MV, MW])) ?_
    have c9 := cc_hi i (by omega)
    have c200 : CC i < 2 ^ 200 := Nat.lt_trans c9 (Nat.pow_lt_pow_right (by decide) (by decide))
    obtain ⟨b, b1, b2', b3⟩ := base_run hn dl db (es := es) (by have := S.el; omega) (cc_lo i) c200 S.ei
    obtain ⟨t, t1, t2, t3⟩ := times_run dl
    have im := immH_ints34 b
    have el := S.el
    have ll := S.ll
    refine Rn.sqapp (d := lrow b) (ds := es.map lrow) (by
      show frz (vwO _) [_, _, .dat (.int n), _, .dats (es.map lrow), _, _, .dat (.lst (dr.map .int)), _, _, _, _, _, _, _, _, _, _] = _
      have b3' : lenO? 3 m_law_base [.lst (dr.map .int), .int n, .lst (es.map lrow)] = some (.dats (b.map .int)) := b3
      (simp (disch := first | assumption | omega) only [b3, im, MV, MW])
      rfl) rfl (by simp; omega) ?_
    have lb : ixD (.lst (es.map lrow ++ [lrow b])) (.int (i : Nat)) = some (lrow b) := by
      show atI (es.map lrow ++ [lrow b]) (i : Int) = _
      exact atI_nat (by rw [List.getElem?_append_right (by simp; omega)]; simp [el])
    have e9 := lcO_map (fi := iOf (gv 4 |> fun f => PD.b2 f (gv 6) ixD)) (gt := gN 17) (f := PD.b2 (cB (aCons (gv 7) aNil) (len? 1 (m_law_times))) (gv 17) mulA) (vs := [17])
      (ρ := [.dat (.lst (ns.map .int)), .dat (.lst (sh.map .int)), .dat (.int n), .dat (.int m), .dat (.lst (es.map lrow ++ [lrow b])), .dat (.lst (ls.map lrow)), .dat (.int (i : Nat)), .dat (.lst (dr.map .int)), .unk, .unk, .unk, .unk, .unk, .unk, .unk, .unk, .unk, .unk]) (φ := .int) (fun x => .int (t * x)) (xs := b) rfl
      (iof (d := lrow b) (by
        show PD.b2 _ _ _ [_, _, _, _, .dat (.lst (es.map lrow ++ [lrow b])), _, .dat (.int (i : Nat)), _, _, _, _, _, _, _, _, _, _, _] = _
        (simp (disch := first | assumption | omega) only [lb, MV, MW])) rfl) (by omega) fun x hx => ⟨_, rfl, by
        obtain ⟨j, hj, rfl⟩ := mem_vc hx
        have hb := b2' j
        have m1 := mul_bt (i := t) (j := vc b j) (a := 62) (b := 200) t2 (by omega) (by decide) (by decide) (by decide)
        show PD.b2 _ _ _ [_, _, _, _, _, _, _, .dat (.lst (dr.map .int)), _, _, _, _, _, _, _, _, _, .dat (.int (vc b j))] = _
        (simp (disch := first | assumption | omega) only [t3, m1, MV, MW])⟩
    have e8 : b.map (fun x => D.int (t * x)) = (tml t b).map .int := by unfold tml; rw [List.map_map]; rfl
    rw [e8] at e9
    have im2 := immH_ints34 (tml t b)
    refine Rn.appD (d := lrow (tml t b)) (ds := ls.map lrow) (by
      show frz (vwO (lcO _ _ _ _ _)) [.dat (.lst (ns.map .int)), .dat (.lst (sh.map .int)), .dat (.int n), .dat (.int m), .dats (es.map lrow ++ [lrow b]), .dats (ls.map lrow), .dat (.int (i : Nat)), .dat (.lst (dr.map .int)), .unk, .unk, .unk, .unk, .unk, .unk, .unk, .unk, .unk, .unk] = _
      have e9' : lcO (iOf (PD.b2 (gv 4) (gv 6) ixD)) (gN 17) yes (PD.b2 (cB (aCons (gv 7) aNil) (len? 1 (m_law_times))) (gv 17) mulA) [17] [.dat (.lst (ns.map .int)), .dat (.lst (sh.map .int)), .dat (.int n), .dat (.int m), .dat (.lst (es.map lrow ++ [lrow b])), .dat (.lst (ls.map lrow)), .dat (.int (i : Nat)), .dat (.lst (dr.map .int)), .unk, .unk, .unk, .unk, .unk, .unk, .unk, .unk, .unk, .unk] = _ := e9
      (simp (disch := first | assumption | omega) only [e9', im2, MV, MW])
      rfl) rfl (by simp; omega) ?_
    refine ⟨es ++ [b], ls ++ [tml t b], .dat (.int (i : Nat)), .dat (.lst (dr.map .int)), ?_, ?_⟩
    · unfold env
      rw [List.map_append, List.map_append]
      rfl
    · refine ⟨by simp [el], by simp [ll], fun e he => ?_, fun e he => ?_⟩
      · rw [cc_s]
        rcases List.mem_append.mp he with he | he
        · have := S.ei e he
          exact ⟨this.1, fun j => Nat.le_trans (this.2 j) (by omega)⟩
        · have : e = b := by simpa using he
          rw [this]; exact ⟨b1, b2'⟩
      · rcases List.mem_append.mp he with he | he
        · exact S.li e he
        · have : e = tml t b := by simpa using he
          rw [this]
          refine ⟨by simp [tml, b1], fun j => ?_⟩
          rw [tml_vc, Int.natAbs_mul]
          have h1 : t.natAbs * (vc b j).natAbs ≤ 2 ^ 62 * (6 * 2 ^ 137) := Nat.mul_le_mul (by omega) (Nat.le_trans (b2' j) (by omega))
          have h2 : (2 : Nat) ^ 62 * (6 * 2 ^ 137) ≤ 2 ^ 202 := by decide +kernel
          have h3 : t.natAbs * (vc b j).natAbs ≤ 2 ^ 62 * (6 * CC i) := Nat.mul_le_mul (by omega) (b2' j)
          have h4 : ∀ k, k < 9 → 2 ^ 62 * (6 * CC k) ≤ MM := by decide +kernel
          exact Nat.le_trans h3 (h4 i (by omega))
  · obtain ⟨es, ls, x6, x7, rfl, S⟩ := hI
    rw [List.length_range] at S
    exact q es ls x6 x7 S
end K34

namespace K34
open PySem PySem.Spec L2 PD LA Ln
theorem plain_row (r : List Int) : (D.lst (r.map .int)).plain 60 = true ∧ (D.lst (r.map .int)).deep ≤ 1 :=
  plain_lst 0 (by decide) fun d hd => by
      obtain ⟨x, _, rfl⟩ := List.mem_map.mp hd
      exact ⟨rfl, Nat.le_refl _⟩
theorem plain_rows (t : List (List Int)) : (D.lst (t.map lrow)).plain 60 = true :=
  (plain_lst 1 (by decide) fun d hd => by
    obtain ⟨r, _, rfl⟩ := List.mem_map.mp hd
    exact plain_row r).1
theorem list_row {d : D} {r : List Int} (h : Rw d r) : frz (cO (aCons (fun _ => some d) aNil) listO) [] = some (.lst (r.map .int)) := by
  unfold frz
  rw [ev_cO, ev_aCons, Option.bind_some, ev_aNil, Option.bind_some, Option.bind_some, h.list, Option.bind_some, toD_dats]
theorem bfold_run {n : Nat} (hn : n ≤ 8) {ls : List (List Int)} (hl : ls.length ≤ 9) (hls : ∀ e ∈ ls, e.length = n ∧ ∀ j, (vc e j).natAbs ≤ MM) (i : Nat) (hi : i < ls.length) :
    m_law_with [.lst (((ls.take i).foldl bwith []).map phi), lrow ls[i]] = some (.lst (((ls.take (i + 1)).foldl bwith []).map phi)) := by
  obtain ⟨st, g, h, gd⟩ := bfold_gd (n := n) (vs := ls) (fun v hv => (hls v hv).1) i (by omega)
  have hst : st.length ≤ 9 := by
    have := gd.sub.length_le
    simp [rows] at this
    omega
  have hv := hls ls[i] (List.getElem_mem _)
  have e := bwith_run g h (fun r hr => by
    have := gd.sub.subset hr
    rw [List.mem_reverse] at this
    obtain ⟨v, hv, rfl⟩ := List.mem_map.mp this
    exact (hls v (List.mem_of_mem_take hv)).2) (by omega) (by omega) hv.1 hv.2
  rw [List.take_succ_eq_append_getElem hi, List.foldl_append]
  exact e
theorem law_true : ∀ ns : List Int, ns.length ≤ 63 → mlaw [.lst (ns.map .int)] = some (.bl true) := by
  intro ns hns
  refine runP_eq ?_
  unfold blaw
  show Rn _ [.dat (.lst (ns.map .int)), .unk, .unk, .unk, .unk, .unk, .unk, .unk, .unk, .unk, .unk, .unk, .unk, .unk, .unk, .unk, .unk, .unk] _
  obtain ⟨s, es⟩ := seed_run ns 0
  obtain ⟨sh, ed, dl, db⟩ := row_run s 6 (by decide)
  have es' : K34.m_law_seed [.lst (ns.map .int), .int 0] = some (.int s) := es
  have ed' : K34.m_law_row [.int s, .int 6] = some (.lst (sh.map .int)) := ed
  have a0 : ixD (.lst (sh.map .int)) (.int 0) = some (.int (vc sh 0)) := at_vc (k := 0) (by omega)
  have a1 : ixD (.lst (sh.map .int)) (.int 1) = some (.int (vc sh 1)) := at_vc (k := 1) (by omega)
  have a2 : ixD (.lst (sh.map .int)) (.int 2) = some (.int (vc sh 2)) := at_vc (k := 2) (by omega)
  have a3 : ixD (.lst (sh.map .int)) (.int 3) = some (.int (vc sh 3)) := at_vc (k := 3) (by omega)
  have a4 : ixD (.lst (sh.map .int)) (.int 4) = some (.int (vc sh 4)) := at_vc (k := 4) (by omega)
  have a5 : ixD (.lst (sh.map .int)) (.int 5) = some (.int (vc sh 5)) := at_vc (k := 5) (by omega)
  refine Rn.sqst (d := .lst (sh.map .int)) (by show cB _ _ [.dat (.lst (ns.map .int)), _, _, _, _, _, _, _, _, _, _, _, _, _, _, _, _, _] = _; (simp (disch := first | assumption | omega) only [es', ed', MV, MW])) ?_
  refine Rn.sqst (d := .int (vc sh 0 % 6)) (by show b2 _ _ _ [_, .dat (.lst (sh.map .int)), _, _, _, _, _, _, _, _, _, _, _, _, _, _, _, _] = _; (simp (disch := first | assumption | omega) only [a0, MV, MW])) ?_
  refine Rn.sqst (d := .int (vc sh 1 % 6)) (by show b2 _ _ _ [_, .dat (.lst (sh.map .int)), _, _, _, _, _, _, _, _, _, _, _, _, _, _, _, _] = _; (simp (disch := first | assumption | omega) only [a1, MV, MW])) ?_
  show Rn _ [.dat (.lst (ns.map .int)), .dat (.lst (sh.map .int)), .dat (.int (vc sh 0 % 6)), .dat (.int (vc sh 1 % 6)), .unk, .unk, .unk, .unk, .unk, .unk, .unk, .unk, .unk, .unk, .unk, .unk, .unk, .unk] _
  refine Rn.join (P := fun ρ => ∃ n m : Nat, n ≤ 8 ∧ m ≤ 9 ∧ ρ = [.dat (.lst (ns.map .int)), .dat (.lst (sh.map .int)), .dat (.int n), .dat (.int m), .unk, .unk, .unk, .unk, .unk, .unk, .unk, .unk, .unk, .unk, .unk, .unk, .unk, .unk]) ?_ ?_
  · refine Rn.iteP (p := vc sh 2 % 8 = 1) (by show asB _ [_, .dat (.lst (sh.map .int)), _, _, _, _, _, _, _, _, _, _, _, _, _, _, _, _] = _; (simp (disch := first | assumption | omega) only [a2, MV, MW])) (fun _ => ?_) fun _ => ?_
    · refine Rn.sqst (d := .int (vc sh 3 % 9)) (by show b2 _ _ _ [_, .dat (.lst (sh.map .int)), _, _, _, _, _, _, _, _, _, _, _, _, _, _, _, _] = _; (simp (disch := first | assumption | omega) only [a3, MV, MW])) ?_
      refine Rn.st (d := .int (vc sh 4 % 10)) (by show b2 _ _ _ [_, .dat (.lst (sh.map .int)), _, _, _, _, _, _, _, _, _, _, _, _, _, _, _, _] = _; (simp (disch := first | assumption | omega) only [a4, MV, MW])) ?_
      refine ⟨(vc sh 3 % 9).toNat, (vc sh 4 % 10).toNat, by omega, by omega, ?_⟩
      rw [Int.toNat_of_nonneg (by omega), Int.toNat_of_nonneg (by omega)]; rfl
    · refine Rn.skip ⟨(vc sh 0 % 6).toNat, (vc sh 1 % 6).toNat, by omega, by omega, ?_⟩
      rw [Int.toNat_of_nonneg (by omega), Int.toNat_of_nonneg (by omega)]
  rintro ρ ⟨n, m, hn, hm, rfl⟩
  refine Rn.sqstO (o := .dats []) rfl ?_
  refine Rn.sqstO (o := .dats []) rfl ?_
  refine lists_run (ns := ns) (sh := sh) (n := n) (m := m) hn hm fun es ls x6 x7 S => ?_
  have hel := S.el
  have hll := S.ll
  refine Rn.sq (Rn.fzD (ds := ls.map lrow) rfl (Rn.fzD (ds := es.map lrow) rfl ?_))
  obtain ⟨s2, es2⟩ := seed_run ns 10
  obtain ⟨gr, ed2, gl2, gb2⟩ := row_run s2 38 (by decide)
  have es2' : K34.m_law_seed [.lst (ns.map .int), .int 10] = some (.int s2) := es2
  have ed2' : K34.m_law_row [.int s2, .int 38] = some (.lst (gr.map .int)) := ed2
  have h30 : ∀ k, k < 10 → 30 * CC k ≤ MM := by decide +kernel
  obtain ⟨g, g1, g2, g3⟩ := goal_run hn gl2 gb2 (es := es) (ls := ls) (by omega) (by omega) (cc_lo m) (h30 m (by omega)) S.ei S.li
  refine Rn.st (d := lrow g) (by
    show cB _ _ [.dat (.lst (ns.map .int)), _, .dat (.int n), _, .dat (.lst (es.map lrow)), .dat (.lst (ls.map lrow)), _, _, _, _, _, _, _, _, _, _, _, _] = _
    (simp (disch := first | assumption | omega) only [es2', ed2', g3, MV, MW])
    rfl) ?_
  refine Rn.sqst (d := .lst []) rfl ?_
  refine Rn.sq (Rn.fz (o := .dat (.lst (ls.map lrow))) rfl rfl ?_)
  -- the law's rows
  refine Rn.forT (xs := ls) (φ := lrow) rfl (fun i ρ => ∃ x10 : O, (x10 = .unk ∨ ∃ d, x10 = .dat d) ∧ ρ = [.dat (.lst (ns.map .int)), .dat (.lst (sh.map .int)), .dat (.int n), .dat (.int m), .dat (.lst (es.map lrow)), .dat (.lst (ls.map lrow)), x6, x7, .dat (lrow g), .dat (.lst (((ls.take i).foldl bwith []).map phi)), x10, .unk, .unk, .unk, .unk, .unk, .unk, .unk])
    ⟨.unk, .inl rfl, rfl⟩ (fun i hi ρ hI => ?_) (fun ρ hI => ?_)
  · obtain ⟨x10, _, rfl⟩ := hI
    refine ⟨_, rfl, ?_⟩
    have eb := bfold_run hn (by omega) S.li i hi
    have eb' : K34.m_law_with [.lst (((ls.take i).foldl bwith []).map phi), lrow ls[i]] = some (.lst (((ls.take (i + 1)).foldl bwith []).map phi)) := eb
    refine Rn.st (d := .lst (((ls.take (i + 1)).foldl bwith []).map phi)) (by
      show cB _ _ [_, _, _, _, _, _, _, _, _, .dat (.lst (((ls.take i).foldl bwith []).map phi)), .dat (lrow ls[i]), _, _, _, _, _, _, _] = _
      (simp (disch := first | assumption | omega) only [eb', MV, MW])) ⟨.dat (lrow ls[i]), .inr ⟨_, rfl⟩, rfl⟩
  obtain ⟨x10, hx10, rfl⟩ := hI
  rw [List.take_length]
  obtain ⟨st, good, lw, gd⟩ := bfold_gd (n := n) (vs := ls) (fun v hv => (S.li v hv).1) ls.length (Nat.le_refl _)
  rw [List.take_length] at lw gd
  generalize hrs : ls.foldl bwith [] = rs at lw
  have hstl : st.length ≤ 9 := by
    have := gd.sub.length_le
    simp [rows] at this
    omega
  have rsl := lw.len
  have rowl : (rows st).length = rs.length := by rw [rsl]; simp [rows]
  have ew := bwith_run good lw (fun r hr => by
    have := gd.sub.subset hr
    rw [List.mem_reverse] at this
    obtain ⟨v, hv, rfl⟩ := List.mem_map.mp this
    exact (S.li v hv).2) (by omega) (by omega) g1 g2
  have ew' : K34.m_law_with [.lst (rs.map phi), lrow g] = some (.lst ((bwith rs g).map phi)) := ew
  have hin := bwith_len g1 good lw
  have hspan : InS (rows st) (vc g) ↔ InS (ls.map vc) (vc g) := by
    constructor
    · intro h
      refine InS.sub (fun b hb => InS.mem ?_) h
      have := gd.sub.subset hb
      rwa [List.mem_reverse] at this
    · intro h
      refine InS.sub (fun b hb => gd.span b (List.mem_reverse.mpr hb)) h
  have hins : InS (ls.map vc) (vc g) ↔ (bwith rs g).length = rs.length := hspan.symm.trans hin
  have hinI : ((((bwith rs g).length : Nat) : Int) = ((rs.length : Nat) : Int)) ↔ InS (ls.map vc) (vc g) := by rw [hins]; omega
  refine Rn.sqst (d := .bl (decide (((bwith rs g).length : Int) = (rs.length : Int)))) (by
    show b2 _ _ _ [_, _, _, _, _, _, _, _, .dat (lrow g), .dat (.lst (rs.map phi)), _, _, _, _, _, _, _, _] = _
    (simp (disch := first | assumption | omega) only [ew', List.length_map, MV, MW])) ?_
  obtain ⟨ins, hie⟩ : ∃ ins : Bool, ins = decide (((bwith rs g).length : Int) = (rs.length : Int)) := ⟨_, rfl⟩
  have hinsB : ins = true ↔ InS (ls.map vc) (vc g) := by rw [hie, decide_eq_true_iff]; exact hinI
  rw [← hie]
  refine Rn.sq (Rn.fz (o := .dat (.lst (ls.map lrow))) rfl rfl ?_)
  have elc : ∀ x11 x12 x13 x14 x15 x16 x17 : O, lcD (iOf (gv 5)) (gN 10) yes (frz (cO (aCons (gv 10) aNil) listO)) [10] [.dat (.lst (ns.map .int)), .dat (.lst (sh.map .int)), .dat (.int n), .dat (.int m), .dat (.lst (es.map lrow)), .dat (.lst (ls.map lrow)), x6, x7, .dat (lrow g), .dat (.lst (rs.map phi)), x10, x11, x12, x13, x14, x15, x16, x17] = some (.lst (ls.map lrow)) := fun x11 x12 x13 x14 x15 x16 x17 => by
    rcases hx10 with rfl | ⟨d10, rfl⟩
    · exact lc_map (vs := [10]) lrow (xs := ls) (φ := lrow) rfl rfl (by omega) fun r hr => ⟨_, rfl, by
        have := Rw.list (d := lrow r) (r := r) (.inl rfl)
        show frz _ [_, _, _, _, _, _, _, _, _, _, .dat (lrow r), _, _, _, _, _, _, _] = _
        (simp (disch := first | assumption | omega) only [this, MV, MW])
        rfl⟩
    · exact lc_map (vs := [10]) lrow (xs := ls) (φ := lrow) rfl rfl (by omega) fun r hr => ⟨_, rfl, by
        have := Rw.list (d := lrow r) (r := r) (.inl rfl)
        show frz _ [_, _, _, _, _, _, _, _, _, _, .dat (lrow r), _, _, _, _, _, _, _] = _
        (simp (disch := first | assumption | omega) only [this, MV, MW])
        rfl⟩
  refine Rn.st (elc (.dat (.bl ins)) .unk .unk .unk .unk .unk .unk) ?_
  have hg8 := Rw.list (d := lrow g) (r := g) (.inl rfl)
  refine Rn.sqst (d := lrow g) (by
    show frz _ [_, _, _, _, _, _, _, _, .dat (lrow g), _, _, _, _, _, _, _, _, _] = _
    (simp (disch := first | assumption | omega) only [hg8, MV, MW])
    rfl) ?_
  show Rn _ [.dat (.lst (ns.map .int)), .dat (.lst (sh.map .int)), .dat (.int n), .dat (.int m), .dat (.lst (es.map lrow)), .dat (.lst (ls.map lrow)), x6, x7, .dat (lrow g), .dat (.lst (rs.map phi)), x10, .dat (.bl ins), .dat (.lst (ls.map lrow)), .dat (lrow g), .unk, .unk, .unk, .unk] _
  refine Rn.join (P := fun ρ => ∃ (d12 d13 : D) (psi : List Int → D), (∀ r, Rw (psi r) r) ∧ seqD d12 = some (ls.map psi) ∧ lenD [d12] = some (.int m) ∧ Rw d13 g ∧ ρ = [.dat (.lst (ns.map .int)), .dat (.lst (sh.map .int)), .dat (.int n), .dat (.int m), .dat (.lst (es.map lrow)), .dat (.lst (ls.map lrow)), x6, x7, .dat (lrow g), .dat (.lst (rs.map phi)), x10, .dat (.bl ins), .dat d12, .dat d13, .unk, .unk, .unk, .unk]) ?_ ?_
  · refine Rn.iteP (p := vc sh 5 % 3 = 1) (by show asB _ [_, .dat (.lst (sh.map .int)), _, _, _, _, _, _, _, _, _, _, _, _, _, _, _, _] = _; (simp (disch := first | assumption | omega) only [a5, MV, MW])) (fun _ => ?_) fun _ => ?_
    · refine Rn.sq (Rn.fz (o := .dat (.lst (ls.map lrow))) rfl rfl ?_)
      have elt : lcD (iOf (gv 5)) (gN 10) yes (cB (aCons (gv 10) aNil) tupD) [10] [.dat (.lst (ns.map .int)), .dat (.lst (sh.map .int)), .dat (.int n), .dat (.int m), .dat (.lst (es.map lrow)), .dat (.lst (ls.map lrow)), x6, x7, .dat (lrow g), .dat (.lst (rs.map phi)), x10, .dat (.bl ins), .dat (.lst (ls.map lrow)), .dat (lrow g), .unk, .unk, .unk, .unk] = some (.lst (ls.map trow)) := by
        rcases hx10 with rfl | ⟨d10, rfl⟩
        · exact lc_map (vs := [10]) trow (xs := ls) (φ := lrow) rfl rfl (by omega) fun r hr => ⟨_, rfl, rfl⟩
        · exact lc_map (vs := [10]) trow (xs := ls) (φ := lrow) rfl rfl (by omega) fun r hr => ⟨_, rfl, rfl⟩
      refine Rn.st (d := .tup (ls.map trow)) (by
        show cB (aCons (lcD _ _ _ _ _) aNil) tupD [.dat (.lst (ns.map .int)), .dat (.lst (sh.map .int)), .dat (.int n), .dat (.int m), .dat (.lst (es.map lrow)), .dat (.lst (ls.map lrow)), x6, x7, .dat (lrow g), .dat (.lst (rs.map phi)), x10, .dat (.bl ins), .dat (.lst (ls.map lrow)), .dat (lrow g), .unk, .unk, .unk, .unk] = _
        (simp (disch := first | assumption | omega) only [elt, MV, MW])) ?_
      refine Rn.st (d := trow g) rfl ?_
      refine ⟨.tup (ls.map trow), trow g, trow, fun r => .inr rfl, rfl, ?_, .inr rfl, rfl⟩
      rw [ev_lenT, List.length_map, hll]
    · refine Rn.skip ⟨.lst (ls.map lrow), lrow g, lrow, fun r => .inl rfl, rfl, ?_, .inl rfl, rfl⟩
      rw [ev_lenL, List.length_map, hll]
  rintro ρ ⟨d12, d13, psi, hpsi, hd12, hdl12, hd13, rfl⟩
  have iok : InOk n m ls g := ⟨hn, hm, hll, S.li, g1, g2⟩
  have er := rank_run hn S.li hpsi hd12 gd
  rw [rowl] at er
  have ir := isrank_run (rs.length : Nat) (rs.length : Nat)
  rw [decide_eq_true rfl] at ir
  refine Rn.chk (by
    show notT _ [_, _, _, _, _, _, _, _, _, .dat (.lst (rs.map phi)), _, _, .dat d12, _, _, _, _, _] = _
    (simp (disch := first | assumption | omega) only [er, List.length_map, ir, MV, MW])) ?_
  obtain ⟨ans, da, hcm, hda, hrt, hyes⟩ : ∃ (ans : O) (da : D), mcombination [d12, d13] = some ans ∧ ans.toD = some da ∧ m_law_right [da, .lst (ls.map lrow), lrow g, .bl ins] = some (.bl true) ∧ (ins = true → ∃ (fs : List Int) (dv : Int), ans = .tup [.dats (fs.map .int), .dat (.int dv)] ∧ fs.length = m) := by
    rcases comb_run iok hpsi hd12 hdl12 hd13 with ⟨h1, h2⟩ | ⟨fs, dv, h1, h2⟩
    · have : ins = false := by
        cases ins with
        | false => rfl
        | true => exact absurd (hinsB.mp rfl) h1
      refine ⟨.dat .non, .non, h2, rfl, by rw [this]; exact right_no, fun z => by rw [this] at z; cases z⟩
    · have : ins = true := hinsB.mpr (h1.ins iok)
      exact ⟨_, _, h2, toD_pair fs dv, by rw [this]; exact right_yes iok h1, fun _ => ⟨fs, dv, rfl, h1.fl⟩⟩
  have hvw : ans.vw = .dat da := by unfold O.vw; rw [hda]
  refine Rn.sqstO (o := ans) (by
    show cO' _ 2 _ [_, _, _, _, _, _, _, _, _, _, _, _, .dat d12, .dat d13, _, _, _, _] = _
    (simp (disch := first | assumption | omega) only [hcm, MV, MW])) ?_
  refine Rn.chk (by
    show vwT _ [_, _, _, _, _, .dat (.lst (ls.map lrow)), _, _, .dat (lrow g), _, _, .dat (.bl ins), _, _, ans, _, _, _] = _
    (simp (disch := first | assumption | omega) only [hvw, hrt, MV, MW])) ?_
  show Rn _ [.dat (.lst (ns.map .int)), .dat (.lst (sh.map .int)), .dat (.int n), .dat (.int m), .dat (.lst (es.map lrow)), .dat (.lst (ls.map lrow)), x6, x7, .dat (lrow g), .dat (.lst (rs.map phi)), x10, .dat (.bl ins), .dat d12, .dat d13, ans, .unk, .unk, .unk] _
  refine Rn.join (P := fun ρ => ∃ (x14 x15 : O), ρ = [.dat (.lst (ns.map .int)), .dat (.lst (sh.map .int)), .dat (.int n), .dat (.int m), .dat (.lst (es.map lrow)), .dat (.lst (ls.map lrow)), x6, x7, .dat (lrow g), .dat (.lst (rs.map phi)), x10, .dat (.bl ins), .dat d12, .dat d13, x14, x15, .unk, .unk]) ?_ ?_
  · refine Rn.ite (t := ins) (by show asB _ [_, _, _, _, _, _, _, _, _, _, _, .dat (.bl ins), _, _, _, _, _, _] = _; (simp (disch := first | assumption | omega) only [MV, MW])) (fun hT => ?_) fun _ => Rn.skip ⟨_, _, rfl⟩
    obtain ⟨fs, dv, hans, hfl⟩ := hyes hT
    subst hans
    refine Rn.appAT (i := 14) (j := 15) (k := 0) (oss := [.dats (fs.map .int), .dat (.int dv)]) (os := (fs.map D.int).map .dat) (y := .dat (.int 1)) (by simp) rfl rfl rfl rfl rfl (by simp; omega) ?_
    exact ⟨_, _, rfl⟩
  rintro ρ ⟨x14, x15, rfl⟩
  refine Rn.chk (by
    show vwT _ [_, _, _, _, _, .dat (.lst (ls.map lrow)), _, _, .dat (lrow g), _, _, .dat (.bl ins), .dat d12, .dat d13, _, _, _, _] = _
    (simp (disch := first | assumption | omega) only [hcm, hda, hrt, MV, MW])) ?_
  refine Rn.sq (Rn.fz (o := .dat (.lst (ls.map lrow))) rfl rfl ?_)
  have e16 := elc (.dat (.bl ins)) (.dat d12) (.dat d13) x14 x15 .unk .unk
  have hcl : (ls.map lrow).length + [lrow g].length ≤ 1000000 := by simp; omega
  have hcat := ev_catL hcl
  refine Rn.st (d := .lst (ls.map lrow ++ [lrow g])) (by
    show b2 (lcD _ _ _ _ _) (mkLst (aCons (frz (cO (aCons (gv 8) aNil) listO)) aNil)) addA [.dat (.lst (ns.map .int)), .dat (.lst (sh.map .int)), .dat (.int n), .dat (.int m), .dat (.lst (es.map lrow)), .dat (.lst (ls.map lrow)), x6, x7, .dat (lrow g), .dat (.lst (rs.map phi)), x10, .dat (.bl ins), .dat d12, .dat d13, x14, x15, .unk, .unk] = _
    have e17 : mkLst (aCons (frz (cO (aCons (gv 8) aNil) listO)) aNil) [.dat (.lst (ns.map .int)), .dat (.lst (sh.map .int)), .dat (.int n), .dat (.int m), .dat (.lst (es.map lrow)), .dat (.lst (ls.map lrow)), x6, x7, .dat (lrow g), .dat (.lst (rs.map phi)), x10, .dat (.bl ins), .dat d12, .dat d13, x14, x15, .unk, .unk] = some (.lst [lrow g]) := by
      (simp (disch := first | assumption | omega) only [hg8, MV, MW])
      rfl
    rw [ev_b2, e16, Option.bind_some, e17, Option.bind_some, hcat]) ?_
  -- the rank of the longer list
  have gdl : ∃ X, Gd ((ls ++ [g]).map vc).reverse X ∧ (X.length : Int) = (rs.length : Int) + (if ins = true then 0 else 1) := by
    rw [List.map_append, List.reverse_append]
    by_cases hI : InS (ls.map vc) (vc g)
    · refine ⟨rows st, ⟨rows st, gd, .inl ⟨hspan.mpr hI, rfl⟩⟩, ?_⟩
      rw [if_pos (hinsB.mpr hI), rowl]; omega
    · refine ⟨vc g :: rows st, ⟨rows st, gd, .inr ⟨fun z => hI (hspan.mp z), rfl⟩⟩, ?_⟩
      rw [if_neg (fun z => hI (hinsB.mp z)), List.length_cons, rowl]; omega
  obtain ⟨X, gX, lX⟩ := gdl
  have er2 := rank_run hn (vs := ls ++ [g]) (fun r hr => by
    rcases List.mem_append.mp hr with hr | hr
    · exact S.li r hr
    · have : r = g := by simpa using hr
      rw [this]; exact ⟨g1, g2⟩) (psi := lrow) (fun r => .inl rfl) (d := .lst (ls.map lrow ++ [lrow g])) (by show some _ = _; rw [List.map_append]; rfl) gX
  rw [lX] at er2
  have hnot : intD [.bl (!ins)] = some (.int (if ins = true then 0 else 1)) := by cases ins <;> rfl
  have ir2 := isrank_run ((rs.length : Int) + (if ins = true then 0 else 1)) ((rs.length : Int) + (if ins = true then 0 else 1))
  rw [decide_eq_true rfl] at ir2
  refine Rn.chk (by
    show notT _ [_, _, _, _, _, _, _, _, _, .dat (.lst (rs.map phi)), _, .dat (.bl ins), _, _, _, _, .dat (.lst (ls.map lrow ++ [lrow g])), _] = _
    (simp (disch := first | assumption | omega) only [er2, List.length_map, hnot, ir2, MV, MW])) ?_
  refine Rn.chk (by
    show notT _ [_, _, _, _, _, _, _, _, _, .dat (.lst (rs.map phi)), _, _, .dat d12, _, _, _, _, _] = _
    (simp (disch := first | assumption | omega) only [er, List.length_map, ir, MV, MW])) ?_
  refine Rn.fz (o := .dat (.lst (ls.map lrow))) rfl rfl ?_
  refine Rn.ret (d := .bl true) ?_ ⟨_, rfl, rfl⟩
  have elp : lcD (iOf (gv 12)) (gN 10) yes (frz (cO (aCons (gv 10) aNil) listO)) [10] [.dat (.lst (ns.map .int)), .dat (.lst (sh.map .int)), .dat (.int n), .dat (.int m), .dat (.lst (es.map lrow)), .dat (.lst (ls.map lrow)), x6, x7, .dat (lrow g), .dat (.lst (rs.map phi)), x10, .dat (.bl ins), .dat d12, .dat d13, x14, x15, .dat (.lst (ls.map lrow ++ [lrow g])), .unk] = some (.lst (ls.map lrow)) := by
    rcases hx10 with rfl | ⟨d10, rfl⟩
    · exact lc_map (vs := [10]) lrow (xs := ls) (φ := psi) rfl (iof rfl hd12) (by omega) fun r hr => ⟨_, rfl, by
        have := (hpsi r).list
        show frz _ [_, _, _, _, _, _, _, _, _, _, .dat (psi r), _, _, _, _, _, _, _] = _
        (simp (disch := first | assumption | omega) only [this, MV, MW])
        rfl⟩
    · exact lc_map (vs := [10]) lrow (xs := ls) (φ := psi) rfl (iof rfl hd12) (by omega) fun r hr => ⟨_, rfl, by
        have := (hpsi r).list
        show frz _ [_, _, _, _, _, _, _, _, _, _, .dat (psi r), _, _, _, _, _, _, _] = _
        (simp (disch := first | assumption | omega) only [this, MV, MW])
        rfl⟩
  have q1 := PD.eq_self (plain_rows ls)
  have q2 : eqD (.lst (g.map .int)) (lrow g) = some (.bl true) := PD.eq_self (plain_row g).1
  have h13 := hd13.list
  show andV (b2 (lcD _ _ _ _ _) _ _) _ [.dat (.lst (ns.map .int)), .dat (.lst (sh.map .int)), .dat (.int n), .dat (.int m), .dat (.lst (es.map lrow)), .dat (.lst (ls.map lrow)), x6, x7, .dat (lrow g), .dat (.lst (rs.map phi)), x10, .dat (.bl ins), .dat d12, .dat d13, x14, x15, .dat (.lst (ls.map lrow ++ [lrow g])), .unk] = _
  (simp (disch := first | assumption | omega) only [elp, q1, h13, q2, MV, MW])
end K34

namespace K34
open PySem PySem.Spec L2 PD
theorem all_mk {lw : PySem.W.OpenLaw} {w : World} {fa : Addr} {K : PySem.W.Frag} {h : Heap} {mg : Str → Option Value} (X : K.In h) (G : h.Ns mainGlobals mg)
    (z0 : PySem.W.nsIn K mainGlobals "abs" = some none)
    (z1 : PySem.W.nsIn K mainGlobals "bool" = some none)
    (z2 : PySem.W.nsIn K mainGlobals "enumerate" = some none)
    (z3 : PySem.W.nsIn K mainGlobals "int" = some none)
    (z4 : PySem.W.nsIn K mainGlobals "isinstance" = some none)
    (z5 : PySem.W.nsIn K mainGlobals "len" = some none)
    (z6 : PySem.W.nsIn K mainGlobals "list" = some none)
    (z7 : PySem.W.nsIn K mainGlobals "range" = some none)
    (z8 : PySem.W.nsIn K mainGlobals "sum" = some none)
    (z9 : PySem.W.nsIn K mainGlobals "tuple" = some none)
    (z10 : PySem.W.nsIn K mainGlobals "zip" = some none)
    {f0 : Addr} {oc0 kV0 dc0 pm0 cd0 ct0 : Value} {od0 an0 : Option Addr} {sl0 : Array (Option Value)}
    (a0 : PySem.W.nsIn K mainGlobals "_law_is_integer" = some (some (.ref f0)))
    (l0 : K.lookup f0 = some ⟨oc0, od0, .func (PySem.W.fnOf "_law_is_integer" "_law_is_integer" (defArgs s_law_is_integer) (defBody s_law_is_integer) (defScope s_law_is_integer) .none kV0 dc0 pm0 an0 cd0 ct0), sl0⟩)
    (c0 : PySem.W.codeIn K cd0 "_law_is_integer" = true)
    (k0 : PySem.W.keepIn K (.ref f0) = true)
    {f1 : Addr} {oc1 kV1 dc1 pm1 cd1 ct1 : Value} {od1 an1 : Option Addr} {sl1 : Array (Option Value)}
    (a1 : PySem.W.nsIn K mainGlobals "_law_is_rank" = some (some (.ref f1)))
    (l1 : K.lookup f1 = some ⟨oc1, od1, .func (PySem.W.fnOf "_law_is_rank" "_law_is_rank" (defArgs s_law_is_rank) (defBody s_law_is_rank) (defScope s_law_is_rank) .none kV1 dc1 pm1 an1 cd1 ct1), sl1⟩)
    (c1 : PySem.W.codeIn K cd1 "_law_is_rank" = true)
    (k1 : PySem.W.keepIn K (.ref f1) = true)
    {f2 : Addr} {oc2 kV2 dc2 pm2 cd2 ct2 : Value} {od2 an2 : Option Addr} {sl2 : Array (Option Value)}
    (a2 : PySem.W.nsIn K mainGlobals "common_divisor" = some (some (.ref f2)))
    (l2 : K.lookup f2 = some ⟨oc2, od2, .func (PySem.W.fnOf "common_divisor" "common_divisor" (defArgs scommon_divisor) (defBody scommon_divisor) (defScope scommon_divisor) .none kV2 dc2 pm2 an2 cd2 ct2), sl2⟩)
    (c2 : PySem.W.codeIn K cd2 "common_divisor" = true)
    (k2 : PySem.W.keepIn K (.ref f2) = true)
    {f3 : Addr} {oc3 kV3 dc3 pm3 cd3 ct3 : Value} {od3 an3 : Option Addr} {sl3 : Array (Option Value)}
    (a3 : PySem.W.nsIn K mainGlobals "divisor_of" = some (some (.ref f3)))
    (l3 : K.lookup f3 = some ⟨oc3, od3, .func (PySem.W.fnOf "divisor_of" "divisor_of" (defArgs sdivisor_of) (defBody sdivisor_of) (defScope sdivisor_of) .none kV3 dc3 pm3 an3 cd3 ct3), sl3⟩)
    (c3 : PySem.W.codeIn K cd3 "divisor_of" = true)
    (k3 : PySem.W.keepIn K (.ref f3) = true)
    {f4 : Addr} {oc4 kV4 dc4 pm4 cd4 ct4 : Value} {od4 an4 : Option Addr} {sl4 : Array (Option Value)}
    (a4 : PySem.W.nsIn K mainGlobals "lowest_terms" = some (some (.ref f4)))
    (l4 : K.lookup f4 = some ⟨oc4, od4, .func (PySem.W.fnOf "lowest_terms" "lowest_terms" (defArgs slowest_terms) (defBody slowest_terms) (defScope slowest_terms) .none kV4 dc4 pm4 an4 cd4 ct4), sl4⟩)
    (c4 : PySem.W.codeIn K cd4 "lowest_terms" = true)
    (k4 : PySem.W.keepIn K (.ref f4) = true)
    {f5 : Addr} {oc5 kV5 dc5 pm5 cd5 ct5 : Value} {od5 an5 : Option Addr} {sl5 : Array (Option Value)}
    (a5 : PySem.W.nsIn K mainGlobals "cleared" = some (some (.ref f5)))
    (l5 : K.lookup f5 = some ⟨oc5, od5, .func (PySem.W.fnOf "cleared" "cleared" (defArgs scleared) (defBody scleared) (defScope scleared) .none kV5 dc5 pm5 an5 cd5 ct5), sl5⟩)
    (c5 : PySem.W.codeIn K cd5 "cleared" = true)
    (k5 : PySem.W.keepIn K (.ref f5) = true)
    {f6 : Addr} {oc6 kV6 dc6 pm6 cd6 ct6 : Value} {od6 an6 : Option Addr} {sl6 : Array (Option Value)}
    (a6 : PySem.W.nsIn K mainGlobals "first_nonzero" = some (some (.ref f6)))
    (l6 : K.lookup f6 = some ⟨oc6, od6, .func (PySem.W.fnOf "first_nonzero" "first_nonzero" (defArgs sfirst_nonzero) (defBody sfirst_nonzero) (defScope sfirst_nonzero) .none kV6 dc6 pm6 an6 cd6 ct6), sl6⟩)
    (c6 : PySem.W.codeIn K cd6 "first_nonzero" = true)
    (k6 : PySem.W.keepIn K (.ref f6) = true)
    {f7 : Addr} {oc7 kV7 dc7 pm7 cd7 ct7 : Value} {od7 an7 : Option Addr} {sl7 : Array (Option Value)}
    (a7 : PySem.W.nsIn K mainGlobals "rest_of" = some (some (.ref f7)))
    (l7 : K.lookup f7 = some ⟨oc7, od7, .func (PySem.W.fnOf "rest_of" "rest_of" (defArgs srest_of) (defBody srest_of) (defScope srest_of) .none kV7 dc7 pm7 an7 cd7 ct7), sl7⟩)
    (c7 : PySem.W.codeIn K cd7 "rest_of" = true)
    (k7 : PySem.W.keepIn K (.ref f7) = true)
    {f8 : Addr} {oc8 kV8 dc8 pm8 cd8 ct8 : Value} {od8 an8 : Option Addr} {sl8 : Array (Option Value)}
    (a8 : PySem.W.nsIn K mainGlobals "extended" = some (some (.ref f8)))
    (l8 : K.lookup f8 = some ⟨oc8, od8, .func (PySem.W.fnOf "extended" "extended" (defArgs sextended) (defBody sextended) (defScope sextended) .none kV8 dc8 pm8 an8 cd8 ct8), sl8⟩)
    (c8 : PySem.W.codeIn K cd8 "extended" = true)
    (k8 : PySem.W.keepIn K (.ref f8) = true)
    {f9 : Addr} {oc9 kV9 dc9 pm9 cd9 ct9 : Value} {od9 an9 : Option Addr} {sl9 : Array (Option Value)}
    (a9 : PySem.W.nsIn K mainGlobals "echelon_of" = some (some (.ref f9)))
    (l9 : K.lookup f9 = some ⟨oc9, od9, .func (PySem.W.fnOf "echelon_of" "echelon_of" (defArgs sechelon_of) (defBody sechelon_of) (defScope sechelon_of) .none kV9 dc9 pm9 an9 cd9 ct9), sl9⟩)
    (c9 : PySem.W.codeIn K cd9 "echelon_of" = true)
    (k9 : PySem.W.keepIn K (.ref f9) = true)
    {f10 : Addr} {oc10 kV10 dc10 pm10 cd10 ct10 : Value} {od10 an10 : Option Addr} {sl10 : Array (Option Value)}
    (a10 : PySem.W.nsIn K mainGlobals "rank_of" = some (some (.ref f10)))
    (l10 : K.lookup f10 = some ⟨oc10, od10, .func (PySem.W.fnOf "rank_of" "rank_of" (defArgs srank_of) (defBody srank_of) (defScope srank_of) .none kV10 dc10 pm10 an10 cd10 ct10), sl10⟩)
    (c10 : PySem.W.codeIn K cd10 "rank_of" = true)
    (k10 : PySem.W.keepIn K (.ref f10) = true)
    {f11 : Addr} {oc11 kV11 dc11 pm11 cd11 ct11 : Value} {od11 an11 : Option Addr} {sl11 : Array (Option Value)}
    (a11 : PySem.W.nsIn K mainGlobals "_law_gcd" = some (some (.ref f11)))
    (l11 : K.lookup f11 = some ⟨oc11, od11, .func (PySem.W.fnOf "_law_gcd" "_law_gcd" (defArgs s_law_gcd) (defBody s_law_gcd) (defScope s_law_gcd) .none kV11 dc11 pm11 an11 cd11 ct11), sl11⟩)
    (c11 : PySem.W.codeIn K cd11 "_law_gcd" = true)
    (k11 : PySem.W.keepIn K (.ref f11) = true)
    {f12 : Addr} {oc12 kV12 dc12 pm12 cd12 ct12 : Value} {od12 an12 : Option Addr} {sl12 : Array (Option Value)}
    (a12 : PySem.W.nsIn K mainGlobals "_law_right" = some (some (.ref f12)))
    (l12 : K.lookup f12 = some ⟨oc12, od12, .func (PySem.W.fnOf "_law_right" "_law_right" (defArgs s_law_right) (defBody s_law_right) (defScope s_law_right) .none kV12 dc12 pm12 an12 cd12 ct12), sl12⟩)
    (c12 : PySem.W.codeIn K cd12 "_law_right" = true)
    (k12 : PySem.W.keepIn K (.ref f12) = true)
    {f13 : Addr} {oc13 kV13 dc13 pm13 cd13 ct13 : Value} {od13 an13 : Option Addr} {sl13 : Array (Option Value)}
    (a13 : PySem.W.nsIn K mainGlobals "least_multiple" = some (some (.ref f13)))
    (l13 : K.lookup f13 = some ⟨oc13, od13, .func (PySem.W.fnOf "least_multiple" "least_multiple" (defArgs sleast_multiple) (defBody sleast_multiple) (defScope sleast_multiple) .none kV13 dc13 pm13 an13 cd13 ct13), sl13⟩)
    (c13 : PySem.W.codeIn K cd13 "least_multiple" = true)
    (k13 : PySem.W.keepIn K (.ref f13) = true)
    {f14 : Addr} {oc14 kV14 dc14 pm14 cd14 ct14 : Value} {od14 an14 : Option Addr} {sl14 : Array (Option Value)}
    (a14 : PySem.W.nsIn K mainGlobals "common_multiple" = some (some (.ref f14)))
    (l14 : K.lookup f14 = some ⟨oc14, od14, .func (PySem.W.fnOf "common_multiple" "common_multiple" (defArgs scommon_multiple) (defBody scommon_multiple) (defScope scommon_multiple) .none kV14 dc14 pm14 an14 cd14 ct14), sl14⟩)
    (c14 : PySem.W.codeIn K cd14 "common_multiple" = true)
    (k14 : PySem.W.keepIn K (.ref f14) = true)
    {f15 : Addr} {oc15 kV15 dc15 pm15 cd15 ct15 : Value} {od15 an15 : Option Addr} {sl15 : Array (Option Value)}
    (a15 : PySem.W.nsIn K mainGlobals "combination" = some (some (.ref f15)))
    (l15 : K.lookup f15 = some ⟨oc15, od15, .func (PySem.W.fnOf "combination" "combination" (defArgs scombination) (defBody scombination) (defScope scombination) .none kV15 dc15 pm15 an15 cd15 ct15), sl15⟩)
    (c15 : PySem.W.codeIn K cd15 "combination" = true)
    (k15 : PySem.W.keepIn K (.ref f15) = true)
    {f16 : Addr} {oc16 kV16 dc16 pm16 cd16 ct16 : Value} {od16 an16 : Option Addr} {sl16 : Array (Option Value)}
    (a16 : PySem.W.nsIn K mainGlobals "_law_reduced" = some (some (.ref f16)))
    (l16 : K.lookup f16 = some ⟨oc16, od16, .func (PySem.W.fnOf "_law_reduced" "_law_reduced" (defArgs s_law_reduced) (defBody s_law_reduced) (defScope s_law_reduced) .none kV16 dc16 pm16 an16 cd16 ct16), sl16⟩)
    (c16 : PySem.W.codeIn K cd16 "_law_reduced" = true)
    (k16 : PySem.W.keepIn K (.ref f16) = true)
    {f17 : Addr} {oc17 kV17 dc17 pm17 cd17 ct17 : Value} {od17 an17 : Option Addr} {sl17 : Array (Option Value)}
    (a17 : PySem.W.nsIn K mainGlobals "_law_with" = some (some (.ref f17)))
    (l17 : K.lookup f17 = some ⟨oc17, od17, .func (PySem.W.fnOf "_law_with" "_law_with" (defArgs s_law_with) (defBody s_law_with) (defScope s_law_with) .none kV17 dc17 pm17 an17 cd17 ct17), sl17⟩)
    (c17 : PySem.W.codeIn K cd17 "_law_with" = true)
    (k17 : PySem.W.keepIn K (.ref f17) = true)
    {f18 : Addr} {oc18 kV18 dc18 pm18 cd18 ct18 : Value} {od18 an18 : Option Addr} {sl18 : Array (Option Value)}
    (a18 : PySem.W.nsIn K mainGlobals "_law_number" = some (some (.ref f18)))
    (l18 : K.lookup f18 = some ⟨oc18, od18, .func (PySem.W.fnOf "_law_number" "_law_number" (defArgs s_law_number) (defBody s_law_number) (defScope s_law_number) .none kV18 dc18 pm18 an18 cd18 ct18), sl18⟩)
    (c18 : PySem.W.codeIn K cd18 "_law_number" = true)
    (k18 : PySem.W.keepIn K (.ref f18) = true)
    {f19 : Addr} {oc19 kV19 dc19 pm19 cd19 ct19 : Value} {od19 an19 : Option Addr} {sl19 : Array (Option Value)}
    (a19 : PySem.W.nsIn K mainGlobals "_law_goal" = some (some (.ref f19)))
    (l19 : K.lookup f19 = some ⟨oc19, od19, .func (PySem.W.fnOf "_law_goal" "_law_goal" (defArgs s_law_goal) (defBody s_law_goal) (defScope s_law_goal) .none kV19 dc19 pm19 an19 cd19 ct19), sl19⟩)
    (c19 : PySem.W.codeIn K cd19 "_law_goal" = true)
    (k19 : PySem.W.keepIn K (.ref f19) = true)
    {f20 : Addr} {oc20 kV20 dc20 pm20 cd20 ct20 : Value} {od20 an20 : Option Addr} {sl20 : Array (Option Value)}
    (a20 : PySem.W.nsIn K mainGlobals "_law_row" = some (some (.ref f20)))
    (l20 : K.lookup f20 = some ⟨oc20, od20, .func (PySem.W.fnOf "_law_row" "_law_row" (defArgs s_law_row) (defBody s_law_row) (defScope s_law_row) .none kV20 dc20 pm20 an20 cd20 ct20), sl20⟩)
    (c20 : PySem.W.codeIn K cd20 "_law_row" = true)
    (k20 : PySem.W.keepIn K (.ref f20) = true)
    {f21 : Addr} {oc21 kV21 dc21 pm21 cd21 ct21 : Value} {od21 an21 : Option Addr} {sl21 : Array (Option Value)}
    (a21 : PySem.W.nsIn K mainGlobals "_law_cell" = some (some (.ref f21)))
    (l21 : K.lookup f21 = some ⟨oc21, od21, .func (PySem.W.fnOf "_law_cell" "_law_cell" (defArgs s_law_cell) (defBody s_law_cell) (defScope s_law_cell) .none kV21 dc21 pm21 an21 cd21 ct21), sl21⟩)
    (c21 : PySem.W.codeIn K cd21 "_law_cell" = true)
    (k21 : PySem.W.keepIn K (.ref f21) = true)
    {f22 : Addr} {oc22 kV22 dc22 pm22 cd22 ct22 : Value} {od22 an22 : Option Addr} {sl22 : Array (Option Value)}
    (a22 : PySem.W.nsIn K mainGlobals "_law_seed" = some (some (.ref f22)))
    (l22 : K.lookup f22 = some ⟨oc22, od22, .func (PySem.W.fnOf "_law_seed" "_law_seed" (defArgs s_law_seed) (defBody s_law_seed) (defScope s_law_seed) .none kV22 dc22 pm22 an22 cd22 ct22), sl22⟩)
    (c22 : PySem.W.codeIn K cd22 "_law_seed" = true)
    (k22 : PySem.W.keepIn K (.ref f22) = true)
    {f23 : Addr} {oc23 kV23 dc23 pm23 cd23 ct23 : Value} {od23 an23 : Option Addr} {sl23 : Array (Option Value)}
    (a23 : PySem.W.nsIn K mainGlobals "_law_times" = some (some (.ref f23)))
    (l23 : K.lookup f23 = some ⟨oc23, od23, .func (PySem.W.fnOf "_law_times" "_law_times" (defArgs s_law_times) (defBody s_law_times) (defScope s_law_times) .none kV23 dc23 pm23 an23 cd23 ct23), sl23⟩)
    (c23 : PySem.W.codeIn K cd23 "_law_times" = true)
    (k23 : PySem.W.keepIn K (.ref f23) = true)
    {f24 : Addr} {oc24 kV24 dc24 pm24 cd24 ct24 : Value} {od24 an24 : Option Addr} {sl24 : Array (Option Value)}
    (a24 : PySem.W.nsIn K mainGlobals "_law_base" = some (some (.ref f24)))
    (l24 : K.lookup f24 = some ⟨oc24, od24, .func (PySem.W.fnOf "_law_base" "_law_base" (defArgs s_law_base) (defBody s_law_base) (defScope s_law_base) .none kV24 dc24 pm24 an24 cd24 ct24), sl24⟩)
    (c24 : PySem.W.codeIn K cd24 "_law_base" = true)
    (k24 : PySem.W.keepIn K (.ref f24) = true)
    {f25 : Addr} {oc25 kV25 dc25 pm25 cd25 ct25 : Value} {od25 an25 : Option Addr} {sl25 : Array (Option Value)}
    (a25 : PySem.W.nsIn K mainGlobals "law" = some (some (.ref f25)))
    (l25 : K.lookup f25 = some ⟨oc25, od25, .func (PySem.W.fnOf "law" "law" (defArgs slaw) (defBody slaw) (defScope slaw) .none kV25 dc25 pm25 an25 cd25 ct25), sl25⟩)
    (c25 : PySem.W.codeIn K cd25 "law" = true)
    (k25 : PySem.W.keepIn K (.ref f25) = true)
    (hfa : mg "law" = some (.ref fa)) :
    ∃ fd : FuncData, (∀ (s : Shared) (v : Value), BindsTo s fd ⟨[v], []⟩ [("_law_script", v)]) ∧ ∀ base : Heap, K.In base → base.Ns mainGlobals mg → FnOk lw.prog w K mg base CX0 9 fa fd ["_law_script"] (spT K) := by
  obtain ⟨T, hb⟩ := tx_mk X G z0 z1 z2 z3 z4 z5 z6 z7 z8 z9 z10 a0 l0 c0 k0 a1 l1 c1 k1 a2 l2 c2 k2 a3 l3 c3 k3 a4 l4 c4 k4 a5 l5 c5 k5 a6 l6 c6 k6 a7 l7 c7 k7 a8 l8 c8 k8 a9 l9 c9 k9 a10 l10 c10 k10 a11 l11 c11 k11 a12 l12 c12 k12 a13 l13 c13 k13 a14 l14 c14 k14 a15 l15 c15 k15 a16 l16 c16 k16 a17 l17 c17 k17 a18 l18 c18 k18 a19 l19 c19 k19 a20 l20 c20 k20 a21 l21 c21 k21 a22 l22 c22 k22 a23 l23 c23 k23 a24 l24 c24 k24 a25 l25 c25 k25
  have e : fa = T.flaw := by
    have := hfa.symm.trans T.glaw
    cases this
    rfl
  subst e
  exact ⟨T.fdlaw, hb, fun base _ _ => T.oklaw.imp fun vs H Q E h => spT_of (law_true) h⟩
end K34
open PySem PySem.W PyProof.Rows
set_option maxHeartbeats 0 in
theorem PySem.Challenge.cw_playhall_k34_ranks_and_combinations_holds : PySem.Challenge.rw_playhall_k34_ranks_and_combinations.Holds := by
  w_on; o_law; k_head; (case hw => w_witness2)
  k_fill
  refine PD.walk_ofD (l := PySem.Challenge.rw_playhall_k34_ranks_and_combinations) (n := 63) (k := 9) (x := "_law_script") (CX := fun _ => L2.CX0) rfl (by decide) rfl ⟨rfl, by decide, by decide⟩ (fun w h Y => PySem.W.kIn_of Y) ?F (fun _ _ _ _ _ h => h)
  case F =>
    intro w mg fa h KX G hmg
    refine' K34.all_mk KX G ?z0 ?z1 ?z2 ?z3 ?z4 ?z5 ?z6 ?z7 ?z8 ?z9 ?z10 ?a0 ?l0 ?c0 ?k0 ?a1 ?l1 ?c1 ?k1 ?a2 ?l2 ?c2 ?k2 ?a3 ?l3 ?c3 ?k3 ?a4 ?l4 ?c4 ?k4 ?a5 ?l5 ?c5 ?k5 ?a6 ?l6 ?c6 ?k6 ?a7 ?l7 ?c7 ?k7 ?a8 ?l8 ?c8 ?k8 ?a9 ?l9 ?c9 ?k9 ?a10 ?l10 ?c10 ?k10 ?a11 ?l11 ?c11 ?k11 ?a12 ?l12 ?c12 ?k12 ?a13 ?l13 ?c13 ?k13 ?a14 ?l14 ?c14 ?k14 ?a15 ?l15 ?c15 ?k15 ?a16 ?l16 ?c16 ?k16 ?a17 ?l17 ?c17 ?k17 ?a18 ?l18 ?c18 ?k18 ?a19 ?l19 ?c19 ?k19 ?a20 ?l20 ?c20 ?k20 ?a21 ?l21 ?c21 ?k21 ?a22 ?l22 ?c22 ?k22 ?a23 ?l23 ?c23 ?k23 ?a24 ?l24 ?c24 ?k24 ?a25 ?l25 ?c25 ?k25 hmg
    (case z0 => first | k_is | rfl); (case z1 => first | k_is | rfl); (case z2 => first | k_is | rfl); (case z3 => first | k_is | rfl); (case z4 => first | k_is | rfl); (case z5 => first | k_is | rfl); (case z6 => first | k_is | rfl); (case z7 => first | k_is | rfl); (case z8 => first | k_is | rfl); (case z9 => first | k_is | rfl); (case z10 => first | k_is | rfl); (case a0 => first | k_is | rfl); (case l0 => first | k_is | rfl); (case c0 => first | k_is | rfl); (case k0 => first | k_is | rfl); (case a1 => first | k_is | rfl); (case l1 => first | k_is | rfl); (case c1 => first | k_is | rfl); (case k1 => first | k_is | rfl); (case a2 => first | k_is | rfl); (case l2 => first | k_is | rfl); (case c2 => first | k_is | rfl); (case k2 => first | k_is | rfl); (case a3 => first | k_is | rfl); (case l3 => first | k_is | rfl); (case c3 => first | k_is | rfl); (case k3 => first | k_is | rfl); (case a4 => first | k_is | rfl); (case l4 => first | k_is | rfl); (case c4 => first | k_is | rfl); (case k4 => first | k_is | rfl); (case a5 => first | k_is | rfl); (case l5 => first | k_is | rfl); (case c5 => first | k_is | rfl); (case k5 => first | k_is | rfl); (case a6 => first | k_is | rfl); (case l6 => first | k_is | rfl); (case c6 => first | k_is | rfl); (case k6 => first | k_is | rfl); (case a7 => first | k_is | rfl); (case l7 => first | k_is | rfl); (case c7 => first | k_is | rfl); (case k7 => first | k_is | rfl); (case a8 => first | k_is | rfl); (case l8 => first | k_is | rfl); (case c8 => first | k_is | rfl); (case k8 => first | k_is | rfl); (case a9 => first | k_is | rfl); (case l9 => first | k_is | rfl); (case c9 => first | k_is | rfl); (case k9 => first | k_is | rfl); (case a10 => first | k_is | rfl); (case l10 => first | k_is | rfl); (case c10 => first | k_is | rfl); (case k10 => first | k_is | rfl); (case a11 => first | k_is | rfl); (case l11 => first | k_is | rfl); (case c11 => first | k_is | rfl); (case k11 => first | k_is | rfl); (case a12 => first | k_is | rfl); (case l12 => first | k_is | rfl); (case c12 => first | k_is | rfl); (case k12 => first | k_is | rfl); (case a13 => first | k_is | rfl); (case l13 => first | k_is | rfl); (case c13 => first | k_is | rfl); (case k13 => first | k_is | rfl); (case a14 => first | k_is | rfl); (case l14 => first | k_is | rfl); (case c14 => first | k_is | rfl); (case k14 => first | k_is | rfl); (case a15 => first | k_is | rfl); (case l15 => first | k_is | rfl); (case c15 => first | k_is | rfl); (case k15 => first | k_is | rfl); (case a16 => first | k_is | rfl); (case l16 => first | k_is | rfl); (case c16 => first | k_is | rfl); (case k16 => first | k_is | rfl); (case a17 => first | k_is | rfl); (case l17 => first | k_is | rfl); (case c17 => first | k_is | rfl); (case k17 => first | k_is | rfl); (case a18 => first | k_is | rfl); (case l18 => first | k_is | rfl); (case c18 => first | k_is | rfl); (case k18 => first | k_is | rfl); (case a19 => first | k_is | rfl); (case l19 => first | k_is | rfl); (case c19 => first | k_is | rfl); (case k19 => first | k_is | rfl); (case a20 => first | k_is | rfl); (case l20 => first | k_is | rfl); (case c20 => first | k_is | rfl); (case k20 => first | k_is | rfl); (case a21 => first | k_is | rfl); (case l21 => first | k_is | rfl); (case c21 => first | k_is | rfl); (case k21 => first | k_is | rfl); (case a22 => first | k_is | rfl); (case l22 => first | k_is | rfl); (case c22 => first | k_is | rfl); (case k22 => first | k_is | rfl); (case a23 => first | k_is | rfl); (case l23 => first | k_is | rfl); (case c23 => first | k_is | rfl); (case k23 => first | k_is | rfl); (case a24 => first | k_is | rfl); (case l24 => first | k_is | rfl); (case c24 => first | k_is | rfl); (case k24 => first | k_is | rfl); (case a25 => first | k_is | rfl); (case l25 => first | k_is | rfl); (case c25 => first | k_is | rfl); (case k25 => first | k_is | rfl)
#print axioms PySem.Challenge.cw_playhall_k34_ranks_and_combinations_holds

