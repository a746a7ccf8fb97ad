import PyProof.Rows.All
import Wide.All
import OpenK.AllK
import Wide.FinOn
import HandS.ForMost
import HandS.ForExc
import HandS.Walk
import HandS.Wide
import HandS.Defaults
import HandS.IsInst
import HandS.Flow
import HandS.Property
import HandS.MakeKw
import KE.KOpsOwn
import KE.SortData
import KE.KDictCopyH
import HandS.ListItems
import HandS.Conv
import HandS.TupAny
import HandS.Style
import HandS.EndBits
import HandS.ExcInit
import HandS.ExcCtx
import KE.KExcSuper
import HandS.WideBits
import HandS.TryOnly
import KE.GoesMore
import HandS.ExcOwn
import HandS.ExcField
import HandS.ExcIs
import KE.KExcIs
import HandS.Star
import HandS.Zip
import HandS.HotCalls
import HandS.WordsExc
import PySem.Challenge.RW_playhall_k52_leagues_in_order
set_option Elab.async false
set_option linter.all false
set_option maxRecDepth 100000
set_option maxHeartbeats 4000000
namespace PD
open PySem PySem.Spec PyProof.Rows L2

/-! ### data and owned things -/
inductive D where
  | non | bl (b : Bool) | int (i : Int) | str (x : Str) | lst (xs : List D) | tup (xs : List D)
  | dic (ks : List Key) (vs : List D) | obj (C : Addr) (fs : List Str) (vs : List D)
  /-- an exception in an except suite: the object a, its dict d, its class, its fields -/
  | exn (a : Addr) (d : Option Addr) (cls : Value) (ks : List Str) (vs : List D)
  /-- d, and M0 is a part of what is frozen -/
  | tagM (M0 : Hp) (d : D)
  /-- d, and the value itself has P, which what is done to the frozen part leaves -/
  | tagP (P : Hp → V → Prop) (d : D)

inductive O where
  | unk | dat (d : D) | lst (xs : List O) | tup (xs : List O) | dic (ks : List Key) (vs : List O) | obj (C : Addr) (fs : List Str) (vs : List O) | raw (u : HO)

mutual
def O.toD : O → Option D
  | .unk => none
  | .dat d => some d
  | .lst xs => (O.toDs xs).map .lst
  | .tup xs => (O.toDs xs).map .tup
  | .dic ks vs => (O.toDs vs).map (.dic ks)
  | .obj C fs vs => (O.toDs vs).map (.obj C fs)
  | .raw _ => none
def O.toDs : List O → Option (List D)
  | [] => some []
  | o :: os => match O.toD o, O.toDs os with
    | some d, some ds => some (d :: ds)
    | _, _ => none
end

theorem Rd.up {M M' : Hp} {a : Addr} {u : HO} (s : ∀ b v, M b = some v → M' b = some v) (h : Rd M a u) : Rd M' a u := by
  rcases h with h | ⟨o, h⟩
  · exact .inl (s _ _ h)
  · exact .inr ⟨o, s _ _ h⟩
/-- a list that is looked at: tracked, or one of the written part -/
def SqX (K : PySem.W.Frag) (H : Hp) (a : Addr) (xs : List V) : Prop :=
  Rd H a (.lst xs) ∨ ∃ (its : Array Value) (n : Nat), K.lookup a = some ({ cls := .type "list", data := .seq its n } : Obj) ∧ its.size ≤ sizeLine ∧ Vals xs its.toList
theorem SqX.toL {K : PySem.W.Frag} {H : Hp} {a : Addr} {xs : List V} (h : SqX K H a xs) : SqL K H a xs := by
  rcases h with h | ⟨its, n, lk, hz, r⟩
  · exact .inl h
  · exact .inr ⟨_, its, n, lk, rfl, rfl, rfl, hz, r⟩
theorem sqX_same {K : PySem.W.Frag} {H H' : Hp} {a : Addr} {xs : List V} (e : Same H H') (h : SqX K H a xs) : SqX K H' a xs := by
  rcases h with (h | ⟨o, h⟩) | h
  · exact .inl (.inl (e _ _ h))
  · exact .inl (.inr ⟨o, e _ _ h⟩)
  · exact .inr h
theorem seqX {K : PySem.W.Frag} {H H' : Hp} {a : Addr} {xs : List V} (e : Same H H') (h : SqX K H a xs) : SqL K H' a xs := (sqX_same e h).toL
/-- the lists stand -/
def LSub (M M' : Hp) : Prop := ∀ a xs, M a = some (.lst xs) → M' a = some (.lst xs)
mutual
inductive Dv (K : PySem.W.Frag) (M : Hp) : V → D → Prop
  | non : Dv K M .non .non
  | bl (b : Bool) : Dv K M (.bl b) (.bl b)
  | int (i : Int) : Dv K M (.int i) (.int i)
  | str (x : Str) : Dv K M (.str x) (.str x)
  | lst {a : Addr} {xs : List V} {ds : List D} : SqX K M a xs → Dvs K M xs ds → Dv K M (.ref a) (.lst ds)
  | tup {a : Addr} {xs : List V} {ds : List D} : SqT K M a xs → Dvs K M xs ds → Dv K M (.ref a) (.tup ds)
  | dic {a : Addr} {kvs : List (Key × V)} {ks : List Key} {ds : List D} : Rd M a (.dK kvs) → kvs.map (·.1) = ks → Dvs K M (kvs.map (·.2)) ds → Dv K M (.ref a) (.dic ks ds)
  | obj {a C dx : Addr} {fs : List (Str × V)} {ks : List Str} {ds : List D} : M a = some (.ins C dx fs) → M dx = some (.own a) → fs.map (·.1) = ks → Dvs K M (fs.map (·.2)) ds → Dv K M (.ref a) (.obj C ks ds)
  | exn0 {a : Addr} {cls : Value} : Dv K M (.ref a) (.exn a none cls [] [])
  | exn1 {a da : Addr} {cls : Value} {fs : List (Str × V)} {ks : List Str} {ds : List D} : M da = some (.xd fs) → fs.map (·.1) = ks → Dvs K M (fs.map (·.2)) ds → Dv K M (.ref a) (.exn a (some da) cls ks ds)
  | tagM {v : V} {M0 : Hp} {d : D} : (∀ a, M a = none → M0 a = none) → Dv K M v d → Dv K M v (.tagM M0 d)
  | tagP {v : V} {P : Hp → V → Prop} {d : D} : (∀ M', LSub M M' → P M' v) → Dv K M v d → Dv K M v (.tagP P d)
inductive Dvs (K : PySem.W.Frag) (M : Hp) : List V → List D → Prop
  | nil : Dvs K M [] []
  | cons {v : V} {vs : List V} {d : D} {ds : List D} : Dv K M v d → Dvs K M vs ds → Dvs K M (v :: vs) (d :: ds)
end

theorem sqT_same {K : PySem.W.Frag} {H H' : Hp} {a : Addr} {xs : List V} (e : Same H H') (h : SqT K H a xs) : SqT K H' a xs := by
  rcases h with (h | ⟨o, h⟩) | h
  · exact .inl (.inl (e _ _ h))
  · exact .inl (.inr ⟨o, e _ _ h⟩)
  · exact .inr h

section
variable {K : PySem.W.Frag} {M M' : Hp}
mutual
theorem Dv.mono (s : Same M M') : ∀ {v : V} {d : D}, Dv K M v d → Dv K M' v d
  | _, _, .non => .non
  | _, _, .bl b => .bl b
  | _, _, .int i => .int i
  | _, _, .str x => .str x
  | _, _, .lst h hs => .lst (sqX_same s h) (Dvs.mono s hs)
  | _, _, .tup h hs => .tup (sqT_same s h) (Dvs.mono s hs)
  | _, _, .dic h e hs => .dic (Rd.up s h) e (Dvs.mono s hs)
  | _, _, .obj h h2 e hs => .obj (s _ _ h) (s _ _ h2) e (Dvs.mono s hs)
  | _, _, .exn0 => .exn0
  | _, _, .exn1 h e hs => .exn1 (s _ _ h) e (Dvs.mono s hs)
  | _, _, .tagM h hs => .tagM (fun a e => h a (s.free e)) (Dv.mono s hs)
  | _, _, .tagP h hs => .tagP (fun M2 l => h M2 fun a xs e => l a xs (s _ _ e)) (Dv.mono s hs)
theorem Dvs.mono (s : Same M M') : ∀ {vs : List V} {ds : List D}, Dvs K M vs ds → Dvs K M' vs ds
  | _, _, .nil => .nil
  | _, _, .cons h hs => .cons (Dv.mono s h) (Dvs.mono s hs)
end
theorem Dvs.length {vs : List V} {ds : List D} (h : Dvs K M vs ds) : vs.length = ds.length := by
  induction ds generalizing vs with
  | nil => cases h; rfl
  | cons d ds ih => cases h with | cons _ t => simp [ih t]
theorem Dvs.get : ∀ {vs : List V} {ds : List D} {i : Nat} {d : D}, Dvs K M vs ds → ds[i]? = some d → ∃ v, vs[i]? = some v ∧ Dv K M v d
  | _, _, 0, _, .cons h _, e => by simp at e; subst e; exact ⟨_, rfl, h⟩
  | _, _, i + 1, d, .cons _ t, e => by
    obtain ⟨v, e1, e2⟩ := Dvs.get (i := i) (d := d) t (by simpa using e)
    exact ⟨v, by simpa using e1, e2⟩
  | _, _, _, _, .nil, e => by simp at e
theorem Dvs.getV : ∀ {vs : List V} {ds : List D} {i : Nat} {v : V}, Dvs K M vs ds → vs[i]? = some v → ∃ d, ds[i]? = some d ∧ Dv K M v d
  | _, _, 0, _, .cons h _, e => by simp at e; subst e; exact ⟨_, rfl, h⟩
  | _, _, i + 1, d, .cons _ t, e => by
    obtain ⟨v, e1, e2⟩ := Dvs.getV (i := i) (v := d) t (by simpa using e)
    exact ⟨v, by simpa using e1, e2⟩
  | _, _, _, _, .nil, e => by simp at e
theorem Dvs.append : ∀ {vs ws : List V} {ds es : List D}, Dvs K M vs ds → Dvs K M ws es → Dvs K M (vs ++ ws) (ds ++ es)
  | _, _, _, _, .nil, s => s
  | _, _, _, _, .cons r t, s => .cons r (Dvs.append t s)
theorem Dvs.take : ∀ {vs : List V} {ds : List D} (n : Nat), Dvs K M vs ds → Dvs K M (vs.take n) (ds.take n)
  | _, _, 0, _ => .nil
  | _, _, _ + 1, .nil => .nil
  | _, _, n + 1, .cons r t => .cons r (Dvs.take n t)
theorem Dvs.drop : ∀ {vs : List V} {ds : List D} (n : Nat), Dvs K M vs ds → Dvs K M (vs.drop n) (ds.drop n)
  | _, _, 0, r => r
  | _, _, _ + 1, .nil => .nil
  | _, _, n + 1, .cons _ t => Dvs.drop n t
end

def MutO (u : HO) : Prop := (∃ xs, u = .lst xs) ∨ (∃ xs, u = .dK xs) ∨ (∃ C d fs, u = .ins C d fs) ∨ ∃ a, u = .own a
mutual
inductive Ow (K : PySem.W.Frag) (M H : Hp) : O → Option V → List Addr → Prop
  | unk {v : Option V} : Ow K M H .unk v []
  | dat {v : V} {d : D} : Dv K M v d → Ow K M H (.dat d) (some v) []
  | lst {a : Addr} {xs : List V} {os : List O} {fp : List Addr} : H a = some (.lst xs) → Ows K M H os (xs.map some) fp → Ow K M H (.lst os) (some (.ref a)) (a :: fp)
  | tup {a : Addr} {xs : List V} {os : List O} {fp : List Addr} : M a = some (.tup xs) → Ows K M H os (xs.map some) fp → Ow K M H (.tup os) (some (.ref a)) fp
  | dic {a : Addr} {kvs : List (Key × V)} {ks : List Key} {os : List O} {fp : List Addr} : H a = some (.dK kvs) → kvs.map (·.1) = ks → Ows K M H os (kvs.map fun p => some p.2) fp → Ow K M H (.dic ks os) (some (.ref a)) (a :: fp)
  | obj {a C dx : Addr} {fs : List (Str × V)} {ks : List Str} {os : List O} {fp : List Addr} : H a = some (.ins C dx fs) → H dx = some (.own a) → fs.map (·.1) = ks → Ows K M H os (fs.map fun p => some p.2) fp →
      Ow K M H (.obj C ks os) (some (.ref a)) (a :: dx :: fp)
  | raw {a : Addr} {u : HO} : H a = some u → MutO u → Ow K M H (.raw u) (some (.ref a)) [a]
inductive Ows (K : PySem.W.Frag) (M H : Hp) : List O → List (Option V) → List Addr → Prop
  | nil : Ows K M H [] [] []
  | cons {o : O} {v : Option V} {f1 : List Addr} {os : List O} {vs : List (Option V)} {f2 : List Addr} : Ow K M H o v f1 → Ows K M H os vs f2 → Ows K M H (o :: os) (v :: vs) (f1 ++ f2)
end

section
variable {K : PySem.W.Frag} {M M' H H' : Hp}
mutual
theorem Ow.frame (s : Same M M') : ∀ {o : O} {v : Option V} {fp : List Addr}, Ow K M H o v fp → (∀ a ∈ fp, H' a = H a) → Ow K M' H' o v fp
  | _, _, _, .unk, _ => .unk
  | _, _, _, .dat h, _ => .dat (h.mono s)
  | _, _, _, .lst h hs, k => .lst ((k _ List.mem_cons_self).trans h) (Ows.frame s hs fun a ha => k a (List.mem_cons_of_mem _ ha))
  | _, _, _, .tup h hs, k => .tup (s _ _ h) (Ows.frame s hs k)
  | _, _, _, .dic h e hs, k => .dic ((k _ List.mem_cons_self).trans h) e (Ows.frame s hs fun a ha => k a (List.mem_cons_of_mem _ ha))
  | _, _, _, .obj h h2 e hs, k => .obj ((k _ List.mem_cons_self).trans h) ((k _ (List.mem_cons_of_mem _ List.mem_cons_self)).trans h2) e (Ows.frame s hs fun a ha => k a (List.mem_cons_of_mem _ (List.mem_cons_of_mem _ ha)))
  | _, _, _, .raw h m, k => .raw ((k _ List.mem_cons_self).trans h) m
theorem Ows.frame (s : Same M M') : ∀ {os : List O} {vs : List (Option V)} {fp : List Addr}, Ows K M H os vs fp → (∀ a ∈ fp, H' a = H a) → Ows K M' H' os vs fp
  | _, _, _, .nil, _ => .nil
  | _, _, _, .cons h hs, k => .cons (Ow.frame s h fun a ha => k a (List.mem_append_left _ ha)) (Ows.frame s hs fun a ha => k a (List.mem_append_right _ ha))
end
mutual
theorem Ow.dom : ∀ {o : O} {v : Option V} {fp : List Addr}, Ow K M H o v fp → ∀ a ∈ fp, H a ≠ none
  | _, _, _, .unk, _, h => nomatch h
  | _, _, _, .dat _, _, h => nomatch h
  | _, _, _, .lst h hs, a, ha => by
    rcases List.mem_cons.mp ha with rfl | ha
    · rw [h]; exact fun z => nomatch z
    · exact Ows.dom hs a ha
  | _, _, _, .tup _ hs, a, ha => Ows.dom hs a ha
  | _, _, _, .dic h _ hs, a, ha => by
    rcases List.mem_cons.mp ha with rfl | ha
    · rw [h]; exact fun z => nomatch z
    · exact Ows.dom hs a ha
  | _, _, _, .obj h h2 _ hs, a, ha => by
    rcases List.mem_cons.mp ha with rfl | ha
    · rw [h]; exact fun z => nomatch z
    · rcases List.mem_cons.mp ha with rfl | ha
      · rw [h2]; exact fun z => nomatch z
      · exact Ows.dom hs a ha
  | _, _, _, .raw h _, a, ha => by
    rw [List.mem_singleton.mp ha, h]; exact fun z => nomatch z
theorem Ows.dom : ∀ {os : List O} {vs : List (Option V)} {fp : List Addr}, Ows K M H os vs fp → ∀ a ∈ fp, H a ≠ none
  | _, _, _, .nil, _, h => nomatch h
  | _, _, _, .cons h hs, a, ha => (List.mem_append.mp ha).elim (Ow.dom h a) (Ows.dom hs a)
end
theorem Ows.length : ∀ {os : List O} {vs : List (Option V)} {fp : List Addr}, Ows K M H os vs fp → vs.length = os.length
  | _, _, _, .nil => rfl
  | _, _, _, .cons _ hs => by simp [hs.length]
theorem Ows.append : ∀ {a b : List O} {va vb : List (Option V)} {fa fb : List Addr}, Ows K M H a va fa → Ows K M H b vb fb → Ows K M H (a ++ b) (va ++ vb) (fa ++ fb)
  | _, _, _, _, _, _, .nil, s => s
  | _, _, _, _, _, _, .cons r t, s => by
    rw [List.append_assoc]
    exact .cons r (Ows.append t s)
theorem Ows.split : ∀ {a b : List O} {va vb : List (Option V)} {fp : List Addr}, Ows K M H (a ++ b) (va ++ vb) fp → va.length = a.length → ∃ fa fb, fp = fa ++ fb ∧ Ows K M H a va fa ∧ Ows K M H b vb fb
  | [], _, [], _, fp, h, _ => ⟨[], fp, rfl, .nil, h⟩
  | o :: a, b, v :: va, vb, _, h, e => by
    cases h with
    | cons h hs =>
      obtain ⟨fa, fb, e1, h1, h2⟩ := Ows.split hs (by simpa using e)
      exact ⟨_ ++ fa, fb, by rw [e1, List.append_assoc], .cons h h1, h2⟩
  | [], _, _ :: _, _, _, _, e => by simp at e
  | _ :: _, _, [], _, _, _, e => by simp at e
end

/-- the state: M the frozen part, os the things known of the roots vs -/
def Rep (K : PySem.W.Frag) (M H : Hp) (os : List O) (vs : List (Option V)) : Prop :=
  Same M H ∧ ∃ fp, Ows K M H os vs fp ∧ fp.Nodup ∧ ∀ a ∈ fp, M a = none

section
variable {K : PySem.W.Frag} {M M' H H' : Hp} {os l r : List O} {vs lv rv : List (Option V)} {o : O} {v : Option V}
theorem Rep.same (h : Rep K M H os vs) : Same M H := h.1
theorem Rep.length (h : Rep K M H os vs) : vs.length = os.length := by obtain ⟨_, _, w, _⟩ := h; exact w.length
/-- a new object, not frozen -/
theorem Rep.grow (h : Rep K M H os vs) {p : Addr} {u : HO} (hp : H p = none) : Rep K M (upd H p u) os vs := by
  obtain ⟨s, fp, w, nd, nm⟩ := h
  refine ⟨fun b x e => ?_, fp, w.frame (Same.refl _) (fun a ha => upd_ne fun z => w.dom a ha (z ▸ hp)), nd, nm⟩
  rw [upd_ne (ne_of_none (s b x e) hp)]; exact s b x e
theorem same_updM {M : Hp} {p : Addr} (hp : M p = none) {u : HO} : Same M (upd M p u) := fun b x e => by
  rw [upd_ne (ne_of_none e hp)]; exact e
/-- a new frozen object -/
theorem Rep.growM (h : Rep K M H os vs) {p : Addr} {u : HO} (hp : H p = none) : Rep K (upd M p u) (upd H p u) os vs := by
  obtain ⟨s, fp, w, nd, nm⟩ := h
  have mp : M p = none := s.free hp
  refine ⟨fun b x e => ?_, fp, w.frame (same_updM mp) (fun a ha => upd_ne fun z => w.dom a ha (z ▸ hp)), nd, fun a ha => ?_⟩
  · by_cases hb : b = p
    · subst hb; rw [upd_same] at e ⊢; exact e
    · rw [upd_ne hb] at e ⊢; exact s b x e
  · rw [upd_ne (show a ≠ p from fun z => w.dom a ha (by rw [z]; exact hp))]; exact nm a ha
theorem Rep.mid (h : Rep K M H (l ++ o :: r) (lv ++ v :: rv)) (e : lv.length = l.length) : ∃ fa f fb, Ows K M H l lv fa ∧ Ow K M H o v f ∧ Ows K M H r rv fb ∧ (fa ++ (f ++ fb)).Nodup ∧ (∀ a ∈ fa ++ (f ++ fb), M a = none) := by
  obtain ⟨s, fp, w, nd, nm⟩ := h
  obtain ⟨fa, fb, e1, w1, w2⟩ := w.split e
  cases w2 with
  | cons h2 h3 =>
    subst e1
    exact ⟨_, _, _, w1, h2, h3, nd, nm⟩
theorem Rep.datAt (h : Rep K M H (l ++ o :: r) (lv ++ v :: rv)) (e : lv.length = l.length) {d : D} (ho : o = .dat d) : ∃ x, v = some x ∧ Dv K M x d := by
  obtain ⟨_, _, _, _, w, _⟩ := h.mid e
  subst ho
  cases w with | dat w => exact ⟨_, rfl, w⟩
/-- one root is dropped -/
theorem Rep.drop (h : Rep K M H (l ++ o :: r) (lv ++ v :: rv)) (e : lv.length = l.length) : Rep K M H (l ++ r) (lv ++ rv) := by
  obtain ⟨fa, f, fb, w1, w2, w3, nd, nm⟩ := h.mid e
  refine ⟨h.1, fa ++ fb, w1.append w3, ?_, fun a ha => nm a ?_⟩
  · refine List.Nodup.sublist ?_ nd
    exact List.Sublist.append (List.Sublist.refl _) (List.sublist_append_right _ _)
  · simp only [List.mem_append] at ha ⊢
    rcases ha with ha | ha
    · exact .inl ha
    · exact .inr (.inr ha)
/-- a frozen root is added -/
theorem Rep.push (h : Rep K M H (l ++ r) (lv ++ rv)) (e : lv.length = l.length) {x : V} {d : D} (hd : Dv K M x d) : Rep K M H (l ++ .dat d :: r) (lv ++ some x :: rv) := by
  obtain ⟨s, fp, w, nd, nm⟩ := h
  obtain ⟨fa, fb, e1, w1, w2⟩ := w.split e
  subst e1
  exact ⟨s, fa ++ ([] ++ fb), w1.append (.cons (.dat hd) w2), nd, nm⟩
theorem Rep.pushU (h : Rep K M H (l ++ r) (lv ++ rv)) (e : lv.length = l.length) (x : Option V) : Rep K M H (l ++ .unk :: r) (lv ++ x :: rv) := by
  obtain ⟨s, fp, w, nd, nm⟩ := h
  obtain ⟨fa, fb, e1, w1, w2⟩ := w.split e
  subst e1
  exact ⟨s, fa ++ ([] ++ fb), w1.append (.cons .unk w2), nd, nm⟩
theorem set_split {α : Type} (xs : List α) (i : Nat) (y : α) : (∃ a z b, xs = a ++ z :: b ∧ a.length = i ∧ xs.set i y = a ++ y :: b) ∨ (xs.length ≤ i ∧ xs.set i y = xs) := by
  by_cases h : i < xs.length
  · refine .inl ⟨xs.take i, xs[i], xs.drop (i + 1), ?_, by simp [Nat.le_of_lt h], ?_⟩
    · rw [← List.drop_eq_getElem_cons h, List.take_append_drop]
    · rw [List.set_eq_take_append_cons_drop, if_pos h]
  · exact .inr ⟨by omega, List.set_eq_of_length_le (by omega)⟩
/-- slot i becomes a frozen thing -/
theorem Rep.setD {i : Nat} (h : Rep K M H (l ++ r) (lv ++ rv)) (e : lv.length = l.length) {x : V} {d : D} (hd : Dv K M x d) : Rep K M H (l.set i (.dat d) ++ r) (lv.set i (some x) ++ rv) := by
  rcases set_split l i (O.dat d) with ⟨a, z, b, e1, e2, e3⟩ | ⟨e1, e2⟩
  · rcases set_split lv i (some x) with ⟨a', z', b', e1', e2', e3'⟩ | ⟨e1', e2'⟩
    · rw [e3, e3']
      have ll : a'.length = a.length := by omega
      subst e1; subst e1'
      simp only [List.append_assoc, List.cons_append] at h ⊢
      exact (h.drop ll).push ll hd
    · exfalso; rw [e1] at e; simp at e; omega
  · rw [e2, List.set_eq_of_length_le (by omega)]; exact h
theorem Rep.setU {i : Nat} (h : Rep K M H (l ++ r) (lv ++ rv)) (e : lv.length = l.length) (x : Option V) : Rep K M H (l.set i .unk ++ r) (lv.set i x ++ rv) := by
  rcases set_split l i O.unk with ⟨a, z, b, e1, e2, e3⟩ | ⟨e1, e2⟩
  · rcases set_split lv i x with ⟨a', z', b', e1', e2', e3'⟩ | ⟨e1', e2'⟩
    · rw [e3, e3']
      have ll : a'.length = a.length := by omega
      subst e1; subst e1'
      simp only [List.append_assoc, List.cons_append] at h ⊢
      exact (h.drop ll).pushU ll x
    · exfalso; rw [e1] at e; simp at e; omega
  · rw [e2, List.set_eq_of_length_le (by omega)]; exact h
/-- the temporary on top of the frame goes into slot i -/
theorem Rep.into {i : Nat} (h : Rep K M H (l ++ o :: r) (lv ++ v :: rv)) (e : lv.length = l.length) : Rep K M H (l.set i o ++ r) (lv.set i v ++ rv) := by
  rcases set_split l i o with ⟨a, z, b, e1, e2, e3⟩ | ⟨e1, e2⟩
  · rcases set_split lv i v with ⟨a', z', b', e1', e2', e3'⟩ | ⟨e1', e2'⟩
    · rw [e3, e3']
      have ll : a'.length = a.length := by omega
      have lb : b'.length = b.length := by rw [e1, e1'] at e; simp at e; omega
      subst e1; subst e1'
      simp only [List.append_assoc, List.cons_append] at h ⊢
      have h1 := h.drop ll
      obtain ⟨fa, fb, w1, w2, nd, nm⟩ : ∃ fa fb, Ows K M H a a' fa ∧ Ows K M H (b ++ o :: r) (b' ++ v :: rv) fb ∧ (fa ++ fb).Nodup ∧ ∀ c ∈ fa ++ fb, M c = none := by
        obtain ⟨s, fp, w, nd, nm⟩ := h1
        obtain ⟨fa, fb, e1, w1, w2⟩ := w.split ll
        subst e1
        exact ⟨fa, fb, w1, w2, nd, nm⟩
      obtain ⟨gb, gr, e5, w3, w4⟩ := w2.split lb
      cases w4 with
      | cons w5 w6 =>
        rename_i f1 f2
        subst e5
        have pm : (fa ++ (f1 ++ (gb ++ f2))).Perm (fa ++ (gb ++ (f1 ++ f2))) := by
          refine List.Perm.append_left fa ?_
          rw [← List.append_assoc, ← List.append_assoc]
          exact List.Perm.append_right f2 List.perm_append_comm
        exact ⟨h.1, fa ++ (f1 ++ (gb ++ f2)), w1.append (.cons w5 (w3.append w6)), pm.nodup_iff.mpr nd, fun c hc => nm c (pm.mem_iff.mp hc)⟩
    · exfalso; rw [e1] at e; simp at e; omega
  · rw [e2, List.set_eq_of_length_le (by omega)]; exact h.drop e

/-! ### freezing -/
mutual
theorem Ow.frz (s : Same M M') : ∀ {o : O} {v : V} {fp : List Addr} {d : D}, Ow K M H o (some v) fp → (∀ a ∈ fp, M' a = H a) → o.toD = some d → Dv K M' v d
  | _, _, _, d, .dat h, _, e => by
    have := Option.some.inj (show some _ = some d from e)
    subst this
    exact h.mono s
  | .lst os, _, _, d, .lst h hs, k, e => by
    unfold O.toD at e
    cases q : O.toDs os with
    | none => rw [q] at e; cases e
    | some ds =>
      rw [q] at e
      have e' := Option.some.inj (show some (D.lst ds) = some d from e)
      subst e'
      exact .lst (.inl (.inl ((k _ List.mem_cons_self).trans h))) (Ows.frz s hs (fun a ha => k a (List.mem_cons_of_mem _ ha)) q)
  | .tup os, _, _, d, .tup h hs, k, e => by
    unfold O.toD at e
    cases q : O.toDs os with
    | none => rw [q] at e; cases e
    | some ds =>
      rw [q] at e
      have e' := Option.some.inj (show some (D.tup ds) = some d from e)
      subst e'
      exact .tup (.inl (.inl (s _ _ h))) (Ows.frz s hs k q)
  | .dic ks os, _, _, d, .dic (kvs := kvs) (fp := fp0) h hk hs, k, e => by
    unfold O.toD at e
    cases q : O.toDs os with
    | none => rw [q] at e; cases e
    | some ds =>
      rw [q] at e
      have e' := Option.some.inj (show some (D.dic ks ds) = some d from e)
      subst e'
      have hs' : Ows K M H os ((kvs.map (·.2)).map some) fp0 := by rw [List.map_map]; exact hs
      exact .dic (.inl ((k _ List.mem_cons_self).trans h)) hk (Ows.frz s hs' (fun a ha => k a (List.mem_cons_of_mem _ ha)) q)
  | .obj C ks os, _, _, d, .obj (fs := kvs) (fp := fp0) h h2 hk hs, k, e => by
    unfold O.toD at e
    cases q : O.toDs os with
    | none => rw [q] at e; cases e
    | some ds =>
      rw [q] at e
      have e' := Option.some.inj (show some (D.obj C ks ds) = some d from e)
      subst e'
      have hs' : Ows K M H os ((kvs.map (·.2)).map some) fp0 := by rw [List.map_map]; exact hs
      exact .obj ((k _ List.mem_cons_self).trans h) ((k _ (List.mem_cons_of_mem _ List.mem_cons_self)).trans h2) hk (Ows.frz s hs' (fun a ha => k a (List.mem_cons_of_mem _ (List.mem_cons_of_mem _ ha))) q)
  | .raw u, _, _, d, .raw h _, k, e => nomatch (show (none : Option D) = some d from e)
theorem Ows.frz (s : Same M M') : ∀ {os : List O} {vs : List V} {fp : List Addr} {ds : List D}, Ows K M H os (vs.map some) fp → (∀ a ∈ fp, M' a = H a) → O.toDs os = some ds → Dvs K M' vs ds
  | [], [], _, ds, .nil, _, e => by
    have e' := Option.some.inj (show some [] = some ds from e)
    subst e'
    exact .nil
  | o :: os, v :: vs, _, ds, .cons h hs, k, e => by
    unfold O.toDs at e
    cases q : O.toD o with
    | none => rw [q] at e; cases e
    | some d =>
      cases q2 : O.toDs os with
      | none => rw [q, q2] at e; cases e
      | some ds' =>
        rw [q, q2] at e
        have e' := Option.some.inj (show some (d :: ds') = some ds from e)
        subst e'
        exact .cons (Ow.frz s h (fun a ha => k a (List.mem_append_left _ ha)) q) (Ows.frz s hs (fun a ha => k a (List.mem_append_right _ ha)) q2)
end
theorem Rep.frz (h : Rep K M H (l ++ o :: r) (lv ++ v :: rv)) (e : lv.length = l.length) {d : D} {x : V} (hv : v = some x) (ho : o.toD = some d) :
    ∃ M', Same M M' ∧ Rep K M' H (l ++ .dat d :: r) (lv ++ v :: rv) ∧ Dv K M' x d := by
  obtain ⟨fa, f, fb, w1, w2, w3, nd, nm⟩ := h.mid e
  subst hv
  have s1 : Same M (fun a => if a ∈ f then H a else M a) := fun b y q => by
    have : b ∉ f := fun z => by
      have := nm b (by simp [z])
      rw [this] at q; cases q
    show (if b ∈ f then H b else M b) = some y
    rw [if_neg this]; exact q
  have kf : ∀ a ∈ f, (if a ∈ f then H a else M a) = H a := fun a ha => if_pos ha
  have dv := Ow.frz (H := H) s1 w2 kf ho
  have disj : ∀ a ∈ fa ++ fb, a ∉ f := fun a ha z => by
    rw [List.nodup_append] at nd
    obtain ⟨n1, n2, n3⟩ := nd
    rw [List.nodup_append] at n2
    rcases List.mem_append.mp ha with ha | ha
    · exact n3 a ha a (List.mem_append_left _ z) rfl
    · exact n2.2.2 a z a ha rfl
  refine ⟨_, s1, ⟨fun b y q => ?_, fa ++ ([] ++ fb), (w1.frame s1 fun _ _ => rfl).append (.cons (.dat dv) (w3.frame s1 fun _ _ => rfl)), ?_, fun a ha => ?_⟩, dv⟩
  · have q : (if b ∈ f then H b else M b) = some y := q
    split at q
    · exact q
    · exact h.1 b y q
  · refine List.Nodup.sublist ?_ nd
    exact List.Sublist.append (List.Sublist.refl _) (List.sublist_append_right _ _)
  · show (if a ∈ f then H a else M a) = none
    rw [if_neg (disj a (by simpa using ha))]
    refine nm a ?_
    rcases List.mem_append.mp ha with ha | ha
    · exact List.mem_append_left _ ha
    · exact List.mem_append_right _ (List.mem_append_right _ ha)
end
end PD

namespace PD
open PySem PySem.Spec PyProof.Rows L2

abbrev Ev := List O
/-- an error, as data -/
structure Exn where
  cls : Value
  fs : Option (List Str × List D)
def ExR (K : PySem.W.Frag) (M : Hp) (x : Exn) (cls : Value) (d : Option Addr) : Prop :=
  cls = x.cls ∧ ((x.fs = none ∧ d = none) ∨ ∃ ks ds da fvs, x.fs = some (ks, ds) ∧ d = some da ∧ M da = some (.xd fvs) ∧ fvs.map (·.1) = ks ∧ Dvs K M (fvs.map (·.2)) ds)

/-! ### readings by data -/
/-- a pure expression -/
def tP (K : PySem.W.Frag) (f : Ev → Option D) : TE := fun σ H Q => ∃ M ρ fo fv d, Rep K M H (ρ ++ fo) (σ ++ fv) ∧ σ.length = ρ.length ∧ f ρ = some d ∧
  ∀ M' H' v, Same M M' → Rep K M' H' (ρ ++ fo) (σ ++ fv) → Dv K M' v d → Q v H'
/-- an expression that may give a new thing of its own -/
def tO (K : PySem.W.Frag) (f : Ev → Option O) : TE := fun σ H Q => ∃ M ρ fo fv o, Rep K M H (ρ ++ fo) (σ ++ fv) ∧ σ.length = ρ.length ∧ f ρ = some o ∧
  ∀ M' H' v, Same M M' → Rep K M' H' (ρ ++ o :: fo) (σ ++ some v :: fv) → Q v H'
def tT (K : PySem.W.Frag) (f : Ev → Option Bool) : TT := fun σ H Q => ∃ M ρ fo fv b, Rep K M H (ρ ++ fo) (σ ++ fv) ∧ σ.length = ρ.length ∧ f ρ = some b ∧
  ∀ M' H', Same M M' → Rep K M' H' (ρ ++ fo) (σ ++ fv) → Q b H'
def tAr (K : PySem.W.Frag) (f : Ev → Option (List D)) : TA := fun σ H Q => ∃ M ρ fo fv ds, Rep K M H (ρ ++ fo) (σ ++ fv) ∧ σ.length = ρ.length ∧ f ρ = some ds ∧
  ∀ M' H' vs, Same M M' → Rep K M' H' (ρ ++ fo) (σ ++ fv) → Dvs K M' vs ds → Q vs H'

/-- how a statement ends -/
inductive Fl where
  | nx (ρ : Ev) | rt (o : O) (ρ : Ev) | bk (ρ : Ev) | ct (ρ : Ev) | ex (x : Exn) (ρ : Ev)
/-- the slots and what is known of them go together; the slots J hold what they held at first -/
def Lk (J : List Nat) (σ0 σ : L2.St) (ρ : Ev) : Prop := σ.length = ρ.length ∧ ∀ j ∈ J, σ[j]? = σ0[j]?
theorem Lk.set {J : List Nat} {σ0 σ : L2.St} {ρ : Ev} (h : Lk J σ0 σ ρ) {i : Nat} (hi : i ∉ J) (v : Option V) (o : O) : Lk J σ0 (σ.set i v) (ρ.set i o) := ⟨by simp [h.1], fun j hj => by
  have hne : i ≠ j := fun z => by subst z; exact hi hj
  rw [List.getElem?_set_ne hne]; exact h.2 j hj⟩
theorem Lk.setR {J : List Nat} {σ0 σ : L2.St} {ρ : Ev} (h : Lk J σ0 σ ρ) {i : Nat} (o : O) : Lk J σ0 σ (ρ.set i o) := ⟨by simp [h.1], h.2⟩
def ends (K : PySem.W.Frag) (W : WX) (J : List Nat) (σ0 : L2.St) (M : Hp) (fo : List O) (fv : List (Option V)) (E : Ends) : Fl → Prop
  | .nx ρ => ∀ M' H' σ', Same M M' → Rep K M' H' (ρ ++ fo) (σ' ++ fv) → Lk J σ0 σ' ρ → E.nx σ' H'
  | .bk ρ => ∀ M' H' σ', Same M M' → Rep K M' H' (ρ ++ fo) (σ' ++ fv) → Lk J σ0 σ' ρ → E.bk σ' H'
  | .ct ρ => ∀ M' H' σ', Same M M' → Rep K M' H' (ρ ++ fo) (σ' ++ fv) → Lk J σ0 σ' ρ → E.ct σ' H'
  | .rt o ρ => ∀ M' H' σ' v, Same M M' → Rep K M' H' (ρ ++ o :: fo) (σ' ++ some v :: fv) → Lk J σ0 σ' ρ → E.rt v H'
  | .ex x ρ => ∀ M' H' σ' cls d, Same M M' → Rep K M' H' (ρ ++ fo) (σ' ++ fv) → Lk J σ0 σ' ρ → ExR K M' x cls d → W cls d σ' H'
def tS (K : PySem.W.Frag) (W : WX) (J : List Nat) (g : Ev → Option Fl) : TS := fun E σ H => ∃ M ρ fo fv r σ0, Rep K M H (ρ ++ fo) (σ ++ fv) ∧ Lk J σ0 σ ρ ∧ g ρ = some r ∧ ends K W J σ0 M fo fv E r
theorem ends.later {K : PySem.W.Frag} {W : WX} {J : List Nat} {σ0 : L2.St} {M M1 : Hp} {fo : List O} {fv : List (Option V)} {E : Ends} {r : Fl} (h : ends K W J σ0 M fo fv E r) (s : Same M M1) : ends K W J σ0 M1 fo fv E r := by
  cases r with
  | nx ρ => exact fun M' H' σ' s' => h M' H' σ' (s.trans s')
  | bk ρ => exact fun M' H' σ' s' => h M' H' σ' (s.trans s')
  | ct ρ => exact fun M' H' σ' s' => h M' H' σ' (s.trans s')
  | rt o ρ => exact fun M' H' σ' v s' => h M' H' σ' v (s.trans s')
  | ex x ρ => exact fun M' H' σ' c d s' => h M' H' σ' c d (s.trans s')

section
variable {X : Cx}
theorem PE.imp {e : Expr} {t t' : TE} (h : PE X e t) (i : ∀ σ H Q, t' σ H Q → t σ H Q) : PE X e t' := ⟨fun p s σ H Q I w => h.run p s σ H Q I (i σ H Q w)⟩
theorem PT.imp {e : Expr} {t t' : TT} (h : PT X e t) (i : ∀ σ H Q, t' σ H Q → t σ H Q) : PT X e t' := ⟨fun p s σ H Q I w => h.run p s σ H Q I (i σ H Q w)⟩
theorem PW.imp {e : Expr} {t t' : TT} (h : PW X e t) (i : ∀ σ H Q, t' σ H Q → t σ H Q) : PW X e t' := ⟨fun wh p s σ H Q I w => h.run wh p s σ H Q I (i σ H Q w)⟩
theorem PA.imp {e : List Expr} {t t' : TA} (h : PA X e t) (i : ∀ σ H Q, t' σ H Q → t σ H Q) : PA X e t' := ⟨fun c p s σ H Q I w => h.run c p s σ H Q I (i σ H Q w)⟩
theorem PS.imp {e : Stmt} {t t' : TS} (h : PS X e t) (i : ∀ D σ H, t' D σ H → t D σ H) : PS X e t' := ⟨fun p s σ H D I w => h.run p s σ H D I (i D σ H w)⟩
theorem PSs.imp {e : List Stmt} {t t' : TS} (h : PSs X e t) (i : ∀ D σ H, t' D σ H → t D σ H) : PSs X e t' := ⟨fun p s σ H D I w => h.run p s σ H D I (i D σ H w)⟩
theorem PI.imp {tg e : Expr} {t t' : TI} (h : PI X tg e t) (i : ∀ σ H R, t' σ H R → t σ H R) : PI X tg e t' := ⟨fun p s σ H R I w => h.run p s σ H R I (i σ H R w)⟩
theorem PI.or {tg e : Expr} {t t' : TI} (h : PI X tg e t) (h' : PI X tg e t') : PI X tg e (fun σ H R => t σ H R ∨ t' σ H R) := ⟨fun p s σ H R I w => w.elim (h.run p s σ H R I) (h'.run p s σ H R I)⟩
theorem PE.or {e : Expr} {t t' : TE} (h : PE X e t) (h' : PE X e t') : PE X e (fun σ H R => t σ H R ∨ t' σ H R) := ⟨fun p s σ H R I w => w.elim (h.run p s σ H R I) (h'.run p s σ H R I)⟩
end

/-! ### lists by place -/
theorem Rep.slot {K : PySem.W.Frag} {M H : Hp} {ρ fo : List O} {σ fv : List (Option V)} (R : Rep K M H (ρ ++ fo) (σ ++ fv)) (l : σ.length = ρ.length) {i : Nat} {d : D} (e : ρ[i]? = some (.dat d)) : ∃ v, σ[i]? = some (some v) ∧ Dv K M v d := by
  obtain ⟨hi, e⟩ := List.getElem?_eq_some_iff.mp e
  have hi' : i < σ.length := by omega
  have e1 : ρ = ρ.take i ++ O.dat d :: ρ.drop (i + 1) := by rw [← e, ← List.drop_eq_getElem_cons hi, List.take_append_drop]
  have e2 : σ = σ.take i ++ σ[i] :: σ.drop (i + 1) := by rw [← List.drop_eq_getElem_cons hi', List.take_append_drop]
  rw [e1, e2] at R
  simp only [List.append_assoc, List.cons_append] at R
  obtain ⟨x, ex, dx⟩ := R.datAt (by simp; omega) rfl
  exact ⟨x, by rw [List.getElem?_eq_getElem hi', ex], dx⟩

/-- what slot i holds, frozen -/
def gv (i : Nat) (ρ : Ev) : Option D := match ρ[i]? with
  | some (.dat d) => some d
  | _ => none

section
variable {X : Cx}
/-! ### names and constants -/
theorem pVar (i : Nat) {x : Str} {pos : Pos} (hN : X.N[i]? = some x := by rfl) (hv : Vis X.env.scope x := by first | exact Or.inl rfl | exact Or.inr (Or.inl rfl) | exact Or.inr (Or.inr rfl)) (hd : (x == ("__debug__" : Str)) = false := by decide)
    (hcd : (x == ("__classdict__" : Str)) = false := by decide) : PE X (.Name x pos) (tP X.K (gv i)) :=
  PE.imp (pe_var hN hv hd hcd) fun σ H Q ⟨M, ρ, fo, fv, d, R, l, e, k⟩ => by
    unfold gv at e
    split at e
    · cases e
      rename_i d' e'
      obtain ⟨v, ev, dv⟩ := R.slot l e'
      exact ⟨v, ev, k M H v (Same.refl _) R dv⟩
    · cases e
theorem pC {e : Expr} {v : V} {d : D} (h : PE X e (tC v)) (hd : ∀ M, Dv X.K M v d) : PE X e (tP X.K fun _ => some d) :=
  PE.imp h fun σ H Q ⟨M, ρ, fo, fv, d', R, l, e, k⟩ => by
    cases e
    exact k M H v (Same.refl _) R (hd M)
theorem pInt {i j pos} : PE X (.Constant (.int i) j pos) (tP X.K fun _ => some (.int i)) := pC pe_int fun _ => .int _
theorem pBl {b j pos} : PE X (.Constant (.bool b) j pos) (tP X.K fun _ => some (.bl b)) := pC pe_bl fun _ => .bl _
theorem pNon {j pos} : PE X (.Constant .none j pos) (tP X.K fun _ => some .non) := pC pe_non fun _ => .non
theorem pStr {x j pos} : PE X (.Constant (.str x) j pos) (tP X.K fun _ => some (.str x)) := pC pe_str fun _ => .str _
/-- a constant of the module -/
theorem pGlobI {x : Str} {i : Int} {t : Tok} {pos : Pos} (hm : X.mg x = some (.int i t)) (hg : Gl X x := by rfl) (hd : (x == ("__debug__" : Str)) = false := by decide) : PE X (.Name x pos) (tP X.K fun _ => some (.int i)) := pC (pe_glob hg hm (v := .int i) ⟨t, rfl⟩ hd) fun _ => .int _
theorem pGlobS {x z : Str} {t : Tok} {pos : Pos} (hm : X.mg x = some (.str z t)) (hg : Gl X x := by rfl) (hd : (x == ("__debug__" : Str)) = false := by decide) : PE X (.Name x pos) (tP X.K fun _ => some (.str z)) := pC (pe_glob hg hm (v := .str z) ⟨t, rfl⟩ hd) fun _ => .str _

/-! ### two expressions in a row -/
def b2 (fa fb : Ev → Option D) (g : D → D → Option D) (ρ : Ev) : Option D := (fa ρ).bind fun x => (fb ρ).bind fun y => g x y
def b1 (fa : Ev → Option D) (g : D → Option D) (ρ : Ev) : Option D := (fa ρ).bind g
theorem b2_some {fa fb : Ev → Option D} {g : D → D → Option D} {ρ : Ev} {d : D} (h : b2 fa fb g ρ = some d) : ∃ x y, fa ρ = some x ∧ fb ρ = some y ∧ g x y = some d := by
  unfold b2 at h
  cases e1 : fa ρ with
  | none => rw [e1] at h; cases h
  | some x =>
    rw [e1] at h
    cases e2 : fb ρ with
    | none => rw [Option.bind_some, e2] at h; cases h
    | some y => rw [Option.bind_some, e2] at h; exact ⟨x, y, rfl, rfl, h⟩
theorem b1_some {fa : Ev → Option D} {g : D → Option D} {ρ : Ev} {d : D} (h : b1 fa g ρ = some d) : ∃ x, fa ρ = some x ∧ g x = some d := by
  unfold b1 at h
  cases e1 : fa ρ with
  | none => rw [e1] at h; cases h
  | some x => rw [e1] at h; exact ⟨x, rfl, h⟩
/-- an operation upon data: what it asks of the values -/
def rD (K : PySem.W.Frag) (g : D → D → Option D) : R2 := fun x y H Q => ∃ M fo fv dx dy d, Rep K M H fo fv ∧ Dv K M x dx ∧ Dv K M y dy ∧ g dx dy = some d ∧
  ∀ M' H' v, Same M M' → Rep K M' H' fo fv → Dv K M' v d → Q v H'
def rD1 (K : PySem.W.Frag) (g : D → Option D) : V → Hp → VK → Prop := fun x H Q => ∃ M fo fv dx d, Rep K M H fo fv ∧ Dv K M x dx ∧ g dx = some d ∧
  ∀ M' H' v, Same M M' → Rep K M' H' fo fv → Dv K M' v d → Q v H'
def rDs (K : PySem.W.Frag) (g : List D → Option D) : List V → Hp → VK → Prop := fun xs H Q => ∃ M fo fv ds d, Rep K M H fo fv ∧ Dvs K M xs ds ∧ g ds = some d ∧
  ∀ M' H' v, Same M M' → Rep K M' H' fo fv → Dv K M' v d → Q v H'
/-- .. that gives a new thing of its own -/
def rOs (K : PySem.W.Frag) (g : List D → Option O) : List V → Hp → VK → Prop := fun xs H Q => ∃ M fo fv ds o, Rep K M H fo fv ∧ Dvs K M xs ds ∧ g ds = some o ∧
  ∀ M' H' v, Same M M' → Rep K M' H' (o :: fo) (some v :: fv) → Q v H'
theorem seq2 {K : PySem.W.Frag} {fa fb : Ev → Option D} {g : D → D → Option D} {σ : L2.St} {H : Hp} {Q : VK} (h : tP K (b2 fa fb g) σ H Q) : tOp (rD K g) (tP K fa) (tP K fb) σ H Q := by
  obtain ⟨M, ρ, fo, fv, d, R, l, e, k⟩ := h
  obtain ⟨x, y, ea, eb, eg⟩ := b2_some e
  exact ⟨M, ρ, fo, fv, x, R, l, ea, fun M1 H1 v1 s1 R1 d1 => ⟨M1, ρ, fo, fv, y, R1, l, eb, fun M2 H2 v2 s2 R2 d2 => ⟨M2, ρ ++ fo, σ ++ fv, x, y, d, R2, d1.mono s2, d2, eg, fun M3 H3 v s3 R3 d3 => k M3 H3 v (s1.trans (s2.trans s3)) R3 d3⟩⟩⟩
variable {a b c : Expr} {pos : Pos} {fa fb fc : Ev → Option D} {g : D → D → Option D}
theorem pOp {op : Operator} (ho : OpR X (binaryOp op) (rD X.K g)) (ha : PE X a (tP X.K fa)) (hb : PE X b (tP X.K fb)) : PE X (.BinOp a op b pos) (tP X.K (b2 fa fb g)) := PE.imp (pe_op ho ha hb) fun _ _ _ h => seq2 h
theorem pCmp {op : CmpOp} (ho : OpR X (compareOp op) (rD X.K g)) (ha : PE X a (tP X.K fa)) (hb : PE X b (tP X.K fb)) (hm : behindInMarks op b = false := by first | exact nomark _ | rfl) : PE X (.Compare a [op] [b] pos) (tP X.K (b2 fa fb g)) := PE.imp (pe_cmpR ho ha hb hm) fun _ _ _ h => seq2 h
theorem pUn {op : UnaryOp} {g : D → Option D} (ho : UnR X (unaryOp op) (rD1 X.K g)) (ha : PE X a (tP X.K fa)) : PE X (.UnaryOp op a pos) (tP X.K (b1 fa g)) := PE.imp (pe_un ho ha) fun σ H Q ⟨M, ρ, fo, fv, d, R, l, e, k⟩ => by
  obtain ⟨x, ea, eg⟩ := b1_some e
  exact ⟨M, ρ, fo, fv, x, R, l, ea, fun M1 H1 v1 s1 R1 d1 => ⟨M1, ρ ++ fo, σ ++ fv, x, d, R1, d1, eg, fun M3 H3 v s3 R3 d3 => k M3 H3 v (s1.trans s3) R3 d3⟩⟩
theorem pIx (ho : IxR X (rD X.K g)) (ha : PE X a (tP X.K fa)) (hb : PE X b (tP X.K fb)) (hs : PlainIx b := by exact fun _ _ => rfl) : PE X (.Subscript a b pos) (tP X.K (b2 fa fb g)) := PE.imp (pe_ix ho ha hb hs) fun _ _ _ h => seq2 h

/-! ### tests -/
/-- a pure expression that gives a bool, as a test -/
def asB (f : Ev → Option D) (ρ : Ev) : Option Bool := match f ρ with
  | some (.bl b) => some b
  | _ => none
theorem asB_some {f : Ev → Option D} {ρ : Ev} {b : Bool} (h : asB f ρ = some b) : f ρ = some (.bl b) := by
  unfold asB at h
  split at h
  · cases h; assumption
  · cases h
theorem tB_of {K : PySem.W.Frag} {f : Ev → Option D} {σ : L2.St} {H : Hp} {Q : Bool → Hp → Prop} (h : tT K (asB f) σ H Q) : tB (tP K f) σ H Q := by
  obtain ⟨M, ρ, fo, fv, b, R, l, e, k⟩ := h
  exact ⟨M, ρ, fo, fv, .bl b, R, l, asB_some e, fun M' H' v s R' dv => by cases dv; exact ⟨b, rfl, k M' H' s R'⟩⟩
theorem tVal {e : Expr} {f : Ev → Option D} (h : PE X e (tP X.K f)) (he : ∀ whole, isTrue e X.env whole = (do let v ← whole; standAt e.pos; holding [v] (truthy v)) := by intro _; rfl) : PT X e (tT X.K (asB f)) := PT.imp (pt_val h he) fun _ _ _ h => tB_of h
theorem tCmp {op : CmpOp} (ho : OpR X (compareOp op) (rD X.K g)) (ha : PE X a (tP X.K fa)) (hb : PE X b (tP X.K fb)) (hm : behindInMarks op b = false := by first | exact nomark _ | rfl) : PT X (.Compare a [op] [b] pos) (tT X.K (asB (b2 fa fb g))) :=
  PT.imp (pt_cmpR ho ha hb hm) fun σ H Q ⟨M, ρ, fo, fv, b, R, l, e, k⟩ => seq2 (K := X.K) (Q := fun x H' => ∃ k, x = .bl k ∧ Q k H') ⟨M, ρ, fo, fv, .bl b, R, l, asB_some e, fun M' H' v s R' dv => by cases dv; exact ⟨b, rfl, k M' H' s R'⟩⟩
def andT (f g : Ev → Option Bool) (ρ : Ev) : Option Bool := match f ρ with
  | some true => g ρ
  | some false => some false
  | none => none
def orT (f g : Ev → Option Bool) (ρ : Ev) : Option Bool := match f ρ with
  | some true => some true
  | some false => g ρ
  | none => none
def notT (f : Ev → Option Bool) (ρ : Ev) : Option Bool := (f ρ).map (!·)
theorem tNotT {fa : Ev → Option Bool} (h : PT X a (tT X.K fa)) : PT X (.UnaryOp .Not a pos) (tT X.K (notT fa)) := PT.imp (pt_not h) fun σ H Q ⟨M, ρ, fo, fv, b, R, l, e, k⟩ => by
  unfold notT at e
  cases q : fa ρ with
  | none => rw [q] at e; cases e
  | some c =>
    rw [q] at e
    cases e
    exact ⟨M, ρ, fo, fv, c, R, l, q, k⟩
theorem tAnd1 {fa : Ev → Option Bool} (h : PT X a (tT X.K fa)) : PW X (.BoolOp .And [a] pos) (tT X.K fa) := pw_and1 h
theorem tOr1 {fa : Ev → Option Bool} (h : PT X a (tT X.K fa)) : PW X (.BoolOp .Or [a] pos) (tT X.K fa) := pw_or1 h
theorem tAndW {fa fb : Ev → Option Bool} {rest : List Expr} (ha : PT X a (tT X.K fa)) (hb : PW X (.BoolOp .And (b :: rest) pos) (tT X.K fb)) : PW X (.BoolOp .And (a :: b :: rest) pos) (tT X.K (andT fa fb)) := PW.imp (pw_and ha hb) fun σ H Q ⟨M, ρ, fo, fv, b, R, l, e, k⟩ => by
  unfold andT at e
  cases q : fa ρ with
  | none => rw [q] at e; cases e
  | some c =>
    rw [q] at e
    cases c with
    | true => exact ⟨M, ρ, fo, fv, true, R, l, q, fun M1 H1 s1 R1 => iteT ⟨M1, ρ, fo, fv, b, R1, l, e, fun M2 H2 s2 R2 => k M2 H2 (s1.trans s2) R2⟩⟩
    | false => cases e; exact ⟨M, ρ, fo, fv, false, R, l, q, fun M1 H1 s1 R1 => iteF (k M1 H1 s1 R1)⟩
theorem tOrW {fa fb : Ev → Option Bool} {rest : List Expr} (ha : PT X a (tT X.K fa)) (hb : PW X (.BoolOp .Or (b :: rest) pos) (tT X.K fb)) : PW X (.BoolOp .Or (a :: b :: rest) pos) (tT X.K (orT fa fb)) := PW.imp (pw_or ha hb) fun σ H Q ⟨M, ρ, fo, fv, b, R, l, e, k⟩ => by
  unfold orT at e
  cases q : fa ρ with
  | none => rw [q] at e; cases e
  | some c =>
    rw [q] at e
    cases c with
    | true => cases e; exact ⟨M, ρ, fo, fv, true, R, l, q, fun M1 H1 s1 R1 => iteT (k M1 H1 s1 R1)⟩
    | false => exact ⟨M, ρ, fo, fv, false, R, l, q, fun M1 H1 s1 R1 => iteF ⟨M1, ρ, fo, fv, b, R1, l, e, fun M2 H2 s2 R2 => k M2 H2 (s1.trans s2) R2⟩⟩
theorem tW {fa : Ev → Option Bool} (h : PW X a (tT X.K fa)) : PT X a (tT X.K fa) := h.pt
/-! ### and, or, not, if-else as values -/
def andV (f g : Ev → Option D) (ρ : Ev) : Option D := match f ρ with
  | some (.bl true) => g ρ
  | some (.bl false) => some (.bl false)
  | _ => none
def orV (f g : Ev → Option D) (ρ : Ev) : Option D := match f ρ with
  | some (.bl true) => some (.bl true)
  | some (.bl false) => g ρ
  | _ => none
def notV (f : Ev → Option D) (ρ : Ev) : Option D := match f ρ with
  | some (.bl b) => some (.bl (!b))
  | _ => none
def ifV (c : Ev → Option Bool) (f g : Ev → Option D) (ρ : Ev) : Option D := match c ρ with
  | some true => f ρ
  | some false => g ρ
  | none => none
theorem pOne {op} (h : PE X a (tP X.K fa)) : PE X (.BoolOp op [a] pos) (tP X.K fa) := pe_one h
theorem pAnd {rest : List Expr} (ha : PE X a (tP X.K fa)) (hb : PE X (.BoolOp .And (b :: rest) pos) (tP X.K fb)) : PE X (.BoolOp .And (a :: b :: rest) pos) (tP X.K (andV fa fb)) := PE.imp (pe_and ha hb) fun σ H Q ⟨M, ρ, fo, fv, d, R, l, e, k⟩ => by
  unfold andV at e
  split at e
  · rename_i q
    exact ⟨M, ρ, fo, fv, _, R, l, q, fun M1 H1 v s1 R1 dv => by cases dv; exact ⟨true, rfl, iteT ⟨M1, ρ, fo, fv, d, R1, l, e, fun M2 H2 v2 s2 R2 => k M2 H2 v2 (s1.trans s2) R2⟩⟩⟩
  · rename_i q
    cases e
    exact ⟨M, ρ, fo, fv, _, R, l, q, fun M1 H1 v s1 R1 dv => by cases dv; exact ⟨false, rfl, iteF (k M1 H1 _ s1 R1 (.bl _))⟩⟩
  · cases e
theorem pOr {rest : List Expr} (ha : PE X a (tP X.K fa)) (hb : PE X (.BoolOp .Or (b :: rest) pos) (tP X.K fb)) : PE X (.BoolOp .Or (a :: b :: rest) pos) (tP X.K (orV fa fb)) := PE.imp (pe_or ha hb) fun σ H Q ⟨M, ρ, fo, fv, d, R, l, e, k⟩ => by
  unfold orV at e
  split at e
  · rename_i q
    cases e
    exact ⟨M, ρ, fo, fv, _, R, l, q, fun M1 H1 v s1 R1 dv => by cases dv; exact ⟨true, rfl, iteT (k M1 H1 _ s1 R1 (.bl _))⟩⟩
  · rename_i q
    exact ⟨M, ρ, fo, fv, _, R, l, q, fun M1 H1 v s1 R1 dv => by cases dv; exact ⟨false, rfl, iteF ⟨M1, ρ, fo, fv, d, R1, l, e, fun M2 H2 v2 s2 R2 => k M2 H2 v2 (s1.trans s2) R2⟩⟩⟩
  · cases e
theorem pNot (ha : PE X a (tP X.K fa)) : PE X (.UnaryOp .Not a pos) (tP X.K (notV fa)) := PE.imp (pe_not ha) fun σ H Q ⟨M, ρ, fo, fv, d, R, l, e, k⟩ => by
  unfold notV at e
  split at e
  · rename_i b q
    cases e
    exact ⟨M, ρ, fo, fv, _, R, l, q, fun M1 H1 v s1 R1 dv => by cases dv; exact ⟨b, rfl, k M1 H1 _ s1 R1 (.bl _)⟩⟩
  · cases e
theorem pIf {fc : Ev → Option Bool} (hc : PT X c (tT X.K fc)) (ha : PE X a (tP X.K fa)) (hb : PE X b (tP X.K fb)) : PE X (.IfExp c a b pos) (tP X.K (ifV fc fa fb)) := PE.imp (pe_ifExp hc ha hb) fun σ H Q ⟨M, ρ, fo, fv, d, R, l, e, k⟩ => by
  unfold ifV at e
  split at e
  · rename_i q
    exact ⟨M, ρ, fo, fv, _, R, l, q, fun M1 H1 s1 R1 => iteT ⟨M1, ρ, fo, fv, d, R1, l, e, fun M2 H2 v2 s2 R2 => k M2 H2 v2 (s1.trans s2) R2⟩⟩
  · rename_i q
    exact ⟨M, ρ, fo, fv, _, R, l, q, fun M1 H1 s1 R1 => iteF ⟨M1, ρ, fo, fv, d, R1, l, e, fun M2 H2 v2 s2 R2 => k M2 H2 v2 (s1.trans s2) R2⟩⟩
  · cases e

/-! ### argument lists -/
def aCons (f : Ev → Option D) (g : Ev → Option (List D)) (ρ : Ev) : Option (List D) := (f ρ).bind fun d => (g ρ).bind fun ds => some (d :: ds)
def aNil (_ : Ev) : Option (List D) := some []
theorem aCons_some {f : Ev → Option D} {g : Ev → Option (List D)} {ρ : Ev} {ds : List D} (h : aCons f g ρ = some ds) : ∃ d r, f ρ = some d ∧ g ρ = some r ∧ ds = d :: r := by
  unfold aCons at h
  cases e1 : f ρ with
  | none => rw [e1] at h; cases h
  | some x =>
    rw [e1] at h
    cases e2 : g ρ with
    | none => rw [Option.bind_some, e2] at h; cases h
    | some y => rw [Option.bind_some, e2] at h; cases h; exact ⟨x, y, rfl, rfl, rfl⟩
theorem tCons_of {K : PySem.W.Frag} {f : Ev → Option D} {g : Ev → Option (List D)} {σ : L2.St} {H : Hp} {Q : List V → Hp → Prop} (h : tAr K (aCons f g) σ H Q) : tCons (tP K f) (tAr K g) σ H Q := by
  obtain ⟨M, ρ, fo, fv, ds, R, l, e, k⟩ := h
  obtain ⟨d, r, ef, eg, rfl⟩ := aCons_some e
  exact ⟨M, ρ, fo, fv, d, R, l, ef, fun M1 H1 v1 s1 R1 d1 => ⟨M1, ρ, fo, fv, r, R1, l, eg, fun M2 H2 vs s2 R2 d2 => k M2 H2 _ (s1.trans s2) R2 (.cons (d1.mono s2) d2)⟩⟩
theorem qNil : PA X [] (tAr X.K aNil) := PA.imp pa_nil fun σ H Q ⟨M, ρ, fo, fv, d, R, l, e, k⟩ => by
  cases e
  exact k M H [] (Same.refl _) R .nil
theorem qCons {es : List Expr} {g : Ev → Option (List D)} (ha : PE X a (tP X.K fa)) (hr : PA X es (tAr X.K g)) (hs : starEach (a :: es) X.env = (false, eval a X.env) :: starEach es X.env := by rfl) : PA X (a :: es) (tAr X.K (aCons fa g)) :=
  PA.imp (pa_cons ha hr hs) fun _ _ _ h => tCons_of h
theorem kNil : PK X [] (tAr X.K aNil) := ⟨fun p pins s σ H Q I ⟨M, ρ, fo, fv, d, R, l, e, k⟩ => by
  cases e
  exact pk_nil.run p pins s σ H Q I (k M H [] (Same.refl _) R .nil)⟩
theorem kCons {nm : Option Str} {kpos : Pos} {kws : List Keyword} {g : Ev → Option (List D)} (ha : PE X a (tP X.K fa)) (hr : PK X kws (tAr X.K g)) : PK X (⟨nm, a, kpos⟩ :: kws) (tAr X.K (aCons fa g)) :=
  ⟨fun p pins s σ H Q I h => (pk_cons ha hr).run p pins s σ H Q I (tCons_of h)⟩

/-! ### tuples and lists that are displayed -/
def mkTup (g : Ev → Option (List D)) (ρ : Ev) : Option D := (g ρ).bind fun ds => if ds.length ≤ sizeLine then some (.tup ds) else none
def mkLst (g : Ev → Option (List D)) (ρ : Ev) : Option D := (g ρ).bind fun ds => if ds.length ≤ sizeLine then some (.lst ds) else none
def mkLstO (g : Ev → Option (List D)) (ρ : Ev) : Option O := (g ρ).bind fun ds => if ds.length ≤ sizeLine then some (.lst (ds.map .dat)) else none
theorem mk_some {α : Type} {g : Ev → Option (List D)} {ρ : Ev} {h : List D → α} {d : α} (e : ((g ρ).bind fun ds => if ds.length ≤ sizeLine then some (h ds) else none) = some d) : ∃ ds, g ρ = some ds ∧ ds.length ≤ sizeLine ∧ d = h ds := by
  cases e1 : g ρ with
  | none => rw [e1] at e; cases e
  | some ds =>
    rw [e1, Option.bind_some] at e
    split at e
    · cases e; exact ⟨ds, rfl, by assumption, rfl⟩
    · cases e
variable {es : List Expr} {ga : Ev → Option (List D)}
theorem pTup {k : Nat} (h : PA X es (tAr X.K ga)) : PE X (.Tuple es k pos) (tP X.K (mkTup ga)) := PE.imp (pe_tup h) fun σ H Q ⟨M, ρ, fo, fv, d, R, l, e, k⟩ => by
  obtain ⟨ds, eg, hl, rfl⟩ := mk_some e
  refine ⟨M, ρ, fo, fv, ds, R, l, eg, fun M1 H1 vs s1 R1 d1 => ⟨by rw [d1.length]; exact hl, fun p hp => ?_⟩⟩
  have mp := R1.same.free hp
  have s2 : Same M1 (upd M1 p (.tup vs)) := same_updM mp
  exact k _ _ _ (s1.trans s2) (R1.growM hp) (.tup (.inl (.inl upd_same)) (d1.mono s2))
theorem pLst (h : PA X es (tAr X.K ga)) : PE X (.List es pos) (tP X.K (mkLst ga)) := PE.imp (pe_lst h) fun σ H Q ⟨M, ρ, fo, fv, d, R, l, e, k⟩ => by
  obtain ⟨ds, eg, hl, rfl⟩ := mk_some e
  refine ⟨M, ρ, fo, fv, ds, R, l, eg, fun M1 H1 vs s1 R1 d1 => ⟨by rw [d1.length]; exact hl, fun p hp => ?_⟩⟩
  have mp := R1.same.free hp
  have s2 : Same M1 (upd M1 p (.lst vs)) := same_updM mp
  exact k _ _ _ (s1.trans s2) (R1.growM hp) (.lst (.inl (.inl upd_same)) (d1.mono s2))
theorem ows_dat {K : PySem.W.Frag} {M H : Hp} : ∀ {vs : List V} {ds : List D}, Dvs K M vs ds → Ows K M H (ds.map O.dat) (vs.map some) []
  | _, _, .nil => .nil
  | _, _, .cons h t => by
    have := Ows.cons (Ow.dat (H := H) h) (ows_dat (H := H) t)
    exact this
/-- a new list of frozen things, of one's own -/
theorem Rep.newL {K : PySem.W.Frag} {M H : Hp} {l r : List O} {lv rv : List (Option V)} (R : Rep K M H (l ++ r) (lv ++ rv)) (e : lv.length = l.length) {p : Addr} (hp : H p = none) {vs : List V} {ds : List D} (d : Dvs K M vs ds) :
    Rep K M (upd H p (.lst vs)) (l ++ .lst (ds.map .dat) :: r) (lv ++ some (.ref p) :: rv) := by
  have R1 : Rep K M (upd H p (.lst vs)) (l ++ r) (lv ++ rv) := R.grow hp
  obtain ⟨s, fp, w, nd, nm⟩ := R
  obtain ⟨s1, fp1, w1, nd1, nm1⟩ := R1
  have pn : p ∉ fp := fun z => w.dom p z hp
  have w' : Ows K M (upd H p (.lst vs)) (l ++ r) (lv ++ rv) fp := w.frame (Same.refl _) fun a ha => upd_ne fun z => pn (z ▸ ha)
  obtain ⟨fa, fb, e1, wa, wb⟩ := w'.split e
  subst e1
  refine ⟨s1, fa ++ ([p] ++ fb), wa.append (.cons (.lst upd_same (ows_dat d)) wb), ?_, fun a ha => ?_⟩
  · rw [List.nodup_append] at nd ⊢
    obtain ⟨n1, n2, n3⟩ := nd
    refine ⟨n1, ?_, fun a ha b hb => ?_⟩
    · exact List.nodup_cons.mpr ⟨fun z => pn (List.mem_append_right _ z), n2⟩
    · rcases List.mem_cons.mp hb with rfl | hb
      · exact fun z => pn (z ▸ List.mem_append_left _ ha)
      · exact n3 a ha b hb
  · simp only [List.mem_append, List.mem_singleton] at ha
    rcases ha with ha | rfl | ha
    · exact nm a (List.mem_append_left _ ha)
    · exact s.free hp
    · exact nm a (List.mem_append_right _ ha)
theorem oLst (h : PA X es (tAr X.K ga)) : PE X (.List es pos) (tO X.K (mkLstO ga)) := PE.imp (pe_lst h) fun σ H Q ⟨M, ρ, fo, fv, d, R, l, e, k⟩ => by
  obtain ⟨ds, eg, hl, rfl⟩ := mk_some e
  exact ⟨M, ρ, fo, fv, ds, R, l, eg, fun M1 H1 vs s1 R1 d1 => ⟨by rw [d1.length]; exact hl, fun p hp => k _ _ _ s1 (R1.newL l hp d1)⟩⟩
/-- a frozen thing is a thing -/
def thaw (f : Ev → Option D) (ρ : Ev) : Option O := (f ρ).map .dat
def frz (f : Ev → Option O) (ρ : Ev) : Option D := (f ρ).bind O.toD
theorem oP {e : Expr} {f : Ev → Option D} (h : PE X e (tP X.K f)) : PE X e (tO X.K (thaw f)) := PE.imp h fun σ H Q ⟨M, ρ, fo, fv, d, R, l, e, k⟩ => by
  unfold thaw at e
  cases q : f ρ with
  | none => rw [q] at e; cases e
  | some d' =>
    rw [q] at e
    cases e
    exact ⟨M, ρ, fo, fv, d', R, l, q, fun M1 H1 v s1 R1 d1 => k M1 H1 v s1 (R1.push l d1)⟩
/-- a thing of one's own, frozen -/
theorem pO {e : Expr} {f : Ev → Option O} (h : PE X e (tO X.K f)) : PE X e (tP X.K (frz f)) := PE.imp h fun σ H Q ⟨M, ρ, fo, fv, d, R, l, e, k⟩ => by
  unfold frz at e
  cases q : f ρ with
  | none => rw [q] at e; cases e
  | some o =>
    rw [q] at e
    refine ⟨M, ρ, fo, fv, o, R, l, q, fun M1 H1 v s1 R1 => ?_⟩
    obtain ⟨M2, s2, R2, d2⟩ := R1.frz l rfl e
    exact k M2 H1 v (s1.trans s2) (R2.drop l) d2

/-! ### calls of built-ins -/
def cB (g : Ev → Option (List D)) (f : List D → Option D) (ρ : Ev) : Option D := (g ρ).bind f
theorem cB_some {g : Ev → Option (List D)} {f : List D → Option D} {ρ : Ev} {d : D} (h : cB g f ρ = some d) : ∃ ds, g ρ = some ds ∧ f ds = some d := by
  unfold cB at h
  cases e1 : g ρ with
  | none => rw [e1] at h; cases h
  | some x => rw [e1] at h; exact ⟨x, rfl, h⟩
theorem tCB_of {K : PySem.W.Frag} {g : Ev → Option (List D)} {f : List D → Option D} {σ : L2.St} {H : Hp} {Q : VK} (h : tP K (cB g f) σ H Q) : tCB (rDs K f) (tAr K g) σ H Q := by
  obtain ⟨M, ρ, fo, fv, d, R, l, e, k⟩ := h
  obtain ⟨ds, eg, ef⟩ := cB_some e
  exact ⟨M, ρ, fo, fv, ds, R, l, eg, fun M1 H1 vs s1 R1 d1 => ⟨M1, ρ ++ fo, σ ++ fv, ds, d, R1, d1, ef, fun M2 H2 v s2 R2 d2 => k M2 H2 v (s1.trans s2) R2 d2⟩⟩
theorem pCallB {id : String} {x : Str} {p : Pos} {f : List D → Option D} {e : Expr} {es : List Expr} (hc : CallR X (.builtin id) (rDs X.K f)) (hm : X.mg x = none) (hv : bootBuiltins x = some (.builtin id)) (ha : PA X (e :: es) (tAr X.K ga)) (hg : Gl X x := by rfl) (hn : x ≠ "__name__" := by decide) (hdb : (x == ("__debug__" : Str)) = false := by decide)
    (hpl : (backTo pos (starEach es X.env)).any (·.1) = false := by rfl) (hs : starEach (e :: es) X.env = (false, eval e X.env) :: starEach es X.env := by rfl) : PE X (.Call (.Name x p) (e :: es) [] pos) (tP X.K (cB ga f)) :=
  PE.imp (pe_callB hc hg hm hv ha hn hdb hs hpl) fun _ _ _ h => tCB_of h
theorem pCallT {T : String} {x : Str} {p : Pos} {f : List D → Option D} {e : Expr} {es : List Expr} (hc : CallR X (.type T) (rDs X.K f)) (hm : X.mg x = none) (hv : bootBuiltins x = some (.type T)) (ha : PA X (e :: es) (tAr X.K ga)) (hg : Gl X x := by rfl) (hn : x ≠ "__name__" := by decide) (hdb : (x == ("__debug__" : Str)) = false := by decide)
    (hpl : (backTo pos (starEach es X.env)).any (·.1) = false := by rfl) (hs : starEach (e :: es) X.env = (false, eval e X.env) :: starEach es X.env := by rfl) : PE X (.Call (.Name x p) (e :: es) [] pos) (tP X.K (cB ga f)) :=
  PE.imp (pe_callTy hc hg hm hv ha hn hdb hs hpl) fun _ _ _ h => tCB_of h
end
end PD

namespace PD
open PySem PySem.Spec L2

section
variable {X : Cx} {W : WX} {J : List Nat} {pos : Pos}
/-! ### blocks -/
def sq (f g : Ev → Option Fl) (ρ : Ev) : Option Fl := (f ρ).bind fun r => match r with
  | .nx ρ' => g ρ'
  | r => some r
def skip (ρ : Ev) : Option Fl := some (.nx ρ)
theorem sNil : PSs X [] (tS X.K W J skip) := PSs.imp pss_nil fun E σ H ⟨M, ρ, fo, fv, r, σ0, R, l, e, k⟩ => by
  cases e
  exact k M H σ (Same.refl _) R l
theorem tSeq_of {K : PySem.W.Frag} {f g : Ev → Option Fl} {E : Ends} {σ : L2.St} {H : Hp} (h : tS K W J (sq f g) E σ H) : tSeq (tS K W J f) (tS K W J g) E σ H := by
  obtain ⟨M, ρ, fo, fv, r, σ0, R, l, e, k⟩ := h
  unfold sq at e
  cases q : f ρ with
  | none => rw [q] at e; cases e
  | some r1 =>
    rw [q, Option.bind_some] at e
    refine ⟨M, ρ, fo, fv, r1, σ0, R, l, q, ?_⟩
    cases r1 with
    | nx ρ1 => exact fun M1 H1 σ1 s1 R1 l1 => ⟨M1, ρ1, fo, fv, r, σ0, R1, l1, e, k.later s1⟩
    | rt o ρ1 => cases e; exact k
    | bk ρ1 => cases e; exact k
    | ct ρ1 => cases e; exact k
    | ex x ρ1 => cases e; exact k
theorem sCons {st : Stmt} {rest : List Stmt} {f g : Ev → Option Fl} (h1 : PS X st (tS X.K W J f)) (h2 : PSs X rest (tS X.K W J g)) : PSs X (st :: rest) (tS X.K W J (sq f g)) := PSs.imp (pss_cons h1 h2) fun _ _ _ h => tSeq_of h
theorem sOne {st : Stmt} {f : Ev → Option Fl} (h1 : PS X st (tS X.K W J f)) : PSs X [st] (tS X.K W J f) := pss_one h1
theorem sPass : PS X (.Pass pos) (tS X.K W J skip) := PS.imp ps_pass fun E σ H ⟨M, ρ, fo, fv, r, σ0, R, l, e, k⟩ => by
  cases e
  exact k M H σ (Same.refl _) R l
def brk (ρ : Ev) : Option Fl := some (.bk ρ)
def cont (ρ : Ev) : Option Fl := some (.ct ρ)
theorem sBreak : PS X (.Break pos) (tS X.K W J brk) := PS.imp ps_break fun E σ H ⟨M, ρ, fo, fv, r, σ0, R, l, e, k⟩ => by
  cases e
  exact k M H σ (Same.refl _) R l
theorem sCont : PS X (.Continue pos) (tS X.K W J cont) := PS.imp ps_continue fun E σ H ⟨M, ρ, fo, fv, r, σ0, R, l, e, k⟩ => by
  cases e
  exact k M H σ (Same.refl _) R l
/-! ### return -/
def rtV (f : Ev → Option D) (ρ : Ev) : Option Fl := (f ρ).map fun d => .rt (.dat d) ρ
def rtO (f : Ev → Option O) (ρ : Ev) : Option Fl := (f ρ).map fun o => .rt o ρ
def rtN (ρ : Ev) : Option Fl := some (.rt (.dat .non) ρ)
theorem sRet {e : Expr} {f : Ev → Option D} (h : PE X e (tP X.K f)) : PS X (.Return (some e) pos) (tS X.K W J (rtV f)) := PS.imp (ps_ret h) fun E σ H ⟨M, ρ, fo, fv, r, σ0, R, l, e, k⟩ => by
  unfold rtV at e
  cases q : f ρ with
  | none => rw [q] at e; cases e
  | some d =>
    rw [q] at e
    cases e
    exact ⟨M, ρ, fo, fv, d, R, l.1, q, fun M1 H1 v s1 R1 d1 => k M1 H1 σ v s1 (R1.push l.1 d1) l⟩
theorem sRetO {e : Expr} {f : Ev → Option O} (h : PE X e (tO X.K f)) : PS X (.Return (some e) pos) (tS X.K W J (rtO f)) := PS.imp (ps_ret h) fun E σ H ⟨M, ρ, fo, fv, r, σ0, R, l, e, k⟩ => by
  unfold rtO at e
  cases q : f ρ with
  | none => rw [q] at e; cases e
  | some d =>
    rw [q] at e
    cases e
    exact ⟨M, ρ, fo, fv, d, R, l.1, q, fun M1 H1 v s1 R1 => k M1 H1 σ v s1 R1 l⟩
theorem sRetN : PS X (.Return none pos) (tS X.K W J rtN) := PS.imp ps_retN fun E σ H ⟨M, ρ, fo, fv, r, σ0, R, l, e, k⟩ => by
  cases e
  exact k M H σ _ (Same.refl _) (R.push l.1 .non) l
/-! ### if -/
def ifS (c : Ev → Option Bool) (f g : Ev → Option Fl) (ρ : Ev) : Option Fl := match c ρ with
  | some true => f ρ
  | some false => g ρ
  | none => none
theorem sIf {c : Expr} {a b : List Stmt} {fc : Ev → Option Bool} {f g : Ev → Option Fl} (hc : PT X c (tT X.K fc)) (ha : PSs X a (tS X.K W J f)) (hb : PSs X b (tS X.K W J g)) : PS X (.If c a b pos) (tS X.K W J (ifS fc f g)) :=
  PS.imp (ps_if hc ha hb) fun E σ H ⟨M, ρ, fo, fv, r, σ0, R, l, e, k⟩ => by
    unfold ifS at e
    split at e
    · rename_i q
      exact ⟨M, ρ, fo, fv, true, R, l.1, q, fun M1 H1 s1 R1 => iteT ⟨M1, ρ, fo, fv, r, σ0, R1, l, e, k.later s1⟩⟩
    · rename_i q
      exact ⟨M, ρ, fo, fv, false, R, l.1, q, fun M1 H1 s1 R1 => iteF ⟨M1, ρ, fo, fv, r, σ0, R1, l, e, k.later s1⟩⟩
    · cases e
/-! ### a name is stored -/
def stV (i : Nat) (f : Ev → Option D) (ρ : Ev) : Option Fl := (f ρ).map fun d => .nx (ρ.set i (.dat d))
def stO (i : Nat) (f : Ev → Option O) (ρ : Ev) : Option Fl := (f ρ).map fun o => .nx (ρ.set i o)
theorem sSet {i : Nat} {x : Str} {e : Expr} {f : Ev → Option D} {pos' : Pos} (hN : X.N.Nodup) (he : PE X e (tP X.K f)) (hJ : i ∉ J := by decide) (hi : X.N[i]? = some x := by rfl) (hx : Loc X.env.scope x := by first | exact Or.inl rfl | exact Or.inr rfl) (hs : swapsWith e (some (.Name x pos')) pos.line X.env = pure false := by rfl)
    (hf : X.fn x = true ∨ X.env.scope.names.lookup x = some .local := by first | exact .inl rfl | exact .inr rfl) : PS X (.Assign [.Name x pos'] e pos) (tS X.K W J (stV i f)) := PS.imp (ps_set (i := i) hN hi hx he hs hf) fun E σ H ⟨M, ρ, fo, fv, r, σ0, R, l, e, k⟩ => by
  unfold stV at e
  cases q : f ρ with
  | none => rw [q] at e; cases e
  | some d =>
    rw [q] at e
    cases e
    exact ⟨M, ρ, fo, fv, d, R, l.1, q, fun M1 H1 v s1 R1 d1 => k M1 H1 _ s1 (R1.setD l.1 d1) (l.set hJ _ _)⟩
theorem sSetO {i : Nat} {x : Str} {e : Expr} {f : Ev → Option O} {pos' : Pos} (hN : X.N.Nodup) (he : PE X e (tO X.K f)) (hJ : i ∉ J := by decide) (hi : X.N[i]? = some x := by rfl) (hx : Loc X.env.scope x := by first | exact Or.inl rfl | exact Or.inr rfl) (hs : swapsWith e (some (.Name x pos')) pos.line X.env = pure false := by rfl)
    (hf : X.fn x = true ∨ X.env.scope.names.lookup x = some .local := by first | exact .inl rfl | exact .inr rfl) : PS X (.Assign [.Name x pos'] e pos) (tS X.K W J (stO i f)) := PS.imp (ps_set (i := i) hN hi hx he hs hf) fun E σ H ⟨M, ρ, fo, fv, r, σ0, R, l, e, k⟩ => by
  unfold stO at e
  cases q : f ρ with
  | none => rw [q] at e; cases e
  | some d =>
    rw [q] at e
    cases e
    exact ⟨M, ρ, fo, fv, d, R, l.1, q, fun M1 H1 v s1 R1 => k M1 H1 _ s1 (R1.into l.1) (l.set hJ _ _)⟩
/-- x = [..] (a comprehension on one line, x a local) is a statement of its own: from its PS with tAsg -/
theorem sAsgO {i : Nat} {st : Stmt} {f : Ev → Option O} (h : PS X st (tAsg (tO X.K f) (gName i))) (hJ : i ∉ J := by decide) : PS X st (tS X.K W J (stO i f)) := PS.imp h fun E σ H ⟨M, ρ, fo, fv, r, σ0, R, l, e, k⟩ => by
  unfold stO at e
  cases q : f ρ with
  | none => rw [q] at e; cases e
  | some d =>
    rw [q] at e
    cases e
    exact ⟨M, ρ, fo, fv, d, R, l.1, q, fun M1 H1 v s1 R1 => k M1 H1 _ s1 (R1.into l.1) (l.set hJ _ _)⟩
/-! ### an owned slot is frozen (a step of the proof alone) -/
def fz (i : Nat) (g : Ev → Option Fl) (ρ : Ev) : Option Fl := match ρ[i]? with
  | some o => o.toD.bind fun d => g (ρ.set i (.dat d))
  | none => none
theorem Rep.frzAt {K : PySem.W.Frag} {M H : Hp} {ρ fo : List O} {σ fv : List (Option V)} (R : Rep K M H (ρ ++ fo) (σ ++ fv)) (l : σ.length = ρ.length) {i : Nat} {o : O} {d : D} (e : ρ[i]? = some o) (hd : o.toD = some d) :
    ∃ M', Same M M' ∧ Rep K M' H (ρ.set i (.dat d) ++ fo) (σ ++ fv) := by
  obtain ⟨hi, e⟩ := List.getElem?_eq_some_iff.mp e
  have hi' : i < σ.length := by omega
  have e1 : ρ = ρ.take i ++ o :: ρ.drop (i + 1) := by rw [← e, ← List.drop_eq_getElem_cons hi, List.take_append_drop]
  have e2 : σ = σ.take i ++ σ[i] :: σ.drop (i + 1) := by rw [← List.drop_eq_getElem_cons hi', List.take_append_drop]
  have e3 : ρ.set i (.dat d) = ρ.take i ++ .dat d :: ρ.drop (i + 1) := by rw [List.set_eq_take_append_cons_drop, if_pos hi]
  rw [e1, e2] at R
  simp only [List.append_assoc, List.cons_append] at R
  have ll : (σ.take i).length = (ρ.take i).length := by simp; omega
  obtain ⟨fa, f, fb, w1, w2, w3, nd, nm⟩ := R.mid ll
  obtain ⟨x, ex⟩ : ∃ x, σ[i] = some x := by
    generalize σ[i] = z at w2
    cases w2 with
    | unk => unfold O.toD at hd; cases hd
    | raw h _ => exact nomatch (show (none : Option D) = some d from hd)
    | dat h => exact ⟨_, rfl⟩
    | lst h _ => exact ⟨_, rfl⟩
    | tup h _ => exact ⟨_, rfl⟩
    | dic h _ _ => exact ⟨_, rfl⟩
    | obj h _ _ _ => exact ⟨_, rfl⟩
  obtain ⟨M', s', R', _⟩ := R.frz ll ex hd
  refine ⟨M', s', ?_⟩
  rw [e3, e2]
  simp only [List.append_assoc, List.cons_append]
  simpa using R'
theorem tFz_of {K : PySem.W.Frag} {i : Nat} {g : Ev → Option Fl} {E : Ends} {σ : L2.St} {H : Hp} (h : tS K W J (fz i g) E σ H) : tS K W J g E σ H := by
  obtain ⟨M, ρ, fo, fv, r, σ0, R, l, e, k⟩ := h
  unfold fz at e
  cases q : ρ[i]? with
  | none => rw [q] at e; cases e
  | some o =>
    rw [q] at e
    have e : (o.toD.bind fun d => g (ρ.set i (.dat d))) = some r := e
    cases q2 : o.toD with
    | none => rw [q2] at e; cases e
    | some d =>
      rw [q2, Option.bind_some] at e
      obtain ⟨M1, s1, R1⟩ := R.frzAt l.1 q q2
      exact ⟨M1, _, fo, fv, r, σ0, R1, l.setR _, e, k.later s1⟩
theorem sFz {st : Stmt} {i : Nat} {g : Ev → Option Fl} (h : PS X st (tS X.K W J g)) : PS X st (tS X.K W J (fz i g)) := PS.imp h fun _ _ _ h => tFz_of h
/-- an expression alone -/
def drp (f : Ev → Option D) (ρ : Ev) : Option Fl := (f ρ).map fun _ => .nx ρ
theorem sExpr {e : Expr} {f : Ev → Option D} (he : PE X e (tP X.K f)) (hs : swapsWith e none pos.line X.env = pure false := by rfl) : PS X (.Expr e pos) (tS X.K W J (drp f)) := PS.imp (ps_expr he hs) fun E σ H ⟨M, ρ, fo, fv, r, σ0, R, l, e, k⟩ => by
  unfold drp at e
  cases q : f ρ with
  | none => rw [q] at e; cases e
  | some d =>
    rw [q] at e
    cases e
    exact ⟨M, ρ, fo, fv, d, R, l.1, q, fun M1 H1 v s1 R1 d1 => k M1 H1 σ s1 R1 l⟩

/-! ### x.append(e) of an own list -/
theorem Rep.ownL {K : PySem.W.Frag} {M H : Hp} {ρ fo : List O} {σ fv : List (Option V)} (R : Rep K M H (ρ ++ fo) (σ ++ fv)) (l : σ.length = ρ.length) {i : Nat} {os : List O} (e : ρ[i]? = some (.lst os)) :
    ∃ a xs, σ[i]? = some (some (.ref a)) ∧ H a = some (.lst xs) ∧ xs.length = os.length ∧
      ∀ (x : V) (d : D), Dv K M x d → Rep K M (upd H a (.lst (xs ++ [x]))) (ρ.set i (.lst (os ++ [.dat d])) ++ fo) (σ ++ fv) := by
  obtain ⟨hi, e⟩ := List.getElem?_eq_some_iff.mp e
  have hi' : i < σ.length := by omega
  have e1 : ρ = ρ.take i ++ O.lst os :: ρ.drop (i + 1) := by rw [← e, ← List.drop_eq_getElem_cons hi, List.take_append_drop]
  have e2 : σ = σ.take i ++ σ[i] :: σ.drop (i + 1) := by rw [← List.drop_eq_getElem_cons hi', List.take_append_drop]
  have e3 : ∀ z, ρ.set i z = ρ.take i ++ z :: ρ.drop (i + 1) := fun z => by rw [List.set_eq_take_append_cons_drop, if_pos hi]
  have R0 := R
  rw [e1, e2] at R
  simp only [List.append_assoc, List.cons_append] at R
  have ll : (σ.take i).length = (ρ.take i).length := by simp; omega
  obtain ⟨fa, f, fb, w1, w2, w3, nd, nm⟩ := R.mid ll
  generalize hz : σ[i] = z at *
  cases w2 with
  | lst h ws =>
    rename_i a xs fp
    refine ⟨a, xs, by rw [List.getElem?_eq_getElem hi', hz], h, by rw [← ws.length]; simp, fun x d dx => ?_⟩
    have aout : ∀ b, b ∈ fa ∨ b ∈ fp ∨ b ∈ fb → b ≠ a := by
      intro b hb z
      subst z
      rw [List.nodup_append] at nd
      obtain ⟨n1, n2, n3⟩ := nd
      rcases hb with hb | hb | hb
      · exact n3 b hb b (by simp) rfl
      · rw [List.cons_append, List.nodup_cons] at n2
        exact n2.1 (List.mem_append_left _ hb)
      · rw [List.cons_append, List.nodup_cons] at n2
        exact n2.1 (List.mem_append_right _ hb)
    have ma : M a = none := nm a (by simp)
    rw [e3, e2]
    simp only [List.append_assoc, List.cons_append]
    refine ⟨fun b y q => ?_, fa ++ ((a :: fp) ++ fb), ?_, nd, nm⟩
    · rw [upd_ne (fun z => by subst z; rw [ma] at q; cases q)]
      exact R.same b y q
    · refine (w1.frame (Same.refl _) fun b hb => upd_ne (aout b (.inl hb))).append (.cons ?_ (w3.frame (Same.refl _) fun b hb => upd_ne (aout b (.inr (.inr hb)))))
      refine .lst upd_same ?_
      rw [List.map_append]
      have w4 := (ws.frame (Same.refl _) (H' := upd H a (.lst (xs ++ [x]))) fun b hb => upd_ne (aout b (.inr (.inl hb)))).append (Ows.cons (Ow.dat (H := upd H a (.lst (xs ++ [x]))) dx) .nil)
      simpa using w4
def app (i : Nat) (f : Ev → Option D) (ρ : Ev) : Option Fl := (f ρ).bind fun d => match ρ[i]? with
  | some (.lst os) => if os.length < sizeLine then some (.nx (ρ.set i (.lst (os ++ [.dat d])))) else none
  | _ => none
theorem sApp {i : Nat} {x : Str} {e : Expr} {f : Ev → Option D} {p apos cpos : Pos} (hv : PE X (.Name x p) (tVar i)) (he : PE X e (tP X.K f)) (hbase : attributeBase (.Name x p) "append" X.env (eval (.Name x p) X.env) = eval (.Name x p) X.env := by rfl)
    (hfew : ((backTo cpos (starEach [e] X.env)).all (fun x => !x.1) && (backToKw cpos (keywordEach [] X.env)).all (fun x => x.1.isSome)
      && decide ([e].length + ([] : List Keyword).length + (if ([] : List Keyword).isEmpty then 0 else 1) < 30)) = true := by rfl)
    (hline : (apos.endLine == cpos.line) = true := by rfl) (hs : starEach [e] X.env = (false, eval e X.env) :: starEach [] X.env := by rfl) (hplain : (backTo cpos (starEach [] X.env)).any (·.1) = false := by rfl)
    (hsw : swapsWith (.Call (.Attribute (.Name x p) "append" apos) [e] [] cpos) none pos.line X.env = pure false := by rfl) :
    PS X (.Expr (.Call (.Attribute (.Name x p) "append" apos) [e] [] cpos) pos) (tS X.K W J (app i f)) :=
  PS.imp (ps_expr (pe_bm PySem.F.plainAttrs_list PySem.F.slot_list_append PySem.F.type_list_append mt_append hv (pa_cons he pa_nil hs) hbase hfew hline hs hplain) hsw) fun E σ H ⟨M, ρ, fo, fv, r, σ0, R, l, e, k⟩ => by
    unfold app at e
    cases q : f ρ with
    | none => rw [q] at e; cases e
    | some d =>
      rw [q, Option.bind_some] at e
      split at e
      · rename_i os eo
        split at e
        · rename_i hlen
          cases e
          obtain ⟨a, xs, es, ha, hl, _⟩ := R.ownL l.1 eo
          refine ⟨.ref a, es, .inl ⟨rfl, _, .inl (.inl ha)⟩, M, ρ, fo, fv, d, R, l.1, q, fun M1 H1 v s1 R1 d1 => ?_⟩
          obtain ⟨a', xs', es', ha', hl', up⟩ := R1.ownL l.1 eo
          have : a' = a := by rw [es'] at es; cases es; rfl
          subst this
          refine ⟨a', xs', v, rfl, rfl, ha', by omega, ?_⟩
          exact k M1 _ σ s1 (up v d d1) (l.setR _)
        · cases e
      · cases e
end
end PD

namespace PD
open PySem PySem.Spec L2

theorem Lk.to {J : List Nat} {σ0 σ σ1 : L2.St} {ρ ρ1 : Ev} (l : Lk J σ0 σ ρ) (l1 : σ1.length = σ.length) (r1 : ρ1.length = ρ.length) {is : List Nat} (a : ∀ j, j ∉ is → σ1[j]? = σ[j]?) (h : ∀ i ∈ is, i ∉ J) : Lk J σ0 σ1 ρ1 :=
  ⟨by rw [l1, r1]; exact l.1, fun j hj => (a j fun z => h j z hj).trans (l.2 j hj)⟩
/-! ### what is walked -/
/-- nd: roots that must stand as they were -/
def Yld (K : PySem.W.Frag) (M : Hp) (nd : List (O × Option V)) (J : It) (ds : List D) : Prop :=
  ∀ i M1 H os vs, Same M M1 → Rep K M1 H os vs → (∀ r ∈ nd, r ∈ os.zip vs) → (i < ds.length → J.go i H) ∧ (i = ds.length → J.stop i H) ∧ ∀ d, ds[i]? = some d → ∀ x H', J.yld i H x H' →
    ∃ M2, Same M1 M2 ∧ Rep K M2 H' os vs ∧ Dv K M2 x d
/-- kn: the slots whose own lists are walked -/
def tI (K : PySem.W.Frag) (kn : List Nat) (g : Ev → Option (List D)) : TI := fun σ H R => ∃ M ρ fo fv ds, Rep K M H (ρ ++ fo) (σ ++ fv) ∧ σ.length = ρ.length ∧ g ρ = some ds ∧
  ∀ M' H' J, Same M M' → Rep K M' H' (ρ ++ fo) (σ ++ fv) → Yld K M' (kn.map fun k => (ρ.getD k .unk, σ.getD k none)) J ds → R J H'
theorem yld_list {K : PySem.W.Frag} {M : Hp} {a : Addr} {xs : List V} {ds : List D} (h : SqX K M a xs) (d : Dvs K M xs ds) : Yld K M [] (Itl K a) ds := fun i M1 H os vs s1 R _ => by
  have q := seqX (s1.trans R.same) h
  have w := walk_list (K := K) (a := a) (xs := xs)
  have hl := d.length
  refine ⟨fun hi => w.goes i H (by omega) q, fun hi => by subst hi; rw [← hl]; exact w.stops H q, fun e he x H' y => ?_⟩
  have hi : i < xs.length := by rw [hl]; exact (List.getElem?_eq_some_iff.mp he).1
  obtain ⟨rfl, ex⟩ := w.yields i H x H' hi q y
  obtain ⟨e', he', dv⟩ := d.getV ex
  rw [he] at he'; cases he'
  exact ⟨M1, Same.refl _, R, dv.mono s1⟩
theorem yld_tup {K : PySem.W.Frag} {M : Hp} {a : Addr} {xs : List V} {ds : List D} (h : SqT K M a xs) (d : Dvs K M xs ds) : Yld K M [] (Itt K a) ds := fun i M1 H os vs s1 R _ => by
  have q := sqT_same (s1.trans R.same) h
  have w := walk_tup (K := K) (a := a) (xs := xs)
  have hl := d.length
  refine ⟨fun hi => w.goes i H (by omega) q, fun hi => by subst hi; rw [← hl]; exact w.stops H q, fun e he x H' y => ?_⟩
  have hi : i < xs.length := by rw [hl]; exact (List.getElem?_eq_some_iff.mp he).1
  obtain ⟨rfl, ex⟩ := w.yields i H x H' hi q y
  obtain ⟨e', he', dv⟩ := d.getV ex
  rw [he] at he'; cases he'
  exact ⟨M1, Same.refl _, R, dv.mono s1⟩
/-- the signs of a text -/
def signs (z : Str) : List D := z.cps.toList.map fun c => .str ⟨#[c]⟩
theorem yld_str {K : PySem.W.Frag} {M : Hp} {z : Str} : Yld K M [] (Its z) (signs z) := fun i M1 H os vs s1 R _ => by
  have w := walk_str (z := z)
  have hl : (signs z).length = z.cps.size := by simp [signs]
  refine ⟨fun hi => w.goes i H (by omega) trivial, fun hi => by subst hi; rw [hl]; exact w.stops H trivial, fun e he x H' y => ?_⟩
  have hi : i < z.cps.size := by rw [← hl]; exact (List.getElem?_eq_some_iff.mp he).1
  obtain ⟨rfl, c, ec, ex⟩ := w.yields i H x H' hi trivial y
  have : e = .str ⟨#[c]⟩ := by
    unfold signs at he
    rw [List.getElem?_map, Array.getElem?_toList, ec] at he
    exact (Option.some.inj he).symm
  subst this; subst ex
  exact ⟨M1, Same.refl _, R, .str _⟩
def rangeD (lo : Int) (n : Nat) : List D := (List.range n).map fun i : Nat => .int (lo + (i : Int))
theorem yld_range {K : PySem.W.Frag} {M : Hp} {lo : Int} {n : Nat} : Yld K M [] (Itr lo n) (rangeD lo n) := fun i M1 H os vs s1 R _ => by
  have w := walk_range (lo := lo) (n := n)
  have hl : (rangeD lo n).length = n := by simp [rangeD]
  refine ⟨fun hi => w.goes i H (by omega) trivial, fun hi => by subst hi; rw [hl]; exact w.stops H trivial, fun e he x H' y => ?_⟩
  have hi : i < n := by rw [← hl]; exact (List.getElem?_eq_some_iff.mp he).1
  obtain ⟨rfl, ex⟩ := w.yields i H x H' hi trivial y
  have : e = .int (lo + (i : Int)) := by
    unfold rangeD at he
    rw [List.getElem?_map, List.getElem?_range hi] at he
    exact (Option.some.inj he).symm
  subst this; subst ex
  exact ⟨M1, Same.refl _, R, .int _⟩
theorem yld_enum {K : PySem.W.Frag} {M : Hp} {a : Addr} {xs : List V} {ds : List D} (h : SqX K M a xs) (d : Dvs K M xs ds) : Yld K M [] (Ite K a) (ds.zipIdx.map fun p => .tup [.int (p.2 : Nat), p.1]) := fun i M1 H os vs s1 R _ => by
  have q := seqX (s1.trans R.same) h
  have w := walk_enum (K := K) (a := a) (xs := xs)
  have hl := d.length
  have hl2 : (ds.zipIdx.map fun p => D.tup [.int (p.2 : Nat), p.1]).length = ds.length := by simp
  refine ⟨fun hi => w.goes i H (by omega) q, fun hi => by subst hi; rw [hl2, ← hl]; exact w.stops H q, fun e he x H' y => ?_⟩
  have hi : i < xs.length := by rw [hl, ← hl2]; exact (List.getElem?_eq_some_iff.mp he).1
  obtain ⟨T, x1, x2, ex, hT, rfl, e1, e2⟩ := w.yields i H x H' hi q y
  obtain ⟨e', he', dv⟩ := d.getV e2
  cases e1
  have : e = .tup [.int (i : Nat), e'] := by
    rw [List.getElem?_map, List.getElem?_zipIdx, he'] at he
    simpa using (Option.some.inj he).symm
  subst this; subst ex
  have mT := R.same.free hT
  have s2 := same_updM (u := .tup [.int (i : Nat), x2]) mT
  exact ⟨_, s2, R.growM hT, .tup (.inl (.inl upd_same)) (.cons (.int _) (.cons (dv.mono (s1.trans s2)) .nil))⟩

section
variable {X : Cx} {W : WX} {J : List Nat} {pos : Pos} {tg e : Expr} {f : Ev → Option D}
def seqD : D → Option (List D)
  | .lst ds => some ds
  | .tup ds => some ds
  | .str z => some (signs z)
  | _ => none
def iOf (f : Ev → Option D) (ρ : Ev) : Option (List D) := (f ρ).bind seqD
theorem iSeq (h : PE X e (tP X.K f)) : PI X tg e (tI X.K [] (iOf f)) := PI.imp (PI.or (PI.or (pi_list h) (pi_tup h)) (pi_str h)) fun σ H R ⟨M, ρ, fo, fv, ds, R0, l, e, k⟩ => by
  unfold iOf at e
  cases q : f ρ with
  | none => rw [q] at e; cases e
  | some d =>
    rw [q, Option.bind_some] at e
    cases d with
    | lst es =>
      cases e
      exact .inl (.inl ⟨M, ρ, fo, fv, _, R0, l, q, fun M1 H1 v s1 R1 d1 => by
        cases d1 with
        | lst hs hd => exact ⟨_, rfl, ⟨_, seqX R1.same hs⟩, k M1 H1 _ s1 R1 (yld_list hs hd)⟩⟩)
    | tup es =>
      cases e
      exact .inl (.inr ⟨M, ρ, fo, fv, _, R0, l, q, fun M1 H1 v s1 R1 d1 => by
        cases d1 with
        | tup hs hd => exact ⟨_, rfl, ⟨_, sqT_same R1.same hs⟩, k M1 H1 _ s1 R1 (yld_tup hs hd)⟩⟩)
    | str z =>
      cases e
      exact .inr ⟨M, ρ, fo, fv, _, R0, l, q, fun M1 H1 v s1 R1 d1 => by cases d1; exact ⟨z, rfl, k M1 H1 _ s1 R1 yld_str⟩⟩
    | _ => cases e
def rng1 (f : Ev → Option D) (ρ : Ev) : Option (List D) := match f ρ with
  | some (.int n) => if n < 2 ^ 62 ∧ -(2 ^ 62) ≤ n then some (rangeD 0 n.toNat) else none
  | _ => none
def rng2 (f g : Ev → Option D) (ρ : Ev) : Option (List D) := match f ρ, g ρ with
  | some (.int m), some (.int n) => if (n < 2 ^ 62 ∧ -(2 ^ 62) ≤ n) ∧ m < 2 ^ 62 ∧ -(2 ^ 62) ≤ m then some (rangeD m (n - m).toNat) else none
  | _, _ => none
theorem iRange1 {p : Pos} (h : PE X e (tP X.K f)) (hm : X.mg "range" = none) (hg : Gl X "range" := by rfl) (hs : starEach [e] X.env = [(false, eval e X.env)] := by rfl) (hs2 : starEach [e] X.env = (false, eval e X.env) :: starEach [] X.env := by rfl) : PI X tg (.Call (.Name "range" p) [e] [] pos) (tI X.K [] (rng1 f)) :=
  PI.imp (pi_range1 hg hm (pa_cons h pa_nil hs2) hs) fun σ H R ⟨M, ρ, fo, fv, ds, R0, l, e, k⟩ => by
    unfold rng1 at e
    split at e
    · rename_i n q
      split at e
      · rename_i hn
        cases e
        exact ⟨M, ρ, fo, fv, _, R0, l, q, fun M1 H1 v s1 R1 d1 => by cases d1; exact ⟨n, rfl, hn.2, hn.1, k M1 H1 _ s1 R1 yld_range⟩⟩
      · cases e
    · cases e
theorem iRange2 {p : Pos} {e2 : Expr} {f2 : Ev → Option D} (h : PE X e (tP X.K f)) (h2 : PE X e2 (tP X.K f2)) (hm : X.mg "range" = none) (hg : Gl X "range" := by rfl) (hs : starEach [e, e2] X.env = [(false, eval e X.env), (false, eval e2 X.env)] := by rfl) (hs2 : starEach [e2] X.env = [(false, eval e2 X.env)] := by rfl)
    (hs3 : starEach [e, e2] X.env = (false, eval e X.env) :: starEach [e2] X.env := by rfl) (hs4 : starEach [e2] X.env = (false, eval e2 X.env) :: starEach [] X.env := by rfl) : PI X tg (.Call (.Name "range" p) [e, e2] [] pos) (tI X.K [] (rng2 f f2)) :=
  PI.imp (pi_range2 hg hm (pa_cons h (pa_cons h2 pa_nil hs4) hs3) hs hs2) fun σ H R ⟨M, ρ, fo, fv, ds, R0, l, e, k⟩ => by
    unfold rng2 at e
    split at e
    · rename_i m n q q2
      split at e
      · rename_i hn
        cases e
        exact ⟨M, ρ, fo, fv, _, R0, l, q, fun M1 H1 v s1 R1 d1 => by
          cases d1
          exact ⟨M1, ρ, fo, fv, _, R1, l, q2, fun M2 H2 v2 s2 R2 d2 => by cases d2; exact ⟨m, n, rfl, ⟨hn.2.2, hn.2.1, hn.1.2, hn.1.1⟩, k M2 H2 _ (s1.trans s2) R2 yld_range⟩⟩⟩
      · cases e
    · cases e
def enuD (f : Ev → Option D) (ρ : Ev) : Option (List D) := match f ρ with
  | some (.lst ds) => some (ds.zipIdx.map fun p => .tup [.int (p.2 : Nat), p.1])
  | _ => none
theorem iEnum {p tpos : Pos} {elts : List Expr} {kk : Nat} (h : PE X e (tP X.K f)) (hm : X.mg "enumerate" = none) (hg : Gl X "enumerate" := by rfl) (hs : starEach [e] X.env = [(false, eval e X.env)] := by rfl) (hs2 : starEach [e] X.env = (false, eval e X.env) :: starEach [] X.env := by rfl) :
    PI X (.Tuple elts kk tpos) (.Call (.Name "enumerate" p) [e] [] pos) (tI X.K [] (enuD f)) :=
  PI.imp (pi_enum hg hm (pa_cons h pa_nil hs2) hs) fun σ H R ⟨M, ρ, fo, fv, ds, R0, l, e, k⟩ => by
    unfold enuD at e
    split at e
    · rename_i es q
      cases e
      exact ⟨M, ρ, fo, fv, _, R0, l, q, fun M1 H1 v s1 R1 d1 => by
        cases d1 with
        | lst hs hd => exact ⟨_, _, rfl, seqX R1.same hs, k M1 H1 _ s1 R1 (yld_enum hs hd)⟩⟩
    · cases e

/-! ### targets -/
def tG (K : PySem.W.Frag) (is : List Nat) (g : D → Ev → Option Ev) : TG := fun v σ H Q => ∃ M ρ fo fv d ρ', Rep K M H (ρ ++ fo) (σ ++ fv) ∧ σ.length = ρ.length ∧ Dv K M v d ∧ g d ρ = some ρ' ∧
  ∀ σ', (∀ j, j ∉ is → σ'[j]? = σ[j]?) → σ'.length = σ.length → ρ'.length = ρ.length → Rep K M H (ρ' ++ fo) (σ' ++ fv) → Q σ' H
def tGs (K : PySem.W.Frag) (is : List Nat) (g : List D → Ev → Option Ev) : TGs := fun vs σ H Q => ∃ M ρ fo fv ds ρ', Rep K M H (ρ ++ fo) (σ ++ fv) ∧ σ.length = ρ.length ∧ Dvs K M vs ds ∧ g ds ρ = some ρ' ∧
  ∀ σ', (∀ j, j ∉ is → σ'[j]? = σ[j]?) → σ'.length = σ.length → ρ'.length = ρ.length → Rep K M H (ρ' ++ fo) (σ' ++ fv) → Q σ' H
def gN (i : Nat) (d : D) (ρ : Ev) : Option Ev := some (ρ.set i (.dat d))
def gsN (ds : List D) (ρ : Ev) : Option Ev := match ds with
  | [] => some ρ
  | _ => none
def gsC (g : D → Ev → Option Ev) (h : List D → Ev → Option Ev) (ds : List D) (ρ : Ev) : Option Ev := match ds with
  | d :: r => (g d ρ).bind (h r)
  | [] => none
def gT (n : Nat) (h : List D → Ev → Option Ev) (d : D) (ρ : Ev) : Option Ev := match d with
  | .tup ds => if ds.length = n then h ds ρ else none
  | _ => none
theorem PG.imp {t t' : TG} (h : PG X tg t) (i : ∀ v σ H Q, t' v σ H Q → t v σ H Q) : PG X tg t' := ⟨fun p s σ H v u Q I r w => h.run p s σ H v u Q I r (i v σ H Q w)⟩
theorem PGs.imp {ts : List Expr} {t t' : TGs} (h : PGs X ts t) (i : ∀ v σ H Q, t' v σ H Q → t v σ H Q) : PGs X ts t' := ⟨fun p s σ H v u Q I r w => h.run p s σ H v u Q I r (i v σ H Q w)⟩
theorem gName' {i : Nat} {x : Str} (hN : X.N.Nodup) (hi : X.N[i]? = some x := by rfl) (hx : Loc X.env.scope x := by first | exact Or.inl rfl | exact Or.inr rfl) (hf : X.fn x = true ∨ X.env.scope.names.lookup x = some .local := by first | exact .inl rfl | exact .inr rfl) : PG X (.Name x pos) (tG X.K [i] (gN i)) :=
  PG.imp (pg_name hN hi hx hf) fun v σ H Q ⟨M, ρ, fo, fv, d, ρ', R, l, dv, e, k⟩ => by
    cases e
    exact k _ (fun j hj => by rw [List.getElem?_set_ne (by simpa using Ne.symm (by simpa using hj))]) (by simp) (by simp) (R.setD l dv)
theorem gsNil' : PGs X [] (tGs X.K [] gsN) := PGs.imp pgs_nil fun vs σ H Q ⟨M, ρ, fo, fv, ds, ρ', R, l, dv, e, k⟩ => by
  unfold gsN at e
  split at e
  · cases e
    cases dv
    exact ⟨rfl, k σ (fun _ _ => rfl) rfl rfl R⟩
  · cases e
theorem gsCons' {es : List Expr} {is js : List Nat} {g : D → Ev → Option Ev} {h : List D → Ev → Option Ev} (h1 : PG X e (tG X.K is g)) (h2 : PGs X es (tGs X.K js h))
    (hs : (assignEach (e :: es) X.env).map (·.2) = assign e X.env :: (assignEach es X.env).map (·.2) := by rfl) : PGs X (e :: es) (tGs X.K (is ++ js) (gsC g h)) := by
  refine PGs.imp (pgs_cons h1 h2 hs) fun vs σ H Q ⟨M, ρ, fo, fv, ds, ρ', R, l, dv, e, k⟩ => ?_
  unfold gsC at e
  split at e
  · rename_i d r
    cases dv with
    | cons d1 d2 =>
      cases q : g d ρ with
      | none => rw [q] at e; cases e
      | some ρ1 =>
        rw [q, Option.bind_some] at e
        refine ⟨_, _, rfl, M, ρ, fo, fv, d, ρ1, R, l, d1, q, fun σ1 a1 l1 r1 R1 => ?_⟩
        exact ⟨M, ρ1, fo, fv, r, ρ', R1, by omega, d2, e, fun σ2 a2 l2 r2 R2 => k σ2 (fun j hj => by rw [a2 j (fun z => hj (List.mem_append_right _ z)), a1 j (fun z => hj (List.mem_append_left _ z))]) (by omega) (by omega) R2⟩
  · cases e
theorem gTup' {es : List Expr} {k n : Nat} {is : List Nat} {h : List D → Ev → Option Ev} (hc : X.calm = true) (h1 : PGs X es (tGs X.K is h)) (hn : (assignEach es X.env).length = n := by rfl) (hst : (assignEach es X.env).findIdx? (·.1) = none := by rfl) : PG X (.Tuple es k pos) (tG X.K is (gT n h)) :=
  PG.imp (pg_tup hc h1 hn hst) fun v σ H Q ⟨M, ρ, fo, fv, d, ρ', R, l, dv, e, k⟩ => by
    unfold gT at e
    split at e
    · rename_i ds
      split at e
      · rename_i hl
        cases dv with
        | tup hs hd => exact ⟨_, _, rfl, sqT_same R.same hs, by rw [hd.length]; exact hl, M, ρ, fo, fv, ds, ρ', R, l, hd, e, k⟩
      · cases e
    · cases e
/-- what a target changes -/
structure TgOk (is : List Nat) (g : D → Ev → Option Ev) : Prop where
  len : ∀ d ρ ρ', g d ρ = some ρ' → ρ'.length = ρ.length
  out : ∀ d ρ ρ', g d ρ = some ρ' → ∀ j, j ∉ is → ρ'[j]? = ρ[j]?
structure TgsOk (is : List Nat) (g : List D → Ev → Option Ev) : Prop where
  len : ∀ d ρ ρ', g d ρ = some ρ' → ρ'.length = ρ.length
  out : ∀ d ρ ρ', g d ρ = some ρ' → ∀ j, j ∉ is → ρ'[j]? = ρ[j]?
theorem gN_ok (i : Nat) : TgOk [i] (gN i) := ⟨fun d ρ ρ' e => by cases e; simp, fun d ρ ρ' e j hj => by cases e; rw [List.getElem?_set_ne (by simpa using Ne.symm (by simpa using hj))]⟩
theorem gsN_ok : TgsOk [] gsN := ⟨fun d ρ ρ' e => by unfold gsN at e; split at e <;> cases e; rfl, fun d ρ ρ' e j hj => by unfold gsN at e; split at e <;> cases e; rfl⟩
theorem gsC_ok {is js : List Nat} {g : D → Ev → Option Ev} {h : List D → Ev → Option Ev} (h1 : TgOk is g) (h2 : TgsOk js h) : TgsOk (is ++ js) (gsC g h) := by
  have key : ∀ d ρ ρ', gsC g h d ρ = some ρ' → ∃ d' r ρ1, g d' ρ = some ρ1 ∧ h r ρ1 = some ρ' := fun d ρ ρ' e => by
    unfold gsC at e
    split at e
    · rename_i d' r
      cases q : g d' ρ with
      | none => rw [q] at e; cases e
      | some ρ1 => rw [q, Option.bind_some] at e; exact ⟨d', r, ρ1, q, e⟩
    · cases e
  refine ⟨fun d ρ ρ' e => ?_, fun d ρ ρ' e j hj => ?_⟩
  · obtain ⟨d', r, ρ1, e1, e2⟩ := key d ρ ρ' e
    rw [h2.len _ _ _ e2, h1.len _ _ _ e1]
  · obtain ⟨d', r, ρ1, e1, e2⟩ := key d ρ ρ' e
    rw [h2.out _ _ _ e2 j (fun z => hj (List.mem_append_right _ z)), h1.out _ _ _ e1 j (fun z => hj (List.mem_append_left _ z))]
theorem gT_ok {is : List Nat} {n : Nat} {h : List D → Ev → Option Ev} (h1 : TgsOk is h) : TgOk is (gT n h) := by
  have key : ∀ d ρ ρ', gT n h d ρ = some ρ' → ∃ r, h r ρ = some ρ' := fun d ρ ρ' e => by
    unfold gT at e
    split at e
    · split at e
      · exact ⟨_, e⟩
      · cases e
    · cases e
  exact ⟨fun d ρ ρ' e => let ⟨r, e1⟩ := key d ρ ρ' e; h1.len _ _ _ e1, fun d ρ ρ' e j hj => let ⟨r, e1⟩ := key d ρ ρ' e; h1.out _ _ _ e1 j hj⟩
/-- a, b = e -/
def asg (f : Ev → Option D) (g : D → Ev → Option Ev) (ρ : Ev) : Option Fl := (f ρ).bind fun d => (g d ρ).map .nx
theorem sAsg {is : List Nat} {g : D → Ev → Option Ev} (he : PE X e (tP X.K f)) (hg : PG X tg (tG X.K is g)) (hJ : ∀ i ∈ is, i ∉ J := by decide) (hs : swapsWithSole [tg] e pos.line X.env = pure false := by rfl) (hw : swappedStores [tg] e X.env = pure none := by rfl) (h1 : (assignEach [tg] X.env).map (·.2) = [assign tg X.env] := by rfl) : PS X (.Assign [tg] e pos) (tS X.K W J (asg f g)) :=
  PS.imp (ps_asg he hg hs hw h1) fun E σ H ⟨M, ρ, fo, fv, r, σ0, R, l, e, k⟩ => by
    unfold asg at e
    cases q : f ρ with
    | none => rw [q] at e; cases e
    | some d =>
      rw [q, Option.bind_some] at e
      cases q2 : g d ρ with
      | none => rw [q2] at e; cases e
      | some ρ1 =>
        rw [q2] at e
        cases e
        exact ⟨M, ρ, fo, fv, d, R, l.1, q, fun M1 H1 v s1 R1 d1 => ⟨M1, ρ, fo, fv, d, ρ1, R1, l.1, d1, q2, fun σ1 a1 l1 r1 R2 => k M1 H1 σ1 s1 R2 (l.to l1 r1 a1 hJ)⟩⟩

/-! ### for -/
def loop (g : D → Ev → Option Ev) (body : Ev → Option Fl) : List D → Ev → Option Fl
  | [], ρ => some (.nx ρ)
  | d :: ds, ρ => (g d ρ).bind fun ρ1 => (body ρ1).bind fun r => match r with
    | .nx ρ' => loop g body ds ρ'
    | .ct ρ' => loop g body ds ρ'
    | .bk ρ' => some (.nx ρ')
    | r => some r
def forS (f : Ev → Option (List D)) (g : D → Ev → Option Ev) (body : Ev → Option Fl) (ρ : Ev) : Option Fl := (f ρ).bind fun ds => loop g body ds ρ
theorem sFor {iter : Expr} {body : List Stmt} {fi : Ev → Option (List D)} {is : List Nat} {g : D → Ev → Option Ev} {b : Ev → Option Fl} (hp : PassesOwn (model X.prog X.w) X.A X.env X.xe) (hc : X.calm = true) (hi : PI X tg iter (tI X.K [] fi)) (hg : PG X tg (tG X.K is g)) (hb : PSs X body (tS X.K W J b)) (hJ : ∀ i ∈ is, i ∉ J := by decide)
    (hs : ∀ x, foldedSetIterable iter X.env x = pure x := by intro _; rfl) : PS X (.For tg iter body [] pos) (tS X.K W J (forS fi g b)) := PS.imp (ps_for hp hc hi hg hb hs) fun E σ H ⟨M, ρ, fo, fv, r, σ0, R, l, e, k⟩ => by
  unfold forS at e
  cases q : fi ρ with
  | none => rw [q] at e; cases e
  | some ds =>
    rw [q, Option.bind_some] at e
    refine ⟨M, ρ, fo, fv, ds, R, l.1, q, fun M0 H0 JJ s0 R0 y => ?_⟩
    refine ⟨fun i m σ H => m = ds.length - i ∧ i ≤ ds.length ∧ ∃ M1 ρ1, Same M0 M1 ∧ Rep X.K M1 H (ρ1 ++ fo) (σ ++ fv) ∧ Lk J σ0 σ ρ1 ∧ loop g b (ds.drop i) ρ1 = some r, ⟨ds.length, by omega, Nat.zero_le _, M0, ρ, Same.refl _, R0, l, by simpa using e⟩, ?_⟩
    rintro i m σ H ⟨rfl, hi, M1, ρ1, s1, R1, l1, e1⟩
    obtain ⟨go, stop, yl⟩ := y i M1 H _ _ s1 R1 (fun r hr => nomatch hr)
    by_cases hlt : i < ds.length
    · have ed : ds.drop i = ds[i] :: ds.drop (i + 1) := List.drop_eq_getElem_cons hlt
      rw [ed] at e1
      unfold loop at e1
      cases q1 : g ds[i] ρ1 with
      | none => rw [q1] at e1; cases e1
      | some ρ2 =>
        rw [q1, Option.bind_some] at e1
        cases q2 : b ρ2 with
        | none => rw [q2] at e1; cases e1
        | some r2 =>
          rw [q2, Option.bind_some] at e1
          refine .inr ⟨go hlt, fun σ' H' => ∃ M1 ρ1, Same M0 M1 ∧ Rep X.K M1 H' (ρ1 ++ fo) (σ' ++ fv) ∧ Lk J σ0 σ' ρ1 ∧ loop g b (ds.drop (i + 1)) ρ1 = some r, fun σ' H' h => ⟨ds.length - (i + 1), by omega, rfl, hlt, h⟩, fun x H' hy => ?_⟩
          obtain ⟨M2, s2, R2, d2⟩ := yl ds[i] (List.getElem?_eq_getElem hlt) x H' hy
          refine ⟨M2, ρ1, fo, fv, ds[i], ρ2, R2, l1.1, d2, q1, fun σ3 a3 l3 r3 R3 => ?_⟩
          have s02 : Same M M2 := s0.trans (s1.trans s2)
          refine ⟨M2, ρ2, fo, fv, r2, σ0, R3, l1.to l3 r3 a3 hJ, q2, ?_⟩
          cases r2 with
          | nx ρ4 => exact fun M4 H4 σ4 s4 R4 l4 => ⟨M4, ρ4, s1.trans (s2.trans s4), R4, l4, e1⟩
          | ct ρ4 => exact fun M4 H4 σ4 s4 R4 l4 => ⟨M4, ρ4, s1.trans (s2.trans s4), R4, l4, e1⟩
          | bk ρ4 => cases e1; exact fun M4 H4 σ4 s4 R4 l4 => k M4 H4 σ4 (s02.trans s4) R4 l4
          | rt o ρ4 => cases e1; exact fun M4 H4 σ4 v s4 R4 l4 => k M4 H4 σ4 v (s02.trans s4) R4 l4
          | ex x ρ4 => cases e1; exact fun M4 H4 σ4 cls d s4 R4 l4 => k M4 H4 σ4 cls d (s02.trans s4) R4 l4
    · have ei : i = ds.length := by omega
      rw [ei, List.drop_length] at e1
      cases e1
      exact .inl ⟨stop ei, k M1 H σ (s0.trans s1) R1 l1⟩

/-! ### while -/
def wl (c : Ev → Option Bool) (b : Ev → Option Fl) : Nat → Ev → Option Fl
  | 0, _ => none
  | n + 1, ρ => (c ρ).bind fun t => if t = true then (b ρ).bind fun r => (match r with
    | .nx ρ' => wl c b n ρ'
    | .ct ρ' => wl c b n ρ'
    | .bk ρ' => some (.nx ρ')
    | r => some r) else some (.nx ρ)
open Classical in
noncomputable def whileS (c : Ev → Option Bool) (b : Ev → Option Fl) (ρ : Ev) : Option Fl := if h : ∃ n r, wl c b n ρ = some r then some h.choose_spec.choose else none
theorem wl_more {c : Ev → Option Bool} {b : Ev → Option Fl} : ∀ {n : Nat} {ρ : Ev} {r : Fl}, wl c b n ρ = some r → ∀ m, wl c b (n + m) ρ = some r
  | 0, _, _, h, _ => by cases h
  | n + 1, ρ, r, h, m => by
    rw [show n + 1 + m = (n + m) + 1 by omega]
    unfold wl at h ⊢
    cases q : c ρ with
    | none => rw [q] at h; cases h
    | some t =>
      simp only [q, Option.bind_some] at h ⊢
      cases t with
      | false => exact h
      | true =>
        rw [if_pos rfl] at h ⊢
        cases q2 : b ρ with
        | none => rw [q2] at h; cases h
        | some r2 =>
          simp only [q2, Option.bind_some] at h ⊢
          cases r2 with
          | nx ρ' => exact wl_more (n := n) h m
          | ct ρ' => exact wl_more (n := n) h m
          | bk ρ' => exact h
          | rt o ρ' => exact h
          | ex x ρ' => exact h
theorem whileS_of {c : Ev → Option Bool} {b : Ev → Option Fl} {n : Nat} {ρ : Ev} {r : Fl} (h : wl c b n ρ = some r) : whileS c b ρ = some r := by
  unfold whileS
  have hx : ∃ n r, wl c b n ρ = some r := ⟨n, r, h⟩
  rw [dif_pos hx]
  have h2 := hx.choose_spec.choose_spec
  have a := wl_more h hx.choose
  have b := wl_more h2 n
  rw [Nat.add_comm, b] at a
  exact a
theorem whileS_some {c : Ev → Option Bool} {b : Ev → Option Fl} {ρ : Ev} {r : Fl} (h : whileS c b ρ = some r) : ∃ n, wl c b n ρ = some r := by
  unfold whileS at h
  split at h
  · rename_i hx
    have h2 := hx.choose_spec.choose_spec
    refine ⟨hx.choose, ?_⟩
    rw [h2]
    exact h
  · cases h
theorem sWhile {c : Expr} {body : List Stmt} {fc : Ev → Option Bool} {b : Ev → Option Fl} (hp : PassesOwn (model X.prog X.w) X.A X.env X.xe) (hc : PT X c (tT X.K fc)) (hb : PSs X body (tS X.K W J b)) : PS X (.While c body [] pos) (tS X.K W J (whileS fc b)) := PS.imp (ps_while hp hc hb) fun E σ H ⟨M, ρ, fo, fv, r, σ0, R, l, e, k⟩ => by
  obtain ⟨n, e⟩ := whileS_some e
  refine ⟨fun m σ H => ∃ M1 ρ1, Same M M1 ∧ Rep X.K M1 H (ρ1 ++ fo) (σ ++ fv) ∧ Lk J σ0 σ ρ1 ∧ wl fc b m ρ1 = some r, ⟨n, M, ρ, Same.refl _, R, l, e⟩, ?_⟩
  rintro m σ H ⟨M1, ρ1, s1, R1, l1, e1⟩
  cases m with
  | zero => cases e1
  | succ m =>
    unfold wl at e1
    cases q : fc ρ1 with
    | none => rw [q] at e1; cases e1
    | some t =>
      rw [q, Option.bind_some] at e1
      refine ⟨M1, ρ1, fo, fv, t, R1, l1.1, q, fun M2 H2 s2 R2 => ?_⟩
      cases t with
      | false => cases e1; exact iteF (k M2 H2 σ (s1.trans s2) R2 l1)
      | true =>
        rw [if_pos rfl] at e1
        cases q2 : b ρ1 with
        | none => rw [q2] at e1; cases e1
        | some r2 =>
          rw [q2, Option.bind_some] at e1
          refine iteT ⟨fun σ' H' => ∃ M3 ρ3, Same M M3 ∧ Rep X.K M3 H' (ρ3 ++ fo) (σ' ++ fv) ∧ Lk J σ0 σ' ρ3 ∧ wl fc b m ρ3 = some r, fun σ' H' h => ⟨m, Nat.lt_succ_self _, h⟩, M2, ρ1, fo, fv, r2, σ0, R2, l1, q2, ?_⟩
          have s12 := s1.trans s2
          cases r2 with
          | nx ρ4 => exact fun M4 H4 σ4 s4 R4 l4 => ⟨M4, ρ4, s12.trans s4, R4, l4, e1⟩
          | ct ρ4 => exact fun M4 H4 σ4 s4 R4 l4 => ⟨M4, ρ4, s12.trans s4, R4, l4, e1⟩
          | bk ρ4 => cases e1; exact fun M4 H4 σ4 s4 R4 l4 => k M4 H4 σ4 (s12.trans s4) R4 l4
          | rt o ρ4 => cases e1; exact fun M4 H4 σ4 v s4 R4 l4 => k M4 H4 σ4 v (s12.trans s4) R4 l4
          | ex x ρ4 => cases e1; exact fun M4 H4 σ4 cls d s4 R4 l4 => k M4 H4 σ4 cls d (s12.trans s4) R4 l4
end
end PD

namespace PD
open PySem PySem.Spec L2

/-! ### a comprehension's block -/
def wipeO (ρ : Ev) : List Nat → Ev
  | [] => ρ
  | v :: vs => (wipeO ρ vs).set v .unk
theorem wipeO_length (ρ : Ev) : ∀ vs : List Nat, (wipeO ρ vs).length = ρ.length
  | [] => rfl
  | v :: vs => by unfold wipeO; rw [List.length_set, wipeO_length ρ vs]
theorem wipeO_out {ρ : Ev} {i : Nat} : ∀ {vs : List Nat}, i ∉ vs → (wipeO ρ vs)[i]? = ρ[i]?
  | [], _ => rfl
  | v :: vs, h => by
    unfold wipeO
    rw [List.getElem?_set_ne (show v ≠ i from fun z => h (by rw [z]; exact List.mem_cons_self)), wipeO_out fun z => h (List.mem_cons_of_mem _ z)]
theorem wipeO_in {ρ : Ev} {i : Nat} (hi : i < ρ.length) : ∀ {vs : List Nat}, i ∈ vs → (wipeO ρ vs)[i]? = some .unk
  | v :: vs, h => by
    unfold wipeO
    by_cases e : v = i
    · subst e; rw [List.getElem?_set_self (by rw [wipeO_length]; exact hi)]
    · rw [List.getElem?_set_ne e]
      rcases List.mem_cons.mp h with h | h
      · exact absurd h.symm e
      · exact wipeO_in hi h
theorem wipe_in {σ : L2.St} {i : Nat} (hi : i < σ.length) : ∀ {vs : List Nat}, i ∈ vs → (wipe σ vs)[i]? = some none
  | v :: vs, h => by
    unfold wipe
    by_cases e : v = i
    · subst e; rw [List.getElem?_set_self (by rw [wipe_length]; exact hi)]
    · rw [List.getElem?_set_ne e]
      rcases List.mem_cons.mp h with h | h
      · exact absurd h.symm e
      · exact wipe_in hi h
theorem wipeO_ext {ρ ρ' : Ev} {vs : List Nat} (l : ρ'.length = ρ.length) (h : ∀ j, j ∉ vs → ρ'[j]? = ρ[j]?) : wipeO ρ' vs = wipeO ρ vs := by
  apply List.ext_getElem?
  intro j
  by_cases hj : j ∈ vs
  · by_cases hl : j < ρ.length
    · rw [wipeO_in hl hj, wipeO_in (l ▸ hl) hj]
    · rw [List.getElem?_eq_none (by rw [wipeO_length]; omega), List.getElem?_eq_none (by rw [wipeO_length]; omega)]
  · rw [wipeO_out hj, wipeO_out hj, h j hj]
theorem wipe_ext {ρ ρ' : L2.St} {vs : List Nat} (l : ρ'.length = ρ.length) (h : ∀ j, j ∉ vs → ρ'[j]? = ρ[j]?) : wipe ρ' vs = wipe ρ vs := by
  apply List.ext_getElem?
  intro j
  by_cases hj : j ∈ vs
  · by_cases hl : j < ρ.length
    · rw [wipe_in hl hj, wipe_in (l ▸ hl) hj]
    · rw [List.getElem?_eq_none (by rw [wipe_length]; omega), List.getElem?_eq_none (by rw [wipe_length]; omega)]
  · rw [wipe_out hj, wipe_out hj, h j hj]
def okW (ρ : Ev) (vs : List Nat) : Bool := vs.all fun v => match ρ[v]? with
  | some (.dat _) => true
  | some .unk => true
  | none => true
  | _ => false
section
variable {K : PySem.W.Frag} {M M' H H' : Hp}
theorem Rep.wipe {ρ fo : List O} {σ fv : List (Option V)} (R : Rep K M H (ρ ++ fo) (σ ++ fv)) (l : σ.length = ρ.length) : ∀ vs : List Nat, Rep K M H (wipeO ρ vs ++ fo) (L2.wipe σ vs ++ fv)
  | [] => R
  | v :: vs => (Rep.wipe R l vs).setU (by rw [wipe_length, wipeO_length]; exact l) none
theorem Ows.restore : ∀ {ρ ρ' : List O} {σ σ' : List (Option V)} {f : List Addr}, Ows K M H ρ' σ' f → ρ'.length = ρ.length → σ.length = ρ.length →
    (∀ j : Nat, (ρ'[j]? = ρ[j]? ∧ σ'[j]? = σ[j]?) ∨ (∃ d x, ρ[j]? = some (.dat d) ∧ σ[j]? = some (some x) ∧ Dv K M x d) ∨ ρ[j]? = some .unk) → ∃ f', f'.Sublist f ∧ Ows K M H ρ σ f'
  | [], _, [], _, _, .nil, _, _, _ => ⟨[], List.Sublist.refl _, .nil⟩
  | o :: ρ, _, v :: σ, _, _, .cons (o := o') (v := v') (f1 := f1) (f2 := f2) h hs, e, e2, k => by
    obtain ⟨f', sb, w⟩ := Ows.restore hs (ρ := ρ) (σ := σ) (by simpa using e) (by simpa using e2) (fun j => by have := k (j + 1); simpa using this)
    rcases k 0 with ⟨a, b⟩ | ⟨d, x, a, b, dv⟩ | a
    · have a : o' = o := by simpa using a
      have b : v' = v := by simpa using b
      subst a; subst b
      exact ⟨f1 ++ f', List.Sublist.append (List.Sublist.refl _) sb, .cons h w⟩
    · have a : o = .dat d := by simpa using a
      have b : v = some x := by simpa using b
      subst a; subst b
      exact ⟨[] ++ f', sb.trans (List.sublist_append_right _ _), .cons (.dat dv) w⟩
    · have a : o = .unk := by simpa using a
      subst a
      exact ⟨[] ++ f', sb.trans (List.sublist_append_right _ _), .cons .unk w⟩
  | [], _ :: _, _, _, _, _, e, _, _ => by simp at e
  | _ :: _, [], _, _, _, _, e, _, _ => by simp at e
  | [], _, _ :: _, _, _, _, _, e, _ => by simp at e
  | _ :: _, _, [], _, _, _, _, e, _ => by simp at e
theorem Rep.unwipe {ρ fo : List O} {σ fv : List (Option V)} (R : Rep K M H (ρ ++ fo) (σ ++ fv)) (l : σ.length = ρ.length) {vs : List Nat} (ok : okW ρ vs = true) (s : Same M M') {fo' : List O} {fv' : List (Option V)}
    (R' : Rep K M' H' (wipeO ρ vs ++ fo') (L2.wipe σ vs ++ fv')) : Rep K M' H' (ρ ++ fo') (σ ++ fv') := by
  obtain ⟨sm, fp, w, nd, nm⟩ := R'
  obtain ⟨fa, fb, e1, w1, w2⟩ := w.split (by rw [wipe_length, wipeO_length]; exact l)
  obtain ⟨f', sb, w3⟩ := w1.restore (ρ := ρ) (σ := σ) (wipeO_length _ _) l fun j => by
    by_cases hj : j ∈ vs
    · unfold okW at ok
      rw [List.all_eq_true] at ok
      have := ok j hj
      cases q : ρ[j]? with
      | none =>
        left
        have hl := List.getElem?_eq_none_iff.mp q
        exact ⟨List.getElem?_eq_none (by rw [wipeO_length]; exact hl), by rw [List.getElem?_eq_none (by rw [wipe_length]; omega), List.getElem?_eq_none (by omega)]⟩
      | some o =>
        rw [q] at this
        cases o with
        | unk => exact .inr (.inr rfl)
        | dat d =>
          obtain ⟨x, ex, dx⟩ := R.slot l q
          exact .inr (.inl ⟨d, x, rfl, ex, dx.mono s⟩)
        | lst _ => cases this
        | tup _ => cases this
        | dic _ _ => cases this
        | obj _ _ _ => cases this
        | raw _ => cases this
    · exact .inl ⟨wipeO_out hj, wipe_out hj⟩
  subst e1
  refine ⟨sm, f' ++ fb, w3.append w2, nd.sublist (List.Sublist.append sb (List.Sublist.refl _)), fun a ha => nm a ?_⟩
  rcases List.mem_append.mp ha with ha | ha
  · exact List.mem_append_left _ (sb.subset ha)
  · exact List.mem_append_right _ ha
end

def comp (g : D → Ev → Option Ev) (t : Ev → Option Bool) (f : Ev → Option D) (ρ : Ev) : List D → Option (List D)
  | [] => some []
  | d :: ds => (g d ρ).bind fun ρ1 => (t ρ1).bind fun b => if b = true then (f ρ1).bind fun y => (comp g t f ρ ds).map (y :: ·) else comp g t f ρ ds
def yes (_ : Ev) : Option Bool := some true
def lcO (fi : Ev → Option (List D)) (g : D → Ev → Option Ev) (t : Ev → Option Bool) (f : Ev → Option D) (vs : List Nat) (ρ : Ev) : Option O := if okW ρ vs = true then
  (fi ρ).bind fun ds => (comp g t f (wipeO ρ vs) ds).bind fun ys => if ys.length ≤ sizeLine then some (.lst (ys.map .dat)) else none else none
def lcD (fi : Ev → Option (List D)) (g : D → Ev → Option Ev) (t : Ev → Option Bool) (f : Ev → Option D) (vs : List Nat) (ρ : Ev) : Option D := if okW ρ vs = true then
  (fi ρ).bind fun ds => (comp g t f (wipeO ρ vs) ds).bind fun ys => if ys.length ≤ sizeLine then some (.lst ys) else none else none
theorem toDs_dat : ∀ ys : List D, O.toDs (ys.map .dat) = some ys
  | [] => rfl
  | y :: ys => by
    show (match O.toD (.dat y), O.toDs (ys.map .dat) with | some d, some ds => some (d :: ds) | _, _ => none) = _
    rw [toDs_dat ys]
    rfl
section
variable {X : Cx} {W : WX} {J : List Nat} {pos : Pos} {tg iter elt : Expr} {ifs : List Expr} {scope : Scope} {own : List (Str × Nat)} {fi : Ev → Option (List D)} {is kn : List Nat} {g : D → Ev → Option Ev} {t : Ev → Option Bool} {f : Ev → Option D}
theorem tYes_of {K : PySem.W.Frag} {σ : L2.St} {H : Hp} {Q : Bool → Hp → Prop} (h : tT K yes σ H Q) : tYes σ H Q := by
  obtain ⟨M, ρ, fo, fv, b, R, l, e, k⟩ := h
  cases e
  exact k M H (Same.refl _) R
theorem ptsNil : PTs X [] (tT X.K yes) := ⟨fun p s σ H Q I h => pts_nil.run p s σ H Q I (tYes_of h)⟩
theorem ptsOne {c : Expr} (h : PT X c (tT X.K t)) : PTs X [c] (tT X.K t) := pts_one h
theorem lc_of {K : PySem.W.Frag} {vs kn : List Nat} (ok : TgOk is g) (hv : ∀ i ∈ is, i ∈ vs) (hkn : ∀ ρ ds, fi ρ = some ds → ∀ k ∈ kn, k < ρ.length) (hkv : ∀ k ∈ kn, k ∉ vs) {σ : L2.St} {H : Hp} {Q : VK} (h : tO K (lcO fi g t f vs) σ H Q) : tLc (tI K kn fi) (tG K is g) (tT K t) (tP K f) vs σ H Q := by
  obtain ⟨M, ρ, fo, fv, o, R, l, e, k⟩ := h
  unfold lcO at e
  by_cases hw : okW ρ vs = true
  · rw [if_pos hw] at e
    cases q : fi ρ with
    | none => rw [q] at e; cases e
    | some ds =>
      rw [q, Option.bind_some] at e
      cases q2 : comp g t f (wipeO ρ vs) ds with
      | none => rw [q2] at e; cases e
      | some ys =>
        rw [q2, Option.bind_some] at e
        by_cases hz : ys.length ≤ sizeLine
        · rw [if_pos hz] at e
          cases e
          refine ⟨M, ρ, fo, fv, ds, R, l, q, fun M0 H0 J s0 R0 y DD hD => ?_⟩
          have lw : (L2.wipe σ vs).length = (wipeO ρ vs).length := by rw [wipe_length, wipeO_length]; exact l
          refine ⟨fun i m H => m = ds.length - i ∧ i ≤ ds.length ∧ ∃ M1 acc rest, Same M0 M1 ∧ Rep K M1 H (wipeO ρ vs ++ .lst (acc.map .dat) :: fo) (L2.wipe σ vs ++ some (.ref DD) :: fv) ∧ comp g t f (wipeO ρ vs) (ds.drop i) = some rest ∧ ys = acc ++ rest,
            ⟨ds.length, by omega, Nat.zero_le _, M0, [], ys, Same.refl _, (R0.newL l hD .nil).wipe l vs, by simpa using q2, rfl⟩, ?_⟩
          rintro i m H ⟨rfl, hi, M1, acc, rest, s1, R1, e1, ey⟩
          obtain ⟨go, stop, yl⟩ := y i M1 H _ _ s1 R1 (fun r hr => by
            obtain ⟨k, hk, rfl⟩ := List.mem_map.mp hr
            have h1 := hkn ρ ds q k hk
            have h2 := hkv k hk
            refine List.mem_of_getElem? (i := k) ?_
            have a1 : (wipeO ρ vs)[k]? = some (ρ.getD k .unk) := by rw [wipeO_out h2, List.getElem?_eq_getElem h1, List.getD_eq_getElem?_getD, List.getElem?_eq_getElem h1]; rfl
            have a2 : (L2.wipe σ vs)[k]? = some (σ.getD k none) := by rw [wipe_out h2, List.getElem?_eq_getElem (by omega), List.getD_eq_getElem?_getD, List.getElem?_eq_getElem (by omega)]; rfl
            rw [List.getElem?_zip_eq_some]
            exact ⟨by rw [List.getElem?_append_left (by rw [wipeO_length]; exact h1)]; exact a1, by rw [List.getElem?_append_left (by rw [wipe_length]; omega)]; exact a2⟩)
          by_cases hlt : i < ds.length
          · have ed : ds.drop i = ds[i] :: ds.drop (i + 1) := List.drop_eq_getElem_cons hlt
            rw [ed] at e1
            unfold comp at e1
            cases q3 : g ds[i] (wipeO ρ vs) with
            | none => rw [q3] at e1; cases e1
            | some ρ2 =>
              rw [q3, Option.bind_some] at e1
              cases q4 : t ρ2 with
              | none => rw [q4] at e1; cases e1
              | some b =>
                rw [q4, Option.bind_some] at e1
                refine .inr ⟨go hlt, fun H' => ∃ M1 acc rest, Same M0 M1 ∧ Rep K M1 H' (wipeO ρ vs ++ .lst (acc.map .dat) :: fo) (L2.wipe σ vs ++ some (.ref DD) :: fv) ∧ comp g t f (wipeO ρ vs) (ds.drop (i + 1)) = some rest ∧ ys = acc ++ rest,
                  fun H' h => ⟨ds.length - (i + 1), by omega, rfl, hlt, h⟩, fun x H' hy => ?_⟩
                obtain ⟨M2, s2, R2, d2⟩ := yl ds[i] (List.getElem?_eq_getElem hlt) x H' hy
                refine ⟨M2, wipeO ρ vs, .lst (acc.map .dat) :: fo, some (.ref DD) :: fv, ds[i], ρ2, R2, lw, d2, q3, fun σ3 a3 l3 r3 R3 => ?_⟩
                have ew : L2.wipe σ3 vs = L2.wipe σ vs := by
                  refine wipe_ext (by rw [l3, wipe_length]) fun j hj => ?_
                  rw [a3 j fun z => hj (hv j z), wipe_out hj]
                have er : wipeO ρ2 vs = wipeO ρ vs := by
                  refine wipeO_ext (by rw [r3, wipeO_length]) fun j hj => ?_
                  rw [ok.out _ _ _ q3 j fun z => hj (hv j z), wipeO_out hj]
                have l23 : σ3.length = ρ2.length := by omega
                refine ⟨ew, M2, ρ2, .lst (acc.map .dat) :: fo, some (.ref DD) :: fv, b, R3, l23, q4, fun M4 H4 s4 R4 => ?_⟩
                cases b with
                | false =>
                  refine iteF ⟨M4, acc, rest, s1.trans (s2.trans s4), ?_, e1, ey⟩
                  have := R4.wipe l23 vs
                  rw [ew, er] at this
                  exact this
                | true =>
                  rw [if_pos rfl] at e1
                  cases q5 : f ρ2 with
                  | none => rw [q5] at e1; cases e1
                  | some z =>
                    rw [q5, Option.bind_some] at e1
                    cases q6 : comp g t f (wipeO ρ vs) (ds.drop (i + 1)) with
                    | none => rw [q6] at e1; cases e1
                    | some rest2 =>
                      rw [q6] at e1
                      cases e1
                      refine iteT ⟨M4, ρ2, .lst (acc.map .dat) :: fo, some (.ref DD) :: fv, z, R4, l23, q5, fun M5 H5 v5 s5 R5 d5 => ?_⟩
                      have R5' : Rep K M5 H5 ((ρ2 ++ [.lst (acc.map .dat)]) ++ fo) ((σ3 ++ [some (.ref DD)]) ++ fv) := by simpa using R5
                      obtain ⟨a, xs, ea, ha, hl, up⟩ := R5'.ownL (by simp [l23]) (i := ρ2.length) (os := acc.map .dat) (by simp)
                      have : a = DD := by rw [List.getElem?_append_right (by omega)] at ea; simp [l23] at ea; exact ea.symm
                      subst this
                      refine ⟨xs, ha, by rw [hl, List.length_map]; rw [ey] at hz; simp at hz; omega, M5, acc ++ [z], rest2, s1.trans (s2.trans (s4.trans s5)), ?_, rfl, by rw [ey]; simp⟩
                      have R6 := up v5 z d5
                      rw [List.set_append_right _ _ (by omega)] at R6
                      simp only [Nat.sub_self, List.set_cons_zero, List.append_assoc, List.cons_append, List.nil_append] at R6
                      have R7 := R6.wipe l23 vs
                      rw [ew, er] at R7
                      simpa using R7
          · have ei : i = ds.length := by omega
            rw [ei, List.drop_length] at e1
            cases e1
            rw [List.append_nil] at ey
            subst ey
            exact .inl ⟨stop ei, k M1 H _ (s0.trans s1) (R0.unwipe l hw s1 R1)⟩
        · rw [if_neg hz] at e; cases e
  · rw [if_neg hw] at e; cases e
theorem oLc (own : List (Str × Nat)) (hc : X.calm = true) (hN : X.N.Nodup) (hi : PI X tg iter (tI X.K kn fi)) (bo : BlkOk X.N X.env.scope scope own)
    (hg : ∀ (s : Shared) (H : Hp) (C : Addr) (cl : List (Str × Addr)) (fp : List Addr), PG (X.blk s H scope (compEnvC scope cl C X.env) fp) tg (tG X.K is g)) (ht : ∀ (s : Shared) (H : Hp) (C : Addr) (cl : List (Str × Addr)) (fp : List Addr), PTs (X.blk s H scope (compEnvC scope cl C X.env) fp) ifs (tT X.K t))
    (he : ∀ (s : Shared) (H : Hp) (C : Addr) (cl : List (Str × Addr)) (fp : List Addr), PE (X.blk s H scope (compEnvC scope cl C X.env) fp) elt (tP X.K f)) (ok : TgOk is g) (hv : ∀ i ∈ is, i ∈ own.map (·.2) := by decide) (hkn : ∀ ρ ds, fi ρ = some ds → ∀ k ∈ kn, k < ρ.length := by intro _ _ _ _ hk; cases hk) (hkv : ∀ k ∈ kn, k ∉ own.map (·.2) := by decide) (hs : ∀ x, foldedSetIterable iter X.env x = pure x := by intro _; rfl) :
    PE X (.ListComp elt [⟨tg, iter, ifs, 0⟩] scope pos) (tO X.K (lcO fi g t f (own.map (·.2)))) := PE.imp (pe_lc hc hN hi bo hg ht he hs) fun _ _ _ h => lc_of ok hv hkn hkv h
theorem lcD_eq (ρ : Ev) (vs : List Nat) : frz (lcO fi g t f vs) ρ = lcD fi g t f vs ρ := by
  unfold frz lcO lcD
  by_cases hw : okW ρ vs = true
  · rw [if_pos hw, if_pos hw]
    cases q : fi ρ with
    | none => rfl
    | some ds =>
      rw [Option.bind_some, Option.bind_some]
      cases q2 : comp g t f (wipeO ρ vs) ds with
      | none => rfl
      | some ys =>
        rw [Option.bind_some, Option.bind_some]
        by_cases hz : ys.length ≤ sizeLine
        · rw [if_pos hz, if_pos hz]
          show (O.toDs (ys.map .dat)).map D.lst = _
          rw [toDs_dat]
          rfl
        · rw [if_neg hz, if_neg hz]; rfl
  · rw [if_neg hw, if_neg hw]; rfl
theorem pLc (own : List (Str × Nat)) (hc : X.calm = true) (hN : X.N.Nodup) (hi : PI X tg iter (tI X.K kn fi)) (bo : BlkOk X.N X.env.scope scope own)
    (hg : ∀ (s : Shared) (H : Hp) (C : Addr) (cl : List (Str × Addr)) (fp : List Addr), PG (X.blk s H scope (compEnvC scope cl C X.env) fp) tg (tG X.K is g)) (ht : ∀ (s : Shared) (H : Hp) (C : Addr) (cl : List (Str × Addr)) (fp : List Addr), PTs (X.blk s H scope (compEnvC scope cl C X.env) fp) ifs (tT X.K t))
    (he : ∀ (s : Shared) (H : Hp) (C : Addr) (cl : List (Str × Addr)) (fp : List Addr), PE (X.blk s H scope (compEnvC scope cl C X.env) fp) elt (tP X.K f)) (ok : TgOk is g) (hv : ∀ i ∈ is, i ∈ own.map (·.2) := by decide) (hkn : ∀ ρ ds, fi ρ = some ds → ∀ k ∈ kn, k < ρ.length := by intro _ _ _ _ hk; cases hk) (hkv : ∀ k ∈ kn, k ∉ own.map (·.2) := by decide) (hs : ∀ x, foldedSetIterable iter X.env x = pure x := by intro _; rfl) :
    PE X (.ListComp elt [⟨tg, iter, ifs, 0⟩] scope pos) (tP X.K (lcD fi g t f (own.map (·.2)))) := by
  have h := pO (oLc (pos := pos) own hc hN hi bo hg ht he ok hv hkn hkv hs)
  rw [show frz (lcO fi g t f (own.map (·.2))) = lcD fi g t f (own.map (·.2)) from funext fun ρ => lcD_eq ρ _] at h
  exact h
/-- y = [..] on one line -/
theorem sLc {i : Nat} {y : Str} {py spos : Pos} (own : List (Str × Nat)) (hc : X.calm = true) (hN : X.N.Nodup) (hi : PI X tg iter (tI X.K kn fi)) (bo : BlkOk X.N X.env.scope scope own)
    (hg : ∀ (s : Shared) (H : Hp) (C : Addr) (cl : List (Str × Addr)) (fp : List Addr), PG (X.blk s H scope (compEnvC scope cl C X.env) fp) tg (tG X.K is g)) (ht : ∀ (s : Shared) (H : Hp) (C : Addr) (cl : List (Str × Addr)) (fp : List Addr), PTs (X.blk s H scope (compEnvC scope cl C X.env) fp) ifs (tT X.K t))
    (he : ∀ (s : Shared) (H : Hp) (C : Addr) (cl : List (Str × Addr)) (fp : List Addr), PE (X.blk s H scope (compEnvC scope cl C X.env) fp) elt (tP X.K f)) (ok : TgOk is g) (hJ : i ∉ J := by decide) (hy : X.N[i]? = some y := by rfl) (hyl : X.env.scope.names.lookup y = some .local := by rfl)
    (hsw : swapsWith (.ListComp elt [⟨tg, iter, ifs, 0⟩] scope pos) (some (.Name y py)) spos.line X.env = pure true := by exact sw_true rfl rfl rfl (by decide +kernel)) (hv : ∀ i ∈ is, i ∈ own.map (·.2) := by decide) (hkn : ∀ ρ ds, fi ρ = some ds → ∀ k ∈ kn, k < ρ.length := by intro _ _ _ _ hk; cases hk) (hkv : ∀ k ∈ kn, k ∉ own.map (·.2) := by decide) (hs : ∀ x, foldedSetIterable iter X.env x = pure x := by intro _; rfl) :
    PS X (.Assign [.Name y py] (.ListComp elt [⟨tg, iter, ifs, 0⟩] scope pos) spos) (tS X.K W J (stO i (lcO fi g t f (own.map (·.2))))) :=
  sAsgO (PS.imp (ps_setLc (i := i) hc hN hy hyl hsw hi bo hg ht he hs) fun E σ H h => lc_of ok hv hkn hkv h) hJ
end

/-! ### defs -/
inductive Rz where
  | ok (o : O) | ex (x : Exn)
/-- the promise of a def that changes nothing -/
def spX (K : PySem.W.Frag) (n : Nat) (m : List D → Option Rz) : Sp := fun vs H Q E => ∃ M fo fv ds r, vs.length = n ∧ Rep K M H fo fv ∧ Dvs K M vs ds ∧ m ds = some r ∧ match r with
  | .ok o => ∀ M' H' v, Same M M' → Rep K M' H' (o :: fo) (some v :: fv) → Q v H'
  | .ex x => ∀ M' H' cls d, Same M M' → Rep K M' H' fo fv → ExR K M' x cls d → E cls d H'
/-- .. that raises nothing and gives a frozen thing -/
def spP (K : PySem.W.Frag) (n : Nat) (m : List D → Option D) : Sp := fun vs H Q _ => vs.length = n ∧ rDs K m vs H Q
/-- .. that raises nothing and gives a new thing -/
def spO (K : PySem.W.Frag) (n : Nat) (m : List D → Option O) : Sp := fun vs H Q _ => vs.length = n ∧ rOs K m vs H Q
def env0 (n : Nat) (ds : List D) : Ev := ds.map .dat ++ List.replicate (n - ds.length) .unk
def outO (r : Fl) : Option O := match r with
  | .nx _ => some (.dat .non)
  | .rt o _ => some o
  | _ => none
def outX (r : Fl) : Option Rz := match r with
  | .nx _ => some (.ok (.dat .non))
  | .rt o _ => some (.ok o)
  | .ex x _ => some (.ex x)
  | _ => none
def runO (n : Nat) (b : Ev → Option Fl) (ds : List D) : Option O := (b (env0 n ds)).bind outO
def runP (n : Nat) (b : Ev → Option Fl) (ds : List D) : Option D := (runO n b ds).bind O.toD
def runX (n : Nat) (b : Ev → Option Fl) (ds : List D) : Option Rz := (b (env0 n ds)).bind outX
section
variable {K : PySem.W.Frag} {M H : Hp}
theorem Rep.dropL {l r : List O} {lv rv : List (Option V)} (R : Rep K M H (l ++ r) (lv ++ rv)) (e : lv.length = l.length) : Rep K M H r rv := by
  obtain ⟨s, fp, w, nd, nm⟩ := R
  obtain ⟨fa, fb, e1, w1, w2⟩ := w.split e
  subst e1
  exact ⟨s, fb, w2, nd.sublist (List.sublist_append_right _ _), fun a ha => nm a (List.mem_append_right _ ha)⟩
theorem ows_unk : ∀ n : Nat, Ows K M H (List.replicate n O.unk) (List.replicate n none) []
  | 0 => .nil
  | n + 1 => by
    have := Ows.cons (Ow.unk (K := K) (M := M) (H := H) (v := none)) (ows_unk n)
    exact this
theorem Rep.enter {fo : List O} {fv : List (Option V)} {vs : List V} {ds : List D} {N : List Str} (R : Rep K M H fo fv) (d : Dvs K M vs ds) : Rep K M H (env0 N.length ds ++ fo) (L2.start N vs ++ fv) ∧ (L2.start N vs).length = (env0 N.length ds).length := by
  have hl := d.length
  refine ⟨?_, by simp [L2.start, env0, hl]⟩
  obtain ⟨s, fp, w, nd, nm⟩ := R
  refine ⟨s, ([] ++ []) ++ fp, ?_, by simpa using nd, fun a ha => nm a (by simpa using ha)⟩
  unfold env0 L2.start
  rw [hl]
  exact ((ows_dat d).append (ows_unk _)).append w
end
section
variable {P : Program} {w : World} {K : PySem.W.Frag} {mg : Str → Option Value} {base : Heap}
abbrev W0 : WX := fun _ _ _ _ => False
theorem fnO {x qual : Str} {st : Stmt} {f : Addr} {fd : FuncData} {N ps : List Str} {k : Nat} {b : Ev → Option Fl} (F : Fun K x qual st f fd) (S : FnScope N ps (defScope st))
    (hb : ∀ (cdv : Value) (A : Around) (outer : List Env) (s : Shared) (H : Hp) (E : XK), Room k (A.deeper (PyProof.Rows.envOfC qual (defScope st) s.heap.objs.size f cdv)) →
      PSs (cxOf CX0 P w K mg base N qual (defScope st) f cdv A outer s H E).nox (defBody st) (tS K W0 [] b)) : FnOk P w K mg base CX0 (k + 1) f fd ps (spO K ps.length (runO N.length b)) := by
  refine F.ok S (fun vs H Q E h => h.1) fun cdv A outer s H vs Q E hr h => ⟨_, hb cdv A outer s H E hr, ?_⟩
  obtain ⟨hl, M, fo, fv, ds, o, R, dv, e, k⟩ := h
  obtain ⟨R1, l1⟩ := R.enter (N := N) dv
  unfold runO at e
  cases q : b (env0 N.length ds) with
  | none => rw [q] at e; cases e
  | some r =>
    rw [q, Option.bind_some] at e
    refine ⟨M, _, fo, fv, r, L2.start N vs, R1, ⟨l1, fun _ z => nomatch z⟩, q, ?_⟩
    cases r with
    | nx ρ =>
      cases e
      exact fun M1 H1 σ1 s1 R1 l1 => k M1 H1 _ s1 ((R1.push l1.1 .non).dropL l1.1)
    | rt o' ρ =>
      cases e
      exact fun M1 H1 σ1 v s1 R1 l1 => k M1 H1 v s1 (R1.dropL l1.1)
    | bk ρ => cases e
    | ct ρ => cases e
    | ex x ρ => cases e
theorem spO_P {n : Nat} {b : Ev → Option Fl} {ps : List Str} {vs : List V} {H : Hp} {Q : VK} {E : XK} (h : spP K ps.length (runP n b) vs H Q E) : spO K ps.length (runO n b) vs H Q E := by
  obtain ⟨hl, M, fo, fv, ds, d, R, dv, e, k⟩ := h
  unfold runP at e
  cases q : runO n b ds with
  | none => rw [q] at e; cases e
  | some o =>
    rw [q, Option.bind_some] at e
    refine ⟨hl, M, fo, fv, ds, o, R, dv, q, fun M1 H1 v s1 R1 => ?_⟩
    obtain ⟨M2, s2, R2, d2⟩ := Rep.frz (l := []) (lv := []) R1 rfl rfl e
    exact k M2 H1 v (s1.trans s2) (Rep.drop (l := []) (lv := []) R2 rfl) d2
theorem fnP {x qual : Str} {st : Stmt} {f : Addr} {fd : FuncData} {N ps : List Str} {k : Nat} {b : Ev → Option Fl} (F : Fun K x qual st f fd) (S : FnScope N ps (defScope st))
    (hb : ∀ (cdv : Value) (A : Around) (outer : List Env) (s : Shared) (H : Hp) (E : XK), Room k (A.deeper (PyProof.Rows.envOfC qual (defScope st) s.heap.objs.size f cdv)) →
      PSs (cxOf CX0 P w K mg base N qual (defScope st) f cdv A outer s H E).nox (defBody st) (tS K W0 [] b)) : FnOk P w K mg base CX0 (k + 1) f fd ps (spP K ps.length (runP N.length b)) :=
  (fnO F S hb).imp fun vs H Q E h => spO_P h
end
end PD

namespace PD
open PySem PySem.Spec L2

/-! ### calls of defs -/
section
variable {X : Cx} {W : WX} {J : List Nat} {pos p : Pos} {a b : Expr} {e : Expr} {es : List Expr} {ga : Ev → Option (List D)} {k : Nat} {f : Addr} {fd : FuncData} {ps : List Str} {x : Str} {n : Nat}
theorem tCall_P {K : PySem.W.Frag} {m : List D → Option D} {ga : Ev → Option (List D)} {σ : L2.St} {H : Hp} {Q : VK} (h : tP K (cB ga fun ds => if ds.length = n then m ds else none) σ H Q) : tCall (spP K n m) [] E0 (tAr K ga) σ H Q := by
  obtain ⟨M, ρ, fo, fv, d, R, l, e, kk⟩ := h
  obtain ⟨ds, eg, ef⟩ := cB_some e
  refine ⟨M, ρ, fo, fv, ds, R, l, eg, fun M1 H1 vs s1 R1 d1 => ?_⟩
  split at ef
  · rename_i hl
    exact ⟨by rw [List.append_nil, d1.length]; exact hl, M1, ρ ++ fo, σ ++ fv, ds, d, R1, by rw [List.append_nil]; exact d1, ef, fun M2 H2 v s2 R2 d2 => kk M2 H2 v (s1.trans s2) R2 d2⟩
  · cases ef
def len? (n : Nat) (m : List D → Option D) (ds : List D) : Option D := if ds.length = n then m ds else none
/-- f(e, ..) -/
theorem pCall {m : List D → Option D} (F : FnOk X.prog X.w X.K X.mg X.base CX0 k f fd ps (spP X.K n m)) (hr : Room k X.A) (hm : X.mg x = some (.ref f)) (hk : PySem.W.keepIn X.K (.ref f) = true) (hb : Binds X.K fd ps []) (ha : PA X (e :: es) (tAr X.K ga)) (hg : Gl X x := by rfl)
    (hdb : (x == ("__debug__" : Str)) = false := by decide) (he : starEach (e :: es) X.env = (false, eval e X.env) :: starEach es X.env := by rfl) (hpl : (backTo pos (starEach es X.env)).any (·.1) = false := by rfl) : PE X (.Call (.Name x p) (e :: es) [] pos) (tP X.K (cB ga (len? n m))) :=
  PE.imp (pe_call F hr hg hm hk hb .nil pass0 ha hdb he hpl) fun _ _ _ h => tCall_P h
/-- f(k=v, ..) -/
def tCallN0 (m : Nat) (sp : Sp) (gV : List V → List V) (E : XK) (tk : TA) : TE := fun σ H Q => tk σ H fun zs H2 => zs.length = m ∧ sp (gV zs) H2 Q E
theorem pe_callN0 {CX : CXT} {E : XK} {sp : Sp} {ks : List Str} {kws : List Keyword} {tk : TA} {g : List Value → List Value → List Value} {gV : List V → List V → List V} (F : FnOk X.prog X.w X.K X.mg X.base CX k f fd ps sp) (hr : Room k X.A) (hg : Gl X x) (hm : X.mg x = some (.ref f)) (hk : PySem.W.keepIn X.K (.ref f) = true) (hb : KBn X.K fd ps 0 ks g gV) (hx : Passes CX X E)
    (hkw : PK X kws tk) (hall : (backToKw pos (keywordEach kws X.env)).all (·.1.isSome) = true := by rfl) (hks : (backToKw pos (keywordEach kws X.env)).filterMap (·.1) = ks := by rfl)
    (hdb : (x == ("__debug__" : Str)) = false := by decide)
    (hpl : ((backTo pos (starEach [] X.env)).any (·.1) || (backToKw pos (keywordEach kws X.env)).any (·.1.isNone)) = false := by rfl) :
    PE X (.Call (.Name x p) [] kws pos) (tCallN0 ks.length sp (gV []) E tk) := by
  refine ⟨fun pins s σ H Q I h => ?_⟩
  refine wpAny_Call_Name_kw (ld_glob I hg hm ?_ hdb)
  refine PySem.W.callWith_KW0 (h₀ := X.base) I.ok.mod.kin hk hall ?_ hpl
  refine thn (hkw.run pos pins s σ H _ I h) fun ws s2 ⟨zs, H2, I2, rz, l2, q2⟩ => ⟨I2.kIn, ?_⟩
  rw [hks]
  exact run_fnN F hr hb hx I2 .nil rz rfl l2 q2
theorem pCallK {m : List D → Option D} {ks : List Str} {kws : List Keyword} {g : List Value → List Value → List Value} (F : FnOk X.prog X.w X.K X.mg X.base CX0 k f fd ps (spP X.K n m)) (hr : Room k X.A) (hm : X.mg x = some (.ref f)) (hk : PySem.W.keepIn X.K (.ref f) = true) (hb : KBn X.K fd ps 0 ks g (fun vs zs => vs ++ zs)) (hn : ks.length = n)
    (hkw : PK X kws (tAr X.K ga)) (hg : Gl X x := by rfl) (hall : (backToKw pos (keywordEach kws X.env)).all (·.1.isSome) = true := by rfl) (hks : (backToKw pos (keywordEach kws X.env)).filterMap (·.1) = ks := by rfl)
    (hdb : (x == ("__debug__" : Str)) = false := by decide)
    (hpl : ((backTo pos (starEach [] X.env)).any (·.1) || (backToKw pos (keywordEach kws X.env)).any (·.1.isNone)) = false := by rfl) :
    PE X (.Call (.Name x p) [] kws pos) (tP X.K (cB ga (len? n m))) := PE.imp (pe_callN0 F hr hg hm hk hb pass0 hkw hall hks hdb hpl) fun σ H Q h => by
  obtain ⟨M, ρ, fo, fv, d, R, l, e, kk⟩ := h
  obtain ⟨ds, eg, ef⟩ := cB_some e
  refine ⟨M, ρ, fo, fv, ds, R, l, eg, fun M1 H1 vs s1 R1 d1 => ?_⟩
  unfold len? at ef
  split at ef
  · rename_i hl
    have hv : vs.length = n := by rw [d1.length]; exact hl
    exact ⟨by omega, hv, M1, ρ ++ fo, σ ++ fv, ds, d, R1, d1, ef, fun M2 H2 v s2 R2 d2 => kk M2 H2 v (s1.trans s2) R2 d2⟩
  · cases ef
end

section
variable {X : Cx}
theorem OpR.imp {f : Value → Value → Sem Value} {r r' : R2} (h : OpR X f r) (i : ∀ x y H Q, r' x y H Q → r x y H Q) : OpR X f r' := fun p s σ H x y v u Q I rx ry w => h p s σ H x y v u Q I rx ry (i x y H Q w)
theorem UnR.imp {f : Value → Sem Value} {r r' : V → Hp → VK → Prop} (h : UnR X f r) (i : ∀ x H Q, r' x H Q → r x H Q) : UnR X f r' := fun p s σ H x v Q I rx w => h p s σ H x v Q I rx (i x H Q w)
theorem CallR.imp {f : Value} {r r' : List V → Hp → VK → Prop} (h : CallR X f r) (i : ∀ x H Q, r' x H Q → r x H Q) : CallR X f r' := fun p s σ H x v Q I rx w => h p s σ H x v Q I rx (i x H Q w)
theorem CallR.or {f : Value} {r r' : List V → Hp → VK → Prop} (h : CallR X f r) (h' : CallR X f r') : CallR X f (fun x H Q => r x H Q ∨ r' x H Q) := fun p s σ H x v Q I rx w => w.elim (h p s σ H x v Q I rx) (h' p s σ H x v Q I rx)
theorem IxR.imp {r r' : R2} (h : IxR X r) (i : ∀ x y H Q, r' x y H Q → r x y H Q) : IxR X r' := fun v sl p s σ H x y a b Q I rx ry w hs => h v sl p s σ H x y a b Q I rx ry (i x y H Q w) hs
theorem MtR.imp {id : String} {r r' : V → List V → Hp → VK → Prop} (h : MtR X id r) (i : ∀ x xs H Q, r' x xs H Q → r x xs H Q) : MtR X id r' := fun p s σ H x xs v us Q I rx rs w => h p s σ H x xs v us Q I rx rs (i x xs H Q w)
theorem SlR.imp {r r' : V → Option Int → Option Int → Hp → VK → Prop} (h : SlR X r) (i : ∀ x lo hi H Q, r' x lo hi H Q → r x lo hi H Q) : SlR X r' := fun p s σ H x v vl vu lo hi sl Q I rx hs pl pu w => h p s σ H x v vl vu lo hi sl Q I rx hs pl pu (i x lo hi H Q w)

/-! ### operators -/
/-- two ints -/
def i2 (C : Int → Int → Bool) (g : Int → Int → D) (x y : D) : Option D := match x, y with
  | .int i, .int j => if C i j = true then some (g i j) else none
  | _, _ => none
theorem i2_some {C : Int → Int → Bool} {g : Int → Int → D} {x y d : D} (h : i2 C g x y = some d) : ∃ i j, x = .int i ∧ y = .int j ∧ C i j = true ∧ d = g i j := by
  unfold i2 at h
  split at h
  · rename_i i j
    split at h
    · cases h; exact ⟨i, j, rfl, rfl, by assumption, rfl⟩
    · cases h
  · cases h
theorem op_i2 {f : Value → Value → Sem Value} {C : Int → Int → Prop} {Cb : Int → Int → Bool} {g : Int → Int → V} {gd : Int → Int → D} (h : OpR X f (rI C g)) (hC : ∀ i j, Cb i j = true → C i j) (hd : ∀ i j M, Dv X.K M (g i j) (gd i j)) : OpR X f (rD X.K (i2 Cb gd)) :=
  OpR.imp h fun x y H Q ⟨M, fo, fv, dx, dy, d, R, d1, d2, e, k⟩ => by
    obtain ⟨i, j, rfl, rfl, hc, rfl⟩ := i2_some e
    cases d1; cases d2
    exact ⟨i, j, rfl, rfl, hC i j hc, k M H _ (Same.refl _) R (hd i j M)⟩
theorem op_i20 {f : Value → Value → Sem Value} {g : Int → Int → V} {gd : Int → Int → D} (h : OpR X f (rI0 g)) (hd : ∀ i j M, Dv X.K M (g i j) (gd i j)) : OpR X f (rD X.K (i2 (fun _ _ => true) gd)) :=
  OpR.imp h fun x y H Q ⟨M, fo, fv, dx, dy, d, R, d1, d2, e, k⟩ => by
    obtain ⟨i, j, rfl, rfl, hc, rfl⟩ := i2_some e
    cases d1; cases d2
    exact ⟨i, j, rfl, rfl, k M H _ (Same.refl _) R (hd i j M)⟩
def s2 (C : Str → Str → Bool) (g : Str → Str → D) (x y : D) : Option D := match x, y with
  | .str i, .str j => if C i j = true then some (g i j) else none
  | _, _ => none
theorem s2_some {C : Str → Str → Bool} {g : Str → Str → D} {x y d : D} (h : s2 C g x y = some d) : ∃ i j, x = .str i ∧ y = .str j ∧ C i j = true ∧ d = g i j := by
  unfold s2 at h
  split at h
  · rename_i i j
    split at h
    · cases h; exact ⟨i, j, rfl, rfl, by assumption, rfl⟩
    · cases h
  · cases h
def orD (f g : D → D → Option D) (x y : D) : Option D := match f x y with
  | some d => some d
  | none => g x y
theorem op_orD {f : Value → Value → Sem Value} {g g' : D → D → Option D} (h : OpR X f (rD X.K g)) (h' : OpR X f (rD X.K g')) : OpR X f (rD X.K (orD g g')) := OpR.imp (h.or h') fun x y H Q ⟨M, fo, fv, dx, dy, d, R, d1, d2, e, k⟩ => by
  unfold orD at e
  split at e
  · rename_i q; cases e; exact .inl ⟨M, fo, fv, dx, dy, d, R, d1, d2, q, k⟩
  · exact .inr ⟨M, fo, fv, dx, dy, d, R, d1, d2, e, k⟩
abbrev addI : D → D → Option D := i2 (fun _ _ => true) fun i j => .int (i + j)
abbrev addS : D → D → Option D := s2 (fun i j => decide (i.length + j.length ≤ sizeLine)) fun i j => .str (i ++ j)
abbrev subI : D → D → Option D := i2 (fun _ _ => true) fun i j => .int (i - j)
def okMul (i j : Int) : Bool := decide ((-(2 ^ 64) < i ∧ i < 2 ^ 64) ∨ (-(2 ^ 64) < j ∧ j < 2 ^ 64))
abbrev mulI : D → D → Option D := i2 okMul fun i j => .int (i * j)
abbrev modI : D → D → Option D := i2 (fun _ j => decide (0 < j)) fun i j => .int (i % j)
abbrev divI : D → D → Option D := i2 (fun _ j => decide (0 < j ∧ j < 1073741824)) fun i j => .int (i / j)
abbrev powI : D → D → Option D := i2 (fun i j => decide (0 ≤ j ∧ j ≤ 1000000 ∧ i.natAbs < 2 ^ 64)) fun i j => .int (i ^ j.toNat)
theorem oAddI : OpR X (binaryOp .Add) (rD X.K addI) := op_i20 op_add fun _ _ _ => .int _
theorem oSub : OpR X (binaryOp .Sub) (rD X.K subI) := op_i20 op_sub fun _ _ _ => .int _
theorem oMul : OpR X (binaryOp .Mult) (rD X.K mulI) := op_i2 op_mul (fun i j h => by simpa [okMul, CMul] using h) fun _ _ _ => .int _
theorem oMod : OpR X (binaryOp .Mod) (rD X.K modI) := op_i2 op_mod (fun i j h => of_decide_eq_true h) fun _ _ _ => .int _
theorem oDiv : OpR X (binaryOp .FloorDiv) (rD X.K divI) := op_i2 op_fdiv (fun i j h => by simpa [CDiv] using h) fun _ _ _ => .int _
theorem oPow : OpR X (binaryOp .Pow) (rD X.K powI) := op_i2 op_pow (fun i j h => by simpa [CPow] using h) fun _ _ _ => .int _
theorem oAddS : OpR X (binaryOp .Add) (rD X.K addS) := OpR.imp op_add_str fun x y H Q ⟨M, fo, fv, dx, dy, d, R, d1, d2, e, k⟩ => by
  obtain ⟨i, j, rfl, rfl, hc, rfl⟩ := s2_some e
  cases d1; cases d2
  exact ⟨i, j, rfl, rfl, of_decide_eq_true hc, k M H _ (Same.refl _) R (.str _)⟩
abbrev addD : D → D → Option D := orD addI addS
theorem oAdd : OpR X (binaryOp .Add) (rD X.K addD) := op_orD oAddI oAddS
abbrev ltI : D → D → Option D := i2 (fun _ _ => true) fun i j => .bl (decide (i < j))
abbrev leI : D → D → Option D := i2 (fun _ _ => true) fun i j => .bl (decide (i ≤ j))
abbrev gtI : D → D → Option D := i2 (fun _ _ => true) fun i j => .bl (decide (j < i))
abbrev geI : D → D → Option D := i2 (fun _ _ => true) fun i j => .bl (decide (j ≤ i))
theorem oLt : OpR X (compareOp .Lt) (rD X.K ltI) := op_i20 op_lt fun _ _ _ => .bl _
theorem oLe : OpR X (compareOp .LtE) (rD X.K leI) := op_i20 op_le fun _ _ _ => .bl _
theorem oGt : OpR X (compareOp .Gt) (rD X.K gtI) := op_i20 op_gt fun _ _ _ => .bl _
theorem oGe : OpR X (compareOp .GtE) (rD X.K geI) := op_i20 op_ge fun _ _ _ => .bl _
/-- a < b < c -/
def chn (fa fb fc : Ev → Option D) (g h : D → D → Option D) (ρ : Ev) : Option D := (fa ρ).bind fun x => (fb ρ).bind fun y => (g x y).bind fun r => match r with
  | .bl true => (fc ρ).bind fun z => h y z
  | .bl false => some (.bl false)
  | _ => none
theorem chain_of {K : PySem.W.Frag} {fa fb fc : Ev → Option D} {g h : D → D → Option D} {σ : L2.St} {H : Hp} {Q : VK} (hh : tP K (chn fa fb fc g h) σ H Q) : tChain (rD K g) (rD K h) (tP K fa) (tP K fb) (tP K fc) σ H Q := by
  obtain ⟨M, ρ, fo, fv, d, R, l, e, k⟩ := hh
  unfold chn at e
  cases q1 : fa ρ with
  | none => rw [q1] at e; cases e
  | some x =>
    cases q2 : fb ρ with
    | none => rw [q1, Option.bind_some, q2] at e; cases e
    | some y =>
      rw [q1, Option.bind_some, q2, Option.bind_some] at e
      cases q3 : g x y with
      | none => rw [q3] at e; cases e
      | some r =>
        rw [q3, Option.bind_some] at e
        refine ⟨M, ρ, fo, fv, x, R, l, q1, fun M1 H1 v1 s1 R1 d1 => ⟨M1, ρ, fo, fv, y, R1, l, q2, fun M2 H2 v2 s2 R2 d2 => ⟨M2, ρ ++ fo, σ ++ fv, x, y, r, R2, d1.mono s2, d2, q3, fun M3 H3 v3 s3 R3 d3 => ?_⟩⟩⟩
        split at e
        · cases d3
          refine ⟨true, rfl, iteT ?_⟩
          cases q4 : fc ρ with
          | none => rw [q4] at e; cases e
          | some z =>
            rw [q4, Option.bind_some] at e
            exact ⟨M3, ρ, fo, fv, z, R3, l, q4, fun M4 H4 v4 s4 R4 d4 => ⟨M4, ρ ++ fo, σ ++ fv, y, z, d, R4, d2.mono (s3.trans s4), d4, e, fun M5 H5 v5 s5 R5 d5 => k M5 H5 v5 (s1.trans (s2.trans (s3.trans (s4.trans s5)))) R5 d5⟩⟩
        · cases d3
          cases e
          exact ⟨false, rfl, iteF (k M3 H3 _ (s1.trans (s2.trans s3)) R3 (.bl _))⟩
        · cases e
theorem pChain {op op' : CmpOp} {a b c : Expr} {pos : Pos} {fa fb fc : Ev → Option D} {g h : D → D → Option D} (ho : OpR X (compareOp op) (rD X.K g)) (ho' : OpR X (compareOp op') (rD X.K h)) (ha : PE X a (tP X.K fa)) (hb : PE X b (tP X.K fb)) (hc : PE X c (tP X.K fc)) (hm : lastMarks [op, op'] [b, c] = false := by with_unfolding_all rfl) :
    PE X (.Compare a [op, op'] [b, c] pos) (tP X.K (chn fa fb fc g h)) := PE.imp (pe_chain ho ho' ha hb hc hm) fun _ _ _ h => chain_of h
theorem tChain' {op op' : CmpOp} {a b c : Expr} {pos : Pos} {fa fb fc : Ev → Option D} {g h : D → D → Option D} (ho : OpR X (compareOp op) (rD X.K g)) (ho' : OpR X (compareOp op') (rD X.K h)) (ha : PE X a (tP X.K fa)) (hb : PE X b (tP X.K fb)) (hc : PE X c (tP X.K fc)) (hm : lastMarks [op, op'] [b, c] = false := by with_unfolding_all rfl) :
    PT X (.Compare a [op, op'] [b, c] pos) (tT X.K (asB (chn fa fb fc g h))) := PT.imp (pt_chain ho ho' ha hb hc hm) fun σ H Q ⟨M, ρ, fo, fv, b, R, l, e, k⟩ =>
  chain_of (K := X.K) (Q := fun x H' => ∃ k, x = .bl k ∧ Q k H') ⟨M, ρ, fo, fv, .bl b, R, l, asB_some e, fun M' H' v s R' dv => by cases dv; exact ⟨b, rfl, k M' H' s R'⟩⟩
end
end PD

namespace PD
open PySem PySem.Spec L2

abbrev kI (i : Int) : Ev → Option D := fun _ => some (.int i)
abbrev kS (x : Str) : Ev → Option D := fun _ => some (.str x)
abbrev kB (b : Bool) : Ev → Option D := fun _ => some (.bl b)
abbrev kN : Ev → Option D := fun _ => some .non
/-! ### data as PyData -/
mutual
def D.py : D → Option PyData
  | .non => some .none
  | .bl b => some (.bool b)
  | .int i => some (.int i)
  | .str x => some (.str x)
  | .lst xs => (D.pys xs).map .list
  | .tup xs => (D.pys xs).map .tuple
  | .dic _ _ => none
  | .obj _ _ _ => none
  | .exn _ _ _ _ _ => none
  | .tagM _ _ => none
  | .tagP _ _ => none
def D.pys : List D → Option (List PyData)
  | [] => some []
  | d :: ds => match D.py d, D.pys ds with
    | some p, some ps => some (p :: ps)
    | _, _ => none
end
section
variable {K : PySem.W.Frag} {M : Hp}
mutual
theorem Dv.dp : ∀ {v : V} {d : D} {p : PyData}, Dv K M v d → d.py = some p → Dp K M v p
  | _, _, _, .non, e => by cases e; exact .non
  | _, _, _, .bl b, e => by cases e; exact .bl b
  | _, _, _, .int b, e => by cases e; exact .int b
  | _, _, _, .str b, e => by cases e; exact .str b
  | _, .lst ds, p, .lst h hs, e => by
    unfold D.py at e
    cases q : D.pys ds with
    | none => rw [q] at e; cases e
    | some ps => rw [q] at e; cases e; exact .lst h.toL (Dvs.dp hs q)
  | _, .tup ds, p, .tup h hs, e => by
    unfold D.py at e
    cases q : D.pys ds with
    | none => rw [q] at e; cases e
    | some ps => rw [q] at e; cases e; exact .tup h (Dvs.dp hs q)
  | _, .dic _ _, _, .dic _ _ _, e => by unfold D.py at e; cases e
  | _, .obj _ _ _, _, .obj _ _ _ _, e => by unfold D.py at e; cases e
  | _, _, _, .exn0, e => by unfold D.py at e; cases e
  | _, _, _, .exn1 _ _ _, e => by unfold D.py at e; cases e
  | _, _, _, .tagM _ _, e => by unfold D.py at e; cases e
  | _, _, _, .tagP _ _, e => by unfold D.py at e; cases e
theorem Dvs.dp : ∀ {vs : List V} {ds : List D} {ps : List PyData}, Dvs K M vs ds → D.pys ds = some ps → DpAll K M vs ps
  | _, _, _, .nil, e => by cases e; exact .nil
  | _, d :: ds, ps, .cons h hs, e => by
    unfold D.pys at e
    cases q : D.py d with
    | none => rw [q] at e; cases e
    | some p =>
      cases q2 : D.pys ds with
      | none => rw [q, q2] at e; cases e
      | some ps' => rw [q, q2] at e; cases e; exact .cons (Dv.dp h q) (Dvs.dp hs q2)
end
mutual
theorem dp_mono {M' : Hp} (s : Same M M') : ∀ {v : V} {p : PyData}, Dp K M v p → Dp K M' v p
  | _, _, .non => .non
  | _, _, .bl b => .bl b
  | _, _, .int i => .int i
  | _, _, .str x => .str x
  | _, _, .lst h hs => .lst (s.seq h) (dps_mono s hs)
  | _, _, .tup h hs => .tup (sqT_same s h) (dps_mono s hs)
theorem dps_mono {M' : Hp} (s : Same M M') : ∀ {vs : List V} {ps : List PyData}, DpAll K M vs ps → DpAll K M' vs ps
  | _, _, .nil => .nil
  | _, _, .cons h hs => .cons (dp_mono s h) (dps_mono s hs)
end
end
def eqvD (x y : D) : Option Bool := match x.py, y.py with
  | some p, some q => if SeqAt.shaped p = true ∧ SeqAt.shaped q = true then some (PyData.eqv p q) else none
  | _, _ => none
/-- == of two ints, two bools, two texts -/
def eqS : D → D → Option Bool
  | .int i, .int j => some (decide (i = j))
  | .bl i, .bl j => some (decide (i = j))
  | .str i, .str j => some (decide (i = j))
  | _, _ => none
def eqB (x y : D) : Option Bool := match eqS x y with
  | some b => some b
  | none => eqvD x y
def eqD (x y : D) : Option D := (eqB x y).map .bl
def neD (x y : D) : Option D := (eqB x y).map fun b => .bl (!b)
theorem eqS_some {K : PySem.W.Frag} {M : Hp} {v w : V} {x y : D} {b : Bool} (h : eqS x y = some b) (d1 : Dv K M v x) (d2 : Dv K M w y) : scal v w = true ∧ b = decide (v = w) := by
  unfold eqS at h
  split at h
  · cases h; cases d1; cases d2; exact ⟨rfl, by rw [dec_int, Bool.beq_eq_decide_eq]⟩
  · cases h; cases d1; cases d2; exact ⟨rfl, by rw [dec_bl, Bool.beq_eq_decide_eq]⟩
  · cases h; cases d1; cases d2; exact ⟨rfl, by rw [dec_str, Bool.beq_eq_decide_eq]⟩
  · cases h
theorem eqvD_some {x y : D} {b : Bool} (h : eqvD x y = some b) : ∃ p q, x.py = some p ∧ y.py = some q ∧ SeqAt.shaped p = true ∧ SeqAt.shaped q = true ∧ b = PyData.eqv p q := by
  unfold eqvD at h
  split at h
  · split at h
    · rename_i hs
      cases h
      exact ⟨_, _, by assumption, by assumption, hs.1, hs.2, rfl⟩
    · cases h
  · cases h
section
variable {X : Cx}
theorem oEq (hu : X.A.units + 64 < cLine) : OpR X (compareOp .Eq) (rD X.K eqD) := OpR.imp (op_eq.or (op_eqD hu)) fun x y H Q ⟨M, fo, fv, dx, dy, d, R, d1, d2, e, k⟩ => by
  unfold eqD eqB at e
  cases q0 : eqS dx dy with
  | some b =>
    rw [q0] at e
    cases e
    obtain ⟨s1, rfl⟩ := eqS_some q0 d1 d2
    exact .inl ⟨s1, k M H _ (Same.refl _) R (.bl _)⟩
  | none =>
    rw [q0] at e
    have e : (eqvD dx dy).map D.bl = some d := e
    cases q : eqvD dx dy with
    | none => rw [q] at e; cases e
    | some b =>
      rw [q] at e
      cases e
      obtain ⟨p, r, e1, e2, s1, s2, rfl⟩ := eqvD_some q
      exact .inr ⟨p, r, dp_mono R.same (d1.dp e1), dp_mono R.same (d2.dp e2), s1, s2, k M H _ (Same.refl _) R (.bl _)⟩
theorem oNe (hu : X.A.units + 64 < cLine) : OpR X (compareOp .NotEq) (rD X.K neD) := OpR.imp (op_ne.or (op_neD hu)) fun x y H Q ⟨M, fo, fv, dx, dy, d, R, d1, d2, e, k⟩ => by
  unfold neD eqB at e
  cases q0 : eqS dx dy with
  | some b =>
    rw [q0] at e
    cases e
    obtain ⟨s1, rfl⟩ := eqS_some q0 d1 d2
    exact .inl ⟨s1, k M H _ (Same.refl _) R (.bl _)⟩
  | none =>
    rw [q0] at e
    have e : (eqvD dx dy).map (fun b => D.bl (!b)) = some d := e
    cases q : eqvD dx dy with
    | none => rw [q] at e; cases e
    | some b =>
      rw [q] at e
      cases e
      obtain ⟨p, r, e1, e2, s1, s2, rfl⟩ := eqvD_some q
      exact .inr ⟨p, r, dp_mono R.same (d1.dp e1), dp_mono R.same (d2.dp e2), s1, s2, k M H _ (Same.refl _) R (.bl _)⟩
/-! ### in -/
def D.flat : D → Bool
  | .non => true
  | .bl _ => true
  | .int _ => true
  | .str _ => true
  | _ => false
/-- == of flat things -/
def D.same : D → D → Bool
  | .non, .non => true
  | .bl a, .bl b => a == b
  | .bl a, .int j => (if a then 1 else 0) == j
  | .int i, .bl b => i == (if b then 1 else 0)
  | .int i, .int j => i == j
  | .str x, .str y => x == y
  | _, _ => false
/-- the text i stands in j -/
def Txt.has (j i : Str) : Bool := !(Builtin.Str.occurrences j i 0 j.length 1).isEmpty
def inB (x y : D) : Option Bool := match y with
  | .str j => (match x with
    | .str i => some (Txt.has j i)
    | _ => none)
  | .lst ds => if x.flat && ds.all D.flat then some (ds.any fun z => z.same x) else none
  | .tup ds => if x.flat && ds.all D.flat then some (ds.any fun z => z.same x) else none
  | _ => none
def inD (x y : D) : Option D := (inB x y).map .bl
def ninD (x y : D) : Option D := (inB x y).map fun b => .bl (!b)
theorem flat_of {K : PySem.W.Frag} {M : Hp} {v : V} {d : D} (h : Dv K M v d) (f : d.flat = true) : flatV v = true := by
  cases h <;> first | rfl | cases f
theorem same_of {K : PySem.W.Frag} {M : Hp} {v w : V} {d e : D} (h : Dv K M v d) (h' : Dv K M w e) (f : d.flat = true) (f' : e.flat = true) : eqV v w = d.same e := by
  cases h <;> first | (cases f; done) | (cases h' <;> first | (cases f'; done) | rfl)
theorem flats_of {K : PySem.W.Frag} {M : Hp} : ∀ {vs : List V} {ds : List D}, Dvs K M vs ds → ds.all D.flat = true → vs.all flatV = true
  | _, _, .nil, _ => rfl
  | _, _, .cons h t, f => by
    rw [List.all_cons, Bool.and_eq_true] at f ⊢
    exact ⟨flat_of h f.1, flats_of t f.2⟩
theorem any_of {K : PySem.W.Frag} {M : Hp} {w : V} {e : D} (h' : Dv K M w e) (f' : e.flat = true) : ∀ {vs : List V} {ds : List D}, Dvs K M vs ds → ds.all D.flat = true → inV w vs = ds.any fun z => z.same e
  | _, _, .nil, _ => rfl
  | _, _, .cons h t, f => by
    rw [List.all_cons, Bool.and_eq_true] at f
    unfold inV
    rw [List.any_cons, List.any_cons, same_of h h' f.1 f']
    have := any_of h' f' t f.2
    unfold inV at this
    rw [this]
theorem in_of {neg : Bool} {x y : V} {H : Hp} {Q : VK} {M : Hp} {fo : List O} {fv : List (Option V)} {dx dy : D} {b : Bool} (R : Rep X.K M H fo fv) (d1 : Dv X.K M x dx) (d2 : Dv X.K M y dy) (e : inB dx dy = some b) (k : Q (.bl (if neg then !b else b)) H) :
    rIn X.K neg x y H Q ∨ (∃ i j, x = .str i ∧ y = .str j ∧ Q (.bl (if neg then !(!(Builtin.Str.occurrences j i 0 j.length 1).isEmpty) else (!(Builtin.Str.occurrences j i 0 j.length 1).isEmpty))) H) := by
  unfold inB at e
  cases d2 with
  | str j =>
    cases d1 with
    | str i => cases e; exact .inr ⟨i, j, rfl, rfl, k⟩
    | _ => cases e
  | lst h hs =>
    simp only at e
    split at e
    · rename_i hf
      rw [Bool.and_eq_true] at hf
      cases e
      refine .inl ⟨_, _, rfl, .inl (seqX R.same h), flat_of d1 hf.1, flats_of hs hf.2, ?_⟩
      rw [any_of d1 hf.1 hs hf.2]
      exact k
    · cases e
  | tup h hs =>
    simp only at e
    split at e
    · rename_i hf
      rw [Bool.and_eq_true] at hf
      cases e
      refine .inl ⟨_, _, rfl, .inr (sqT_same R.same h), flat_of d1 hf.1, flats_of hs hf.2, ?_⟩
      rw [any_of d1 hf.1 hs hf.2]
      exact k
    · cases e
  | _ => cases e
theorem oIn : OpR X (compareOp .In) (rD X.K inD) := OpR.imp (op_in_seq.or op_in_str) fun x y H Q ⟨M, fo, fv, dx, dy, d, R, d1, d2, e, k⟩ => by
  unfold inD at e
  cases q : inB dx dy with
  | none => rw [q] at e; cases e
  | some b =>
    rw [q] at e
    cases e
    exact in_of (neg := false) R d1 d2 q (k M H _ (Same.refl _) R (.bl _))
theorem oNotIn : OpR X (compareOp .NotIn) (rD X.K ninD) := OpR.imp (op_notIn_seq.or op_notin_str) fun x y H Q ⟨M, fo, fv, dx, dy, d, R, d1, d2, e, k⟩ => by
  unfold ninD at e
  cases q : inB dx dy with
  | none => rw [q] at e; cases e
  | some b =>
    rw [q] at e
    cases e
    exact in_of (neg := true) R d1 d2 q (k M H _ (Same.refl _) R (.bl _))
/-! ### is None -/
def D.isN : D → Bool
  | .non => true
  | .tagM _ d => d.isN
  | .tagP _ d => d.isN
  | _ => false
def isN (x y : D) : Option D := match y with
  | .non => some (.bl x.isN)
  | _ => none
def notN (x y : D) : Option D := match y with
  | .non => some (.bl (!x.isN))
  | _ => none
theorem isN_of {K : PySem.W.Frag} {M : Hp} : ∀ {v : V} {d : D}, Dv K M v d → decide (v = .non) = d.isN
  | _, _, .non => rfl
  | _, _, .bl b => decide_eq_false (fun z => nomatch z)
  | _, _, .int b => decide_eq_false (fun z => nomatch z)
  | _, _, .str b => decide_eq_false (fun z => nomatch z)
  | _, _, .lst _ _ => decide_eq_false (fun z => nomatch z)
  | _, _, .tup _ _ => decide_eq_false (fun z => nomatch z)
  | _, _, .dic _ _ _ => decide_eq_false (fun z => nomatch z)
  | _, _, .obj _ _ _ _ => decide_eq_false (fun z => nomatch z)
  | _, _, .exn0 => decide_eq_false (fun z => nomatch z)
  | _, _, .exn1 _ _ _ => decide_eq_false (fun z => nomatch z)
  | _, .tagM _ d, .tagM _ h => isN_of (d := d) h
  | _, .tagP _ d, .tagP _ h => isN_of (d := d) h
theorem oIs : OpR X (compareOp .Is) (rD X.K isN) := OpR.imp op_isN fun x y H Q ⟨M, fo, fv, dx, dy, d, R, d1, d2, e, k⟩ => by
  unfold isN at e
  split at e
  · cases e
    cases d2
    refine ⟨rfl, ?_⟩
    rw [isN_of d1]
    exact k M H _ (Same.refl _) R (.bl _)
  · cases e
theorem oIsNot : OpR X (compareOp .IsNot) (rD X.K notN) := OpR.imp op_notN fun x y H Q ⟨M, fo, fv, dx, dy, d, R, d1, d2, e, k⟩ => by
  unfold notN at e
  split at e
  · cases e
    cases d2
    refine ⟨rfl, ?_⟩
    rw [isN_of d1]
    exact k M H _ (Same.refl _) R (.bl _)
  · cases e
/-! ### -x -/
def negI : D → Option D
  | .int i => some (.int (-i))
  | _ => none
theorem oNeg : UnR X (unaryOp .USub) (rD1 X.K negI) := UnR.imp un_neg fun x H Q ⟨M, fo, fv, dx, d, R, d1, e, k⟩ => by
  unfold negI at e
  split at e
  · cases e; cases d1; exact ⟨_, rfl, k M H _ (Same.refl _) R (.int _)⟩
  · cases e
/-! ### built-ins -/
def lenD : List D → Option D
  | [.lst ds] => some (.int ds.length)
  | [.tup ds] => some (.int ds.length)
  | [.str z] => if z.length ≤ sizeLine then some (.int z.length) else none
  | [.dic ks _] => some (.int ks.length)
  | _ => none
theorem one_of {K : PySem.W.Frag} {M : Hp} {vs : List V} {d : D} (h : Dvs K M vs [d]) : ∃ v, vs = [v] ∧ Dv K M v d := by
  cases h with
  | cons h t => cases t; exact ⟨_, rfl, h⟩
theorem two_of {K : PySem.W.Frag} {M : Hp} {vs : List V} {d e : D} (h : Dvs K M vs [d, e]) : ∃ v w, vs = [v, w] ∧ Dv K M v d ∧ Dv K M w e := by
  cases h with
  | cons h t =>
    obtain ⟨w, rfl, h'⟩ := one_of t
    exact ⟨_, _, rfl, h, h'⟩
theorem call_lenR : CallR X (.builtin "len") (fun xs H Q => ∃ a kvs, xs = [V.ref a] ∧ Rd H a (.dK kvs) ∧ Q (.int kvs.length) H) := by
  intro pins s σ H xs us Q I r h
  obtain ⟨a, kvs, rfl, ha, q⟩ := h
  rw [Vals.ref1 r]
  exact d_len I ha fun t s' I' => ⟨.int kvs.length, H, I', ⟨t, rfl⟩, q⟩
theorem cLen : CallR X (.builtin "len") (rDs X.K lenD) := CallR.imp ((call_len_seq.or call_len_str).or call_lenR) fun xs H Q ⟨M, fo, fv, ds, d, R, dv, e, k⟩ => by
  unfold lenD at e
  split at e
  · obtain ⟨v, rfl, dw⟩ := one_of dv; clear dv
    cases e
    cases dw with
    | lst h hs => exact .inl (.inl ⟨_, _, rfl, .inl (seqX R.same h), by rw [hs.length]; exact k M H _ (Same.refl _) R (.int _)⟩)
  · obtain ⟨v, rfl, dw⟩ := one_of dv; clear dv
    cases e
    cases dw with
    | tup h hs => exact .inl (.inl ⟨_, _, rfl, .inr (sqT_same R.same h), by rw [hs.length]; exact k M H _ (Same.refl _) R (.int _)⟩)
  · obtain ⟨v, rfl, dw⟩ := one_of dv; clear dv
    split at e
    · cases e
      cases dw
      exact .inl (.inr ⟨_, rfl, by assumption, k M H _ (Same.refl _) R (.int _)⟩)
    · cases e
  · obtain ⟨v, rfl, dw⟩ := one_of dv; clear dv
    cases e
    cases dw with
    | dic h hk hs =>
      refine .inr ⟨_, _, rfl, Rd.up R.same h, ?_⟩
      have := k M H _ (Same.refl _) R (.int _)
      rw [← hk, List.length_map] at this
      exact this
  · cases e
def intD : List D → Option D
  | [.int i] => some (.int i)
  | [.bl b] => some (.int (if b then 1 else 0))
  | _ => none
theorem cInt : CallR X (.type "int") (rDs X.K intD) := CallR.imp call_int1 fun xs H Q ⟨M, fo, fv, ds, d, R, dv, e, k⟩ => by
  unfold intD at e
  split at e
  · obtain ⟨v, rfl, dw⟩ := one_of dv; clear dv
    cases e; cases dw
    exact .inl ⟨_, rfl, k M H _ (Same.refl _) R (.int _)⟩
  · obtain ⟨v, rfl, dw⟩ := one_of dv; clear dv
    cases e; cases dw
    exact .inr ⟨_, rfl, k M H _ (Same.refl _) R (.int _)⟩
  · cases e
def max2 : List D → Option D
  | [.int i, .int j] => some (.int (if j > i then j else i))
  | _ => none
def min2 : List D → Option D
  | [.int i, .int j] => some (.int (if j < i then j else i))
  | _ => none
theorem cMax2 (hc : X.calm = true) : CallR X (.builtin "max") (rDs X.K max2) := CallR.imp (call_max2 hc) fun xs H Q ⟨M, fo, fv, ds, d, R, dv, e, k⟩ => by
  unfold max2 at e
  split at e
  · obtain ⟨v, w, rfl, d1, d2⟩ := two_of dv
    cases e; cases d1; cases d2
    exact ⟨_, _, rfl, k M H _ (Same.refl _) R (.int _)⟩
  · cases e
theorem cMin2 (hc : X.calm = true) : CallR X (.builtin "min") (rDs X.K min2) := CallR.imp (call_min2 hc) fun xs H Q ⟨M, fo, fv, ds, d, R, dv, e, k⟩ => by
  unfold min2 at e
  split at e
  · obtain ⟨v, w, rfl, d1, d2⟩ := two_of dv
    cases e; cases d1; cases d2
    exact ⟨_, _, rfl, k M H _ (Same.refl _) R (.int _)⟩
  · cases e
/-- a list of bools -/
def bls : List D → Option (List Bool)
  | [] => some []
  | .bl b :: r => (bls r).map (b :: ·)
  | _ => none
theorem bls_some : ∀ {ds : List D} {bs : List Bool}, bls ds = some bs → ds = bs.map .bl
  | [], _, e => by cases e; rfl
  | .bl b :: r, bs, e => by
    unfold bls at e
    cases q : bls r with
    | none => rw [q] at e; cases e
    | some cs => rw [q] at e; cases e; rw [bls_some q]; rfl
  | .non :: _, _, e => by cases e
  | .int _ :: _, _, e => by cases e
  | .str _ :: _, _, e => by cases e
  | .lst _ :: _, _, e => by cases e
  | .tup _ :: _, _, e => by cases e
  | .dic _ _ :: _, _, e => by cases e
  | .obj _ _ _ :: _, _, e => by cases e
  | .exn _ _ _ _ _ :: _, _, e => by cases e
theorem bls_map : ∀ bs : List Bool, bls (bs.map .bl) = some bs
  | [] => rfl
  | b :: r => by
    show (bls (r.map .bl)).map (b :: ·) = _
    rw [bls_map r]; rfl
def allD : List D → Option D
  | [.lst ds] => (bls ds).map fun bs => .bl (bs.all id)
  | _ => none
def anyD : List D → Option D
  | [.lst ds] => (bls ds).map fun bs => .bl (bs.any id)
  | _ => none
theorem dvs_bls {K : PySem.W.Frag} {M : Hp} : ∀ {vs : List V} {bs : List Bool}, Dvs K M vs (bs.map .bl) → vs = bs.map .bl
  | _, [], .nil => rfl
  | _, b :: r, .cons h t => by cases h; rw [dvs_bls t]; rfl
theorem dvs_ints {K : PySem.W.Frag} {M : Hp} : ∀ {vs : List V} {ns : List Int}, Dvs K M vs (ns.map .int) → vs = ns.map .int
  | _, [], .nil => rfl
  | _, b :: r, .cons h t => by cases h; rw [dvs_ints t]; rfl
theorem dvs_strs {K : PySem.W.Frag} {M : Hp} : ∀ {vs : List V} {ns : List Str}, Dvs K M vs (ns.map .str) → vs = ns.map .str
  | _, [], .nil => rfl
  | _, b :: r, .cons h t => by cases h; rw [dvs_strs t]; rfl
theorem strs_dvs {K : PySem.W.Frag} {M : Hp} : ∀ ns : List Str, Dvs K M (ns.map .str) (ns.map .str)
  | [] => .nil
  | _ :: r => .cons (.str _) (strs_dvs r)
theorem ints_dvs {K : PySem.W.Frag} {M : Hp} : ∀ ns : List Int, Dvs K M (ns.map .int) (ns.map .int)
  | [] => .nil
  | _ :: r => .cons (.int _) (ints_dvs r)
theorem cAll (hc : X.calm = true) : CallR X (.builtin "all") (rDs X.K allD) := CallR.imp (cr_all hc) fun xs H Q ⟨M, fo, fv, ds, d, R, dv, e, k⟩ => by
  unfold allD at e
  split at e
  · rename_i ds'
    obtain ⟨v, rfl, dw⟩ := one_of dv; clear dv
    cases q : bls ds' with
    | none => rw [q] at e; cases e
    | some bs =>
      rw [q] at e
      cases e
      have := bls_some q
      subst this
      cases dw with
      | lst h hs =>
        have := dvs_bls hs
        subst this
        exact ⟨_, bs, rfl, seqX R.same h, k M H _ (Same.refl _) R (.bl _)⟩
  · cases e
theorem cAny (hc : X.calm = true) : CallR X (.builtin "any") (rDs X.K anyD) := CallR.imp (cr_any hc) fun xs H Q ⟨M, fo, fv, ds, d, R, dv, e, k⟩ => by
  unfold anyD at e
  split at e
  · rename_i ds'
    obtain ⟨v, rfl, dw⟩ := one_of dv; clear dv
    cases q : bls ds' with
    | none => rw [q] at e; cases e
    | some bs =>
      rw [q] at e
      cases e
      have := bls_some q
      subst this
      cases dw with
      | lst h hs =>
        have := dvs_bls hs
        subst this
        exact ⟨_, bs, rfl, seqX R.same h, k M H _ (Same.refl _) R (.bl _)⟩
  · cases e
/-! ### items and slices -/
def ixD (x y : D) : Option D := match x, y with
  | .lst ds, .int i => atI ds i
  | .tup ds, .int i => atI ds i
  | .str z, .int i => if z.length ≤ sizeLine then (atI z.cps.toList i).map fun c => .str ⟨#[c]⟩ else none
  | _, _ => none
theorem atI_dvs {K : PySem.W.Frag} {M : Hp} {vs : List V} {ds : List D} {i : Int} {d : D} (h : Dvs K M vs ds) (e : atI ds i = some d) : ∃ v, atI vs i = some v ∧ Dv K M v d := by
  unfold atI at e ⊢
  rw [h.length]
  cases q : ixN ds.length i with
  | none => rw [q] at e; cases e
  | some j => rw [q, Option.bind_some] at e; obtain ⟨v, e1, e2⟩ := h.get e; exact ⟨v, by rw [Option.bind_some]; exact e1, e2⟩
theorem oIx : IxR X (rD X.K ixD) := IxR.imp ix_seq fun x y H Q ⟨M, fo, fv, dx, dy, d, R, d1, d2, e, k⟩ => by
  unfold ixD at e
  split at e
  · cases d2
    cases d1 with
    | lst h hs =>
      obtain ⟨v, e1, e2⟩ := atI_dvs hs e
      exact .inl ⟨_, _, _, v, rfl, rfl, seqX R.same h, e1, k M H _ (Same.refl _) R e2⟩
  · cases d2
    cases d1 with
    | tup h hs =>
      obtain ⟨v, e1, e2⟩ := atI_dvs hs e
      exact .inr (.inl ⟨_, _, _, v, rfl, rfl, sqT_same R.same h, e1, k M H _ (Same.refl _) R e2⟩)
  · rename_i z i
    cases d2
    cases d1
    split at e
    · cases q : atI z.cps.toList i with
      | none => rw [q] at e; cases e
      | some c =>
        rw [q] at e
        cases e
        exact .inr (.inr ⟨z, i, c, rfl, rfl, by assumption, q, k M H _ (Same.refl _) R (.str _)⟩)
    · cases e
  · cases e
/-- the items of xs[lo:hi] -/
def cutD {α : Type} (xs : List α) (lo hi : Option Int) : List α := (xs.drop (HT.sIx xs.length 0 lo)).take (HT.sIx xs.length xs.length hi - HT.sIx xs.length 0 lo)
def slD (x : D) (lo hi : Option Int) : Option D := match x with
  | .lst ds => some (.lst (cutD ds lo hi))
  | .str z => if z.length ≤ sizeLine then some (.str (cutS z lo hi)) else none
  | .tup ds => if HT.sIx ds.length 0 lo = 0 ∧ HT.sIx ds.length ds.length hi = ds.length then none else some (.tup (cutD ds lo hi))
  | _ => none
theorem cut_dvs {K : PySem.W.Frag} {M : Hp} {vs : List V} {ds : List D} {lo hi : Option Int} (h : Dvs K M vs ds) : Dvs K M (cutV vs lo hi) (cutD ds lo hi) := by
  unfold cutV cutD
  rw [h.length]
  exact (h.drop _).take _
def rDsl (K : PySem.W.Frag) (g : D → Option Int → Option Int → Option D) : V → Option Int → Option Int → Hp → VK → Prop := fun x lo hi H Q => ∃ M fo fv dx d, Rep K M H fo fv ∧ Dv K M x dx ∧ g dx lo hi = some d ∧
  ∀ M' H' v, Same M M' → Rep K M' H' fo fv → Dv K M' v d → Q v H'
theorem oSl : SlR X (rDsl X.K slD) := SlR.imp (sl_list.or (sl_str.or sl_tup)) fun x lo hi H Q ⟨M, fo, fv, dx, d, R, d1, e, k⟩ => by
  unfold slD at e
  split at e
  · cases e
    cases d1 with
    | lst h hs =>
      refine .inl ⟨_, _, rfl, seqX R.same h, fun p hp => ?_⟩
      have s := fun u => same_updM (u := u) (R.same.free hp)
      exact k _ _ _ (s _) (R.growM hp) (.lst (.inl (.inl upd_same)) ((cut_dvs hs).mono (s _)))
  · split at e
    · cases e
      cases d1
      exact .inr (.inl ⟨_, rfl, by assumption, k M H _ (Same.refl _) R (.str _)⟩)
    · cases e
  · split at e
    · cases e
    · rename_i hw
      cases e
      cases d1 with
      | tup h hs =>
        refine .inr (.inr ⟨_, _, rfl, sqT_same R.same h, by rw [hs.length]; exact hw, fun p hp => ?_⟩)
        have s := fun u => same_updM (u := u) (R.same.free hp)
        exact k _ _ _ (s _) (R.growM hp) (.tup (.inl (.inl upd_same)) ((cut_dvs hs).mono (s _)))
  · cases e
/-- a slice's part -/
def tPo (K : PySem.W.Frag) (f : Ev → Option (Option Int)) : TO := fun σ H Q => ∃ M ρ fo fv d, Rep K M H (ρ ++ fo) (σ ++ fv) ∧ σ.length = ρ.length ∧ f ρ = some d ∧ ∀ M' H', Same M M' → Rep K M' H' (ρ ++ fo) (σ ++ fv) → Q d H'
def noPart (_ : Ev) : Option (Option Int) := some none
def part (f : Ev → Option D) (ρ : Ev) : Option (Option Int) := match f ρ with
  | some (.int i) => some (some i)
  | _ => none
theorem poNone : PO X none (tPo X.K noPart) := ⟨fun p s σ H Q I ⟨M, ρ, fo, fv, d, R, l, e, k⟩ => by
  cases e
  exact po_none.run p s σ H Q I (k M H (Same.refl _) R)⟩
theorem poSome {e : Expr} {f : Ev → Option D} (h : PE X e (tP X.K f)) : PO X (some e) (tPo X.K (part f)) := ⟨fun p s σ H Q I ⟨M, ρ, fo, fv, d, R, l, e, k⟩ => by
  unfold part at e
  split at e
  · rename_i i q
    cases e
    exact (po_some h).run p s σ H Q I ⟨M, ρ, fo, fv, _, R, l, q, fun M1 H1 v s1 R1 d1 => by cases d1; exact ⟨i, rfl, k M1 H1 s1 R1⟩⟩
  · cases e⟩
def slc (f : Ev → Option D) (lo hi : Ev → Option (Option Int)) (ρ : Ev) : Option D := (f ρ).bind fun x => (lo ρ).bind fun a => (hi ρ).bind fun b => slD x a b
theorem pSl {e : Expr} {lo hi : Option Expr} {p2 pos : Pos} {f : Ev → Option D} {fl fh : Ev → Option (Option Int)} (he : PE X e (tP X.K f)) (hl : PO X lo (tPo X.K fl)) (hh : PO X hi (tPo X.K fh)) : PE X (.Subscript e (.Slice lo hi none p2) pos) (tP X.K (slc f fl fh)) :=
  PE.imp (pe_slice oSl he hl hh) fun σ H Q ⟨M, ρ, fo, fv, d, R, l, e, k⟩ => by
    unfold slc at e
    cases q1 : f ρ with
    | none => rw [q1] at e; cases e
    | some x =>
      cases q2 : fl ρ with
      | none => rw [q1, Option.bind_some, q2] at e; cases e
      | some a =>
        cases q3 : fh ρ with
        | none => rw [q1, Option.bind_some, q2, Option.bind_some, q3] at e; cases e
        | some b =>
          rw [q1, Option.bind_some, q2, Option.bind_some, q3, Option.bind_some] at e
          exact ⟨M, ρ, fo, fv, x, R, l, q1, fun M1 H1 v1 s1 R1 d1 => ⟨M1, ρ, fo, fv, a, R1, l, q2, fun M2 H2 s2 R2 => ⟨M2, ρ, fo, fv, b, R2, l, q3, fun M3 H3 s3 R3 =>
            ⟨M3, ρ ++ fo, σ ++ fv, x, d, R3, d1.mono (s2.trans s3), e, fun M4 H4 v s4 R4 d4 => k M4 H4 v (s1.trans (s2.trans (s3.trans s4))) R4 d4⟩⟩⟩⟩
/-! ### methods of texts -/
def rDm (K : PySem.W.Frag) (g : D → List D → Option D) : V → List V → Hp → VK → Prop := fun x xs H Q => ∃ M fo fv dx ds d, Rep K M H fo fv ∧ Dv K M x dx ∧ Dvs K M xs ds ∧ g dx ds = some d ∧
  ∀ M' H' v, Same M M' → Rep K M' H' fo fv → Dv K M' v d → Q v H'
def m1 (f g : Ev → Option D) (h : D → List D → Option D) (ρ : Ev) : Option D := match f ρ with
  | some (.str z) => (g ρ).bind fun y => h (.str z) [y]
  | _ => none
theorem tM1_of {K : PySem.W.Frag} {f g : Ev → Option D} {h : D → List D → Option D} {σ : L2.St} {H : Hp} {Q : VK} (hh : tP K (m1 f g h) σ H Q) : tM1 (rDm K h) (tP K f) (tP K g) σ H Q := by
  obtain ⟨M, ρ, fo, fv, d, R, l, e, k⟩ := hh
  unfold m1 at e
  split at e
  · rename_i z q
    cases q2 : g ρ with
    | none => rw [q2] at e; cases e
    | some y =>
      rw [q2, Option.bind_some] at e
      exact ⟨M, ρ, fo, fv, _, R, l, q, fun M1 H1 v1 s1 R1 d1 => by
        cases d1
        exact ⟨⟨z, rfl⟩, M1, ρ, fo, fv, y, R1, l, q2, fun M2 H2 v2 s2 R2 d2 => ⟨M2, ρ ++ fo, σ ++ fv, _, _, d, R2, .str z, .cons d2 .nil, e, fun M3 H3 v s3 R3 d3 => k M3 H3 v (s1.trans (s2.trans s3)) R3 d3⟩⟩⟩
  · cases e
def splitD (x : D) (ys : List D) : Option D := match x, ys with
  | .str a, [.str b] => if (b.length == 0) = false ∧ a.length + 2 ≤ sizeLine then some (.lst ((Txt.split a b).map .str)) else none
  | _, _ => none
theorem mSplit : MtR X "str.split" (rDm X.K splitD) := MtR.imp mt_split fun x xs H Q ⟨M, fo, fv, dx, ds, d, R, d1, d2, e, k⟩ => by
  unfold splitD at e
  split at e
  · rename_i a b
    split at e
    · rename_i hc
      cases e
      cases d1
      obtain ⟨w, rfl, dw⟩ := one_of d2; clear d2
      cases dw
      refine ⟨a, b, rfl, rfl, hc.1, hc.2, fun p hp => ?_⟩
      have s := same_updM (u := .lst ((Txt.split a b).map V.str)) (R.same.free hp)
      exact k _ _ _ s (R.growM hp) (.lst (.inl (.inl upd_same)) (strs_dvs _))
    · cases e
  · cases e
/-- a list of texts -/
def strsD : List D → Option (List Str)
  | [] => some []
  | .str b :: r => (strsD r).map (b :: ·)
  | _ => none
theorem strs_some : ∀ {ds : List D} {bs : List Str}, strsD ds = some bs → ds = bs.map .str
  | [], _, e => by cases e; rfl
  | .str b :: r, bs, e => by
    unfold strsD at e
    cases q : strsD r with
    | none => rw [q] at e; cases e
    | some cs => rw [q] at e; cases e; rw [strs_some q]; rfl
  | .non :: _, _, e => by cases e
  | .int _ :: _, _, e => by cases e
  | .bl _ :: _, _, e => by cases e
  | .lst _ :: _, _, e => by cases e
  | .tup _ :: _, _, e => by cases e
  | .dic _ _ :: _, _, e => by cases e
  | .obj _ _ _ :: _, _, e => by cases e
  | .exn _ _ _ _ _ :: _, _, e => by cases e
theorem strs_map : ∀ bs : List Str, strsD (bs.map .str) = some bs
  | [] => rfl
  | b :: r => by
    show (strsD (r.map .str)).map (b :: ·) = _
    rw [strs_map r]; rfl
def joinD (x : D) (ys : List D) : Option D := match x, ys with
  | .str a, [.lst ds] => (strsD ds).bind fun zs => if (zs.map (·.length)).sum + zs.length * a.length ≤ 16777216 then some (.str (Txt.join a zs)) else none
  | .str a, [.tup ds] => (strsD ds).bind fun zs => if (zs.map (·.length)).sum + zs.length * a.length ≤ 16777216 then some (.str (Txt.join a zs)) else none
  | _, _ => none
theorem mJoin : MtR X "str.join" (rDm X.K joinD) := MtR.imp mt_join fun x xs H Q ⟨M, fo, fv, dx, ds, d, R, d1, d2, e, k⟩ => by
  unfold joinD at e
  split at e
  · rename_i a ds'
    cases q : strsD ds' with
    | none => rw [q] at e; cases e
    | some zs =>
      rw [q, Option.bind_some] at e
      split at e
      · cases e
        have := strs_some q
        subst this
        cases d1
        obtain ⟨w, rfl, dw⟩ := one_of d2; clear d2
        cases dw with
        | lst h hs =>
          have := dvs_strs hs
          subst this
          exact ⟨a, _, zs, rfl, rfl, .inl (seqX R.same h), by assumption, k M H _ (Same.refl _) R (.str _)⟩
      · cases e
  · rename_i a ds'
    cases q : strsD ds' with
    | none => rw [q] at e; cases e
    | some zs =>
      rw [q, Option.bind_some] at e
      split at e
      · cases e
        have := strs_some q
        subst this
        cases d1
        obtain ⟨w, rfl, dw⟩ := one_of d2; clear d2
        cases dw with
        | tup h hs =>
          have := dvs_strs hs
          subst this
          exact ⟨a, _, zs, rfl, rfl, .inr (sqT_same R.same h), by assumption, k M H _ (Same.refl _) R (.str _)⟩
      · cases e
  · cases e
theorem pM1 {id : String} {name : Str} {o e : Expr} {apos pos : Pos} {f g : Ev → Option D} {h : D → List D → Option D} (slot : Slot "str" name id) (ty : typeOf (.builtin id) = pure (.type "method_descriptor")) (rule : MtR X id (rDm X.K h)) (ho : PE X o (tP X.K f)) (he : PE X e (tP X.K g))
    (hs : starEach [e] X.env = [(false, eval e X.env)] := by rfl) (hbase : attributeBase o name X.env (eval o X.env) = eval o X.env := by rfl) (hline : (apos.endLine == pos.line) = true := by rfl) : PE X (.Call (.Attribute o name apos) [e] [] pos) (tP X.K (m1 f g h)) :=
  PE.imp (pe_m1 slot ty rule ho he hs hbase hline) fun _ _ _ h => tM1_of h
theorem pSplit {o e : Expr} {apos pos : Pos} {f g : Ev → Option D} (ho : PE X o (tP X.K f)) (he : PE X e (tP X.K g)) (hs : starEach [e] X.env = [(false, eval e X.env)] := by rfl) (hbase : attributeBase o "split" X.env (eval o X.env) = eval o X.env := by rfl) (hline : (apos.endLine == pos.line) = true := by rfl) :
    PE X (.Call (.Attribute o "split" apos) [e] [] pos) (tP X.K (m1 f g splitD)) := pM1 F.slot_str_split F.type_str_split mSplit ho he hs hbase hline
theorem pJoin {o e : Expr} {apos pos : Pos} {f g : Ev → Option D} (ho : PE X o (tP X.K f)) (he : PE X e (tP X.K g)) (hs : starEach [e] X.env = [(false, eval e X.env)] := by rfl) (hbase : attributeBase o "join" X.env (eval o X.env) = eval o X.env := by rfl) (hline : (apos.endLine == pos.line) = true := by rfl) :
    PE X (.Call (.Attribute o "join" apos) [e] [] pos) (tP X.K (m1 f g joinD)) := pM1 F.slot_str_join F.type_str_join mJoin ho he hs hbase hline
/-! ### isinstance(x, T), T a built-in type -/
def tyD : D → Option String
  | .non => some "NoneType"
  | .bl _ => some "bool"
  | .int _ => some "int"
  | .str _ => some "str"
  | .lst _ => some "list"
  | .tup _ => some "tuple"
  | .dic _ _ => some "dict"
  | _ => none
def isiD (T : String) (x : D) : Option D := (tyD x).bind fun t => (kitB t T).map .bl
theorem tyX_of {K : PySem.W.Frag} {M : Hp} {v : V} {d : D} {t : String} (h : Dv K M v d) (e : tyD d = some t) : TyX K M v (.type t) := by
  cases h with
  | non => cases e; exact .base .non
  | bl b => cases e; exact .base (.bl b)
  | int b => cases e; exact .base (.int b)
  | str b => cases e; exact .base (.str b)
  | lst h hs =>
    cases e
    rcases h with (h | ⟨o, h⟩) | ⟨its, n, lk, _⟩
    · exact .base (.lst h)
    · exact .base (.frz h)
    · exact .kList lk rfl
  | tup h hs =>
    cases e
    rcases h with (h | ⟨o, h⟩) | ⟨o, its, n, lk, c, _⟩
    · exact .base (.tup h)
    · exact .fTuple h
    · exact .kTuple lk c
  | dic h _ _ =>
    cases e
    rcases h with h | ⟨o, h⟩
    · exact .base (.dK h)
    · exact .fDict h
  | obj _ _ _ _ => cases e
  | exn0 => cases e
  | exn1 _ _ _ => cases e
  | tagM _ _ => cases e
  | tagP _ _ => cases e
theorem tyX_mono {K : PySem.W.Frag} {M H : Hp} {v : V} {t : Value} (s : Same M H) (h : TyX K M v t) : TyX K H v t := by
  cases h with
  | base b =>
    cases b with
    | non => exact .base .non
    | bl b => exact .base (.bl b)
    | int b => exact .base (.int b)
    | str b => exact .base (.str b)
    | flt b => exact .base (.flt b)
    | lst e => exact .base (.lst (s _ _ e))
    | frz e => exact .base (.frz (s _ _ e))
    | tup e => exact .base (.tup (s _ _ e))
    | dK e => exact .base (.dK (s _ _ e))
    | dT e => exact .base (.dT (s _ _ e))
    | ins e cl ha hn htk hm => exact .base (.ins (s _ _ e) cl ha hn htk hm)
  | byt b => exact .byt b
  | set e => exact .set (s _ _ e)
  | kList e c => exact .kList e c
  | kTuple e c => exact .kTuple e c
  | kDict e c => exact .kDict e c
  | fTuple e => exact .fTuple (s _ _ e)
  | fDict e => exact .fDict (s _ _ e)
theorem pIsi {a : Expr} {p q pos : Pos} {fa : Ev → Option D} {T : String} {y : Str} (ha : PE X a (tP X.K fa)) (hm : X.mg "isinstance" = none) (hmT : X.mg y = none) (hv : bootBuiltins y = some (.type T) := by decide +kernel) (hg : Gl X "isinstance" := by rfl) (hgT : Gl X y := by rfl)
    (hn : y ≠ "__name__" := by decide) (hd : (y == ("__debug__" : Str)) = false := by decide)
    (hs : starEach [a, .Name y q] X.env = (false, eval a X.env) :: starEach [.Name y q] X.env := by rfl) (hs2 : starEach [.Name y q] X.env = (false, eval (.Name y q) X.env) :: starEach [] X.env := by rfl) (hpl : (backTo pos (starEach [.Name y q] X.env)).any (·.1) = false := by rfl) :
    PE X (.Call (.Name "isinstance" p) [a, .Name y q] [] pos) (tP X.K (b1 fa (isiD T))) :=
  PE.imp (pe_callB call_isi hg hm (by decide +kernel) (pa_cons ha (pa_cons (pe_bltn (v := .ty T) hgT hmT hv rfl hn hd) pa_nil hs2) hs) (by decide) (by decide) hs hpl) fun σ H Q ⟨M, ρ, fo, fv, d, R, l, e, k⟩ => by
    obtain ⟨x, ea, eg⟩ := b1_some e
    unfold isiD at eg
    cases q1 : tyD x with
    | none => rw [q1] at eg; cases eg
    | some t =>
      rw [q1, Option.bind_some] at eg
      cases q2 : kitB t T with
      | none => rw [q2] at eg; cases eg
      | some b =>
        rw [q2] at eg
        cases eg
        exact ⟨M, ρ, fo, fv, x, R, l, ea, fun M1 H1 v1 s1 R1 d1 => ⟨v1, .ty T, .type t, .type T, b, rfl, .ty T, tyX_mono R1.same (tyX_of d1 q1), kit_ty q2, k M1 H1 _ s1 R1 (.bl _)⟩⟩
/-- y = [..] on one line, y is not changed later -/
theorem setD_of {K : PySem.W.Frag} {W : WX} {J : List Nat} {i : Nat} {f : Ev → Option O} {E : Ends} {σ : L2.St} {H : Hp} (hJ : i ∉ J) (h : tS K W J (stV i (frz f)) E σ H) : tAsg (tO K f) (gName i) E σ H := by
  obtain ⟨M, ρ, fo, fv, r, σ0, R, l, e, k⟩ := h
  unfold stV frz at e
  cases q : f ρ with
  | none => rw [q] at e; cases e
  | some o =>
    rw [q, Option.bind_some] at e
    cases q2 : o.toD with
    | none => rw [q2] at e; cases e
    | some d =>
      rw [q2] at e
      cases e
      refine ⟨M, ρ, fo, fv, o, R, l.1, q, fun M1 H1 v s1 R1 => ?_⟩
      obtain ⟨M2, s2, R2, d2⟩ := R1.frz l.1 rfl q2
      exact k M2 H1 _ (s1.trans s2) ((R2.drop l.1).setD l.1 d2) (l.set hJ _ _)
theorem sLcD {W : WX} {J : List Nat} {i : Nat} {y : Str} {py spos pos : Pos} {tg iter elt : Expr} {ifs : List Expr} {scope : Scope} {fi : Ev → Option (List D)} {is kn : List Nat} {g : D → Ev → Option Ev} {t : Ev → Option Bool} {f : Ev → Option D} (own : List (Str × Nat)) (hc : X.calm = true) (hN : X.N.Nodup) (hi : PI X tg iter (tI X.K kn fi)) (bo : BlkOk X.N X.env.scope scope own)
    (hg : ∀ (s : Shared) (H : Hp) (C : Addr) (cl : List (Str × Addr)) (fp : List Addr), PG (X.blk s H scope (compEnvC scope cl C X.env) fp) tg (tG X.K is g)) (ht : ∀ (s : Shared) (H : Hp) (C : Addr) (cl : List (Str × Addr)) (fp : List Addr), PTs (X.blk s H scope (compEnvC scope cl C X.env) fp) ifs (tT X.K t))
    (he : ∀ (s : Shared) (H : Hp) (C : Addr) (cl : List (Str × Addr)) (fp : List Addr), PE (X.blk s H scope (compEnvC scope cl C X.env) fp) elt (tP X.K f)) (ok : TgOk is g) (hJ : i ∉ J := by decide) (hy : X.N[i]? = some y := by rfl) (hyl : X.env.scope.names.lookup y = some .local := by rfl)
    (hsw : swapsWith (.ListComp elt [⟨tg, iter, ifs, 0⟩] scope pos) (some (.Name y py)) spos.line X.env = pure true := by exact sw_true rfl rfl rfl (by decide +kernel)) (hv : ∀ i ∈ is, i ∈ own.map (·.2) := by decide) (hkn : ∀ ρ ds, fi ρ = some ds → ∀ k ∈ kn, k < ρ.length := by intro _ _ _ _ hk; cases hk) (hkv : ∀ k ∈ kn, k ∉ own.map (·.2) := by decide) (hs : ∀ x, foldedSetIterable iter X.env x = pure x := by intro _; rfl) :
    PS X (.Assign [.Name y py] (.ListComp elt [⟨tg, iter, ifs, 0⟩] scope pos) spos) (tS X.K W J (stV i (lcD fi g t f (own.map (·.2))))) := by
  have h := PS.imp (PS.imp (ps_setLc (i := i) (py := py) (pos := pos) (spos := spos) hc hN hy hyl hsw hi bo hg ht he hs) fun E σ H h => lc_of (f := f) (Q := fun x H1 => gName i x σ H1 E.nx) ok hv hkn hkv h) fun E σ H (h : tS X.K W J (stV i (frz (lcO fi g t f (own.map (·.2))))) E σ H) => setD_of hJ h
  rw [show frz (lcO fi g t f (own.map (·.2))) = lcD fi g t f (own.map (·.2)) from funext fun ρ => lcD_eq ρ _] at h
  exact h
end
/-- how a def binds when all its arguments come by name, in order -/
theorem kbn_of {K : PySem.W.Frag} {x qual : Str} {st : Stmt} {f : Addr} {fd : FuncData} {ps : List Str} (F : Fun K x qual st f fd)
    (h : ∀ (kV doc pm : Value) (an : Option Addr) (cdv ct : Value) (ws : List Value), ws.length = ps.length → bindArgs (PySem.W.fnOf x qual (defArgs st) (defBody st) (defScope st) .none kV doc pm an cdv ct) ⟨[], ps.zip ws⟩ = pure (ps.zip ws)) :
    KBn K fd ps 0 ps (fun us ws => us ++ ws) (fun vs zs => vs ++ zs) := by
  obtain ⟨oc, od, kV, doc, pm, an, cdv, ct, osl, rfl, lk, hcd⟩ := F.ex
  refine ⟨fun s us ws X h1 h2 => ?_, fun r1 r2 => r1.append r2⟩
  obtain rfl := List.length_eq_zero_iff.mp h1
  exact .of_eq (h kV doc pm an cdv ct ws h2)
end PD

namespace PD
open PySem PySem.Spec L2

/-! ### reckoning with mirrors -/
theorem loop_inv {g : D → Ev → Option Ev} {b : Ev → Option Fl} (I : Nat → Ev → Prop) : ∀ (ds : List D) (ρ : Ev) (n : Nat), I n ρ →
    (∀ i d ρ, ds[i]? = some d → I (n + i) ρ → ∃ ρ1 ρ2, g d ρ = some ρ1 ∧ (b ρ1 = some (.nx ρ2) ∨ b ρ1 = some (.ct ρ2)) ∧ I (n + i + 1) ρ2) → ∃ ρ', loop g b ds ρ = some (.nx ρ') ∧ I (n + ds.length) ρ'
  | [], ρ, n, h0, _ => ⟨ρ, rfl, h0⟩
  | d :: ds, ρ, n, h0, hs => by
    obtain ⟨ρ1, ρ2, e1, e2, h2⟩ := hs 0 d ρ rfl h0
    obtain ⟨ρ', e3, h3⟩ := loop_inv I ds ρ2 (n + 1) h2 (fun i d' ρ' e h => by
      have := hs (i + 1) d' ρ' (by simpa using e) (by rw [show n + (i + 1) = n + 1 + i by omega]; exact h)
      rw [show n + (i + 1) + 1 = n + 1 + i + 1 by omega] at this
      exact this)
    refine ⟨ρ', ?_, by rw [List.length_cons, show n + (ds.length + 1) = n + 1 + ds.length by omega]; exact h3⟩
    unfold loop
    rw [e1, Option.bind_some]
    rcases e2 with e2 | e2 <;> (rw [e2, Option.bind_some]; exact e3)
/-- a loop from the start -/
theorem loop_inv0 {g : D → Ev → Option Ev} {b : Ev → Option Fl} (I : Nat → Ev → Prop) (ds : List D) (ρ : Ev) (h0 : I 0 ρ)
    (hs : ∀ i d ρ, ds[i]? = some d → I i ρ → ∃ ρ1 ρ2, g d ρ = some ρ1 ∧ (b ρ1 = some (.nx ρ2) ∨ b ρ1 = some (.ct ρ2)) ∧ I (i + 1) ρ2) : ∃ ρ', loop g b ds ρ = some (.nx ρ') ∧ I ds.length ρ' := by
  obtain ⟨ρ', e, h⟩ := loop_inv I ds ρ 0 h0 (fun i d ρ e h => by rw [Nat.zero_add] at h ⊢; exact hs i d ρ e h)
  exact ⟨ρ', e, by rw [Nat.zero_add] at h; exact h⟩
/-- a loop that may leave by a return -/
theorem loop_ret {g : D → Ev → Option Ev} {b : Ev → Option Fl} (I : Nat → Ev → Prop) (R : O → Prop) : ∀ (ds : List D) (ρ : Ev) (n : Nat), I n ρ →
    (∀ i d ρ, ds[i]? = some d → I (n + i) ρ → ∃ ρ1, g d ρ = some ρ1 ∧ ((∃ ρ2, (b ρ1 = some (.nx ρ2) ∨ b ρ1 = some (.ct ρ2)) ∧ I (n + i + 1) ρ2) ∨ ∃ o ρ2, b ρ1 = some (.rt o ρ2) ∧ R o)) →
    (∃ ρ', loop g b ds ρ = some (.nx ρ') ∧ I (n + ds.length) ρ') ∨ ∃ o ρ', loop g b ds ρ = some (.rt o ρ') ∧ R o
  | [], ρ, n, h0, _ => .inl ⟨ρ, rfl, h0⟩
  | d :: ds, ρ, n, h0, hs => by
    obtain ⟨ρ1, e1, h⟩ := hs 0 d ρ rfl h0
    rcases h with ⟨ρ2, e2, h2⟩ | ⟨o, ρ2, e2, h2⟩
    · have ih := loop_ret I R ds ρ2 (n + 1) h2 (fun i d' ρ' e h => by
        have := hs (i + 1) d' ρ' (by simpa using e) (by rw [show n + (i + 1) = n + 1 + i by omega]; exact h)
        rw [show n + (i + 1) + 1 = n + 1 + i + 1 by omega] at this
        exact this)
      have el : loop g b (d :: ds) ρ = loop g b ds ρ2 := by
        conv => lhs; unfold loop
        rw [e1, Option.bind_some]
        rcases e2 with e2 | e2 <;> (rw [e2, Option.bind_some])
      rw [el, List.length_cons, show n + (ds.length + 1) = n + 1 + ds.length by omega]
      exact ih
    · refine .inr ⟨o, ρ2, ?_, h2⟩
      unfold loop
      rw [e1, Option.bind_some, e2, Option.bind_some]
theorem comp_map {g : D → Ev → Option Ev} {f : Ev → Option D} {ρ : Ev} {e : D → Ev} {h : D → D} : ∀ (ds : List D), (∀ d ∈ ds, g d ρ = some (e d) ∧ f (e d) = some (h d)) → comp g yes f ρ ds = some (ds.map h)
  | [], _ => rfl
  | d :: ds, H => by
    obtain ⟨e1, e2⟩ := H d List.mem_cons_self
    unfold comp
    rw [e1, Option.bind_some, show yes (e d) = some true from rfl, Option.bind_some, if_pos rfl, e2, Option.bind_some, comp_map ds fun d' hd => H d' (List.mem_cons_of_mem _ hd)]
    rfl
theorem comp_filter {g : D → Ev → Option Ev} {t : Ev → Option Bool} {f : Ev → Option D} {ρ : Ev} {e : D → Ev} {p : D → Bool} {h : D → D} : ∀ (ds : List D), (∀ d ∈ ds, g d ρ = some (e d) ∧ t (e d) = some (p d) ∧ (p d = true → f (e d) = some (h d))) → comp g t f ρ ds = some ((ds.filter p).map h)
  | [], _ => rfl
  | d :: ds, H => by
    obtain ⟨e1, e2, e3⟩ := H d List.mem_cons_self
    have ih := comp_filter ds fun d' hd => H d' (List.mem_cons_of_mem _ hd)
    unfold comp
    rw [e1, Option.bind_some, e2, Option.bind_some]
    cases q : p d with
    | true => rw [if_pos rfl, e3 q, Option.bind_some, ih, List.filter_cons_of_pos q]; rfl
    | false => rw [if_neg Bool.false_ne_true, ih, List.filter_cons_of_neg (by rw [q]; exact Bool.false_ne_true)]
/-- a comprehension with what each item gives, by place -/
theorem comp_ex {g : D → Ev → Option Ev} {f : Ev → Option D} {ρ : Ev} (R : Nat → D → Prop) : ∀ (ds : List D) (n : Nat), (∀ i d, ds[i]? = some d → ∃ ρ1 y, g d ρ = some ρ1 ∧ f ρ1 = some y ∧ R (n + i) y) → ∃ ys, comp g yes f ρ ds = some ys ∧ ys.length = ds.length ∧ ∀ i y, ys[i]? = some y → R (n + i) y
  | [], _, _ => ⟨[], rfl, rfl, fun i y h => by simp at h⟩
  | d :: ds, n, H => by
    obtain ⟨ρ1, y, e1, e2, r⟩ := H 0 d rfl
    obtain ⟨ys, e3, l, a⟩ := comp_ex R ds (n + 1) fun i d' h => by
      have := H (i + 1) d' (by simpa using h)
      rw [show n + (i + 1) = n + 1 + i by omega] at this
      exact this
    refine ⟨y :: ys, ?_, by simp [l], fun i z h => ?_⟩
    · unfold comp
      rw [e1, Option.bind_some, show yes ρ1 = some true from rfl, Option.bind_some, if_pos rfl, e2, Option.bind_some, e3]
      rfl
    · cases i with
      | zero => simp at h; subst h; exact r
      | succ i =>
        rw [show n + (i + 1) = n + 1 + i by omega]
        exact a i z (by simpa using h)

theorem line_big : (1000000 : Nat) ≤ sizeLine := by decide
theorem has_sign (z : Str) (c : Nat) : Txt.has z ⟨#[c]⟩ = decide (c ∈ z.cps.toList) := StrLaws.found_one z c
theorem signs_length (z : Str) : (signs z).length = z.length := by simp [signs, Str.length]
theorem str_len (z : Str) : z.cps.toList.length = z.length := by simp [Str.length]
theorem eq_str (x y : Str) : eqD (.str x) (.str y) = some (.bl (decide (x = y))) := rfl
theorem eq_int (x y : Int) : eqD (.int x) (.int y) = some (.bl (decide (x = y))) := rfl
theorem eq_bl (x y : Bool) : eqD (.bl x) (.bl y) = some (.bl (decide (x = y))) := rfl
theorem ne_str (x y : Str) : neD (.str x) (.str y) = some (.bl (!decide (x = y))) := rfl
theorem ne_int (x y : Int) : neD (.int x) (.int y) = some (.bl (!decide (x = y))) := rfl
theorem ne_bl (x y : Bool) : neD (.bl x) (.bl y) = some (.bl (!decide (x = y))) := rfl
/-! ### a text split at a sign -/
def sp (c : Nat) : List Nat → List (List Nat)
  | [] => [[]]
  | x :: xs => if x = c then [] :: sp c xs else match sp c xs with
    | p :: ps => (x :: p) :: ps
    | [] => [[x]]
theorem sp_ne (c : Nat) : ∀ l : List Nat, ∃ p ps, sp c l = p :: ps
  | [] => ⟨[], [], rfl⟩
  | x :: xs => by
    unfold sp
    by_cases h : x = c
    · rw [if_pos h]; exact ⟨_, _, rfl⟩
    · rw [if_neg h]
      obtain ⟨p, ps, e⟩ := sp_ne c xs
      rw [e]
      exact ⟨_, _, rfl⟩
theorem sp_free {c : Nat} : ∀ {l : List Nat}, c ∉ l → sp c l = [l]
  | [], _ => rfl
  | x :: xs, h => by
    unfold sp
    rw [if_neg fun z => h (by rw [z]; exact List.mem_cons_self), sp_free fun z => h (List.mem_cons_of_mem _ z)]
theorem sp_cut {c : Nat} (r : List Nat) : ∀ {p : List Nat}, c ∉ p → sp c (p ++ c :: r) = p :: sp c r
  | [], _ => by
    show (if c = c then [] :: sp c r else _) = _
    rw [if_pos rfl]
  | x :: p, h => by
    show (if x = c then [] :: sp c (p ++ c :: r) else match sp c (p ++ c :: r) with | q :: qs => (x :: q) :: qs | [] => [[x]]) = _
    rw [if_neg fun z => h (by rw [z]; exact List.mem_cons_self), sp_cut r fun z => h (List.mem_cons_of_mem _ z)]
theorem sub_at (x : Str) (a b : Nat) : (Builtin.Str.strSub x a b).cps.toList = (x.cps.toList.drop a).take (b - a) := StrLaws.strSub_toList x a b
theorem parts_sp (x : Str) (c : Nat) : ∀ (cuts : List Nat) (a f : Nat), StrLaws.ChainG x ⟨#[c]⟩ x.length a cuts f → (∀ k, f ≤ k → ¬ StrLaws.At x ⟨#[c]⟩ x.length k) →
    (StrLaws.partsFrom x 1 a cuts).map (·.cps.toList) = sp c (x.cps.toList.drop a)
  | [], a, f, h, hn => by
    have e : f = a := h
    subst e
    have hf := StrLaws.part_free x c f x.length (Nat.le_refl _) fun k h1 _ => hn k h1
    show [(Builtin.Str.strSub x f x.length).cps.toList] = _
    rw [← sp_free hf, sub_at, List.take_of_length_le (by rw [List.length_drop, str_len]; omega)]
  | d :: r, a, f, h, hn => by
    obtain ⟨h1, h2, h3, h4⟩ := h
    have hd : x.cps.toList[d]? = some c := (StrLaws.subAt_one x c d).mp h2
    have hdl : d < x.cps.toList.length := (List.getElem?_eq_some_iff.mp hd).1
    have hf := StrLaws.part_free x c a d (by rw [str_len] at hdl; omega) h3
    have ih := parts_sp x c r (d + 1) f h4 hn
    show (Builtin.Str.strSub x a d).cps.toList :: (StrLaws.partsFrom x 1 (d + 1) r).map (·.cps.toList) = _
    rw [ih]
    have e : x.cps.toList.drop a = (Builtin.Str.strSub x a d).cps.toList ++ c :: x.cps.toList.drop (d + 1) := by
      rw [sub_at]
      have e1 : x.cps.toList.drop d = c :: x.cps.toList.drop (d + 1) := by
        rw [List.drop_eq_getElem_cons hdl, (List.getElem?_eq_some_iff.mp hd).2]
      have e2 : x.cps.toList.drop d = (x.cps.toList.drop a).drop (d - a) := by rw [List.drop_drop]; congr 1; omega
      rw [← e1, e2, List.take_append_drop]
    rw [e, sp_cut _ hf]
theorem split_sp (t : Str) (c : Nat) : (Txt.split t ⟨#[c]⟩).map (·.cps.toList) = sp c t.cps.toList := by
  have free : c ∉ t.cps.toList → [t.cps.toList] = sp c t.cps.toList := fun h => (sp_free h).symm
  unfold Txt.split
  split
  · rename_i h
    rw [Bool.or_eq_true, decide_eq_true_eq, decide_eq_true_eq] at h
    refine free ?_
    rcases h with h | h
    · have : t.length = 0 := by
        have : (⟨#[c]⟩ : Str).length = 1 := rfl
        omega
      rw [← str_len] at this
      rw [List.length_eq_zero_iff.mp this]
      exact List.not_mem_nil
    · exact StrLaws.kind_free t c h
  · split
    · rename_i h
      refine free ?_
      obtain ⟨f, ch, hn⟩ := StrLaws.occ_tight t ⟨#[c]⟩ (Nat.le_refl 1)
      rw [List.isEmpty_iff.mp h] at ch
      have e : f = 0 := ch
      intro hm
      obtain ⟨j, hj⟩ := List.getElem?_of_mem hm
      exact hn j (by omega) ((StrLaws.subAt_one t c j).mpr hj)
    · obtain ⟨f, ch, hn⟩ := StrLaws.occ_tight t ⟨#[c]⟩ (Nat.le_refl 1)
      rw [StrLaws.partsBetween_eq]
      have := parts_sp t c _ 0 f ch hn
      rw [List.drop_zero] at this
      exact this
def toS (l : List Nat) : Str := ⟨l.toArray⟩
theorem toS_codes (l : List Nat) : (toS l).cps.toList = l := by simp [toS]
theorem codes_toS (t : Str) : toS t.cps.toList = t := by simp [toS]
theorem toS_len (l : List Nat) : (toS l).length = l.length := by simp [toS, Str.length]
theorem split_eq (t : Str) (c : Nat) : Txt.split t ⟨#[c]⟩ = (sp c t.cps.toList).map toS := by
  rw [← split_sp, List.map_map]
  conv => lhs; rw [← List.map_id (Txt.split t ⟨#[c]⟩)]
  apply List.map_congr_left
  intro x _
  exact (codes_toS x).symm
theorem sp_mem_len {c : Nat} : ∀ {l p : List Nat}, p ∈ sp c l → p.length ≤ l.length
  | [], p, h => by
    have : p = [] := by simpa [sp] using h
    subst this
    exact Nat.le_refl _
  | x :: xs, p, h => by
    unfold sp at h
    by_cases e : x = c
    · rw [if_pos e] at h
      rcases List.mem_cons.mp h with rfl | h
      · exact Nat.zero_le _
      · exact Nat.le_succ_of_le (sp_mem_len h)
    · rw [if_neg e] at h
      obtain ⟨q, qs, eq⟩ := sp_ne c xs
      rw [eq] at h
      rcases List.mem_cons.mp h with rfl | h
      · exact Nat.succ_le_succ (sp_mem_len (c := c) (by rw [eq]; exact List.mem_cons_self))
      · exact Nat.le_succ_of_le (sp_mem_len (c := c) (by rw [eq]; exact List.mem_cons_of_mem _ h))
theorem sp_length (c : Nat) : ∀ l : List Nat, (sp c l).length ≤ l.length + 1
  | [] => Nat.le_refl _
  | x :: xs => by
    unfold sp
    have ih := sp_length c xs
    by_cases e : x = c
    · rw [if_pos e]; simp; omega
    · rw [if_neg e]
      obtain ⟨q, qs, eq⟩ := sp_ne c xs
      rw [eq] at ih ⊢
      simp at ih ⊢
      omega
/-- the first c in l -/
theorem first_of {c : Nat} : ∀ {l : List Nat}, c ∈ l → ∃ p r, l = p ++ c :: r ∧ c ∉ p
  | x :: xs, h => by
    by_cases e : x = c
    · subst e; exact ⟨[], xs, rfl, List.not_mem_nil⟩
    · rcases List.mem_cons.mp h with h | h
      · exact absurd h.symm e
      · obtain ⟨p, r, e1, e2⟩ := first_of h
        exact ⟨x :: p, r, by rw [e1]; rfl, fun z => (List.mem_cons.mp z).elim (fun q => e q.symm) e2⟩
/-! ### running a mirror, by what holds at its end -/
def Rn (g : Ev → Option Fl) (ρ : Ev) (Q : Fl → Prop) : Prop := ∃ r, g ρ = some r ∧ Q r
def Nx (P : Ev → Prop) : Fl → Prop
  | .nx ρ => P ρ
  | _ => False
section
variable {f g b : Ev → Option Fl} {ρ : Ev} {Q : Fl → Prop} {P : Ev → Prop}
theorem Rn.mono {Q' : Fl → Prop} (h : Rn g ρ Q) (i : ∀ r, Q r → Q' r) : Rn g ρ Q' := let ⟨r, e, q⟩ := h; ⟨r, e, i r q⟩
theorem Rn.sq (h : Rn f ρ fun r => match r with | .nx ρ' => Rn g ρ' Q | r => Q r) : Rn (sq f g) ρ Q := by
  obtain ⟨r, e, h⟩ := h
  unfold Rn PD.sq
  rw [e, Option.bind_some]
  cases r with
  | nx ρ' => exact h
  | rt o ρ' => exact ⟨_, rfl, h⟩
  | bk ρ' => exact ⟨_, rfl, h⟩
  | ct ρ' => exact ⟨_, rfl, h⟩
  | ex x ρ' => exact ⟨_, rfl, h⟩
theorem Rn.sqN (h : Rn f ρ (Nx P)) (k : ∀ ρ', P ρ' → Rn g ρ' Q) : Rn (PD.sq f g) ρ Q := Rn.sq (h.mono fun r q => by
  cases r with
  | nx ρ' => exact k ρ' q
  | _ => exact q.elim)
theorem Rn.st {i : Nat} {e : Ev → Option D} {d : D} (h : e ρ = some d) (k : Q (.nx (ρ.set i (.dat d)))) : Rn (stV i e) ρ Q := ⟨_, by unfold stV; rw [h]; rfl, k⟩
theorem Rn.stO {i : Nat} {e : Ev → Option O} {o : O} (h : e ρ = some o) (k : Q (.nx (ρ.set i o))) : Rn (PD.stO i e) ρ Q := ⟨_, by unfold PD.stO; rw [h]; rfl, k⟩
theorem Rn.skip (k : Q (.nx ρ)) : Rn PD.skip ρ Q := ⟨_, rfl, k⟩
theorem Rn.ret {e : Ev → Option D} {d : D} (h : e ρ = some d) (k : Q (.rt (.dat d) ρ)) : Rn (rtV e) ρ Q := ⟨_, by unfold rtV; rw [h]; rfl, k⟩
theorem Rn.ite {c : Ev → Option Bool} {t : Bool} (h : c ρ = some t) (h1 : t = true → Rn f ρ Q) (h2 : t = false → Rn g ρ Q) : Rn (ifS c f g) ρ Q := by
  unfold Rn ifS
  rw [h]
  cases t with
  | true => exact h1 rfl
  | false => exact h2 rfl
theorem Rn.app {i : Nat} {e : Ev → Option D} {d : D} {os : List O} (h : e ρ = some d) (ho : ρ[i]? = some (.lst os)) (hl : os.length < sizeLine) (k : Q (.nx (ρ.set i (.lst (os ++ [.dat d]))))) : Rn (PD.app i e) ρ Q := by
  refine ⟨_, ?_, k⟩
  unfold PD.app
  rw [h, Option.bind_some, ho]
  simp only []
  rw [if_pos hl]
theorem Rn.fz {i : Nat} {o : O} {d : D} (ho : ρ[i]? = some o) (hd : o.toD = some d) (k : Rn g (ρ.set i (.dat d)) Q) : Rn (PD.fz i g) ρ Q := by
  unfold Rn PD.fz
  rw [ho]
  simp only [hd, Option.bind_some]
  exact k
/-- a for by an invariant -/
theorem Rn.for {fi : Ev → Option (List D)} {gt : D → Ev → Option Ev} {ds : List D} (h : fi ρ = some ds) (I : Nat → Ev → Prop) (h0 : I 0 ρ)
    (hs : ∀ i d ρ, ds[i]? = some d → I i ρ → ∃ ρ1, gt d ρ = some ρ1 ∧ Rn b ρ1 fun r => match r with | .nx ρ2 => I (i + 1) ρ2 | .ct ρ2 => I (i + 1) ρ2 | .bk ρ2 => Q (.nx ρ2) | r => Q r) (k : ∀ ρ', I ds.length ρ' → Q (.nx ρ')) : Rn (forS fi gt b) ρ Q := by
  unfold Rn forS
  rw [h, Option.bind_some]
  clear h
  have key : ∀ (es : List D) (n : Nat) (ρ : Ev), n + es.length = ds.length → (∀ i d, es[i]? = some d → ds[n + i]? = some d) → I n ρ → ∃ r, loop gt b es ρ = some r ∧ Q r := by
    intro es
    induction es with
    | nil => intro n ρ hn _ hi; exact ⟨_, rfl, k ρ (by rw [← hn]; exact hi)⟩
    | cons d es ih =>
      intro n ρ hn hd hi
      obtain ⟨ρ1, e1, r, e2, q⟩ := hs n d ρ (by have := hd 0 d rfl; simpa using this) hi
      unfold loop
      rw [e1, Option.bind_some, e2, Option.bind_some]
      have nxt : ∀ ρ2, I (n + 1) ρ2 → ∃ r, loop gt b es ρ2 = some r ∧ Q r := fun ρ2 h2 => ih (n + 1) ρ2 (by rw [← hn, List.length_cons]; omega) (fun i d' h' => by
        have := hd (i + 1) d' (by simpa using h')
        rw [show n + 1 + i = n + (i + 1) by omega]; exact this) h2
      cases r with
      | nx ρ2 => exact nxt ρ2 q
      | ct ρ2 => exact nxt ρ2 q
      | bk ρ2 => exact ⟨_, rfl, q⟩
      | rt o ρ2 => exact ⟨_, rfl, q⟩
      | ex x ρ2 => exact ⟨_, rfl, q⟩
  exact key ds 0 ρ (by simp) (fun i d h => by simpa using h) h0
theorem Rn.while {c : Ev → Option Bool} (μ : Ev → Nat) (I : Ev → Prop) (h0 : I ρ) (hs : ∀ ρ, I ρ → ∃ t, c ρ = some t ∧ (t = true → Rn b ρ fun r => match r with | .nx ρ2 => I ρ2 ∧ μ ρ2 < μ ρ | .ct ρ2 => I ρ2 ∧ μ ρ2 < μ ρ | .bk ρ2 => Q (.nx ρ2) | r => Q r) ∧ (t = false → Q (.nx ρ))) :
    Rn (whileS c b) ρ Q := by
  have key : ∀ (n : Nat) (ρ : Ev), μ ρ < n → I ρ → ∃ r, wl c b n ρ = some r ∧ Q r := by
    intro n
    induction n with
    | zero => intro ρ h _; omega
    | succ n ih =>
      intro ρ hm hi
      obtain ⟨t, ht, h1, h2⟩ := hs ρ hi
      unfold wl
      rw [ht, Option.bind_some]
      cases t with
      | false => exact ⟨_, rfl, h2 rfl⟩
      | true =>
        obtain ⟨r, e, q⟩ := h1 rfl
        rw [if_pos rfl, e, Option.bind_some]
        cases r with
        | nx ρ2 => exact ih ρ2 (by have := q.2; omega) q.1
        | ct ρ2 => exact ih ρ2 (by have := q.2; omega) q.1
        | bk ρ2 => exact ⟨_, rfl, q⟩
        | rt o ρ2 => exact ⟨_, rfl, q⟩
        | ex x ρ2 => exact ⟨_, rfl, q⟩
  obtain ⟨r, e, q⟩ := key _ ρ (Nat.lt_succ_self _) h0
  exact ⟨r, whileS_of e, q⟩
theorem runP_of {n : Nat} {ds : List D} {R : D → Prop} (h : Rn b (env0 n ds) fun r => ∃ o d, outO r = some o ∧ o.toD = some d ∧ R d) : ∃ d, runP n b ds = some d ∧ R d := by
  obtain ⟨r, e, o, d, e2, e3, hr⟩ := h
  exact ⟨d, by unfold runP runO; rw [e, Option.bind_some, e2, Option.bind_some, e3], hr⟩
theorem runP_eq {n : Nat} {ds : List D} {d : D} (h : Rn b (env0 n ds) fun r => ∃ o, outO r = some o ∧ o.toD = some d) : runP n b ds = some d := by
  obtain ⟨r, e, o, e2, e3⟩ := h
  unfold runP runO
  rw [e, Option.bind_some, e2, Option.bind_some, e3]
end
theorem lcD_of {fi : Ev → Option (List D)} {g : D → Ev → Option Ev} {t : Ev → Option Bool} {f : Ev → Option D} {vs : List Nat} {ρ ρw : Ev} {ds ys : List D} (hw : okW ρ vs = true) (hi : fi ρ = some ds) (hρ : wipeO ρ vs = ρw) (hc : comp g t f ρw ds = some ys) (hl : ys.length ≤ sizeLine) : lcD fi g t f vs ρ = some (.lst ys) := by
  unfold lcD
  rw [if_pos hw, hi, Option.bind_some, hρ, hc, Option.bind_some, if_pos hl]
theorem lcO_of {fi : Ev → Option (List D)} {g : D → Ev → Option Ev} {t : Ev → Option Bool} {f : Ev → Option D} {vs : List Nat} {ρ ρw : Ev} {ds ys : List D} (hw : okW ρ vs = true) (hi : fi ρ = some ds) (hρ : wipeO ρ vs = ρw) (hc : comp g t f ρw ds = some ys) (hl : ys.length ≤ sizeLine) : lcO fi g t f vs ρ = some (.lst (ys.map .dat)) := by
  unfold lcO
  rw [if_pos hw, hi, Option.bind_some, hρ, hc, Option.bind_some, if_pos hl]
theorem len_le {n : Nat} (h : n ≤ 1000000) : n ≤ sizeLine := Nat.le_trans h (by decide)
/-! ### values of mirrors, part by part -/
section
variable {ρ : Ev} {fa fb : Ev → Option D} {x y d : D}
theorem b2_of {g : D → D → Option D} (h1 : fa ρ = some x) (h2 : fb ρ = some y) : b2 fa fb g ρ = g x y := by unfold b2; rw [h1, h2]; rfl
theorem b1_of {g : D → Option D} (h1 : fa ρ = some x) : b1 fa g ρ = g x := by unfold b1; rw [h1]; rfl
theorem aC {g : Ev → Option (List D)} {ds : List D} (h1 : fa ρ = some x) (h2 : g ρ = some ds) : aCons fa g ρ = some (x :: ds) := by unfold aCons; rw [h1, h2]; rfl
theorem aC1 (h1 : fa ρ = some x) : aCons fa aNil ρ = some [x] := aC h1 rfl
theorem aC2 (h1 : fa ρ = some x) (h2 : fb ρ = some y) : aCons fa (aCons fb aNil) ρ = some [x, y] := aC h1 (aC1 h2)
theorem cB_of' {g : Ev → Option (List D)} {f : List D → Option D} {ds : List D} (h : g ρ = some ds) : cB g f ρ = f ds := by unfold cB; rw [h]; rfl
theorem len_of {n : Nat} {m : List D → Option D} {ds : List D} (h : ds.length = n) : len? n m ds = m ds := by unfold len?; rw [if_pos h]
theorem call_of {g : Ev → Option (List D)} {n : Nat} {m : List D → Option D} {ds : List D} (h : g ρ = some ds) (hl : ds.length = n) : cB g (len? n m) ρ = m ds := (cB_of' h).trans (len_of hl)
theorem int_of {i : Int} (h : fa ρ = some (.int i)) : cB (aCons fa aNil) intD ρ = some (.int i) := cB_of' (aC1 h)
theorem lenS_of {z : Str} (h : fa ρ = some (.str z)) (hl : z.length ≤ 1000000) : cB (aCons fa aNil) lenD ρ = some (.int z.length) := by
  rw [cB_of' (aC1 h)]
  show (if z.length ≤ sizeLine then _ else _) = _
  rw [if_pos (len_le hl)]
theorem lenL_of {ds : List D} (h : fa ρ = some (.lst ds)) : cB (aCons fa aNil) lenD ρ = some (.int ds.length) := cB_of' (aC1 h)
theorem add_of {i j : Int} (h1 : fa ρ = some (.int i)) (h2 : fb ρ = some (.int j)) : b2 fa fb addD ρ = some (.int (i + j)) := b2_of h1 h2
theorem sub_of {i j : Int} (h1 : fa ρ = some (.int i)) (h2 : fb ρ = some (.int j)) : b2 fa fb subI ρ = some (.int (i - j)) := b2_of h1 h2
theorem mul_of {i j : Int} (h1 : fa ρ = some (.int i)) (h2 : fb ρ = some (.int j)) (hc : okMul i j = true) : b2 fa fb mulI ρ = some (.int (i * j)) := by
  rw [b2_of h1 h2]
  show (if okMul i j = true then _ else _) = _
  rw [if_pos hc]
theorem mod_of {i j : Int} (h1 : fa ρ = some (.int i)) (h2 : fb ρ = some (.int j)) (hc : 0 < j) : b2 fa fb modI ρ = some (.int (i % j)) := by
  rw [b2_of h1 h2]
  show (if decide (0 < j) = true then _ else _) = _
  rw [if_pos (decide_eq_true hc)]
theorem div_of {i j : Int} (h1 : fa ρ = some (.int i)) (h2 : fb ρ = some (.int j)) (hc : 0 < j ∧ j < 1073741824) : b2 fa fb divI ρ = some (.int (i / j)) := by
  rw [b2_of h1 h2]
  show (if decide (0 < j ∧ j < 1073741824) = true then _ else _) = _
  rw [if_pos (decide_eq_true hc)]
theorem cat_of {i j : Str} (h1 : fa ρ = some (.str i)) (h2 : fb ρ = some (.str j)) (hc : i.length + j.length ≤ 1000000) : b2 fa fb addD ρ = some (.str (i ++ j)) := by
  rw [b2_of h1 h2]
  show (match addI (.str i) (.str j) with | some d => some d | none => addS (.str i) (.str j)) = _
  show (if decide (i.length + j.length ≤ sizeLine) = true then some (D.str (i ++ j)) else none) = _
  rw [if_pos (decide_eq_true (len_le hc))]
theorem ixL_of {ds : List D} {i : Int} (h1 : fa ρ = some (.lst ds)) (h2 : fb ρ = some (.int i)) : b2 fa fb ixD ρ = atI ds i := b2_of h1 h2
theorem ixS_of {z : Str} {i : Int} {c : Nat} (h1 : fa ρ = some (.str z)) (h2 : fb ρ = some (.int i)) (hl : z.length ≤ 1000000) (hc : atI z.cps.toList i = some c) : b2 fa fb ixD ρ = some (.str ⟨#[c]⟩) := by
  rw [b2_of h1 h2]
  show (if z.length ≤ sizeLine then (atI z.cps.toList i).map _ else none) = _
  rw [if_pos (len_le hl), hc]
  rfl
theorem slc_of {lo hi : Ev → Option (Option Int)} {a b : Option Int} (h : fa ρ = some x) (h1 : lo ρ = some a) (h2 : hi ρ = some b) : slc fa lo hi ρ = slD x a b := by unfold slc; rw [h, h1, h2]; rfl
theorem part_of {i : Int} (h : fa ρ = some (.int i)) : part fa ρ = some (some i) := by unfold part; rw [h]
theorem slS_of {lo hi : Ev → Option (Option Int)} {a b : Option Int} {z : Str} (h : fa ρ = some (.str z)) (h1 : lo ρ = some a) (h2 : hi ρ = some b) (hl : z.length ≤ 1000000) : slc fa lo hi ρ = some (.str (cutS z a b)) := by
  rw [slc_of h h1 h2]
  show (if z.length ≤ sizeLine then _ else _) = _
  rw [if_pos (len_le hl)]
theorem slL_of {lo hi : Ev → Option (Option Int)} {a b : Option Int} {ds : List D} (h : fa ρ = some (.lst ds)) (h1 : lo ρ = some a) (h2 : hi ρ = some b) : slc fa lo hi ρ = some (.lst (cutD ds a b)) := slc_of h h1 h2
theorem asB_of {b : Bool} (h : fa ρ = some (.bl b)) : asB fa ρ = some b := by unfold asB; rw [h]
theorem eqI_of {i j : Int} (h1 : fa ρ = some (.int i)) (h2 : fb ρ = some (.int j)) : b2 fa fb eqD ρ = some (.bl (decide (i = j))) := b2_of h1 h2
theorem neI_of {i j : Int} (h1 : fa ρ = some (.int i)) (h2 : fb ρ = some (.int j)) : b2 fa fb neD ρ = some (.bl (!decide (i = j))) := b2_of h1 h2
theorem eqS_of {i j : Str} (h1 : fa ρ = some (.str i)) (h2 : fb ρ = some (.str j)) : b2 fa fb eqD ρ = some (.bl (decide (i = j))) := b2_of h1 h2
theorem neS_of {i j : Str} (h1 : fa ρ = some (.str i)) (h2 : fb ρ = some (.str j)) : b2 fa fb neD ρ = some (.bl (!decide (i = j))) := b2_of h1 h2
theorem lt_of {i j : Int} (h1 : fa ρ = some (.int i)) (h2 : fb ρ = some (.int j)) : b2 fa fb ltI ρ = some (.bl (decide (i < j))) := b2_of h1 h2
theorem le_of {i j : Int} (h1 : fa ρ = some (.int i)) (h2 : fb ρ = some (.int j)) : b2 fa fb leI ρ = some (.bl (decide (i ≤ j))) := b2_of h1 h2
theorem gt_of {i j : Int} (h1 : fa ρ = some (.int i)) (h2 : fb ρ = some (.int j)) : b2 fa fb gtI ρ = some (.bl (decide (j < i))) := b2_of h1 h2
theorem ge_of {i j : Int} (h1 : fa ρ = some (.int i)) (h2 : fb ρ = some (.int j)) : b2 fa fb geI ρ = some (.bl (decide (j ≤ i))) := b2_of h1 h2
theorem andV_t (h1 : fa ρ = some (.bl true)) : andV fa fb ρ = fb ρ := by unfold andV; rw [h1]
theorem andV_f (h1 : fa ρ = some (.bl false)) : andV fa fb ρ = some (.bl false) := by unfold andV; rw [h1]
theorem orV_t (h1 : fa ρ = some (.bl true)) : orV fa fb ρ = some (.bl true) := by unfold orV; rw [h1]
theorem orV_f (h1 : fa ρ = some (.bl false)) : orV fa fb ρ = fb ρ := by unfold orV; rw [h1]
theorem andV_of {a b : Bool} (h1 : fa ρ = some (.bl a)) (h2 : a = true → fb ρ = some (.bl b)) : andV fa fb ρ = some (.bl (a && b)) := by
  cases a with
  | true => rw [andV_t h1, h2 rfl]; rfl
  | false => rw [andV_f h1]; rfl
theorem orV_of {a b : Bool} (h1 : fa ρ = some (.bl a)) (h2 : a = false → fb ρ = some (.bl b)) : orV fa fb ρ = some (.bl (a || b)) := by
  cases a with
  | true => rw [orV_t h1]; rfl
  | false => rw [orV_f h1, h2 rfl]; rfl
theorem notV_of {a : Bool} (h1 : fa ρ = some (.bl a)) : notV fa ρ = some (.bl (!a)) := by unfold notV; rw [h1]
theorem ifV_of {c : Ev → Option Bool} {b : Bool} (h : c ρ = some b) : ifV c fa fb ρ = if b = true then fa ρ else fb ρ := by
  unfold ifV; rw [h]; cases b <;> rfl
theorem andT_of {f g : Ev → Option Bool} {a b : Bool} (h1 : f ρ = some a) (h2 : a = true → g ρ = some b) : andT f g ρ = some (a && b) := by
  unfold andT; rw [h1]; cases a with
  | true => rw [Bool.true_and]; exact h2 rfl
  | false => rfl
theorem orT_of {f g : Ev → Option Bool} {a b : Bool} (h1 : f ρ = some a) (h2 : a = false → g ρ = some b) : orT f g ρ = some (a || b) := by
  unfold orT; rw [h1]; cases a with
  | true => rfl
  | false => rw [Bool.false_or]; exact h2 rfl
theorem notT_of {f : Ev → Option Bool} {a : Bool} (h1 : f ρ = some a) : notT f ρ = some (!a) := by unfold notT; rw [h1]; rfl
theorem rng1_of {n : Nat} (h : fa ρ = some (.int n)) (hn : n ≤ 1000000) : rng1 fa ρ = some (rangeD 0 n) := by
  unfold rng1
  rw [h]
  show (if _ then _ else _) = _
  rw [if_pos (by omega), Int.toNat_natCast]
theorem iOf_of {ds : List D} (h : fa ρ = some x) (hs : seqD x = some ds) : iOf fa ρ = some ds := by unfold iOf; rw [h]; exact hs
theorem mkL_of {g : Ev → Option (List D)} {ds : List D} (h : g ρ = some ds) (hl : ds.length ≤ 1000000) : mkLst g ρ = some (.lst ds) := by unfold mkLst; rw [h, Option.bind_some, if_pos (len_le hl)]
theorem mkT_of {g : Ev → Option (List D)} {ds : List D} (h : g ρ = some ds) (hl : ds.length ≤ 1000000) : mkTup g ρ = some (.tup ds) := by unfold mkTup; rw [h, Option.bind_some, if_pos (len_le hl)]
end
theorem cut_from {α : Type} (xs : List α) (k : Nat) : cutD xs (some (k : Int)) none = xs.drop k := by
  unfold cutD
  rw [HT.sIx_nat, HT.sIx_none]
  rw [List.take_of_length_le (by rw [List.length_drop]; omega)]
  by_cases h : k ≤ xs.length
  · rw [Nat.min_eq_left h]
  · rw [Nat.min_eq_right (by omega), List.drop_length, List.drop_eq_nil_of_le (by omega)]
theorem cut_to {α : Type} (xs : List α) (k : Nat) : cutD xs none (some (k : Int)) = xs.take k := by
  unfold cutD
  rw [HT.sIx_nat, HT.sIx_none, List.drop_zero, Nat.sub_zero]
  by_cases h : k ≤ xs.length
  · rw [Nat.min_eq_left h]
  · rw [Nat.min_eq_right (by omega), List.take_length, List.take_of_length_le (by omega)]
theorem cutS_codes (z : Str) (lo hi : Option Int) : (cutS z lo hi).cps.toList = cutD z.cps.toList lo hi := by
  unfold cutS cutD
  rw [str_len]
/-- the item at a place -/
theorem at_get {α : Type} {xs : List α} {j : Nat} (h : j < xs.length) : atI xs (j : Int) = some xs[j] := atI_nat (List.getElem?_eq_getElem h)
theorem at_ints {rs : List Int} {j : Nat} (h : j < rs.length) : atI (rs.map D.int) (j : Int) = some (.int rs[j]) := atI_nat (by rw [List.getElem?_map, List.getElem?_eq_getElem h]; rfl)
theorem mod_nat (x : Int) {m : Nat} (h : 0 < m) : ∃ n : Nat, x % (m : Int) = (n : Int) ∧ n < m := by
  obtain ⟨n, e⟩ := Int.eq_ofNat_of_zero_le (Int.emod_nonneg x (show (m : Int) ≠ 0 by omega))
  have := Int.emod_lt_of_pos x (show (0 : Int) < (m : Int) by omega)
  exact ⟨n, e, by omega⟩
theorem range_get {lo : Int} {n i : Nat} {d : D} (h : (rangeD lo n)[i]? = some d) : i < n ∧ d = .int (lo + i) := by
  unfold rangeD at h
  rw [List.getElem?_map] at h
  cases q : (List.range n)[i]? with
  | none => rw [q] at h; cases h
  | some j =>
    rw [q] at h
    have hl : i < n := by
      have := (List.getElem?_eq_some_iff.mp q).1
      simpa using this
    rw [List.getElem?_range hl] at q
    cases q
    exact ⟨hl, (Option.some.inj h).symm⟩
theorem rangeD_len (lo : Int) (n : Nat) : (rangeD lo n).length = n := by simp [rangeD]
theorem toDs_ints (rs : List Int) : O.toDs (rs.map fun r => .dat (.int r)) = some (rs.map .int) := by
  have := toDs_dat (rs.map D.int)
  rw [List.map_map] at this
  exact this
theorem okMulR {i j : Int} (h : -(2 ^ 64) < j ∧ j < 2 ^ 64) : okMul i j = true := by
  unfold okMul
  exact decide_eq_true (.inr h)
theorem okMulL {i j : Int} (h : -(2 ^ 64) < i ∧ i < 2 ^ 64) : okMul i j = true := by
  unfold okMul
  exact decide_eq_true (.inl h)
theorem str_eq (x y : Str) : x = y ↔ x.cps.toList = y.cps.toList := by
  constructor
  · rintro rfl; rfl
  · intro h
    cases x; cases y
    congr 1
    exact Array.toList_inj.mp h
theorem end_of {K : PySem.W.Frag} {H : Hp} {a : Addr} {m : List D → Option D} {n : Nat} {E : XK} (hm : ∀ ns : List Int, ns.length ≤ n → m [.lst (ns.map .int)] = some (.bl true)) {ns : List Int} (hl : ns.length ≤ n) (hS : SqX K H a (ns.map V.int)) : spP K 1 m [.ref a] H (fun v _ => v = .bl true) E :=
  ⟨rfl, H, [], [], [.lst (ns.map .int)], .bl true, ⟨Same.refl _, [], .nil, List.nodup_nil, fun _ h => nomatch h⟩, .cons (.lst hS (ints_dvs ns)) .nil, hm ns hl, fun _ _ v _ _ d => by cases d; rfl⟩
end PD

namespace PD
open PySem PySem.Spec L2

/-! ### own things looked at as data -/
def O.vw (o : O) : O := match o.toD with
  | some d => .dat d
  | none => .unk
def flatD : D → Bool
  | .non => true
  | .bl _ => true
  | .int _ => true
  | .str _ => true
  | _ => false
theorem Dv.flat {K : PySem.W.Frag} {M M' : Hp} {v : V} {d : D} (h : Dv K M v d) (f : flatD d = true) : Dv K M' v d := by
  cases h with
  | non => exact .non
  | bl b => exact .bl b
  | int i => exact .int i
  | str x => exact .str x
  | lst _ _ => cases f
  | tup _ _ => cases f
  | dic _ _ _ => cases f
  | obj _ _ _ _ => cases f
  | exn0 => cases f
  | exn1 _ _ _ => cases f
  | tagM _ _ => cases f
  | tagP _ _ => cases f
section
variable {K : PySem.W.Frag} {M H : Hp}
theorem Ows.view {Ma : Hp} (s : Same M Ma) : ∀ {os : List O} {vs : List (Option V)} {fp : List Addr}, Ows K M H os vs fp → (∀ a ∈ fp, Ma a = H a) → Ows K Ma H (os.map O.vw) vs []
  | _, _, _, .nil, _ => .nil
  | o :: _, _, _, .cons (v := v) (f1 := f1) h hs, k => by
    have t := Ows.view s hs fun a ha => k a (List.mem_append_right _ ha)
    have e : ([] : List Addr) = [] ++ [] := rfl
    rw [e, List.map_cons]
    refine .cons ?_ t
    unfold O.vw
    cases q : o.toD with
    | none => exact .unk
    | some d =>
      cases v with
      | none => cases h; unfold O.toD at q; cases q
      | some v => exact .dat (Ow.frz s h (fun a ha => k a (List.mem_append_left _ ha)) q)
theorem Rep.view {ρ fo : List O} {σ fv : List (Option V)} (R : Rep K M H (ρ ++ fo) (σ ++ fv)) (l : σ.length = ρ.length) :
    ∃ Ma, Same M Ma ∧ Rep K Ma H (ρ.map O.vw ++ []) (σ ++ []) ∧ ∀ M2 H', Same Ma M2 → Same M2 H' → Rep K M H' (ρ ++ fo) (σ ++ fv) := by
  obtain ⟨sm, fp, w, nd, nm⟩ := R
  obtain ⟨fa, fb, e, w1, w2⟩ := w.split l
  have s1 : Same M (fun a => if a ∈ fp then H a else M a) := fun b y q => by
    have : b ∉ fp := fun z => by rw [nm b z] at q; cases q
    show (if b ∈ fp then H b else M b) = some y
    rw [if_neg this]; exact q
  have s2 : Same (fun a => if a ∈ fp then H a else M a) H := fun b y q => by
    have q : (if b ∈ fp then H b else M b) = some y := q
    split at q
    · exact q
    · exact sm b y q
  refine ⟨_, s1, ⟨s2, [], ?_, List.nodup_nil, fun a ha => nomatch ha⟩, fun M2 H' k1 k2 => ⟨?_, fp, w.frame (Same.refl _) fun a ha => ?_, nd, nm⟩⟩
  · rw [List.append_nil, List.append_nil]
    exact Ows.view s1 w1 fun a ha => if_pos (by rw [e]; exact List.mem_append_left _ ha)
  · exact s1.trans (k1.trans k2)
  · have hd := w.dom a ha
    cases q : H a with
    | none => exact absurd q hd
    | some u => exact k2 _ _ (k1 _ _ (show (if a ∈ fp then H a else M a) = some u by rw [if_pos ha]; exact q))
end
def vwP (f : Ev → Option D) (ρ : Ev) : Option D := (f (ρ.map O.vw)).bind fun d => if flatD d = true then some d else none
def vwT (f : Ev → Option Bool) (ρ : Ev) : Option Bool := f (ρ.map O.vw)
section
variable {X : Cx} {W : WX} {pos : Pos} {e : Expr}
theorem pVw {f : Ev → Option D} (h : PE X e (tP X.K f)) : PE X e (tP X.K (vwP f)) := PE.imp h fun σ H Q ⟨M, ρ, fo, fv, d, R, l, e, k⟩ => by
  unfold vwP at e
  cases q : f (ρ.map O.vw) with
  | none => rw [q] at e; cases e
  | some d' =>
    rw [q, Option.bind_some] at e
    split at e
    · rename_i hf
      cases e
      obtain ⟨Ma, s1, R1, back⟩ := R.view l
      exact ⟨Ma, ρ.map O.vw, [], [], _, R1, by simpa using l, q, fun M2 H2 v s2 R2 d2 => k M H2 v (Same.refl _) (back M2 H2 s2 R2.same) (d2.flat hf)⟩
    · cases e
theorem tVw {f : Ev → Option Bool} (h : PT X e (tT X.K f)) : PT X e (tT X.K (vwT f)) := PT.imp h fun σ H Q ⟨M, ρ, fo, fv, d, R, l, e, k⟩ => by
  obtain ⟨Ma, s1, R1, back⟩ := R.view l
  exact ⟨Ma, ρ.map O.vw, [], [], d, R1, by simpa using l, e, fun M2 H2 s2 R2 => k M H2 (Same.refl _) (back M2 H2 s2 R2.same)⟩
end


/-! ### an own thing in a slot is changed -/
section
variable {K : PySem.W.Frag} {M H : Hp}
theorem Ows.at_ {os : List O} {vs : List (Option V)} {fp : List Addr} {k : Nat} {o : O} (w : Ows K M H os vs fp) (e : os[k]? = some o) : ∃ v fa f fb, vs[k]? = some v ∧ fp = fa ++ (f ++ fb) ∧ Ow K M H o v f ∧
    ∀ {M' H' : Hp} {o' : O} {f' : List Addr}, Same M M' → (∀ a ∈ fa ++ fb, H' a = H a) → Ow K M' H' o' v f' → Ows K M' H' (os.set k o') vs (fa ++ (f' ++ fb)) := by
  induction os generalizing k vs fp with
  | nil => simp at e
  | cons o1 os ih =>
    cases w with
    | cons h hs =>
      rename_i v f1 vs f2
      cases k with
      | zero =>
        simp at e
        subst e
        refine ⟨v, [], f1, f2, rfl, rfl, h, fun {M' H' o' f'} s k h' => ?_⟩
        show Ows K M' H' (o' :: os) (v :: vs) (f' ++ f2)
        exact .cons h' (hs.frame s fun a ha => k a ha)
      | succ k =>
        obtain ⟨v', fa, f, fb, e1, e2, h', up⟩ := ih hs (by simpa using e)
        refine ⟨v', f1 ++ fa, f, fb, by simpa using e1, by rw [e2, List.append_assoc], h', fun s kk h'' => ?_⟩
        have := Ows.cons (h.frame s fun a ha => kk a (by simp [ha])) (up s (fun a ha => kk a (by simp at ha ⊢; rcases ha with ha | ha <;> simp [ha])) h'')
        rw [List.append_assoc]
        exact this
/-- the thing in slot i, and temporaries that may go into it -/
theorem Rep.own {ρ tmp fo : List O} {σ tv fv : List (Option V)} (R : Rep K M H (ρ ++ (tmp ++ fo)) (σ ++ (tv ++ fv))) (l : σ.length = ρ.length) (lt : tv.length = tmp.length) {i : Nat} {o : O} (e : ρ[i]? = some o) :
    ∃ v f ft, σ[i]? = some v ∧ Ow K M H o v f ∧ Ows K M H tmp tv ft ∧ (f ++ ft).Nodup ∧ (∀ b ∈ f ++ ft, M b = none) ∧
      ∀ (M' H' : Hp) (o' : O) (f' : List Addr), Same M M' → Same M' H' → (∀ b, b ∉ f → H b ≠ none → H' b = H b) → Ow K M' H' o' v f' → (∀ b, f'.count b ≤ f.count b + ft.count b) → (∀ b, M b = none → H b ≠ none → M' b = none) → Rep K M' H' (ρ.set i o' ++ fo) (σ ++ fv) := by
  obtain ⟨s, fp, w, nd, nm⟩ := R
  obtain ⟨f1, f2, e1, w1, w2⟩ := w.split l
  obtain ⟨ft, f3, e2, w3, w4⟩ := w2.split lt
  obtain ⟨v, fa, f, fb, ev, e3, h, up⟩ := w1.at_ e
  subst e1; subst e2; subst e3
  rw [List.nodup_iff_count] at nd
  have cnt : ∀ b, fa.count b + f.count b + fb.count b + ft.count b + f3.count b ≤ 1 := fun b => by
    have := nd b
    simp only [List.count_append] at this
    omega
  have out : ∀ b, b ∈ fa ∨ b ∈ fb ∨ b ∈ f3 → b ∉ f := fun b hb hf => by
    have c := cnt b
    have c1 := List.count_pos_iff.mpr hf
    rcases hb with hb | hb | hb
    · have := List.count_pos_iff.mpr hb; omega
    · have := List.count_pos_iff.mpr hb; omega
    · have := List.count_pos_iff.mpr hb; omega
  refine ⟨v, f, ft, ev, h, w3, ?_, fun b hb => nm b ?_, fun M' H' o' f' sM s' kk h' hc hM => ⟨s', (fa ++ (f' ++ fb)) ++ f3, ?_, ?_, fun b hb => ?_⟩⟩
  · rw [List.nodup_iff_count]
    intro b
    have := cnt b
    rw [List.count_append]; omega
  · rcases List.mem_append.mp hb with hb | hb <;> simp [hb]
  · have d1 : ∀ b ∈ fa ++ fb, H b ≠ none := fun b hb => w1.dom b (by rcases List.mem_append.mp hb with hb | hb <;> simp [hb])
    have d3 : ∀ b ∈ f3, H b ≠ none := fun b hb => w4.dom b hb
    exact (up sM (fun b hb => kk b (out b (by rcases List.mem_append.mp hb with hb | hb <;> simp [hb])) (d1 b hb)) h').append (w4.frame sM fun b hb => kk b (out b (.inr (.inr hb))) (d3 b hb))
  · rw [List.nodup_iff_count]
    intro b
    have c1 := cnt b
    have c2 := hc b
    simp only [List.count_append]; omega
  · have hpos := List.count_pos_iff.mpr hb
    have c2 := hc b
    simp only [List.count_append] at hpos
    have : b ∈ (fa ++ (f ++ fb)) ++ (ft ++ f3) := by
      rw [← List.count_pos_iff]
      simp only [List.count_append]; omega
    exact hM b (nm b this) (w.dom b this)
end

/-! ### objects: self.f = e on an own one -/
def putO (f : Str) (y : O) : List Str → List O → List Str × List O
  | k :: ks, o :: os => if k = f then (k :: ks, y :: os) else (k :: (putO f y ks os).1, o :: (putO f y ks os).2)
  | _, _ => ([f], [y])
section
variable {K : PySem.W.Frag} {M H : Hp}
theorem putO_keys {f : Str} {v : V} {y : O} : ∀ (fs : List (Str × V)) (os : List O), os.length = fs.length → (putF f v fs).map (·.1) = (putO f y (fs.map (·.1)) os).1
  | [], [], _ => rfl
  | (g, x) :: fs, o :: os, h => by
    unfold putF putO
    simp only [List.map_cons]
    by_cases e : g = f
    · rw [if_pos e, if_pos e]; rfl
    · rw [if_neg e, if_neg e]
      simp only [List.map_cons]
      rw [putO_keys fs os (by simpa using h)]
theorem putO_ows {f : Str} {v : V} {y : O} {fy : List Addr} (hy : Ow K M H y (some v) fy) : ∀ {fs : List (Str × V)} {os : List O} {fp : List Addr}, Ows K M H os (fs.map fun p => some p.2) fp →
    ∃ fp', Ows K M H (putO f y (fs.map (·.1)) os).2 ((putF f v fs).map fun p => some p.2) fp' ∧ ∀ b, fp'.count b ≤ fp.count b + fy.count b
  | [], _, _, .nil => ⟨fy ++ [], .cons hy .nil, fun b => by simp⟩
  | (g, x) :: fs, _, _, .cons (o := o) (f1 := f1) (f2 := f2) (os := os) h hs => by
    unfold putF putO
    simp only [List.map_cons]
    by_cases e : g = f
    · rw [if_pos e, if_pos e]
      exact ⟨fy ++ f2, .cons hy hs, fun b => by simp only [List.count_append]; omega⟩
    · rw [if_neg e, if_neg e]
      obtain ⟨fp', w, c⟩ := putO_ows (f := f) hy hs
      exact ⟨f1 ++ fp', .cons h w, fun b => by have := c b; simp only [List.count_append]; omega⟩
end
def put (C : Addr) (i : Nat) (f : Str) (g : Ev → Option O) (ρ : Ev) : Option Fl := (g ρ).bind fun y => match ρ[i]? with
  | some (.obj C' ks os) => if C' = C ∧ os.length < 1000 then some (.nx (ρ.set i (.obj C (putO f y ks os).1 (putO f y ks os).2))) else none
  | _ => none
section
variable {X : Cx} {W : WX} {J : List Nat} {pos p p' : Pos} {e : Expr}
theorem sPut {C : Addr} {i : Nat} {x f : Str} {g : Ev → Option O} (c : Cls X.K C) (n : NoAttr X.K C f) (hv : PE X (.Name x p) (tVar i)) (he : PE X e (tO X.K g)) (hs : swapsWith e (some (.Attribute (.Name x p) f p')) pos.line X.env = pure false := by rfl) :
    PS X (.Assign [.Attribute (.Name x p) f p'] e pos) (tS X.K W J (put C i f g)) := PS.imp (ps_fld hv he hs) fun E σ H ⟨M, ρ, fo, fv, r, σ0, R, l, e, k⟩ => by
  unfold put at e
  cases q : g ρ with
  | none => rw [q] at e; cases e
  | some y =>
    rw [q, Option.bind_some] at e
    split at e
    · rename_i C' ks os eo
      split at e
      · rename_i hc
        obtain ⟨rfl, hlen⟩ := hc
        cases e
        refine ⟨M, ρ, fo, fv, y, R, l.1, q, fun M1 H1 v s1 R1 => ?_⟩
        have R1' : Rep X.K M1 H1 (ρ ++ ([y] ++ fo)) (σ ++ ([some v] ++ fv)) := R1
        obtain ⟨w, f1, ft, ew, h1, h2, nd, nm, up⟩ := R1'.own l.1 rfl eo
        cases h1 with
        | obj ha hdx hk ws =>
          rename_i a dx fs fp
          cases h2 with
          | cons hy hnil =>
            cases hnil
            rename_i fy
            refine ⟨.ref a, ew, a, C', dx, fs, rfl, ha, c, n, by rw [← List.length_map (f := fun p : Str × V => some p.2), ws.length]; exact hlen, ?_⟩
            have hd : ∀ b, b ∈ fp ∨ b ∈ fy → b ≠ a := fun b hb z => by
              subst z
              rw [List.nodup_iff_count] at nd
              have := nd b
              simp only [List.count_append, List.count_cons, beq_self_eq_true, if_true] at this
              rcases hb with hb | hb
              · have := List.count_pos_iff.mpr hb; omega
              · have := List.count_pos_iff.mpr hb; omega
            have hda : dx ≠ a := fun z => by
              rw [z, ha] at hdx; cases hdx
            have ma : M1 a = none := nm a (by simp)
            have sm : Same M1 (upd H1 a (.ins C' dx (putF f v fs))) := fun b u q => by
              rw [upd_ne (fun z => by subst z; rw [ma] at q; cases q)]; exact R1.same b u q
            obtain ⟨fp', w', cw⟩ := putO_ows (f := f) (hy.frame (Same.refl _) (H' := upd H1 a (.ins C' dx (putF f v fs))) fun b hb => upd_ne (hd b (.inr hb))) (ws.frame (Same.refl _) (H' := upd H1 a (.ins C' dx (putF f v fs))) fun b hb => upd_ne (hd b (.inl hb)))
            refine k M1 _ σ s1 (up M1 _ _ (a :: dx :: fp') (Same.refl _) sm (fun b hb _ => upd_ne fun z => hb (by simp [z])) (.obj upd_same (by rw [upd_ne hda]; exact hdx) ?_ ?_) (fun b => ?_) fun b hb _ => hb) (l.setR _)
            · rw [putO_keys (y := y) fs os (by rw [← ws.length]; simp), hk]
            · rw [hk] at w'; exact w'
            · have := cw b
              simp only [List.append_nil, List.count_cons, List.count_append] at this ⊢
              omega
      · cases e
    · cases e
end
end PD

namespace PD
open PySem PySem.Spec L2

section
variable {K : PySem.W.Frag} {M H : Hp}
theorem Rep.dropM {l m r : List O} {lv mv rv : List (Option V)} (R : Rep K M H (l ++ (m ++ r)) (lv ++ (mv ++ rv))) (e : lv.length = l.length) (e2 : mv.length = m.length) : Rep K M H (l ++ r) (lv ++ rv) := by
  obtain ⟨s, fp, w, nd, nm⟩ := R
  obtain ⟨fa, fb, e1, w1, w2⟩ := w.split e
  obtain ⟨fm, fr, e3, w3, w4⟩ := w2.split e2
  subst e1; subst e3
  refine ⟨s, fa ++ fr, w1.append w4, nd.sublist (List.Sublist.append (List.Sublist.refl _) (List.sublist_append_right _ _)), fun a ha => nm a ?_⟩
  rcases List.mem_append.mp ha with ha | ha <;> simp [ha]
theorem Rep.swap {l r : List O} {lv rv : List (Option V)} {o : O} {v : Option V} (R : Rep K M H (o :: (l ++ r)) (v :: (lv ++ rv))) (e : lv.length = l.length) : Rep K M H (l ++ o :: r) (lv ++ v :: rv) := by
  obtain ⟨s, fp, w, nd, nm⟩ := R
  cases w with
  | cons h hs =>
    rename_i f1 f2
    obtain ⟨fa, fb, e1, w1, w2⟩ := hs.split e
    subst e1
    have pm : (fa ++ (f1 ++ fb)).Perm (f1 ++ (fa ++ fb)) := by
      rw [← List.append_assoc, ← List.append_assoc]
      exact List.Perm.append_right fb List.perm_append_comm
    exact ⟨s, fa ++ (f1 ++ fb), w1.append (.cons h w2), pm.nodup_iff.mpr nd, fun a ha => nm a (pm.mem_iff.mp ha)⟩
/-- a new object -/
theorem Rep.newI {fo : List O} {fv : List (Option V)} (R : Rep K M H fo fv) {x dx C : Addr} (hx : H x = none) (hd : H dx = none) (ne : dx ≠ x) : Rep K M (upd (upd H dx (.own x)) x (.ins C dx [])) (.obj C [] [] :: fo) (some (.ref x) :: fv) := by
  obtain ⟨s, fp, w, nd, nm⟩ := R
  have xn : x ∉ fp := fun z => w.dom x z hx
  have dn : dx ∉ fp := fun z => w.dom dx z hd
  have ex : (upd H dx (.own x)) x = none := by rw [upd_ne ne.symm]; exact hx
  have kp : ∀ b, b ≠ x → b ≠ dx → (upd (upd H dx (.own x)) x (.ins C dx [])) b = H b := fun b h1 h2 => by rw [upd_ne h1, upd_ne h2]
  refine ⟨fun b u q => ?_, (x :: dx :: []) ++ fp, .cons (.obj upd_same (by rw [upd_ne ne]; exact upd_same) rfl .nil) (w.frame (Same.refl _) fun a ha => kp a (fun z => xn (z ▸ ha)) (fun z => dn (z ▸ ha))), ?_, fun a ha => ?_⟩
  · have q' := s b u q
    rw [kp b (ne_of_none q' hx) (ne_of_none q' hd)]; exact q'
  · show (x :: dx :: fp).Nodup
    rw [List.nodup_cons, List.nodup_cons]
    exact ⟨by simp [ne.symm, xn], dn, nd⟩
  · have ha : a ∈ x :: dx :: fp := ha
    rcases List.mem_cons.mp ha with rfl | ha
    · exact s.free hx
    · rcases List.mem_cons.mp ha with rfl | ha
      · exact s.free hd
      · exact nm a ha
end

/-! ### __init__ -/
def envI (C : Addr) (n : Nat) (ds : List D) : Ev := .obj C [] [] :: (ds.map .dat ++ List.replicate (n - (ds.length + 1)) .unk)
def outI (r : Fl) : Option O := match r with
  | .nx ρ => ρ[0]?
  | .rt (.dat .non) ρ => ρ[0]?
  | _ => none
def runI (C : Addr) (n : Nat) (b : Ev → Option Fl) (ds : List D) : Option O := (b (envI C n ds)).bind outI
def spI (K : PySem.W.Frag) (C : Addr) (n : Nat) (m : List D → Option O) : Sp := fun vs H Q _ => ∃ x ws M fo fv ds o, vs = .ref x :: ws ∧ ws.length + 1 = n ∧ Rep K M H (.obj C [] [] :: fo) (some (.ref x) :: fv) ∧ Dvs K M ws ds ∧ m ds = some o ∧
  ∀ M' H', Same M M' → Rep K M' H' (o :: fo) (some (.ref x) :: fv) → Q .non H'
section
variable {P : Program} {w : World} {K : PySem.W.Frag} {mg : Str → Option Value} {base : Heap}
theorem fnI {x qual : Str} {st : Stmt} {f C : Addr} {fd : FuncData} {N ps : List Str} {k : Nat} {b : Ev → Option Fl} (F : Fun K x qual st f fd) (S : FnScope N ps (defScope st))
    (hb : ∀ (cdv : Value) (A : Around) (outer : List Env) (s : Shared) (H : Hp) (E : XK), Room k (A.deeper (PyProof.Rows.envOfC qual (defScope st) s.heap.objs.size f cdv)) →
      PSs (cxOf CX0 P w K mg base N qual (defScope st) f cdv A outer s H E).nox (defBody st) (tS K W0 [0] b)) : FnOk P w K mg base CX0 (k + 1) f fd ps (spI K C ps.length (runI C N.length b)) := by
  refine F.ok S (fun vs H Q E h => ?_) fun cdv A outer s H vs Q E hr h => ⟨_, hb cdv A outer s H E hr, ?_⟩
  · obtain ⟨x, ws, M, fo, fv, ds, o, rfl, hl, _⟩ := h
    simpa using hl
  obtain ⟨x, ws, M, fo, fv, ds, o, rfl, hl, R, dv, e, kk⟩ := h
  have hlen := dv.length
  have R1 : Rep K M H (envI C N.length ds ++ fo) (L2.start N (.ref x :: ws) ++ fv) := by
    obtain ⟨s, fp, w, nd, nm⟩ := R
    cases w with
    | cons h1 h2 =>
      rename_i f1 f2
      refine ⟨s, f1 ++ (([] ++ []) ++ f2), ?_, by simpa using nd, fun a ha => nm a (by simpa using ha)⟩
      unfold envI L2.start
      rw [List.length_cons, hlen]
      exact .cons h1 (((ows_dat dv).append (ows_unk _)).append h2)
  have l1 : (L2.start N (.ref x :: ws)).length = (envI C N.length ds).length := by simp [L2.start, envI, hlen]
  unfold runI at e
  cases q : b (envI C N.length ds) with
  | none => rw [q] at e; cases e
  | some r =>
    rw [q, Option.bind_some] at e
    have fin : ∀ {ρ : Ev} {M1 H1 : Hp} {σ1 : L2.St} {tm : List O} {tv : List (Option V)}, ρ[0]? = some o → tv.length = tm.length → Same M M1 → Rep K M1 H1 (ρ ++ (tm ++ fo)) (σ1 ++ (tv ++ fv)) → Lk [0] (L2.start N (.ref x :: ws)) σ1 ρ → Q .non H1 := by
      intro ρ M1 H1 σ1 tm tv eo lt s1 R2 lk
      have h0 := lk.2 0 (by simp)
      have h0' : σ1[0]? = some (some (.ref x)) := h0.trans (by simp [L2.start])
      cases ρ with
      | nil => simp at eo
      | cons o' ρt =>
        cases σ1 with
        | nil => simp at h0'
        | cons v' σt =>
          simp at eo h0'
          subst eo; subst h0'
          have lt' : σt.length = ρt.length := by have := lk.1; simpa using this
          refine kk M1 H1 s1 ?_
          have R3 : Rep K M1 H1 ([o'] ++ ((ρt ++ tm) ++ fo)) ([some (.ref x)] ++ ((σt ++ tv) ++ fv)) := by simpa using R2
          exact R3.dropM rfl (by simp [lt', lt])
    refine ⟨M, _, fo, fv, r, L2.start N (.ref x :: ws), R1, ⟨l1, fun _ _ => rfl⟩, q, ?_⟩
    cases r with
    | nx ρ => exact fun M1 H1 σ1 s1 R2 lk => fin (tm := []) (tv := []) e rfl s1 R2 lk
    | rt o' ρ =>
      cases o' with
      | dat d =>
        cases d with
        | non =>
          have e : ρ[0]? = some o := e
          intro M1 H1 σ1 v s1 R2 lk
          obtain ⟨y, ey, dy⟩ := R2.datAt lk.1 rfl
          cases ey
          cases dy
          exact fin (tm := [.dat .non]) (tv := [some .non]) e rfl s1 R2 lk
        | _ => cases e
      | _ => cases e
    | bk ρ => cases e
    | ct ρ => cases e
    | ex x ρ => cases e
end
section
variable {X : Cx} {W : WX} {pos p : Pos} {e : Expr} {es : List Expr} {ga : Ev → Option (List D)} {k n : Nat} {f C : Addr} {fd : FuncData} {ps : List Str} {x : Str}
/-- what C(..) gives: from the data of the arguments -/
def cO (g : Ev → Option (List D)) (m : List D → Option O) (ρ : Ev) : Option O := (g ρ).bind m
def lenO? (n : Nat) (m : List D → Option O) (ds : List D) : Option O := if ds.length = n then m ds else none
theorem make_of {K : PySem.W.Frag} {m : List D → Option O} {ds : List D} {o : O} {M H : Hp} {fo : List O} {fv : List (Option V)} {l : List O} {lv : List (Option V)} {vs : List V} {Q : VK} {E : XK} (hl : lv.length = l.length) (R : Rep K M H (l ++ fo) (lv ++ fv)) (dv : Dvs K M vs ds) (hn : ds.length + 1 = n) (e : m ds = some o)
    (k : ∀ M' H' v, Same M M' → Rep K M' H' (l ++ o :: fo) (lv ++ some v :: fv) → Q v H') (x dx : Addr) (hx : H x = none) (hd : H dx = none) (ne : dx ≠ x) :
    spI K C n m (.ref x :: vs) (upd (upd H dx (.own x)) x (.ins C dx [])) (fun v H2 => v = .non ∧ Q (.ref x) H2) E :=
  ⟨x, vs, M, l ++ fo, lv ++ fv, ds, o, rfl, by rw [dv.length]; exact hn, R.newI hx hd ne, dv, e, fun M2 H2 s2 R2 => ⟨rfl, k M2 H2 _ s2 (R2.swap hl)⟩⟩
theorem oMake {m : List D → Option O} (Mc : Mk X.K C f) (F : FnOk X.prog X.w X.K X.mg X.base CX0 k f fd ps (spI X.K C (n + 1) m)) (hr : Room (k + 1) X.A) (hm : X.mg x = some (.ref C)) (hb : Binds X.K fd ps []) (ha : PA X (e :: es) (tAr X.K ga)) (hg : Gl X x := by rfl)
    (hdb : (x == ("__debug__" : Str)) = false := by decide) (he : starEach (e :: es) X.env = (false, eval e X.env) :: starEach es X.env := by rfl) (hpl : (backTo pos (starEach es X.env)).any (·.1) = false := by rfl) :
    PE X (.Call (.Name x p) (e :: es) [] pos) (tO X.K (cO ga (lenO? n m))) := PE.imp (pe_make Mc F hr hg hm hb .nil (E := E0) pass0 ha hdb he hpl) fun σ H Q ⟨M, ρ, fo, fv, o, R, l, e, k⟩ => by
  unfold cO lenO? at e
  cases q : ga ρ with
  | none => rw [q] at e; cases e
  | some ds =>
    rw [q, Option.bind_some] at e
    split at e
    · rename_i hn
      refine ⟨M, ρ, fo, fv, ds, R, l, q, fun M1 H1 vs s1 R1 d1 x dx hx hd ne => ?_⟩
      rw [List.append_nil]
      exact make_of l R1 d1 (by rw [hn]) e (fun M2 H2 v s2 R2 => k M2 H2 v (s1.trans s2) R2) x dx hx hd ne
    · cases e
/-! ### a field of a frozen object -/
def fldD (C : Addr) (f : Str) : D → Option D
  | .obj C' ks ds => if C' = C then (ks.zip ds).lookup f else none
  | _ => none
theorem fld_get {K : PySem.W.Frag} {M : Hp} {f : Str} {d : D} : ∀ {fs : List (Str × V)} {ds : List D}, Dvs K M (fs.map (·.2)) ds → ((fs.map (·.1)).zip ds).lookup f = some d → ∃ v, fs.lookup f = some v ∧ Dv K M v d
  | [], _, .nil, e => by cases e
  | (g, x) :: fs, _, .cons h hs, e => by
    simp only [List.map_cons, List.zip_cons_cons, List.lookup] at e ⊢
    by_cases z : f = g
    · subst z
      simp only [beq_self_eq_true] at e ⊢
      cases e
      exact ⟨x, rfl, h⟩
    · have z' : (f == g) = false := by simpa using z
      rw [z'] at e ⊢
      exact fld_get hs e
theorem pFld {fe : Ev → Option D} {f : Str} (c : Cls X.K C) (na : NoAttr X.K C f) (he : PE X e (tP X.K fe)) (hb : attributeBase e f X.env (eval e X.env) = eval e X.env := by rfl) : PE X (.Attribute e f pos) (tP X.K (b1 fe (fldD C f))) :=
  PE.imp (pe_fld he hb) fun σ H Q ⟨M, ρ, fo, fv, d, R, l, e, k⟩ => by
    obtain ⟨x, ea, eg⟩ := b1_some e
    unfold fldD at eg
    split at eg
    · rename_i C' ks ds
      split at eg
      · rename_i hC
        subst hC
        refine ⟨M, ρ, fo, fv, _, R, l, ea, fun M1 H1 v1 s1 R1 d1 => ?_⟩
        cases d1 with
        | obj ha hdx hk hs =>
          subst hk
          obtain ⟨v, ev, dv⟩ := fld_get hs eg
          exact ⟨_, _, _, _, v, rfl, R1.same _ _ ha, c, na, ev, k M1 H1 v s1 R1 dv⟩
      · cases eg
    · cases eg

/-! ### methods, properties, operators of frozen objects -/
def selfC (C : Addr) : D → Bool
  | .obj C' _ _ => decide (C' = C)
  | _ => false
/-- o.m(..): from the data of o and of the arguments -/
def mC (C : Addr) (nm : Str) (fo : Ev → Option D) (ga : Ev → Option (List D)) (n : Nat) (m : List D → Option D) (ρ : Ev) : Option D := (fo ρ).bind fun x => match x with
  | .obj C' ks ds => if C' = C ∧ (ks.zip ds).lookup nm = none then (ga ρ).bind fun as => if as.length + 1 = n then m (.obj C' ks ds :: as) else none else none
  | _ => none
theorem fld_none {K : PySem.W.Frag} {M : Hp} {f : Str} : ∀ {fs : List (Str × V)} {ds : List D}, Dvs K M (fs.map (·.2)) ds → ((fs.map (·.1)).zip ds).lookup f = none → fs.lookup f = none
  | [], _, .nil, e => rfl
  | (g, x) :: fs, _, .cons h hs, e => by
    simp only [List.map_cons, List.zip_cons_cons, List.lookup] at e ⊢
    by_cases z : f = g
    · subst z
      simp only [beq_self_eq_true] at e
      cases e
    · have z' : (f == g) = false := by simpa using z
      rw [z'] at e ⊢
      exact fld_none hs e
theorem meth_of {K : PySem.W.Frag} {C : Addr} {nm : Str} {fo : Ev → Option D} {ga : Ev → Option (List D)} {n : Nat} {m : List D → Option D} {σ : L2.St} {H : Hp} {Q : VK} (h : tP K (mC C nm fo ga n m) σ H Q) : tMeth C nm (spP K n m) [] E0 (tP K fo) (tAr K ga) σ H Q := by
  obtain ⟨M, ρ, fr, fv, d, R, l, e, k⟩ := h
  unfold mC at e
  cases q : fo ρ with
  | none => rw [q] at e; cases e
  | some x =>
    rw [q, Option.bind_some] at e
    cases x with
    | obj C' ks ds =>
      change (if C' = C ∧ (ks.zip ds).lookup nm = none then (ga ρ).bind fun as => if as.length + 1 = n then m (.obj C' ks ds :: as) else none else none) = some d at e
      split at e
      · rename_i hc
        obtain ⟨rfl, hno⟩ := hc
        refine ⟨M, ρ, fr, fv, _, R, l, q, fun M1 H1 v1 s1 R1 d1 => ?_⟩
        cases q2 : ga ρ with
        | none => rw [q2] at e; cases e
        | some as =>
          rw [q2, Option.bind_some] at e
          split at e
          · rename_i hn
            have d1' := d1
            cases d1 with
            | obj ha hdx hk hs =>
              subst hk
              refine ⟨_, _, _, rfl, R1.same _ _ ha, fld_none hs hno, M1, ρ, fr, fv, as, R1, l, q2, fun M2 H2 vs s2 R2 d2 => ⟨?_, M2, ρ ++ fr, σ ++ fv, _, d, R2, .cons (d1'.mono s2) (by rw [List.append_nil]; exact d2), e, fun M3 H3 v s3 R3 d3 => k M3 H3 v (s1.trans (s2.trans s3)) R3 d3⟩⟩
              rw [List.append_nil, List.length_cons, d2.length]; exact hn
          · cases e
      · cases e
    | _ => cases e
theorem pMeth {nm : Str} {o : Expr} {fo : Ev → Option D} {apos : Pos} {m : List D → Option D} {pl : Sem Bool} (c : Cls X.K C) (hm : Meth X.K C nm f) (F : FnOk X.prog X.w X.K X.mg X.base CX0 k f fd ps (spP X.K n m)) (hr : Room k X.A) (hb : Binds X.K fd ps []) (he : PE X o (tP X.K fo)) (ha : PA X (e :: es) (tAr X.K ga))
    (hst : starEach (e :: es) X.env = (false, eval e X.env) :: starEach es X.env := by rfl) (hpl : (backTo pos (starEach es X.env)).any (·.1) = false := by rfl)
    (ht : eval (.Call (.Attribute o nm apos) (e :: es) [] pos) X.env = (do
      let ov ← eval o X.env
      standAt apos.atName
      let (f, first) ← holding [ov] (getMethod ov nm pl)
      callWith pos f first (backTo pos (starEach (e :: es) X.env)) (backToKw pos (keywordEach [] X.env))) := by rfl) :
    PE X (.Call (.Attribute o nm apos) (e :: es) [] pos) (tP X.K (mC C nm fo ga n m)) := PE.imp (pe_meth he c hm F hr hb .nil pass0 ha hst hpl ht) fun _ _ _ h => meth_of h
theorem pMeth0 {nm : Str} {o : Expr} {fo : Ev → Option D} {apos : Pos} {m : List D → Option D} {pl : Sem Bool} (c : Cls X.K C) (hm : Meth X.K C nm f) (F : FnOk X.prog X.w X.K X.mg X.base CX0 k f fd ps (spP X.K n m)) (hr : Room k X.A) (hb : Binds X.K fd ps []) (he : PE X o (tP X.K fo))
    (ht : eval (.Call (.Attribute o nm apos) [] [] pos) X.env = (do
      let ov ← eval o X.env
      standAt apos.atName
      let (f, first) ← holding [ov] (getMethod ov nm pl)
      callWith pos f first (backTo pos (starEach [] X.env)) (backToKw pos (keywordEach [] X.env))) := by rfl) :
    PE X (.Call (.Attribute o nm apos) [] [] pos) (tP X.K (mC C nm fo aNil n m)) := PE.imp (pe_meth0 he c hm F hr hb .nil pass0 ht) fun σ H Q h => by
  obtain ⟨M, ρ, fr, fv, d, R, l, e, k⟩ := meth_of h
  refine ⟨M, ρ, fr, fv, d, R, l, e, fun M1 H1 v s1 R1 d1 => ?_⟩
  obtain ⟨a, dx, fs, ev, ea, hn, M2, ρ2, fr2, fv2, as, R2, l2, e2, k2⟩ := k M1 H1 v s1 R1 d1
  cases e2
  exact ⟨a, dx, fs, ev, ea, hn, k2 M2 H1 [] (Same.refl _) R2 .nil⟩
/-- o.f, a property -/
def prC (C : Addr) (m : List D → Option D) (x : D) : Option D := match x with
  | .obj C' ks ds => if C' = C then m [.obj C' ks ds] else none
  | _ => none
theorem pProp {nm : Str} {g pa : Addr} {fo : Ev → Option D} {m : List D → Option D} (c : Cls X.K C) (hp : PropOf X.K C nm pa g) (F : FnOk X.prog X.w X.K X.mg X.base CX0 k g fd ps (spP X.K 1 m)) (hr : Room (k + 1) X.A) (hb : Binds X.K fd ps []) (he : PE X e (tP X.K fo))
    (hab : attributeBase e nm X.env (eval e X.env) = eval e X.env := by rfl) : PE X (.Attribute e nm pos) (tP X.K (b1 fo (prC C m))) := PE.imp (pe_prop he c hp F hr hb .nil (E := E0) pass0 hab) fun σ H Q ⟨M, ρ, fr, fv, d, R, l, e, k⟩ => by
  obtain ⟨x, ea, eg⟩ := b1_some e
  unfold prC at eg
  split at eg
  · rename_i C' ks ds
    split at eg
    · rename_i hC
      subst hC
      refine ⟨M, ρ, fr, fv, _, R, l, ea, fun M1 H1 v1 s1 R1 d1 => ?_⟩
      have d1' := d1
      cases d1 with
      | obj ha hdx hk hs => exact ⟨_, _, _, rfl, R1.same _ _ ha, rfl, M1, ρ ++ fr, σ ++ fv, _, d, R1, .cons d1' .nil, eg, fun M3 H3 v s3 R3 d3 => k M3 H3 v (s1.trans s3) R3 d3⟩
    · cases eg
  · cases eg
/-- x op y, both of the class C -/
def opC (C : Addr) (m : List D → Option D) (x y : D) : Option D := if selfC C x = true ∧ selfC C y = true then (m [x, y]).bind fun d => some d else none
theorem obj_at {pins : List (Addr × Obj)} {σ : L2.St} {H : Hp} {s : Shared} (I : Inv X pins σ H s) {M : Hp} {fo : List O} {fv : List (Option V)} {v : V} {u : Value} {d : D} (R : Rep X.K M H fo fv) (dv : Dv X.K M v d) (hc : selfC C d = true) (r : RelV v u) :
    ∃ a ox od, u = .ref a ∧ v = .ref a ∧ PySem.W.InstAt s.heap a ox C (some od) := by
  cases dv with
  | obj ha hdx hk hs =>
    rename_i a C' dx fs ks ds
    have : C' = C := by simpa [selfC] using hc
    subst this
    obtain rfl : u = Value.ref a := r
    obtain ⟨mA, O, _, _, _, _⟩ := ins_get I.hok (R.same _ _ ha)
    obtain ⟨od, J, _⟩ := O.look
    exact ⟨a, _, od, rfl, rfl, J⟩
  | _ => cases hc
/-- what the number slots of the class are -/
structure OpOf (K : PySem.W.Frag) (C : Addr) (op : Operator) (f : Addr) : Prop where
  first : PySem.W.selfFirst K C = true
  at_ : PySem.W.findIn K (.ref C) (PySem.dunder op.info.2) = some (some (.ref f))
  fn : PySem.W.isFn K (.ref f) = true
theorem notImpl {v : V} {u : Value} (r : RelV v u) : u ≠ .notImplemented := fun z => by
  subst z
  cases v <;> first | (obtain ⟨_, h⟩ := r; cases h) | cases r
theorem ep_back {pins : List (Addr × Obj)} {σ : L2.St} {Q : VK} {u : Value} {s' : Shared} (h : EP X pins σ Q u s') : PySem.W.CmpBack (EP X pins σ Q) u s' := by
  obtain ⟨v, H', I', r, q⟩ := h
  have := notImpl r
  unfold PySem.W.CmpBack
  split
  · exact this rfl
  · exact ⟨v, H', I', r, q⟩
theorem oOpC {op : Operator} {m : List D → Option D} (hop : OpOf X.K C op f) (F : FnOk X.prog X.w X.K X.mg X.base CX0 k f fd ps (spP X.K 2 m)) (hr : Room k X.A) (hb : Binds X.K fd ps []) : OpR X (binaryOp op) (rD X.K (opC C m)) := by
  intro pins s σ H x y v u Q I rx ry ⟨M, fo, fv, dx, dy, d, R, d1, d2, e, kk⟩
  unfold opC at e
  split at e
  · rename_i hc
    obtain ⟨a, ox, od, ea, _, Ia⟩ := obj_at I R d1 hc.1 rx
    obtain ⟨b, oy, oe, eb, _, Ib⟩ := obj_at I R d2 hc.2 ry
    cases q : m [dx, dy] with
    | none => rw [q] at e; cases e
    | some d' =>
      rw [q] at e
      cases e
      subst ea
      obtain ⟨mm, fr⟩ := I.fr
      refine PySem.W.binop_K fr I.ok.mod.kin Ia (by rw [eb]; exact Ib.type) hop.first hop.at_ hop.fn ?_
      refine wpAny_mono (run_fn (us := [.ref a, u]) (vs := [x, y]) (ds := []) (dvs := []) (E := E0) F hr hb .nil pass0 I (.cons rx (.cons ry .nil)) ?_) (fun _ _ h => ep_back h) fun _ _ h => h
      exact ⟨rfl, M, fo, fv, [dx, dy], _, R, .cons d1 (.cons d2 .nil), q, kk⟩
  · cases e

/-- x op i, i an int -/
def opCI (C : Addr) (m : List D → Option D) (x y : D) : Option D := match y with
  | .int i => if selfC C x = true then m [x, .int i] else none
  | _ => none
structure OpOfI (K : PySem.W.Frag) (C : Addr) (op : Operator) (f : Addr) : Prop extends OpOf K C op f where
  back : ∃ rc, PySem.W.findIn K (.ref C) (dunderR op.info.2) = some rc ∧ (rc = none ∨ ∃ g : Addr, rc = some (.ref g))
  int1 : ∃ fo, PySem.W.findIn K (.type "int") (PySem.dunder op.info.2) = some fo
  int2 : ∃ ro, PySem.W.findIn K (.type "int") (dunderR op.info.2) = some ro
  sub : PySem.W.subIn K (.type "int") (.ref C) = some false
theorem oOpCI {op : Operator} {m : List D → Option D} (hop : OpOfI X.K C op f) (F : FnOk X.prog X.w X.K X.mg X.base CX0 k f fd ps (spP X.K 2 m)) (hr : Room k X.A) (hb : Binds X.K fd ps []) : OpR X (binaryOp op) (rD X.K (opCI C m)) := by
  intro pins s σ H x y v u Q I rx ry ⟨M, fo, fv, dx, dy, d, R, d1, d2, e, kk⟩
  unfold opCI at e
  split at e
  · rename_i j
    split at e
    · rename_i hc
      obtain ⟨a, ox, od, ea, _, Ia⟩ := obj_at I R d1 hc rx
      cases d2
      obtain ⟨t, rfl⟩ := ry
      subst ea
      obtain ⟨mm, fr⟩ := I.fr
      obtain ⟨rc, b1, b2⟩ := hop.back
      obtain ⟨fo', b3⟩ := hop.int1
      obtain ⟨ro', b4⟩ := hop.int2
      refine PySem.W.ksp_binT (T := "int") fr I.ok.mod.kin Ia (by rfl) hop.first hop.at_ hop.fn b1 b2 b3 b4 hop.sub ?_
      refine wpAny_mono (run_fn (us := [.ref a, .int j t]) (vs := [x, .int j]) (ds := []) (dvs := []) (E := E0) F hr hb .nil pass0 I (.cons rx (.cons ⟨t, rfl⟩ .nil)) ?_) (fun _ _ h => ep_back h) fun _ _ h => h
      exact ⟨rfl, M, fo, fv, [dx, .int j], d, R, .cons d1 (.cons (.int j) .nil), e, kk⟩
    · cases e
  · cases e
/-- ~x -/
def inC (C : Addr) (m : List D → Option D) (x : D) : Option D := if selfC C x = true then m [x] else none
theorem oInvC {m : List D → Option D} (h1 : PySem.W.findIn X.K (.ref C) "__invert__" = some (some (.ref f))) (h2 : PySem.W.isFn X.K (.ref f) = true) (F : FnOk X.prog X.w X.K X.mg X.base CX0 k f fd ps (spP X.K 1 m)) (hr : Room k X.A) (hb : Binds X.K fd ps []) : UnR X (unaryOp .Invert) (rD1 X.K (inC C m)) := by
  intro pins s σ H x v Q I rx ⟨M, fo, fv, dx, d, R, d1, e, kk⟩
  unfold inC at e
  split at e
  · rename_i hc
    obtain ⟨a, ox, od, ea, _, Ia⟩ := obj_at I R d1 hc rx
    subst ea
    obtain ⟨mm, fr⟩ := I.fr
    refine PySem.W.ksp_inv fr I.ok.mod.kin Ia h1 h2 ?_
    exact run_fn (us := [.ref a]) (vs := [x]) (ds := []) (dvs := []) (E := E0) F hr hb .nil pass0 I (.cons rx .nil) ⟨rfl, M, fo, fv, [dx], d, R, .cons d1 .nil, e, kk⟩
  · cases e
/-- what isinstance and == ask of an own class -/
structure ClsX (K : PySem.W.Frag) (C : Addr) : Prop where
  c : Cls K C
  ha : PySem.W.findIn K (.ref C) "__class__" = some (some (.builtin "object.__class__"))
  hn : PySem.W.specialIn K (.builtin "object.__class__") "__get__" = some (some (.builtin "getset_descriptor.__get__"))
  htk : PySem.W.takesIn K (.builtin "object.__class__") = some true
  hm : PySem.W.mroIn K C (.type "object") = some true
  ty : PySem.W.typeIn K (.ref C) = some (.type "type")
theorem sub_blt {K : PySem.W.Frag} {C : Addr} {d : D} {t : String} (e : tyD d = some t) : PySem.W.subIn K (.type t) (.ref C) = some false := by
  cases d <;> cases e <;> rfl

theorem ClsX.tyx {K : PySem.W.Frag} {M : Hp} {v : V} {C : Addr} {ks : List Str} {ds : List D} (c : ClsX K C) (h : Dv K M v (.obj C ks ds)) : TyX K M v (.ref C) := by
  cases h with
  | obj ha hdx hk hs => exact .base (.ins ha c.c c.ha c.hn c.htk c.hm)
/-- isinstance(x, C), C an own class: cs says what the own classes are to it -/
def isiC (cs : List (Addr × Bool)) (x : D) : Option D := match x with
  | .obj C' _ _ => (cs.lookup C').map .bl
  | x => (tyD x).map fun _ => .bl false
theorem isiC_cases {cs : List (Addr × Bool)} {x d : D} (h : isiC cs x = some d) : (∃ C' ks ds b, x = .obj C' ks ds ∧ cs.lookup C' = some b ∧ d = .bl b) ∨ ∃ t, tyD x = some t ∧ d = .bl false := by
  cases x with
  | obj C' ks ds =>
    left
    have h : (cs.lookup C').map D.bl = some d := h
    cases q : cs.lookup C' with
    | none => rw [q] at h; cases h
    | some b => rw [q] at h; cases h; exact ⟨C', ks, ds, b, rfl, q, rfl⟩
  | exn _ _ _ _ _ => cases h
  | tagM _ _ => cases h
  | tagP _ _ => cases h
  | _ =>
    right
    cases h
    exact ⟨_, rfl, rfl⟩
structure IsC (K : PySem.W.Frag) (C : Addr) (cs : List (Addr × Bool)) : Prop where
  cl : (PySem.W.clsIn K C).isSome = true
  ty : PySem.W.typeIn K (.ref C) = some (.type "type")
  own : ∀ C' b, cs.lookup C' = some b → ClsX K C' ∧ PySem.W.kitOne K (.ref C') (.ref C) = some b
theorem pIsiC {a : Expr} {q : Pos} {fa : Ev → Option D} {y : Str} {cs : List (Addr × Bool)} (I : IsC X.K C cs) (hmC : X.mg y = some (.ref C)) (ha : PE X a (tP X.K fa)) (hm : X.mg "isinstance" = none) (hg : Gl X "isinstance" := by rfl) (hgT : Gl X y := by rfl)
    (hd : (y == ("__debug__" : Str)) = false := by decide)
    (hs : starEach [a, .Name y q] X.env = (false, eval a X.env) :: starEach [.Name y q] X.env := by rfl) (hs2 : starEach [.Name y q] X.env = (false, eval (.Name y q) X.env) :: starEach [] X.env := by rfl) (hpl : (backTo pos (starEach [.Name y q] X.env)).any (·.1) = false := by rfl) :
    PE X (.Call (.Name "isinstance" p) [a, .Name y q] [] pos) (tP X.K (b1 fa (isiC cs))) :=
  PE.imp (pe_callB call_isi hg hm (by decide +kernel) (pa_cons ha (pa_cons (pe_glob (v := .ref C) hgT hmC rfl hd) pa_nil hs2) hs) (by decide) (by decide) hs hpl) fun σ H Q ⟨M, ρ, fo, fv, d, R, l, e, k⟩ => by
    obtain ⟨x, ea, eg⟩ := b1_some e
    refine ⟨M, ρ, fo, fv, x, R, l, ea, fun M1 H1 v1 s1 R1 d1 => ?_⟩
    have blt : ∀ t, tyD x = some t → d = .bl false → ∃ (x c : V) (t u : Value) (b : Bool), [v1, V.ref C] = [x, c] ∧ ClsV c u ∧ TyX X.K H1 x t ∧ PySem.W.kitOne X.K t u = some b ∧ Q (.bl b) H1 := fun t ht hd => by
      subst hd
      refine ⟨v1, .ref C, .type t, .ref C, false, rfl, .own C, tyX_mono R1.same (tyX_of d1 ht), ?_, k M1 H1 _ s1 R1 (.bl _)⟩
      unfold PySem.W.kitOne
      rw [if_neg (by simp)]
      show (if ((PySem.W.clsIn X.K C).isSome && PySem.W.typeIn X.K (.ref C) == some (.type "type")) = true then PySem.W.subIn X.K (.type t) (.ref C) else none) = some false
      rw [I.ty, I.cl, if_pos (by simp)]
      exact sub_blt ht
    rcases isiC_cases eg with ⟨C', ks, ds, b, rfl, q, rfl⟩ | ⟨t, ht, hd⟩
    · obtain ⟨c', hk⟩ := I.own C' b q
      exact ⟨v1, .ref C, .ref C', .ref C, b, rfl, .own C, tyX_mono R1.same (c'.tyx d1), hk, k M1 H1 _ s1 R1 (.bl _)⟩
    · exact blt t ht hd
/-- x == y, x of the class C that has its own __eq__ -/
def eqC (C : Addr) (os : List Addr) (m : List D → Option D) (x y : D) : Option D := if selfC C x = true then match y with
  | .obj C' ks ds => if C' = C ∨ C' ∈ os then m [x, .obj C' ks ds] else none
  | y => (tyD y).bind fun _ => m [x, y] else none
theorem eqC_cases {C : Addr} {os : List Addr} {m : List D → Option D} {x y d : D} (h : eqC C os m x y = some d) : selfC C x = true ∧ m [x, y] = some d ∧ ((∃ C' ks ds, y = .obj C' ks ds ∧ (C' = C ∨ C' ∈ os)) ∨ ∃ t, tyD y = some t) := by
  unfold eqC at h
  split at h
  · rename_i hc
    refine ⟨hc, ?_⟩
    cases y with
    | obj C' ks ds =>
      change (if C' = C ∨ C' ∈ os then m [x, .obj C' ks ds] else none) = some d at h
      split at h
      · exact ⟨h, .inl ⟨C', ks, ds, rfl, by assumption⟩⟩
      · cases h
    | exn _ _ _ _ _ => cases h
    | tagM _ _ => cases h
    | tagP _ _ => cases h
    | _ => exact ⟨h, .inr ⟨_, rfl⟩⟩
  · cases h
structure EqOf (K : PySem.W.Frag) (C f : Addr) (os : List Addr) : Prop where
  at_ : PySem.W.findIn K (.ref C) "__eq__" = some (some (.ref f))
  fn : PySem.W.isFn K (.ref f) = true
  cx : ClsX K C
  own : ∀ C' ∈ os, ClsX K C' ∧ PySem.W.subIn K (.ref C') (.ref C) = some false
theorem oEqC {m : List D → Option D} {os : List Addr} (hop : EqOf X.K C f os) (F : FnOk X.prog X.w X.K X.mg X.base CX0 k f fd ps (spP X.K 2 m)) (hr : Room k X.A) (hb : Binds X.K fd ps []) : OpR X (compareOp .Eq) (rD X.K (eqC C os m)) := by
  intro pins s σ H x y v u Q I rx ry ⟨M, fo, fv, dx, dy, d, R, d1, d2, e, kk⟩
  obtain ⟨hc, em, hy⟩ := eqC_cases e
  obtain ⟨a, ox, od, ea, _, Ia⟩ := obj_at I R d1 hc rx
  subst ea
  obtain ⟨mm, fr⟩ := I.fr
  have fin : ∀ tb, PySem.W.Looks (model X.prog X.w) s.heap (typeOf u) tb → PySem.W.notFirst X.K C tb = true → wpAny (model X.prog X.w) X.A (compareOp .Eq (.ref a) u) (EP X pins σ Q) X.xe s := fun tb L hn => by
    refine PySem.W.cmp_ofEq (PySem.W.cmp_K hr.units0 fr I.ok.mod.kin Ia L hn hop.at_ hop.fn ?_)
    refine wpAny_mono (run_fn (us := [.ref a, u]) (vs := [x, y]) (ds := []) (dvs := []) (E := E0) F hr hb .nil pass0 I (.cons rx (.cons ry .nil)) ?_) (fun _ _ h => ep_back h) fun _ _ h => h
    exact ⟨rfl, M, fo, fv, [dx, dy], d, R, .cons d1 (.cons d2 .nil), em, kk⟩
  have look : ∀ t, TyX X.K M y t → PySem.W.Looks (model X.prog X.w) s.heap (typeOf u) t := fun t ty => by
    obtain ⟨P, Z, p, _⟩ := kit_of I ry (tyX_mono R.same ty)
    exact Z.ty _ _ I.kIn p
  rcases hy with ⟨C', ks, ds, rfl, hC⟩ | ⟨t, ht⟩
  · by_cases z : C' = C
    · subst z
      exact fin _ (look _ (hop.cx.tyx d2)) (by unfold PySem.W.notFirst; simp)
    · obtain ⟨c', hs⟩ := hop.own C' (hC.resolve_left z)
      exact fin _ (look _ (c'.tyx d2)) (by unfold PySem.W.notFirst; rw [hs]; simp)
  · exact fin _ (look _ (tyX_of d2 ht)) (by unfold PySem.W.notFirst; rw [sub_blt ht]; simp)
end
end PD

namespace PD
open PySem PySem.Spec L2

section
variable {X : Cx} {W : WX} {J : List Nat} {pos p : Pos} {e : Expr} {es : List Expr} {ga : Ev → Option (List D)}
/-! ### calls of built-ins that give a new thing -/
theorem tCB_O {K : PySem.W.Frag} {g : Ev → Option (List D)} {f : List D → Option O} {σ : L2.St} {H : Hp} {Q : VK} (h : tO K (cO g f) σ H Q) : tCB (rOs K f) (tAr K g) σ H Q := by
  obtain ⟨M, ρ, fo, fv, o, R, l, e, k⟩ := h
  unfold cO at e
  cases q : g ρ with
  | none => rw [q] at e; cases e
  | some ds =>
    rw [q, Option.bind_some] at e
    exact ⟨M, ρ, fo, fv, ds, R, l, q, fun M1 H1 vs s1 R1 d1 => ⟨M1, ρ ++ fo, σ ++ fv, ds, o, R1, d1, e, fun M2 H2 v s2 R2 => k M2 H2 v (s1.trans s2) (R2.swap l)⟩⟩
theorem oCallB {id : String} {x : Str} {f : List D → Option O} (hc : CallR X (.builtin id) (rOs X.K f)) (hm : X.mg x = none) (hv : bootBuiltins x = some (.builtin id)) (ha : PA X (e :: es) (tAr X.K ga)) (hg : Gl X x := by rfl) (hn : x ≠ "__name__" := by decide) (hdb : (x == ("__debug__" : Str)) = false := by decide)
    (hpl : (backTo pos (starEach es X.env)).any (·.1) = false := by rfl) (hs : starEach (e :: es) X.env = (false, eval e X.env) :: starEach es X.env := by rfl) : PE X (.Call (.Name x p) (e :: es) [] pos) (tO X.K (cO ga f)) :=
  PE.imp (pe_callB hc hg hm hv ha hn hdb hs hpl) fun _ _ _ h => tCB_O h
theorem oCallT {T : String} {x : Str} {f : List D → Option O} (hc : CallR X (.type T) (rOs X.K f)) (hm : X.mg x = none) (hv : bootBuiltins x = some (.type T)) (ha : PA X (e :: es) (tAr X.K ga)) (hg : Gl X x := by rfl) (hn : x ≠ "__name__" := by decide) (hdb : (x == ("__debug__" : Str)) = false := by decide)
    (hpl : (backTo pos (starEach es X.env)).any (·.1) = false := by rfl) (hs : starEach (e :: es) X.env = (false, eval e X.env) :: starEach es X.env := by rfl) : PE X (.Call (.Name x p) (e :: es) [] pos) (tO X.K (cO ga f)) :=
  PE.imp (pe_callTy hc hg hm hv ha hn hdb hs hpl) fun _ _ _ h => tCB_O h
/-! ### list(x), tuple(x) -/
def listO : List D → Option O
  | [.lst ds] => some (.lst (ds.map .dat))
  | [.tup ds] => some (.lst (ds.map .dat))
  | _ => none
theorem cList : CallR X (.type "list") (rOs X.K listO) := CallR.imp call_list_of fun xs H Q ⟨M, fo, fv, ds, o, R, dv, e, k⟩ => by
  unfold listO at e
  split at e
  · cases e
    cases dv with
    | cons d1 dn =>
      cases dn
      cases d1 with
      | lst hs hd => exact ⟨_, _, rfl, .inl (seqX R.same hs), fun l hl => k M _ _ (Same.refl _) (Rep.newL (l := []) (lv := []) R rfl hl hd)⟩
  · cases e
    cases dv with
    | cons d1 dn =>
      cases dn
      cases d1 with
      | tup hs hd => exact ⟨_, _, rfl, .inr (sqT_same R.same hs), fun l hl => k M _ _ (Same.refl _) (Rep.newL (l := []) (lv := []) R rfl hl hd)⟩
  · cases e
def tupD : List D → Option D
  | [.lst ds] => some (.tup ds)
  | [.tup ds] => some (.tup ds)
  | _ => none
theorem cTup : CallR X (.type "tuple") (rDs X.K tupD) := CallR.imp call_tuple_of fun xs H Q ⟨M, fo, fv, ds, o, R, dv, e, k⟩ => by
  unfold tupD at e
  split at e
  · cases e
    cases dv with
    | cons d1 dn =>
      cases dn
      cases d1 with
      | @lst a xs _ hs hd =>
        refine ⟨_, _, rfl, .inl ⟨seqX R.same hs, fun l hl => ?_⟩⟩
        have s2 := same_updM (u := .tup xs) (R.same.free hl)
        exact k _ _ _ s2 (R.growM hl) (.tup (.inl (.inl upd_same)) (hd.mono s2))
  · cases e
    cases dv with
    | cons d1 dn =>
      cases dn
      have d1' := d1
      cases d1 with
      | tup hs hd => exact ⟨_, _, rfl, .inr ⟨sqT_same R.same hs, k M H _ (Same.refl _) R d1'⟩⟩
  · cases e
/-! ### sorted(x) -/
def pyT (d : D) : PyData := d.py.getD .none
def leD : D → D → Bool := PySem.W.dataLe false pyT
def SortOk (ds : List D) : Prop := (∀ d ∈ ds, d.py = some (pyT d) ∧ (pyT d).depth ≤ 60) ∧ PySem.W.AllAlike (ds.map pyT) ∧ PySem.W.Sortable (ds.map pyT) ∧ ds.length ≤ sizeLine
open Classical in
noncomputable def srtO : List D → Option O
  | [.lst ds] => if SortOk ds then some (.lst ((ds.mergeSort leD).map .dat)) else none
  | _ => none
theorem each_of {K : PySem.W.Frag} {M : Hp} : ∀ {vs : List V} {ds : List D} {us : List Value}, Dvs K M vs ds → Vals vs us → PySem.W.EachIs (fun u (d : D) => ∃ v, RelV v u ∧ Dv K M v d) us ds
  | _, _, _, .nil, .nil => .nil
  | _, _, _, .cons d ds, .cons r rs => .cons ⟨_, r, d⟩ (each_of ds rs)
theorem of_each {K : PySem.W.Frag} {M : Hp} : ∀ {us : List Value} {ds : List D}, PySem.W.EachIs (fun u (d : D) => ∃ v, RelV v u ∧ Dv K M v d) us ds → ∃ vs, Vals vs us ∧ Dvs K M vs ds
  | _, _, .nil => ⟨[], .nil, .nil⟩
  | _, _, .cons ⟨v, r, d⟩ t => by
    obtain ⟨vs, rs, ds⟩ := of_each t
    exact ⟨v :: vs, .cons r rs, .cons d ds⟩
theorem cSorted (hu : X.A.units + 64 < cLine) : CallR X (.builtin "sorted") (rOs X.K srtO) := by
  intro pins s σ H xs us Q I r ⟨M, fo, fv, ds, o, R, dv, e, k⟩
  unfold srtO at e
  split at e
  · rename_i ds
    split at e
    · rename_i ok
      cases e
      cases dv with
      | cons d1 dn =>
        cases dn
        cases d1 with
        | lst hs hd =>
          obtain ⟨its, rv, hl, _⟩ := I.list (seqX R.same hs)
          rw [Vals.ref1 r]
          obtain ⟨o1, o2, o3, o4⟩ := ok
          refine PySem.W.sorted_data (bs := ds) (enc := pyT) hl.isList (each_of hd rv) ?_ o2 o3 o4 (fun b hb => by have := (o1 b hb).2; omega) fun out hlen eo => ?_
          · have key : ∀ {vs : List V} {es : List D} {us : List Value}, (∀ d ∈ es, d.py = some (pyT d)) → Dvs X.K M vs es → Vals vs us → PySem.W.EachIs (fun u (d : D) => ∃ as, Reads s.heap u (pyT d) as) us es := by
              intro vs es
              induction es generalizing vs with
              | nil => intro us _ h2 h3; cases h2; cases h3; exact .nil
              | cons d es ih =>
                intro us h1 h2 h3
                cases h2 with
                | cons a b =>
                  cases h3 with
                  | cons c c' => exact .cons (Dp.reads I _ _ _ (dp_mono R.same (a.dp (h1 d List.mem_cons_self))) c) (ih (fun x hx => h1 x (List.mem_cons_of_mem _ hx)) b c')
            exact key (fun d hd => (o1 d hd).1) hd rv
          · obtain ⟨ep, he'⟩ := PyProof.Rows.sortedAll_at s.heap its out.toArray
            obtain ⟨vs, rs, dvs⟩ := of_each eo
            have hlen' : vs.length ≤ sizeLine := by rw [rs.length, hlen]; exact o4
            have hf := I.hok.fresh (Nat.le_succ s.heap.objs.size)
            exact ⟨.ref _, upd H (s.heap.objs.size + 1) (.lst vs), I.laid (t' := s.toks) (fun _ _ => PyProof.Rows.sortedAll_old) (Nat.le_succ _) ⟨hlen', out, ep, rs, by simpa using he'⟩, rfl, k M _ _ (Same.refl _) (Rep.newL (l := []) (lv := []) R rfl hf dvs)⟩
    · cases e
  · cases e
end
end PD

namespace PD
open PySem PySem.Spec L2

section
variable {X : Cx} {W : WX} {J : List Nat} {pos p cpos apos : Pos} {e : Expr} {es : List Expr} {ga : Ev → Option (List D)} {te : TE}
/-! ### list(d.values()) -/
def tListVals (te : TE) : TE := fun σ H Q => te σ H fun x H1 => ∃ d kvs, x = .ref d ∧ Rd H1 d (.dK kvs) ∧ ∀ p, H1 p = none → Q (.ref p) (upd H1 p (.lst (kvs.map (·.2))))
theorem kv_val : ∀ {kvs : List (Key × V)} {vs : List (Key × Value)} {j : Nat} {x : V}, KV kvs vs → (kvs.map (·.2))[j]? = some x → ∃ k u, vs[j]? = some (k, u) ∧ RelV x u
  | _, _, _, _, .nil, e => by simp at e
  | (k, x) :: _, (k', u) :: _, 0, y, .cons r _, e => by
    simp at e; subst e
    exact ⟨k', u, rfl, r.2⟩
  | _ :: _, _ :: _, j + 1, y, .cons _ t, e => by
    obtain ⟨k, u, h1, h2⟩ := kv_val (j := j) t (by simpa using e)
    exact ⟨k, u, by simpa using h1, h2⟩
theorem pe_listVals (hc : X.calm = true) (he : PE X e te) (hg : Gl X "list") (hm : X.mg "list" = none) (hv : bootBuiltins "list" = some (.type "list")) (hbase : attributeBase e "values" X.env (eval e X.env) = eval e X.env := by rfl) (hline : (apos.endLine == cpos.line) = true := by rfl)
    (hs : starEach [.Call (.Attribute e "values" apos) [] [] cpos] X.env = (false, eval (.Call (.Attribute e "values" apos) [] [] cpos) X.env) :: starEach [] X.env := by rfl) :
    PE X (.Call (.Name "list" p) [.Call (.Attribute e "values" apos) [] [] cpos] [] pos) (tListVals te) := by
  refine ⟨fun pins s σ H Q I hq => ?_⟩
  refine wpAny_Call_Name_kw (ld_blt I hg hm hv ?_)
  refine PyProof.Rows.callWith_type1 ?_ hs rfl
  rw [hs]
  show wpAny _ _ (spliced ((false, eval (.Call (.Attribute e "values" apos) [] [] cpos) X.env) :: backTo pos (starEach [] X.env))) _ _ s
  refine Calls.spliced_cons ?_
  refine wpAny_Call_method (T := "dict") (id := "dict.values") hbase rfl hline F.plainAttrs_dict F.slot_dict_values F.type_dict_values (thn (he.run pins s σ H _ I hq) fun u s1 ⟨x, H1, I1, rx, d, kvs, ex, hd, q⟩ => ?_)
  subst ex
  obtain rfl : u = Value.ref d := rx
  obtain ⟨hz, hs0, vs, kv, hdo⟩ := dk_rd I1.hok hd
  have lk : kvs.length = vs.length := Paired.length kv
  have I2 : Inv X pins σ H1 { s1 with heap := s1.heap.push { cls := .type "dict_values", data := .fields #[.ref d] } } := I1.kept (t' := s1.toks) fun b ob q => Heap.get?_push_of_some _ q
  refine ⟨hdo.typeIs, hdo.mapOf.noDict, ?_⟩
  show wpAny _ _ (callWith cpos (.builtin "dict.values") [.ref d] [] []) _ X.xe s1
  refine method_meetsIn F.slot_dict_values F.entry_dict_values rfl (PySem.evalArgs_none ⟨rfl, hdo.typeIs, F.args_dict_values_1 _, _, meets_dict_values (mixKind X.prog X.w) d hs0, ⟨vs, hdo⟩, ?_⟩)
  refine Calls.spliced_nil ?_
  obtain ⟨es, ep, hraw, hsz, hat⟩ := hdo.raw
  refine PySem.W.kdl_call (T := "dict_values") (PySem.KdlSrc.rawValues (d := d) (es := es) (ep := ep)) (I1.ok.hd hc) ⟨⟨_, Heap.get?_push_size _ rfl, rfl, rfl⟩, hraw.at fun o z => Heap.get?_push_of_some _ z⟩ (by rw [hsz, ← lk]; exact hz) fun h' tk acc' c' hkeep hS hacc => ?_
  have J := I2.laid (t' := tk) (a := (s1.heap.push { cls := .type "dict_values", data := .fields #[.ref d] }).objs.size) (o := .lst (kvs.map (·.2))) (h' := h') hkeep (Nat.le_refl _) (show ObjOk X.prog X.w _ _ _ (.lst (kvs.map (·.2))) from ⟨by rw [List.length_map]; exact hz, acc'.toList, c', ?_, ?_⟩)
  · exact ⟨.ref _, _, J, rfl, q _ (I2.hok.fresh (Nat.le_refl _))⟩
  · have el : acc'.toList.length = acc'.size := by simp
    refine vals_of_at (by rw [List.length_map, el, hacc.1, hsz, lk]) fun j x w h1 h2 => ?_
    obtain ⟨hi, e2⟩ := hacc.2 j w (by rw [← Array.getElem?_toList]; exact h2)
    obtain ⟨k, u, e3, r3⟩ := kv_val kv h1
    obtain ⟨_, e4⟩ := hat j hi k u e3
    rw [e2, e4]; exact r3
  · rw [Array.toArray_toList]; exact hS

theorem dget_rd {H : Hp} {a : Addr} {kvs : List (Key × V)} {k : Key} (e : Rd H a (.dK kvs)) : DGet H a (kV k) (valV kvs k) := .inl ⟨kvs, k, e, rfl, rfl⟩
def keyD : D → Option Key
  | .int i => some (.inl i)
  | .str x => some (.inr x)
  | _ => none
theorem key_of {K : PySem.W.Frag} {M : Hp} {v : V} {d : D} {k : Key} (h : Dv K M v d) (e : keyD d = some k) : v = kV k := by
  cases h <;> cases e <;> rfl
/-- {} -/
def dic0 (_ : Ev) : Option O := some (.dic [] [])
theorem Rep.newD {K : PySem.W.Frag} {M H : Hp} {l r : List O} {lv rv : List (Option V)} (R : Rep K M H (l ++ r) (lv ++ rv)) (e : lv.length = l.length) {p : Addr} (hp : H p = none) : Rep K M (upd H p (.dK [])) (l ++ .dic [] [] :: r) (lv ++ some (.ref p) :: rv) := by
  obtain ⟨s, fp, w, nd, nm⟩ := R
  have pn : p ∉ fp := fun z => w.dom p z hp
  have w' : Ows K M (upd H p (.dK [])) (l ++ r) (lv ++ rv) fp := w.frame (Same.refl _) fun a ha => upd_ne fun z => pn (z ▸ ha)
  obtain ⟨fa, fb, e1, wa, wb⟩ := w'.split e
  subst e1
  refine ⟨fun b u q => ?_, fa ++ ([p] ++ fb), wa.append (.cons (.dic upd_same rfl .nil) wb), ?_, fun a ha => ?_⟩
  · have q' := s b u q
    rw [upd_ne (ne_of_none q' hp)]; exact q'
  · rw [List.nodup_append] at nd ⊢
    obtain ⟨n1, n2, n3⟩ := nd
    refine ⟨n1, List.nodup_cons.mpr ⟨fun z => pn (List.mem_append_right _ z), n2⟩, fun a ha b hb => ?_⟩
    rcases List.mem_cons.mp hb with rfl | hb
    · exact fun z => pn (z ▸ List.mem_append_left _ ha)
    · exact n3 a ha b hb
  · simp only [List.mem_append, List.mem_singleton] at ha
    rcases ha with ha | rfl | ha
    · exact nm a (List.mem_append_left _ ha)
    · exact s.free hp
    · exact nm a (List.mem_append_right _ ha)
theorem oDic0 : PE X (.Dict [] [] pos) (tO X.K dic0) := PE.imp pe_dnewK fun σ H Q ⟨M, ρ, fo, fv, o, R, l, e, k⟩ => by
  cases e
  exact fun p hp => k M _ _ (Same.refl _) (R.newD l hp)
/-- list(d.values()) -/
def valsO (f : Ev → Option D) (ρ : Ev) : Option O := (f ρ).bind fun d => match d with
  | .dic _ ds => some (.lst (ds.map .dat))
  | _ => none
theorem oVals {f : Ev → Option D} (hc : X.calm = true) (he : PE X e (tP X.K f)) (hm : X.mg "list" = none) (hg : Gl X "list" := by rfl) (hbase : attributeBase e "values" X.env (eval e X.env) = eval e X.env := by rfl) (hline : (apos.endLine == cpos.line) = true := by rfl)
    (hs : starEach [.Call (.Attribute e "values" apos) [] [] cpos] X.env = (false, eval (.Call (.Attribute e "values" apos) [] [] cpos) X.env) :: starEach [] X.env := by rfl) :
    PE X (.Call (.Name "list" p) [.Call (.Attribute e "values" apos) [] [] cpos] [] pos) (tO X.K (valsO f)) := PE.imp (pe_listVals hc he hg hm (by decide +kernel) hbase hline hs) fun σ H Q ⟨M, ρ, fo, fv, o, R, l, e, k⟩ => by
  unfold valsO at e
  cases q : f ρ with
  | none => rw [q] at e; cases e
  | some d =>
    rw [q, Option.bind_some] at e
    split at e
    · cases e
      refine ⟨M, ρ, fo, fv, _, R, l, q, fun M1 H1 v s1 R1 d1 => ?_⟩
      cases d1 with
      | dic ha hk hd => exact ⟨_, _, rfl, Rd.up R1.same ha, fun p hp => k M1 _ _ s1 (R1.newL l hp hd)⟩
    · cases e
/-- d[k] of a frozen dict -/
def dlook (k : Key) : List Key → List D → Option D
  | k' :: ks, d :: ds => if k' = k then some d else dlook k ks ds
  | _, _ => none
theorem dlook_val {K : PySem.W.Frag} {M : Hp} {k : Key} : ∀ {kvs : List (Key × V)} {ds : List D}, Dvs K M (kvs.map (·.2)) ds → match dlook k (kvs.map (·.1)) ds with
    | some d => ∃ v, valV kvs k = some v ∧ Dv K M v d
    | none => valV kvs k = none
  | [], _, .nil => rfl
  | (k', v) :: kvs, _, .cons (d := d) (ds := ds) h hs => by
    simp only [List.map_cons, dlook]
    by_cases e : k' = k
    · rw [if_pos e]; exact ⟨v, valV_pos e, h⟩
    · rw [if_neg e]
      have ih := dlook_val (k := k) hs
      have ev : valV ((k', v) :: kvs) k = valV kvs k := valV_neg e
      rw [ev]
      exact ih
def dgetD (x y : D) : Option D := match x with
  | .dic ks ds => (keyD y).bind fun k => dlook k ks ds
  | _ => none
theorem pDget {a b : Expr} {fa fb : Ev → Option D} (hu : X.A.units + 64 < cLine) (ha : PE X a (tP X.K fa)) (hb : PE X b (tP X.K fb)) (hs : NoSl b := by exact fun _ _ => rfl) : PE X (.Subscript a b pos) (tP X.K (b2 fa fb dgetD)) := PE.imp (pe_dget (by omega) ha hb hs) fun σ H Q h => by
  obtain ⟨M, ρ, fo, fv, d, R, l, e, k⟩ := h
  obtain ⟨x, y, ea, eb, eg⟩ := b2_some e
  refine ⟨M, ρ, fo, fv, x, R, l, ea, fun M1 H1 v1 s1 R1 d1 => ⟨M1, ρ, fo, fv, y, R1, l, eb, fun M2 H2 v2 s2 R2 d2 => ?_⟩⟩
  unfold dgetD at eg
  split at eg
  · rename_i ks ds
    cases q : keyD y with
    | none => rw [q] at eg; cases eg
    | some kk =>
      rw [q, Option.bind_some] at eg
      have d1 := d1.mono s2
      cases d1 with
      | dic h1 hk hd =>
        subst hk
        have := dlook_val (k := kk) hd
        rw [eg] at this
        obtain ⟨v, ev, dv⟩ := this
        refine ⟨_, v, rfl, ?_, k M2 H2 v (s1.trans s2) R2 dv⟩
        rw [key_of d2 q, ← ev]
        exact dget_rd (Rd.up R2.same h1)
  · cases eg
def dinD (x y : D) : Option D := match y with
  | .dic ks ds => if ds.length = ks.length then (keyD x).map fun k => .bl (dlook k ks ds).isSome else none
  | _ => none
theorem din_of {K : PySem.W.Frag} {fa fb : Ev → Option D} {σ : L2.St} {H : Hp} {Q : VK} (h : tP K (b2 fa fb dinD) σ H Q) : tDIn (tP K fa) (tP K fb) σ H Q := by
  obtain ⟨M, ρ, fo, fv, d, R, l, e, k⟩ := h
  obtain ⟨x, y, ea, eb, eg⟩ := b2_some e
  refine ⟨M, ρ, fo, fv, x, R, l, ea, fun M1 H1 v1 s1 R1 d1 => ⟨M1, ρ, fo, fv, y, R1, l, eb, fun M2 H2 v2 s2 R2 d2 => ?_⟩⟩
  unfold dinD at eg
  split at eg
  · rename_i ks ds
    split at eg
    · cases q : keyD x with
      | none => rw [q] at eg; cases eg
      | some kk =>
        rw [q] at eg
        cases eg
        cases d2 with
        | dic h1 hk hd =>
          subst hk
          have hv := dlook_val (k := kk) hd
          rw [key_of d1 q]
          refine ⟨_, _, rfl, dget_rd (Rd.up R2.same h1), ?_⟩
          cases q2 : dlook kk _ ds with
          | none => rw [q2] at hv; rw [show valV _ kk = none from hv]; exact k M2 H2 _ (s1.trans s2) R2 (by simp only [q2]; exact .bl _)
          | some z => rw [q2] at hv; obtain ⟨v, ev, _⟩ := hv; rw [ev]; exact k M2 H2 _ (s1.trans s2) R2 (by simp only [q2]; exact .bl _)
    · cases eg
  · cases eg
theorem pDin {a b : Expr} {fa fb : Ev → Option D} (hu : X.A.units + 64 < cLine) (ha : PE X a (tP X.K fa)) (hb : PE X b (tP X.K fb)) (hm : behindInMarks .In b = false := by rfl) : PE X (.Compare a [.In] [b] pos) (tP X.K (b2 fa fb dinD)) := PE.imp (pe_cmp (pc_din (by omega) ha hb) hm) fun _ _ _ h => din_of h
theorem tDin' {a b : Expr} {fa fb : Ev → Option D} (hu : X.A.units + 64 < cLine) (ha : PE X a (tP X.K fa)) (hb : PE X b (tP X.K fb)) (hm : behindInMarks .In b = false := by rfl) : PT X (.Compare a [.In] [b] pos) (tT X.K (asB (b2 fa fb dinD))) :=
  PT.imp (pt_cmp (pc_din (by omega) ha hb) hm) fun σ H Q ⟨M, ρ, fo, fv, b, R, l, e, k⟩ => din_of (K := X.K) (Q := fun x H' => ∃ k, x = .bl k ∧ Q k H') ⟨M, ρ, fo, fv, .bl b, R, l, asB_some e, fun M' H' v s R' dv => by cases dv; exact ⟨b, rfl, k M' H' s R'⟩⟩

/-! ### an own dict in a slot -/
def olook (k : Key) : List Key → List O → Option O
  | k' :: ks, d :: ds => if k' = k then some d else olook k ks ds
  | _, _ => none
theorem olook_val {K : PySem.W.Frag} {M H : Hp} {k : Key} : ∀ {kvs : List (Key × V)} {os : List O} {fp : List Addr}, Ows K M H os (kvs.map fun p => some p.2) fp → match olook k (kvs.map (·.1)) os with
    | some o => ∃ v f, valV kvs k = some v ∧ Ow K M H o (some v) f
    | none => valV kvs k = none
  | [], _, _, .nil => rfl
  | (k', v) :: kvs, _, _, .cons (o := o) (os := os) h hs => by
    simp only [List.map_cons, olook]
    by_cases e : k' = k
    · rw [if_pos e]; exact ⟨v, _, valV_pos e, h⟩
    · rw [if_neg e]
      have ih := olook_val (k := k) hs
      have ev : valV ((k', v) :: kvs) k = valV kvs k := valV_neg e
      rw [ev]
      exact ih
def dgetO (i : Nat) (fk : Ev → Option D) (ρ : Ev) : Option D := (fk ρ).bind fun y => (keyD y).bind fun k => match ρ[i]? with
  | some (.dic ks os) => match olook k ks os with
    | some (.dat d) => some d
    | _ => none
  | _ => none
theorem pDgetO {i : Nat} {x : Str} {p' : Pos} {b : Expr} {fk : Ev → Option D} (hu : X.A.units + 64 < cLine) (hv : PE X (.Name x p') (tVar i)) (hb : PE X b (tP X.K fk)) (hs : NoSl b := by exact fun _ _ => rfl) : PE X (.Subscript (.Name x p') b pos) (tP X.K (dgetO i fk)) := PE.imp (pe_dget (by omega) hv hb hs) fun σ H Q h => by
  obtain ⟨M, ρ, fo, fv, d, R, l, e, k⟩ := h
  unfold dgetO at e
  cases q : fk ρ with
  | none => rw [q] at e; cases e
  | some y =>
    rw [q, Option.bind_some] at e
    cases q2 : keyD y with
    | none => rw [q2] at e; cases e
    | some kk =>
      rw [q2, Option.bind_some] at e
      split at e
      · rename_i ks os eo
        split at e
        · rename_i d' el
          cases e
          have R' : Rep X.K M H (ρ ++ ([] ++ fo)) (σ ++ ([] ++ fv)) := R
          obtain ⟨w, f1, ft, ew, h1, _, _, _, _⟩ := R'.own l rfl eo
          cases h1 with
          | @dic a kvs _ _ fp ha hk ws =>
            refine ⟨.ref a, ew, M, ρ, fo, fv, y, R, l, q, fun M1 H1 v1 s1 R1 d1 => ?_⟩
            have R1' : Rep X.K M1 H1 (ρ ++ ([] ++ fo)) (σ ++ ([] ++ fv)) := R1
            obtain ⟨w', f1', ft', ew', h1', _, _, _, _⟩ := R1'.own l rfl eo
            rw [ew] at ew'
            cases ew'
            cases h1' with
            | dic ha' hk' ws' =>
              have hv' := olook_val (k := kk) ws'
              rw [hk', el] at hv'
              obtain ⟨v, f, ev, ov⟩ := hv'
              refine ⟨a, v, rfl, ?_, ?_⟩
              · rw [key_of d1 q2, ← ev]; exact DGet.k ha'
              · cases ov with
                | dat dv => exact k M1 H1 v s1 R1 dv
        · cases e
      · cases e
def putKD (k : Key) (d : D) (ks : List Key) (os : List O) : List Key × List O := if (ks.any fun k' => decide (k' = k)) = true then (ks, List.zipWith (fun k' o => if k' = k then .dat d else o) ks os) else (ks ++ [k], os ++ [.dat d])
def dput (i : Nat) (fk fv : Ev → Option D) (ρ : Ev) : Option Fl := (fv ρ).bind fun d => (fk ρ).bind fun y => (keyD y).bind fun k => match ρ[i]? with
  | some (.dic ks os) => if os.length < sizeLine then some (.nx (ρ.set i (.dic (putKD k d ks os).1 (putKD k d ks os).2))) else none
  | _ => none
theorem putKD_keys {k : Key} {v : V} {d : D} {kvs : List (Key × V)} {os : List O} : (putK kvs k v).map (·.1) = (putKD k d (kvs.map (·.1)) os).1 := by
  unfold putK putKD
  rw [List.any_map]
  have : ((fun k' => decide (k' = k)) ∘ fun x : Key × V => x.1) = fun kv => decide (kv.1 = k) := rfl
  rw [this]
  split
  · rw [List.map_map]
    apply List.map_congr_left
    intro p _
    simp only [Function.comp]
    split <;> rfl
  · simp
theorem zip_ows {K : PySem.W.Frag} {M H : Hp} {k : Key} {v : V} {d : D} (dv : Dv K M v d) : ∀ {kvs : List (Key × V)} {os : List O} {fp : List Addr}, Ows K M H os (kvs.map fun p => some p.2) fp →
    ∃ fp', Ows K M H (List.zipWith (fun k' o => if k' = k then O.dat d else o) (kvs.map (·.1)) os) ((kvs.map fun kv => if kv.1 = k then (kv.1, v) else kv).map fun p => some p.2) fp' ∧ ∀ b, fp'.count b ≤ fp.count b
  | [], _, _, .nil => ⟨[], .nil, fun b => Nat.le_refl _⟩
  | (k', x) :: kvs, _, _, .cons (o := o) (os := os) (f1 := f1) (f2 := f2) h hs => by
    obtain ⟨fp', w, c⟩ := zip_ows dv hs
    simp only [List.map_cons, List.zipWith_cons_cons]
    by_cases e : k' = k
    · rw [if_pos e, if_pos e]
      exact ⟨[] ++ fp', .cons (.dat dv) w, fun b => by have := c b; simp only [List.nil_append, List.count_append]; omega⟩
    · rw [if_neg e, if_neg e]
      exact ⟨f1 ++ fp', .cons h w, fun b => by have := c b; simp only [List.count_append]; omega⟩
theorem putKD_ows {K : PySem.W.Frag} {M H : Hp} {k : Key} {v : V} {d : D} (dv : Dv K M v d) {kvs : List (Key × V)} {os : List O} {fp : List Addr} (w : Ows K M H os (kvs.map fun p => some p.2) fp) :
    ∃ fp', Ows K M H (putKD k d (kvs.map (·.1)) os).2 ((putK kvs k v).map fun p => some p.2) fp' ∧ ∀ b, fp'.count b ≤ fp.count b := by
  unfold putK putKD
  rw [List.any_map]
  have : ((fun k' => decide (k' = k)) ∘ fun x : Key × V => x.1) = fun kv => decide (kv.1 = k) := rfl
  rw [this]
  split
  · exact zip_ows dv w
  · refine ⟨fp ++ ([] ++ []), ?_, fun b => by simp⟩
    rw [List.map_append]
    exact w.append (.cons (.dat dv) .nil)
theorem sDput {i : Nat} {x : Str} {p' pp : Pos} {b value : Expr} {fk fvl : Ev → Option D} (hu : X.A.units + 64 < cLine) (hv : PE X (.Name x p') (tVar i)) (hb : PE X b (tP X.K fk)) (he : PE X value (tP X.K fvl)) (hs : swapsWith value (some (.Subscript (.Name x p') b pp)) pos.line X.env = pure false := by rfl) :
    PS X (.Assign [.Subscript (.Name x p') b pp] value pos) (tS X.K W J (dput i fk fvl)) := PS.imp (ps_dput (by omega) hv hb he hs) fun E σ H ⟨M, ρ, fo, fv, r, σ0, R, l, e, k⟩ => by
  unfold dput at e
  cases q : fvl ρ with
  | none => rw [q] at e; cases e
  | some d =>
    rw [q, Option.bind_some] at e
    cases q1 : fk ρ with
    | none => rw [q1] at e; cases e
    | some y =>
      rw [q1, Option.bind_some] at e
      cases q2 : keyD y with
      | none => rw [q2] at e; cases e
      | some kk =>
        rw [q2, Option.bind_some] at e
        split at e
        · rename_i ks os eo
          split at e
          · rename_i hlen
            cases e
            refine ⟨M, ρ, fo, fv, d, R, l.1, q, fun M1 H1 v s1 R1 d1 => ?_⟩
            have R1' : Rep X.K M1 H1 (ρ ++ ([] ++ fo)) (σ ++ ([] ++ fv)) := R1
            obtain ⟨w, f1, ft, ew, h1, _, _, _, _⟩ := R1'.own l.1 rfl eo
            cases h1 with
            | @dic a kvs _ _ fp ha hk ws =>
              refine ⟨.ref a, ew, M1, ρ, fo, fv, y, R1, l.1, q1, fun M2 H2 v2 s2 R2 d2 => ?_⟩
              have R2' : Rep X.K M2 H2 (ρ ++ ([] ++ fo)) (σ ++ ([] ++ fv)) := R2
              obtain ⟨w', f1', ft', ew', h1', h2', nd, nm, up⟩ := R2'.own l.1 rfl eo
              cases h2'
              rw [ew] at ew'
              cases ew'
              cases h1' with
              | @dic _ kvs' _ _ fp' ha' hk' ws' =>
                have hlk : kvs'.length = os.length := by rw [← ws'.length, List.length_map]
                refine ⟨a, upd H2 a (.dK (putK kvs' kk v)), rfl, ?_, ?_⟩
                · rw [key_of d2 q2]
                  exact DPut.k ha' (by rw [hlk]; exact hlen)
                · have hd : ∀ b ∈ fp', b ≠ a := fun b hb z => by
                    subst z
                    rw [List.nodup_iff_count] at nd
                    have := nd b
                    simp only [List.append_nil, List.count_cons, beq_self_eq_true, if_true] at this
                    have := List.count_pos_iff.mpr hb
                    omega
                  have ma : M2 a = none := nm a (by simp)
                  have sm : Same M2 (upd H2 a (.dK (putK kvs' kk v))) := fun b u z => by
                    rw [upd_ne (fun y => by subst y; rw [ma] at z; cases z)]; exact R2.same b u z
                  obtain ⟨fp2, w2, c2⟩ := putKD_ows (k := kk) (d1.mono s2) (ws'.frame (Same.refl _) (H' := upd H2 a (.dK (putK kvs' kk v))) fun b hb => upd_ne (hd b hb))
                  refine k M2 _ σ (s1.trans s2) (up M2 _ _ (a :: fp2) (Same.refl _) sm (fun b hb _ => upd_ne fun z => hb (by simp [z])) (.dic upd_same ?_ ?_) (fun b => ?_) fun b hb _ => hb) (l.setR _)
                  · rw [putKD_keys (d := d) (os := os), hk']
                  · rw [hk'] at w2; exact w2
                  · have := c2 b
                    simp only [List.count_cons, List.count_nil] at this ⊢
                    omega
          · cases e
        · cases e
end
end PD

namespace PD
open PySem PySem.Spec L2

theorem Dvs.rev {K : PySem.W.Frag} {M : Hp} : ∀ {vs : List V} {ds : List D}, Dvs K M vs ds → Dvs K M vs.reverse ds.reverse
  | _, _, .nil => .nil
  | _, _, .cons h t => by
    rw [List.reverse_cons, List.reverse_cons]
    exact (Dvs.rev t).append (.cons h .nil)
section
variable {X : Cx} {W : WX} {J : List Nat} {pos p cpos apos : Pos} {e a b : Expr} {es : List Expr} {fa fb : Ev → Option D}
theorem Inv.listX {pins : List (Addr × Obj)} {σ : L2.St} {H : Hp} {s : Shared} {l : Addr} {xs : List V} (I : Inv X pins σ H s) (h : SqX X.K H l xs) : ∃ (its : List Value) (n : Nat), Vals xs its ∧ s.heap.get? l = some ({ cls := .type "list", data := .seq its.toArray n } : Obj) := by
  rcases h with h | ⟨its, n, lk, hz, r⟩
  · obtain ⟨z, its, n, r, e⟩ := h.ok I.hok
    exact ⟨its, n, r, e⟩
  · refine ⟨its.toList, n, r, ?_⟩
    rw [Array.toArray_toList]; exact I.kIn _ _ lk
/-! ### list + list -/
def rCatX (K : PySem.W.Frag) : R2 := fun x y H Q => ∃ l b xs zs, x = .ref l ∧ y = .ref b ∧ SqX K H l xs ∧ SqX K H b zs ∧ xs.length + zs.length ≤ sizeLine ∧ ∀ p, H p = none → Q (.ref p) (upd H p (.lst (xs ++ zs)))
theorem op_catX : OpR X (binaryOp .Add) (rCatX X.K) := by
  intro pins s σ H x y v u Q I rx ry h
  obtain ⟨l, b, xs, zs, rfl, rfl, hH, hB, hz, q⟩ := h
  cases rx
  cases ry
  obtain ⟨its, n, r, e⟩ := Inv.listX I hH
  obtain ⟨its2, n2, r2, e2⟩ := Inv.listX I hB
  have l1 := r.length
  have l2 := r2.length
  refine PySem.P.add_list e e2 ?_ (by rw [List.size_toArray, List.size_toArray]; omega)
  have ea : its.toArray ++ its2.toArray = (its ++ its2).toArray := by simp
  rw [ea]
  exact ⟨.ref _, _, I.lnew (t' := s.toks) (r.append r2) (by rw [List.length_append]; omega), rfl, q _ I.fresh⟩
def catL (x y : D) : Option D := match x, y with
  | .lst xs, .lst ys => if xs.length + ys.length ≤ sizeLine then some (.lst (xs ++ ys)) else none
  | _, _ => none
theorem oCatL : OpR X (binaryOp .Add) (rD X.K catL) := OpR.imp op_catX fun x y H Q ⟨M, fo, fv, dx, dy, d, R, d1, d2, e, k⟩ => by
  unfold catL at e
  split at e
  · rename_i xs ys
    split at e
    · rename_i hz
      cases e
      cases d1 with
      | @lst l ws _ h1 g1 =>
        cases d2 with
        | @lst b zs _ h2 g2 =>
          refine ⟨l, b, ws, zs, rfl, rfl, sqX_same R.same h1, sqX_same R.same h2, by rw [g1.length, g2.length]; exact hz, fun p hp => ?_⟩
          have s2 := same_updM (u := .lst (ws ++ zs)) (R.same.free hp)
          exact k _ _ _ s2 (R.growM hp) (.lst (.inl (.inl upd_same)) ((g1.append g2).mono s2))
    · cases e
  · cases e
/-- tuple + tuple -/
def catT (x y : D) : Option D := match x, y with
  | .tup xs, .tup ys => if xs.length + ys.length ≤ sizeLine then some (.tup (xs ++ ys)) else none
  | _, _ => none
theorem oCatT : OpR X (binaryOp .Add) (rD X.K catT) := OpR.imp op_catA fun x y H Q ⟨M, fo, fv, dx, dy, d, R, d1, d2, e, k⟩ => by
  unfold catT at e
  split at e
  · rename_i xs ys
    split at e
    · rename_i hz
      cases e
      have e1 := d1
      have e2 := d2
      cases d1 with
      | @tup l ws _ h1 g1 =>
        cases d2 with
        | @tup b zs _ h2 g2 =>
          refine ⟨l, b, ws, zs, rfl, rfl, sqT_same R.same h1, sqT_same R.same h2, by rw [g1.length, g2.length]; exact hz, fun z => ?_, fun _ z => ?_, fun _ _ p hp => ?_⟩
          · subst z
            cases g1
            exact k M H _ (Same.refl _) R e2
          · subst z
            cases g2
            rw [List.append_nil] at k
            exact k M H _ (Same.refl _) R e1
          · have s2 := same_updM (u := .tup (ws ++ zs)) (R.same.free hp)
            exact k _ _ _ s2 (R.growM hp) (.tup (.inl (.inl upd_same)) ((g1.append g2).mono s2))
    · cases e
  · cases e
/-- + of ints, texts, lists, tuples -/
abbrev addA : D → D → Option D := orD addD (orD catL catT)
theorem oAddA : OpR X (binaryOp .Add) (rD X.K addA) := op_orD oAdd (op_orD oCatL oCatT)
/-! ### xs[::-1] -/
def revD : D → Option D
  | .lst xs => some (.lst xs.reverse)
  | _ => none
theorem pRev {k : Nat} {p1 p2 p3 : Pos} (he : PE X e (tP X.K fa)) : PE X (.Subscript e (.Slice none none (some (.UnaryOp .USub (.Constant (.int 1) k p1) p2)) p3) pos) (tP X.K (b1 fa revD)) := PE.imp (pe_revL he) fun σ H Q ⟨M, ρ, fo, fv, d, R, l, e, k⟩ => by
  obtain ⟨x, ea, eg⟩ := b1_some e
  unfold revD at eg
  split at eg
  · rename_i xs
    cases eg
    refine ⟨M, ρ, fo, fv, _, R, l, ea, fun M1 H1 v1 s1 R1 d1 => ?_⟩
    cases d1 with
    | @lst a ws _ h1 g1 =>
      refine ⟨a, ws, rfl, seqX R1.same h1, fun p hp => ?_⟩
      have s2 := same_updM (u := .lst ws.reverse) (R1.same.free hp)
      exact k _ _ _ (s1.trans s2) (R1.growM hp) (.lst (.inl (.inl upd_same)) ((Dvs.rev g1).mono s2))
  · cases eg
/-- C(k=v, ..) -/
theorem run_makeK {CX : CXT} {kk : Nat} {f C : Addr} {fd : FuncData} {ps ks : List Str} {sp : Sp} {x : Str} {kws : List Keyword} {tk : TA} {g : List Value → List Value → List Value} {gV : List V → List V → List V} {E : XK} (Mc : Mk X.K C f) (F : FnOk X.prog X.w X.K X.mg X.base CX kk f fd ps sp) (hr : Room (kk + 1) X.A) (hg : Gl X x) (hm : X.mg x = some (.ref C)) (hb : KBn X.K fd ps 1 ks g gV) (hx : Passes CX X E)
    (hkw : PK X kws tk) (hall : (backToKw pos (keywordEach kws X.env)).all (·.1.isSome) = true := by rfl) (hks : (backToKw pos (keywordEach kws X.env)).filterMap (·.1) = ks := by rfl)
    (hdb : (x == ("__debug__" : Str)) = false := by decide)
    (hpl : ((backTo pos (starEach [] X.env)).any (·.1) || (backToKw pos (keywordEach kws X.env)).any (·.1.isNone)) = false := by rfl) :
    PE X (.Call (.Name x p) [] kws pos) (fun σ H Q => tk σ H fun zs H2 => zs.length = ks.length ∧ ∀ x dx, H2 x = none → H2 dx = none → dx ≠ x → sp (gV [.ref x] zs) (upd (upd H2 dx (.own x)) x (.ins C dx [])) (fun v H3 => v = .non ∧ Q (.ref x) H3) E) := by
  refine ⟨fun pins s σ H Q I h => ?_⟩
  refine wpAny_Call_Name_kw (ld_glob I hg hm ?_ hdb)
  refine PySem.W.callWith_KW0 (h₀ := X.base) I.ok.mod.kin Mc.kp hall ?_ hpl
  refine thn (hkw.run pos pins s σ H _ I h) fun ws s2 ⟨zs, H2, I2, rz, l2, q2⟩ => ⟨I2.kIn, ?_⟩
  rw [hks]
  exact run_makeN (n := 0) (us := []) (vs := []) Mc F hr hb hx I2 .nil rz rfl l2 q2
theorem oMakeK {kk n : Nat} {f C : Addr} {fd : FuncData} {ps ks : List Str} {x : Str} {kws : List Keyword} {ga : Ev → Option (List D)} {m : List D → Option O} {g : List Value → List Value → List Value} (Mc : Mk X.K C f) (F : FnOk X.prog X.w X.K X.mg X.base CX0 kk f fd ps (spI X.K C (n + 1) m)) (hr : Room (kk + 1) X.A) (hm : X.mg x = some (.ref C)) (hb : KBn X.K fd ps 1 ks g (fun vs zs => vs ++ zs)) (hn : ks.length = n)
    (hkw : PK X kws (tAr X.K ga)) (hg : Gl X x := by rfl) (hall : (backToKw pos (keywordEach kws X.env)).all (·.1.isSome) = true := by rfl) (hks : (backToKw pos (keywordEach kws X.env)).filterMap (·.1) = ks := by rfl)
    (hdb : (x == ("__debug__" : Str)) = false := by decide)
    (hpl : ((backTo pos (starEach [] X.env)).any (·.1) || (backToKw pos (keywordEach kws X.env)).any (·.1.isNone)) = false := by rfl) :
    PE X (.Call (.Name x p) [] kws pos) (tO X.K (cO ga (lenO? n m))) := PE.imp (run_makeK (E := E0) Mc F hr hg hm hb pass0 hkw hall hks hdb hpl) fun σ H Q ⟨M, ρ, fo, fv, o, R, l, e, k⟩ => by
  unfold cO lenO? at e
  cases q : ga ρ with
  | none => rw [q] at e; cases e
  | some ds =>
    rw [q, Option.bind_some] at e
    split at e
    · rename_i hn'
      refine ⟨M, ρ, fo, fv, ds, R, l, q, fun M1 H1 vs s1 R1 d1 => ⟨by rw [d1.length, hn', hn], fun x dx hx hd ne => ?_⟩⟩
      exact make_of l R1 d1 (by rw [hn']) e (fun M2 H2 v s2 R2 => k M2 H2 v (s1.trans s2) R2) x dx hx hd ne
    · cases e
end

/-! ### the law's end -/
/-- the law's promise, whatever its mirror -/
def spT (K : PySem.W.Frag) : Sp := fun vs H Q _ => ∃ (a : Addr) (ns : List Int), vs = [.ref a] ∧ ns.length ≤ 63 ∧ SqX K H a (ns.map V.int) ∧ ∀ H', Q (.bl true) H'
theorem spT_of {K : PySem.W.Frag} {m : List D → Option D} (hm : ∀ ns : List Int, ns.length ≤ 63 → m [.lst (ns.map .int)] = some (.bl true)) {vs : List V} {H : Hp} {Q : VK} {E : XK} (h : spT K vs H Q E) : spP K 1 m vs H Q E := by
  obtain ⟨a, ns, rfl, hl, hS, q⟩ := h
  exact ⟨rfl, H, [], [], [.lst (ns.map .int)], .bl true, ⟨Same.refl _, [], .nil, List.nodup_nil, fun _ h => nomatch h⟩, .cons (.lst hS (ints_dvs ns)) .nil, hm ns hl, fun M' H' v _ _ d => by cases d; exact q H'⟩
theorem walk_ofD {l : PySem.W.OpenLaw} {n k : Nat} {q : Program} {loose : List Str} {XP : (Str → Option Value) → Heap → Prop} {YP : World → Heap → Prop} {d : DefRec} {K : Params → PySem.W.Frag} {CX : World → CXT} {x : Str}
    (hn : l.most = some n) (h63 : n ≤ 63) (hdf : d.params.defaults = []) (hr : Room k callerA)
    (hY : ∀ (w : World) (h : Heap), YP w h → (K w.params).In h)
    (F : ∀ (w : World) (mg : Str → Option Value) (fa : Addr) (h : Heap), (K w.params).In h → h.Ns mainGlobals mg → mg d.name = some (.ref fa) →
      ∃ fd : FuncData, (∀ (s : Shared) (u : Value), BindsTo s fd ⟨[u], []⟩ [(x, u)]) ∧
        ∀ base : Heap, (K w.params).In base → base.Ns mainGlobals mg → FnOk l.prog w (K w.params) mg base (CX w) k fa fd [x] (spT (K w.params)))
    (hCX : ∀ (w : World) (H : Hp) (s : Shared) (e : Value) (s' : Shared), CX w [] H s (fun _ _ _ => False) e s' → False) :
    PySem.W.WalkO q loose XP YP l.row.toRowW d [] (fun f vs => PySem.call f vs) := by
  refine Att.attach_callB hn hdf fun w s₀ s₁ mg mb fa o pm cd doc a vs ns G Y ho hd hcd hmg hobj hints hlen hbits hg => ?_
  have KX := hY w _ Y
  obtain ⟨fd, hb, hF⟩ := F w mg fa _ KX G.T.g hmg
  have n63 : ns.length ≤ sizeLine := by rw [sizeLine_eq]; omega
  refine law_call KX G.T.g G.T.b G.T.builtins G.T.nolimit hg hobj hints n63 hr hF hb (fun H hO hS => ?_) fun H e s' => hCX w H s₁ e s'
  refine ⟨a, ns, rfl, Nat.le_trans hlen h63, ?_, fun _ => rfl⟩
  rcases hS with hS | ⟨o', its, m, lk, hc, hdd, hdt, hz, r⟩
  · exact .inl hS
  · have e1 := KX _ _ lk
    rw [hobj] at e1
    cases e1
    cases hdt
    exact .inr ⟨_, _, lk, hz, r⟩
end PD

namespace PD
open PySem PySem.Spec L2

/-! ### roots in another order -/
section
variable {K : PySem.W.Frag} {M H : Hp}
theorem Ows.perm {l l' : List (O × Option V)} (p : l.Perm l') : ∀ {fp : List Addr}, Ows K M H (l.map (·.1)) (l.map (·.2)) fp → ∃ fp', fp.Perm fp' ∧ Ows K M H (l'.map (·.1)) (l'.map (·.2)) fp' := by
  induction p with
  | nil => exact fun w => ⟨_, .refl _, w⟩
  | cons x _ ih =>
    intro fp w
    cases w with
    | cons h hs =>
      obtain ⟨f', q, w'⟩ := ih hs
      exact ⟨_, q.append_left _, .cons h w'⟩
  | swap x y l =>
    intro fp w
    cases w with
    | cons h hs =>
      rename_i f1 f2
      cases hs with
      | cons h' hs' =>
        rename_i f3 f4
        refine ⟨f3 ++ (f1 ++ f4), ?_, .cons h' (.cons h hs')⟩
        rw [← List.append_assoc, ← List.append_assoc]
        exact List.Perm.append_right _ List.perm_append_comm
  | trans _ _ ih1 ih2 =>
    intro fp w
    obtain ⟨f1, q1, w1⟩ := ih1 w
    obtain ⟨f2, q2, w2⟩ := ih2 w1
    exact ⟨f2, q1.trans q2, w2⟩
theorem zip_fst {α β : Type} : ∀ {as : List α} {bs : List β}, bs.length = as.length → (as.zip bs).map (·.1) = as
  | [], [], _ => rfl
  | a :: as, b :: bs, h => by simp only [List.zip_cons_cons, List.map_cons]; rw [zip_fst (by simpa using h)]
theorem zip_snd {α β : Type} : ∀ {as : List α} {bs : List β}, bs.length = as.length → (as.zip bs).map (·.2) = bs
  | [], [], _ => rfl
  | a :: as, b :: bs, h => by simp only [List.zip_cons_cons, List.map_cons]; rw [zip_snd (by simpa using h)]
theorem Rep.perm {os os' : List O} {vs vs' : List (Option V)} (R : Rep K M H os vs) (l : vs.length = os.length) (l' : vs'.length = os'.length) (p : (os.zip vs).Perm (os'.zip vs')) : Rep K M H os' vs' := by
  obtain ⟨s, fp, w, nd, nm⟩ := R
  have w0 : Ows K M H ((os.zip vs).map (·.1)) ((os.zip vs).map (·.2)) fp := by rw [zip_fst l, zip_snd l]; exact w
  obtain ⟨fp', q, w'⟩ := Ows.perm p w0
  rw [zip_fst l', zip_snd l'] at w'
  exact ⟨s, fp', w', q.nodup_iff.mp nd, fun a ha => nm a (q.mem_iff.mpr ha)⟩
theorem split_at {α : Type} {xs : List α} {k : Nat} {x : α} (e : xs[k]? = some x) (y : α) : ∃ a b, xs = a ++ x :: b ∧ a.length = k ∧ xs.set k y = a ++ y :: b := by
  obtain ⟨hk, e⟩ := List.getElem?_eq_some_iff.mp e
  refine ⟨xs.take k, xs.drop (k + 1), ?_, by simp; omega, ?_⟩
  · rw [← e, ← List.drop_eq_getElem_cons hk, List.take_append_drop]
  · rw [List.set_eq_take_append_cons_drop, if_pos hk]
/-- slot k is handed over -/
theorem Rep.pull {l ρ r : List O} {lv σ rv : List (Option V)} {k : Nat} {o : O} {v : Option V} (R : Rep K M H (l ++ (ρ ++ r)) (lv ++ (σ ++ rv))) (el : lv.length = l.length) (e : σ.length = ρ.length) (er : rv.length = r.length) (eo : ρ[k]? = some o) (ev : σ[k]? = some v) :
    Rep K M H (l ++ (o :: (ρ.set k .unk ++ r))) (lv ++ (v :: (σ ++ rv))) := by
  obtain ⟨a, b, e1, e2, e3⟩ := split_at eo O.unk
  obtain ⟨c, d, f1, f2, _⟩ := split_at ev v
  have hac : c.length = a.length := by omega
  rw [e3]
  subst e1; subst f1
  have R1 : Rep K M H ((l ++ a) ++ (.unk :: (o :: b ++ r))) ((lv ++ c) ++ (v :: (v :: d ++ rv))) := by
    have R0 : Rep K M H ((l ++ a) ++ (o :: b ++ r)) ((lv ++ c) ++ (v :: d ++ rv)) := by simpa using R
    exact R0.pushU (by simp [el, hac]) v
  have hbd : d.length = b.length := by simp at e; omega
  refine R1.perm (by simp [el, hac, hbd, er]) (by simp [el, hac, hbd, er]) ?_
  have z1 : ((l ++ a) ++ (.unk :: (o :: b ++ r))).zip ((lv ++ c) ++ (v :: (v :: d ++ rv))) = l.zip lv ++ (a.zip c ++ ((O.unk, v) :: (o, v) :: (b.zip d ++ r.zip rv))) := by
    rw [List.zip_append (by simp [el, hac]), List.zip_append el.symm]
    simp only [List.zip_cons_cons, List.cons_append]
    rw [List.zip_append hbd.symm, List.append_assoc]
  have z2 : (l ++ (o :: ((a ++ .unk :: b) ++ r))).zip (lv ++ (v :: ((c ++ v :: d) ++ rv))) = l.zip lv ++ ((o, v) :: (a.zip c ++ ((O.unk, v) :: (b.zip d ++ r.zip rv)))) := by
    rw [List.zip_append el.symm]
    simp only [List.zip_cons_cons, List.cons_append, List.append_assoc]
    rw [List.zip_append hac.symm]
    simp only [List.zip_cons_cons]
    rw [List.zip_append hbd.symm]
  rw [z1, z2]
  refine List.Perm.append_left _ ?_
  refine List.Perm.trans (List.Perm.append_left _ (List.Perm.swap _ _ _)) ?_
  exact List.perm_middle
/-- .. and given back -/
theorem Rep.back {l ρ r : List O} {lv σ rv : List (Option V)} {k : Nat} {o z : O} {v : Option V} (R : Rep K M H (l ++ (o :: (ρ ++ r))) (lv ++ (v :: (σ ++ rv)))) (el : lv.length = l.length) (e : σ.length = ρ.length) (er : rv.length = r.length) (eo : ρ[k]? = some z) (ev : σ[k]? = some v) :
    Rep K M H (l ++ (ρ.set k o ++ r)) (lv ++ (σ ++ rv)) := by
  obtain ⟨a, b, e1, e2, e3⟩ := split_at eo o
  obtain ⟨c, d, f1, f2, _⟩ := split_at ev v
  have hac : c.length = a.length := by omega
  rw [e3]
  subst e1; subst f1
  have hbd : d.length = b.length := by simp at e; omega
  -- the old thing of the slot goes
  have R1 : Rep K M H (l ++ (o :: (a ++ b ++ r))) (lv ++ (v :: (c ++ d ++ rv))) := by
    have R0 : Rep K M H ((l ++ (o :: a)) ++ z :: (b ++ r)) ((lv ++ (v :: c)) ++ v :: (d ++ rv)) := by simpa using R
    have := R0.drop (by simp [el, hac])
    simpa using this
  refine R1.perm (by simp [el, hac, hbd, er]) (by simp [el, hac, hbd, er]) ?_
  have z1 : (l ++ (o :: (a ++ b ++ r))).zip (lv ++ (v :: (c ++ d ++ rv))) = l.zip lv ++ ((o, v) :: (a.zip c ++ (b.zip d ++ r.zip rv))) := by
    rw [List.zip_append el.symm]
    simp only [List.zip_cons_cons, List.append_assoc]
    rw [List.zip_append hac.symm, List.zip_append hbd.symm]
  have z2 : (l ++ ((a ++ o :: b) ++ r)).zip (lv ++ ((c ++ v :: d) ++ rv)) = l.zip lv ++ (a.zip c ++ ((o, v) :: (b.zip d ++ r.zip rv))) := by
    rw [List.zip_append el.symm]
    simp only [List.append_assoc, List.cons_append]
    rw [List.zip_append hac.symm]
    simp only [List.zip_cons_cons]
    rw [List.zip_append hbd.symm]
  rw [z1, z2]
  exact List.Perm.append_left _ List.perm_middle.symm
end

/-! ### arguments that are lent -/
inductive Arg where
  | val (f : Ev → Option D) | own (k : Nat)
def O.known : O → Bool
  | .unk => false
  | _ => true
theorem Ow.known {K : PySem.W.Frag} {M H : Hp} {o : O} {v : Option V} {f : List Addr} (h : Ow K M H o v f) (k : o.known = true) : ∃ x, v = some x := by
  cases h <;> first | exact ⟨_, rfl⟩ | cases k
def argsO : List Arg → Ev → Option (List O × Ev)
  | [], ρ => some ([], ρ)
  | .val f :: as, ρ => (f ρ).bind fun d => (argsO as ρ).map fun p => (.dat d :: p.1, p.2)
  | .own k :: as, ρ => match ρ[k]? with
    | some o => if o.known = true then (argsO as (ρ.set k .unk)).map fun p => (o :: p.1, p.2) else none
    | none => none
/-- what was lent comes back -/
def giveB : List Arg → List O → Ev → Ev
  | .val _ :: as, _ :: os, ρ => giveB as os ρ
  | .own k :: as, o :: os, ρ => (giveB as os ρ).set k o
  | _, _, ρ => ρ
inductive Bor (σ : L2.St) : List Arg → List V → Prop
  | nil : Bor σ [] []
  | val {f : Ev → Option D} {as : List Arg} {v : V} {vs : List V} : Bor σ as vs → Bor σ (.val f :: as) (v :: vs)
  | own {k : Nat} {as : List Arg} {v : V} {vs : List V} : σ[k]? = some (some v) → Bor σ as vs → Bor σ (.own k :: as) (v :: vs)
theorem argsO_val {f : Ev → Option D} {as : List Arg} {ρ ρ1 : Ev} {os : List O} (h : argsO (.val f :: as) ρ = some (os, ρ1)) : ∃ d os', f ρ = some d ∧ argsO as ρ = some (os', ρ1) ∧ os = .dat d :: os' := by
  unfold argsO at h
  cases q : f ρ with
  | none => rw [q] at h; cases h
  | some d =>
    rw [q, Option.bind_some] at h
    cases q2 : argsO as ρ with
    | none => rw [q2] at h; cases h
    | some p => rw [q2] at h; cases h; exact ⟨d, p.1, rfl, rfl, rfl⟩
theorem argsO_own {k : Nat} {as : List Arg} {ρ ρ1 : Ev} {os : List O} (h : argsO (.own k :: as) ρ = some (os, ρ1)) : ∃ o os', ρ[k]? = some o ∧ o.known = true ∧ argsO as (ρ.set k .unk) = some (os', ρ1) ∧ os = o :: os' := by
  unfold argsO at h
  cases q : ρ[k]? with
  | none => rw [q] at h; cases h
  | some o =>
    rw [q] at h
    change (if o.known = true then (argsO as (ρ.set k .unk)).map fun p => (o :: p.1, p.2) else none) = some (os, ρ1) at h
    split at h
    · rename_i hk
      cases q2 : argsO as (ρ.set k .unk) with
      | none => rw [q2] at h; cases h
      | some p => rw [q2] at h; cases h; exact ⟨o, p.1, rfl, hk, rfl, rfl⟩
    · cases h
theorem argsO_len : ∀ {as : List Arg} {ρ ρ1 : Ev} {os : List O}, argsO as ρ = some (os, ρ1) → ρ1.length = ρ.length ∧ os.length = as.length
  | [], _, _, _, h => by cases h; exact ⟨rfl, rfl⟩
  | .val f :: as, ρ, ρ1, os, h => by
    obtain ⟨d, os', _, h2, rfl⟩ := argsO_val h
    obtain ⟨a, b⟩ := argsO_len h2
    exact ⟨a, by simp [b]⟩
  | .own k :: as, ρ, ρ1, os, h => by
    obtain ⟨o, os', _, _, h2, rfl⟩ := argsO_own h
    obtain ⟨a, b⟩ := argsO_len h2
    exact ⟨by rw [a]; simp, by simp [b]⟩
theorem argsO_back : ∀ {as : List Arg} {ρ ρ1 : Ev} {os : List O}, argsO as ρ = some (os, ρ1) → giveB as os ρ1 = ρ
  | [], _, _, _, h => by cases h; rfl
  | .val f :: as, ρ, ρ1, os, h => by
    obtain ⟨d, os', _, h2, rfl⟩ := argsO_val h
    show giveB as os' ρ1 = ρ
    exact argsO_back h2
  | .own k :: as, ρ, ρ1, os, h => by
    obtain ⟨o, os', e, _, h2, rfl⟩ := argsO_own h
    show (giveB as os' ρ1).set k o = ρ
    rw [argsO_back h2, List.set_set]
    obtain ⟨hk, e⟩ := List.getElem?_eq_some_iff.mp e
    rw [← e, List.set_getElem_self]
def tAB (K : PySem.W.Frag) (as : List Arg) : TA := fun σ H Q => ∃ M ρ fo fv os ρ1, Rep K M H (ρ ++ fo) (σ ++ fv) ∧ σ.length = ρ.length ∧ argsO as ρ = some (os, ρ1) ∧
  ∀ M' H' vs, Same M M' → Rep K M' H' (os ++ (ρ1 ++ fo)) (vs.map some ++ (σ ++ fv)) → Bor σ as vs → Q vs H'
section
variable {K : PySem.W.Frag} {M H : Hp}
theorem Rep.lens {ρ fo : List O} {σ fv : List (Option V)} (R : Rep K M H (ρ ++ fo) (σ ++ fv)) (l : σ.length = ρ.length) : fv.length = fo.length := by
  have := R.length
  simp at this; omega
theorem Rep.front {a b : List O} {av bv : List (Option V)} {o : O} {v : Option V} (R : Rep K M H (a ++ o :: b) (av ++ v :: bv)) (e : av.length = a.length) (e2 : bv.length = b.length) : Rep K M H (o :: (a ++ b)) (v :: (av ++ bv)) := by
  refine R.perm (by simp [e, e2]) (by simp [e, e2]) ?_
  rw [List.zip_append e.symm]
  simp only [List.zip_cons_cons]
  rw [List.zip_append e.symm]
  exact List.perm_middle
theorem giveB_len : ∀ {as : List Arg} {os : List O} {ρ : Ev}, (giveB as os ρ).length = ρ.length
  | [], _, _ => by unfold giveB; rfl
  | .val _ :: as, [], ρ => rfl
  | .own _ :: as, [], ρ => rfl
  | .val _ :: as, _ :: os, ρ => giveB_len (as := as) (os := os)
  | .own k :: as, o :: os, ρ => by
    show ((giveB as os ρ).set k o).length = ρ.length
    rw [List.length_set]; exact giveB_len
/-- the lent things go back into their slots -/
theorem Rep.give : ∀ {as : List Arg} {os l r : List O} {vs : List V} {lv σ rv : List (Option V)} {ρ : Ev}, Rep K M H (l ++ (os ++ (ρ ++ r))) (lv ++ (vs.map some ++ (σ ++ rv))) → lv.length = l.length → σ.length = ρ.length → rv.length = r.length → os.length = as.length → Bor σ as vs →
    Rep K M H (l ++ (giveB as os ρ ++ r)) (lv ++ (σ ++ rv))
  | _, os, l, r, _, lv, σ, rv, ρ, R, _, _, _, h, .nil => by
    have : os = [] := List.length_eq_zero_iff.mp h
    subst this
    exact R
  | .val _ :: as, o :: os, l, r, v :: vs, lv, σ, rv, ρ, R, el, e, er, h, .val b => by
    have R1 : Rep K M H (l ++ (os ++ (ρ ++ r))) (lv ++ (vs.map some ++ (σ ++ rv))) := Rep.drop (l := l) (lv := lv) (by simpa using R) el
    exact Rep.give (as := as) R1 el e er (by simpa using h) b
  | .own k :: as, o :: os, l, r, v :: vs, lv, σ, rv, ρ, R, el, e, er, h, .own ek b => by
    have R0 : Rep K M H ((l ++ [o]) ++ (os ++ (ρ ++ r))) ((lv ++ [some v]) ++ (vs.map some ++ (σ ++ rv))) := by simpa using R
    have R1 := Rep.give (as := as) R0 (by simp [el]) e er (by simpa using h) b
    have hk : k < (giveB as os ρ).length := by
      rw [giveB_len, ← e]; exact (List.getElem?_eq_some_iff.mp ek).1
    have R2 : Rep K M H (l ++ (o :: (giveB as os ρ ++ r))) (lv ++ (some v :: (σ ++ rv))) := by simpa using R1
    exact R2.back el (by rw [giveB_len]; exact e) er (List.getElem?_eq_getElem hk) ek
end
section
variable {X : Cx} {e : Expr} {es : List Expr} {as : List Arg} {f : Ev → Option D}
theorem bNil : PA X [] (tAB X.K []) := PA.imp pa_nil fun σ H Q ⟨M, ρ, fo, fv, os, ρ1, R, l, e, k⟩ => by
  cases e
  exact k M H [] (Same.refl _) R .nil
theorem bVal (ha : PE X e (tP X.K f)) (hr : PA X es (tAB X.K as)) (hs : starEach (e :: es) X.env = (false, eval e X.env) :: starEach es X.env := by rfl) : PA X (e :: es) (tAB X.K (.val f :: as)) := PA.imp (pa_cons ha hr hs) fun σ H Q ⟨M, ρ, fo, fv, os, ρ1, R, l, e, k⟩ => by
  obtain ⟨d, os', ed, eo, rfl⟩ := argsO_val e
  refine ⟨M, ρ, fo, fv, d, R, l, ed, fun M1 H1 v s1 R1 d1 => ⟨M1, ρ, fo, fv, os', ρ1, R1, l, eo, fun M2 H2 vs s2 R2 b2 => k M2 H2 (v :: vs) (s1.trans s2) ?_ (.val b2)⟩⟩
  exact Rep.push (l := []) (lv := []) R2 rfl (d1.mono s2)
theorem bOwn {k : Nat} {x : Str} {p : Pos} (hv : PE X (.Name x p) (tVar k)) (hr : PA X es (tAB X.K as)) (hs : starEach (.Name x p :: es) X.env = (false, eval (.Name x p) X.env) :: starEach es X.env := by rfl) : PA X (.Name x p :: es) (tAB X.K (.own k :: as)) := PA.imp (pa_cons hv hr hs) fun σ H Q ⟨M, ρ, fo, fv, os, ρ1, R, l, e, kk⟩ => by
  obtain ⟨o, os', eo, ho, e2, rfl⟩ := argsO_own e
  have lf := R.lens l
  have R' : Rep X.K M H (ρ ++ ([] ++ fo)) (σ ++ ([] ++ fv)) := R
  obtain ⟨v, f1, ft, ev, h1, _, _, _, _⟩ := R'.own l rfl eo
  obtain ⟨x', rfl⟩ := h1.known ho
  have R1 : Rep X.K M H (ρ.set k .unk ++ (o :: fo)) (σ ++ (some x' :: fv)) := (Rep.pull (l := []) (lv := []) R rfl l lf eo ev).swap (by simp [l])
  refine ⟨x', ev, M, ρ.set k .unk, o :: fo, some x' :: fv, os', ρ1, R1, by simp [l], e2, fun M2 H2 vs s2 R2 b2 => kk M2 H2 (x' :: vs) s2 ?_ (.own ev b2)⟩
  have hlen := argsO_len e2
  have lv : (vs.map some).length = os'.length := by
    have a := R2.length
    simp only [List.length_append, List.length_cons] at a
    have b := hlen.1
    simp at b
    omega
  have R3 : Rep X.K M2 H2 ((os' ++ ρ1) ++ o :: fo) ((vs.map some ++ σ) ++ some x' :: fv) := by simpa using R2
  have := R3.front (by simp at lv ⊢; rw [hlen.1]; simp [lv, l]) lf
  simpa using this
end
/-! ### a def by things: parameters may be lent -/
def runB (n : Nat) (J : List Nat) (b : Ev → Option Fl) (os : List O) : Option (O × List O) := (b (os ++ List.replicate (n - os.length) .unk)).bind fun r => match r with
  | .nx ρ => if os.length ≤ ρ.length then some (.dat .non, (List.range os.length).map fun j => if j ∈ J then ρ.getD j .unk else match os.getD j .unk with | .dat d => .dat d | _ => .unk) else none
  | .rt o ρ => if os.length ≤ ρ.length then some (o, (List.range os.length).map fun j => if j ∈ J then ρ.getD j .unk else match os.getD j .unk with | .dat d => .dat d | _ => .unk) else none
  | _ => none
def spB (K : PySem.W.Frag) (n : Nat) (m : List O → Option (O × List O)) : Sp := fun vs H Q _ => ∃ M fo fv os o os', vs.length = n ∧ os.length = n ∧ Rep K M H (os ++ fo) (vs.map some ++ fv) ∧ m os = some (o, os') ∧
  ∀ M' H' v, Same M M' → Rep K M' H' (o :: (os' ++ fo)) (some v :: (vs.map some ++ fv)) → Q v H'

section
variable {P : Program} {w : World} {K : PySem.W.Frag} {mg : Str → Option Value} {base : Heap}
theorem Ows.take {M H : Hp} : ∀ (n : Nat) {os : List O} {vs : List (Option V)} {fp : List Addr}, Ows K M H os vs fp → ∃ f1 f2, fp = f1 ++ f2 ∧ Ows K M H (os.take n) (vs.take n) f1
  | 0, _, _, fp, _ => ⟨[], fp, rfl, .nil⟩
  | _ + 1, _, _, _, .nil => ⟨[], [], rfl, .nil⟩
  | n + 1, _, _, _, .cons (f1 := f1) h hs => by
    obtain ⟨a, b, e, w⟩ := Ows.take n hs
    exact ⟨f1 ++ a, b, by rw [e, List.append_assoc], .cons h w⟩
/-- the parameters at the end of the def -/
theorem Rep.params {M M1 H0 H1 : Hp} {J : List Nat} {os fo tm ρ : List O} {vs : List V} {fv tv σ σ0 : List (Option V)} (R0 : Rep K M H0 (os ++ fo) (vs.map some ++ fv)) (hl : vs.length = os.length) (s1 : Same M M1) (R : Rep K M1 H1 (ρ ++ (tm ++ fo)) (σ ++ (tv ++ fv))) (lt : tv.length = tm.length) (lk : Lk J σ0 σ ρ) (h0 : ∀ j < os.length, σ0[j]? = (vs.map some)[j]?) (hn : os.length ≤ ρ.length) :
    Rep K M1 H1 (tm ++ (((List.range os.length).map fun j => if j ∈ J then ρ.getD j .unk else match os.getD j .unk with | .dat d => .dat d | _ => .unk) ++ fo)) (tv ++ (vs.map some ++ fv)) := by
  obtain ⟨s, fp, w, nd, nm⟩ := R
  obtain ⟨fa, fb, e1, w1, w2⟩ := w.split lk.1
  obtain ⟨ft, fr, e2, w3, w4⟩ := w2.split lt
  obtain ⟨f1, f2, e3, w5⟩ := Ows.take os.length w1
  obtain ⟨f', sb, w6⟩ := w5.restore (ρ := (List.range os.length).map fun j => if j ∈ J then ρ.getD j .unk else match os.getD j .unk with | .dat d => .dat d | _ => .unk) (σ := vs.map some) (by simp; omega) (by simp [hl]) fun j => by
    by_cases hj : j < os.length
    · rw [List.getElem?_map, List.getElem?_range hj]
      simp only [Option.map_some]
      by_cases hJ : j ∈ J
      · left
        rw [if_pos hJ]
        constructor
        · rw [List.getElem?_take_of_lt hj, List.getElem?_eq_getElem (by omega), List.getD_eq_getElem?_getD, List.getElem?_eq_getElem (by omega)]
          rfl
        · rw [List.getElem?_take_of_lt hj, lk.2 j hJ, h0 j hj]
      · rw [if_neg hJ]
        right
        split
        · rename_i d hd
          left
          rw [List.getD_eq_getElem?_getD, List.getElem?_eq_getElem hj] at hd
          obtain ⟨x, ex, dx⟩ := R0.slot (by simp [hl]) (i := j) (d := d) (by rw [List.getElem?_eq_getElem hj]; simpa using hd)
          exact ⟨d, x, rfl, ex, dx.mono s1⟩
        · right; rfl
    · left
      have h1 : (List.map some vs)[j]? = none := List.getElem?_eq_none (by simp [hl]; omega)
      constructor
      · rw [List.getElem?_eq_none (by simp; omega), List.getElem?_eq_none (by simp; omega)]
      · rw [h1, List.getElem?_eq_none (by simp; omega)]
  subst e1; subst e2; subst e3
  refine ⟨s, ft ++ (f' ++ fr), w3.append (w6.append w4), ?_, fun a ha => nm a ?_⟩
  · rw [List.nodup_iff_count] at nd ⊢
    intro a
    have h1 := nd a
    have h2 := sb.count_le a
    simp only [List.count_append] at h1 ⊢
    omega
  · simp only [List.mem_append] at ha ⊢
    rcases ha with ha | ha | ha
    · exact .inr (.inl ha)
    · exact .inl (.inl (sb.subset ha))
    · exact .inr (.inr ha)
theorem fnB {x qual : Str} {st : Stmt} {f : Addr} {fd : FuncData} {N ps : List Str} {k : Nat} {J : List Nat} {b : Ev → Option Fl} (F : Fun K x qual st f fd) (S : FnScope N ps (defScope st))
    (hb : ∀ (cdv : Value) (A : Around) (outer : List Env) (s : Shared) (H : Hp) (E : XK), Room k (A.deeper (PyProof.Rows.envOfC qual (defScope st) s.heap.objs.size f cdv)) →
      PSs (cxOf CX0 P w K mg base N qual (defScope st) f cdv A outer s H E).nox (defBody st) (tS K W0 J b)) : FnOk P w K mg base CX0 (k + 1) f fd ps (spB K ps.length (runB N.length J b)) := by
  refine F.ok S (fun vs H Q E h => ?_) fun cdv A outer s H vs Q E hr h => ⟨_, hb cdv A outer s H E hr, ?_⟩
  · obtain ⟨M, fo, fv, os, o, os', hl, _⟩ := h
    exact hl
  obtain ⟨M, fo, fv, os, o, os', hl, ho, R, e, kk⟩ := h
  have hlv : vs.length = os.length := by omega
  have R1 : Rep K M H ((os ++ List.replicate (N.length - os.length) .unk) ++ fo) (L2.start N vs ++ fv) := by
    obtain ⟨sm, fp, w, nd, nm⟩ := R
    obtain ⟨fa, fb, e1, w1, w2⟩ := w.split (by simp [hlv])
    subst e1
    refine ⟨sm, (fa ++ []) ++ fb, ?_, by simpa using nd, fun a ha => nm a (by simpa using ha)⟩
    unfold L2.start
    rw [hlv]
    exact (w1.append (ows_unk _)).append w2
  have l1 : (L2.start N vs).length = (os ++ List.replicate (N.length - os.length) O.unk).length := by simp [L2.start, hlv]
  have st0 : ∀ j < os.length, (L2.start N vs)[j]? = (vs.map some)[j]? := fun j hj => by
    unfold L2.start
    rw [List.getElem?_append_left (by simp [hlv]; exact hj)]
  unfold runB at e
  cases q : b (os ++ List.replicate (N.length - os.length) .unk) with
  | none => rw [q] at e; cases e
  | some r =>
    rw [q, Option.bind_some] at e
    refine ⟨M, _, fo, fv, r, L2.start N vs, R1, ⟨l1, fun _ _ => rfl⟩, q, ?_⟩
    cases r with
    | nx ρ =>
      change (if os.length ≤ ρ.length then _ else none) = some (o, os') at e
      split at e
      case isFalse => cases e
      rename_i hle
      cases e
      intro M1 H1 σ1 s1 R2 lk
      have R3 := Rep.params (tm := [.dat .non]) (tv := [some .non]) R hlv s1 (R2.push lk.1 .non) rfl lk st0 hle
      exact kk M1 H1 _ s1 R3
    | rt o' ρ =>
      change (if os.length ≤ ρ.length then _ else none) = some (o, os') at e
      split at e
      case isFalse => cases e
      rename_i hle
      cases e
      intro M1 H1 σ1 v s1 R2 lk
      have R3 := Rep.params (tm := [o]) (tv := [some v]) R hlv s1 R2 rfl lk st0 hle
      exact kk M1 H1 v s1 R3
    | bk ρ => cases e
    | ct ρ => cases e
    | ex x ρ => cases e
end

/-! ### calls with lent arguments -/
open Classical in
/-- the call leaves what was lent as it was -/
noncomputable def cB0 (as : List Arg) (n : Nat) (m : List O → Option (O × List O)) (ρ : Ev) : Option O := (argsO as ρ).bind fun p => if p.1.length = n then (m p.1).bind fun r => if r.2 = p.1 then some r.1 else none else none
theorem cB0_some {as : List Arg} {n : Nat} {m : List O → Option (O × List O)} {ρ : Ev} {o : O} (h : cB0 as n m ρ = some o) : ∃ os ρ1, argsO as ρ = some (os, ρ1) ∧ os.length = n ∧ m os = some (o, os) := by
  unfold cB0 at h
  cases q : argsO as ρ with
  | none => rw [q] at h; cases h
  | some p =>
    rw [q, Option.bind_some] at h
    split at h
    · rename_i hn
      cases q2 : m p.1 with
      | none => rw [q2] at h; cases h
      | some r =>
        rw [q2, Option.bind_some] at h
        split at h
        · rename_i hr
          cases h
          exact ⟨p.1, p.2, rfl, hn, by rw [q2, ← hr]⟩
        · cases h
    · cases h
section
variable {X : Cx} {W : WX} {pos p : Pos} {e : Expr} {es : List Expr} {as : List Arg} {k n : Nat} {f C : Addr} {fd : FuncData} {ps : List Str} {x : Str}
theorem oCallL {m : List O → Option (O × List O)} (F : FnOk X.prog X.w X.K X.mg X.base CX0 k f fd ps (spB X.K n m)) (hr : Room k X.A) (hm : X.mg x = some (.ref f)) (hk : PySem.W.keepIn X.K (.ref f) = true) (hb : Binds X.K fd ps []) (ha : PA X (e :: es) (tAB X.K as)) (hg : Gl X x := by rfl)
    (hdb : (x == ("__debug__" : Str)) = false := by decide) (he : starEach (e :: es) X.env = (false, eval e X.env) :: starEach es X.env := by rfl) (hpl : (backTo pos (starEach es X.env)).any (·.1) = false := by rfl) : PE X (.Call (.Name x p) (e :: es) [] pos) (tO X.K (cB0 as n m)) :=
  PE.imp (pe_call (E := E0) F hr hg hm hk hb .nil pass0 ha hdb he hpl) fun σ H Q ⟨M, ρ, fo, fv, o, R, l, e, kk⟩ => by
    obtain ⟨os, ρ1, e1, hn, e2⟩ := cB0_some e
    have lf := R.lens l
    have hlen := argsO_len e1
    refine ⟨M, ρ, fo, fv, os, ρ1, R, l, e1, fun M1 H1 vs s1 R1 b1 => ?_⟩
    have lv : vs.length = os.length := by
      have a := R1.length
      simp only [List.length_append, List.length_map] at a
      have := hlen.1
      omega
    refine ⟨M1, ρ1 ++ fo, σ ++ fv, os, o, os, by rw [List.append_nil]; omega, hn, by rw [List.append_nil]; exact R1, e2, fun M2 H2 v s2 R2 => kk M2 H2 v (s1.trans s2) ?_⟩
    rw [List.append_nil] at R2
    have R3 := Rep.give (as := as) (l := [o]) (lv := [some v]) R2 rfl (by rw [hlen.1]; exact l) lf hlen.2 b1
    rw [argsO_back e1] at R3
    have R4 : Rep X.K M2 H2 (o :: (ρ ++ fo)) (some v :: (σ ++ fv)) := R3
    exact R4.swap l
/-- C(..) with lent arguments -/
noncomputable def cI0 (C : Addr) (as : List Arg) (n : Nat) (m : List O → Option (O × List O)) (ρ : Ev) : Option O := (argsO as ρ).bind fun p => if p.1.length + 1 = n then (m (.obj C [] [] :: p.1)).bind fun r => match r.2 with
  | o :: os => open Classical in if r.1 = .dat .non ∧ os = p.1 then some o else none
  | [] => none else none
theorem cI0_some {as : List Arg} {n : Nat} {m : List O → Option (O × List O)} {ρ : Ev} {o : O} (h : cI0 C as n m ρ = some o) : ∃ os ρ1, argsO as ρ = some (os, ρ1) ∧ os.length + 1 = n ∧ m (.obj C [] [] :: os) = some (.dat .non, o :: os) := by
  unfold cI0 at h
  cases q : argsO as ρ with
  | none => rw [q] at h; cases h
  | some p =>
    rw [q, Option.bind_some] at h
    split at h
    · rename_i hn
      cases q2 : m (.obj C [] [] :: p.1) with
      | none => rw [q2] at h; cases h
      | some r =>
        rw [q2, Option.bind_some] at h
        split at h
        · rename_i o' os hr
          split at h
          · rename_i hc
            cases h
            exact ⟨p.1, p.2, rfl, hn, by rw [q2, ← hc.1, ← hc.2, ← hr]⟩
          · cases h
        · cases h
    · cases h
theorem oMakeL {m : List O → Option (O × List O)} (Mc : Mk X.K C f) (F : FnOk X.prog X.w X.K X.mg X.base CX0 k f fd ps (spB X.K n m)) (hr : Room (k + 1) X.A) (hm : X.mg x = some (.ref C)) (hb : Binds X.K fd ps []) (ha : PA X (e :: es) (tAB X.K as)) (hg : Gl X x := by rfl)
    (hdb : (x == ("__debug__" : Str)) = false := by decide) (he : starEach (e :: es) X.env = (false, eval e X.env) :: starEach es X.env := by rfl) (hpl : (backTo pos (starEach es X.env)).any (·.1) = false := by rfl) :
    PE X (.Call (.Name x p) (e :: es) [] pos) (tO X.K (cI0 C as n m)) := PE.imp (pe_make Mc F hr hg hm hb .nil (E := E0) pass0 ha hdb he hpl) fun σ H Q ⟨M, ρ, fo, fv, o, R, l, e, kk⟩ => by
  obtain ⟨os, ρ1, e1, hn, e2⟩ := cI0_some e
  have lf := R.lens l
  have hlen := argsO_len e1
  refine ⟨M, ρ, fo, fv, os, ρ1, R, l, e1, fun M1 H1 vs s1 R1 b1 x dx hx hd ne => ?_⟩
  have lv : vs.length = os.length := by
    have a := R1.length
    simp only [List.length_append, List.length_map] at a
    have := hlen.1
    omega
  refine ⟨M1, ρ1 ++ fo, σ ++ fv, .obj C [] [] :: os, _, _, by simp; omega, by simpa using hn, ?_, e2, fun M2 H2 v s2 R2 => ?_⟩
  · have := R1.newI (C := C) hx hd ne
    simpa using this
  · have R2' : Rep X.K M2 H2 ([] ++ O.dat .non :: (o :: (os ++ (ρ1 ++ fo)))) ([] ++ some v :: (some (.ref x) :: (vs.map some ++ (σ ++ fv)))) := by simpa using R2
    obtain ⟨y, ey, dy⟩ := R2'.datAt rfl rfl
    cases ey
    cases dy
    have R3 := R2'.drop rfl
    have R4 := Rep.give (as := as) (l := [o]) (lv := [some (.ref x)]) (os := os) (ρ := ρ1) (r := fo) (vs := vs) (σ := σ) (rv := fv) (by simpa using R3) rfl (by rw [hlen.1]; exact l) lf hlen.2 b1
    rw [argsO_back e1] at R4
    have R5 : Rep X.K M2 H2 (o :: (ρ ++ fo)) (some (.ref x) :: (σ ++ fv)) := R4
    exact ⟨rfl, kk M2 H2 _ (s1.trans s2) (R5.swap l)⟩
end
end PD

namespace PD
open PySem PySem.Spec L2

section
variable {X : Cx} {W : WX} {J : List Nat} {pos p : Pos} {tg e : Expr}
/-! ### an own list in a slot is walked -/
def ownL (k : Nat) (ρ : Ev) : Option (List D) := match ρ[k]? with
  | some (.lst os) => O.toDs os
  | _ => none
theorem toDs_all : ∀ {os : List O} {ds : List D}, O.toDs os = some ds → ds.length = os.length
  | [], ds, h => by cases h; rfl
  | o :: os, ds, h => by
    unfold O.toDs at h
    cases q : O.toD o with
    | none => rw [q] at h; cases h
    | some d =>
      cases q2 : O.toDs os with
      | none => rw [q, q2] at h; cases h
      | some ds' => rw [q, q2] at h; cases h; simp [toDs_all q2]
/-- all items are frozen -/
def datsO : List O → Option (List D)
  | [] => some []
  | .dat d :: os => (datsO os).map (d :: ·)
  | _ => none
theorem dats_of {K : PySem.W.Frag} {M H : Hp} : ∀ {os : List O} {ds : List D} {xs : List V} {fp : List Addr}, datsO os = some ds → Ows K M H os (xs.map some) fp → Dvs K M xs ds
  | [], _, [], _, h, .nil => by cases h; exact .nil
  | .dat d :: os, ds, x :: xs, _, h, .cons w ws => by
    unfold datsO at h
    cases q : datsO os with
    | none => rw [q] at h; cases h
    | some ds' =>
      rw [q] at h
      cases h
      cases w with
      | dat dv => exact .cons dv (dats_of q ws)
def ownI (k : Nat) (ρ : Ev) : Option (List D) := match ρ[k]? with
  | some (.lst os) => datsO os
  | _ => none
theorem ownI_some {k : Nat} {ρ : Ev} {ds : List D} (h : ownI k ρ = some ds) : ∃ os, ρ[k]? = some (.lst os) ∧ datsO os = some ds := by
  unfold ownI at h
  split at h
  · rename_i os e; exact ⟨os, e, h⟩
  · cases h
theorem ownI_lt {k : Nat} (ρ : Ev) (ds : List D) (h : ownI k ρ = some ds) : ∀ j ∈ [k], j < ρ.length := by
  obtain ⟨os, e, _⟩ := ownI_some h
  intro j hj
  simp at hj; subst hj
  exact (List.getElem?_eq_some_iff.mp e).1
theorem mem_split {α : Type} {x : α} {xs : List α} (h : x ∈ xs) : ∃ a b, xs = a ++ x :: b := List.append_of_mem h
theorem ows_at {K : PySem.W.Frag} {M H : Hp} {o : O} {v : Option V} : ∀ {os : List O} {vs : List (Option V)} {fp : List Addr}, Ows K M H os vs fp → (o, v) ∈ os.zip vs → ∃ f, Ow K M H o v f
  | _, _, _, .nil, h => by simp at h
  | _, _, _, .cons h1 hs, h => by
    simp only [List.zip_cons_cons, List.mem_cons] at h
    rcases h with h | h
    · cases h; exact ⟨_, h1⟩
    · exact ows_at hs h
theorem rep_at {K : PySem.W.Frag} {M H : Hp} {os : List O} {vs : List (Option V)} {o : O} {v : Option V} (R : Rep K M H os vs) (h : (o, v) ∈ os.zip vs) : ∃ f, Ow K M H o v f := by
  obtain ⟨s, fp, w, nd, nm⟩ := R
  exact ows_at w h
theorem iOwn {k : Nat} {x : Str} (hv : PE X (.Name x p) (tVar k)) : PI X tg (.Name x p) (tI X.K [k] (ownI k)) := PI.imp (pi_list hv) fun σ H R ⟨M, ρ, fo, fv, ds, R0, l, e, kk⟩ => by
  obtain ⟨os, eo, ed⟩ := ownI_some e
  have R' : Rep X.K M H (ρ ++ ([] ++ fo)) (σ ++ ([] ++ fv)) := R0
  obtain ⟨v, f1, ft, ev, h1, _, _, _, _⟩ := R'.own l rfl eo
  cases h1 with
  | @lst a xs _ fp ha ws =>
    refine ⟨.ref a, ev, a, rfl, ⟨xs, .inl (.inl ha)⟩, kk M H _ (Same.refl _) R0 ?_⟩
    have z1 : ρ.getD k .unk = .lst os := by rw [List.getD_eq_getElem?_getD, eo]; rfl
    have z2 : σ.getD k none = some (.ref a) := by rw [List.getD_eq_getElem?_getD, ev]; rfl
    intro i M1 H1 os1 vs1 s1 R1 hn
    have hm := hn (.lst os, some (.ref a)) (by simp only [List.map_cons, List.map_nil, List.mem_singleton, z1, z2])
    obtain ⟨f, hw⟩ := rep_at R1 hm
    cases hw with
    | @lst _ xs1 _ fp1 ha1 ws1 =>
      have dv := dats_of ed ws1
      have w := walk_list (K := X.K) (a := a) (xs := xs1)
      have q : SqL X.K H1 a xs1 := .inl (.inl ha1)
      have hl := dv.length
      refine ⟨fun hi => w.goes i H1 (by omega) q, fun hi => by subst hi; rw [← hl]; exact w.stops H1 q, fun d hd y H' hy => ?_⟩
      have hi : i < xs1.length := by rw [hl]; exact (List.getElem?_eq_some_iff.mp hd).1
      obtain ⟨rfl, ex⟩ := w.yields i H1 y H' hi q hy
      obtain ⟨e', he', dd⟩ := dv.getV ex
      rw [hd] at he'; cases he'
      exact ⟨M1, Same.refl _, R1, dd⟩
/-! ### for over an own list that the body leaves as it is -/
open Classical in
noncomputable def loopO (k : Nat) (z : Option O) (g : D → Ev → Option Ev) (body : Ev → Option Fl) : List D → Ev → Option Fl
  | [], ρ => some (.nx ρ)
  | d :: ds, ρ => (g d ρ).bind fun ρ1 => (body ρ1).bind fun r => match r with
    | .nx ρ' => if ρ'[k]? = z then loopO k z g body ds ρ' else none
    | .ct ρ' => if ρ'[k]? = z then loopO k z g body ds ρ' else none
    | .bk ρ' => some (.nx ρ')
    | r => some r
noncomputable def forO (k : Nat) (g : D → Ev → Option Ev) (body : Ev → Option Fl) (ρ : Ev) : Option Fl := (ownI k ρ).bind fun ds => loopO k ρ[k]? g body ds ρ
theorem sForO {k : Nat} {x : Str} {body : List Stmt} {is : List Nat} {g : D → Ev → Option Ev} {b : Ev → Option Fl} (hp : PassesOwn (model X.prog X.w) X.A X.env X.xe) (hc : X.calm = true) (hv : PE X (.Name x p) (tVar k)) (hg : PG X tg (tG X.K is g)) (ok : TgOk is g) (hb : PSs X body (tS X.K W J b)) (hk : k ∈ J := by decide) (hJ : ∀ i ∈ is, i ∉ J := by decide)
    (hs : ∀ y, foldedSetIterable (.Name x p) X.env y = pure y := by intro _; rfl) : PS X (.For tg (.Name x p) body [] pos) (tS X.K W J (forO k g b)) := PS.imp (ps_for hp hc (iOwn hv) hg hb hs) fun E σ H ⟨M, ρ, fo, fv, r, σ0, R, l, e, kk⟩ => by
  unfold forO at e
  cases q : ownI k ρ with
  | none => rw [q] at e; cases e
  | some ds =>
    rw [q, Option.bind_some] at e
    have kl : k < ρ.length := ownI_lt ρ ds q k (by simp)
    refine ⟨M, ρ, fo, fv, ds, R, l.1, q, fun M0 H0 JJ s0 R0 y => ?_⟩
    refine ⟨fun i m σ1 H => m = ds.length - i ∧ i ≤ ds.length ∧ ∃ M1 ρ1, Same M0 M1 ∧ Rep X.K M1 H (ρ1 ++ fo) (σ1 ++ fv) ∧ Lk J σ0 σ1 ρ1 ∧ ρ1[k]? = ρ[k]? ∧ loopO k ρ[k]? g b (ds.drop i) ρ1 = some r, ⟨ds.length, by omega, Nat.zero_le _, M0, ρ, Same.refl _, R0, l, rfl, by simpa using e⟩, ?_⟩
    rintro i m σ1 H ⟨rfl, hi, M1, ρ1, s1, R1, l1, z1, e1⟩
    have need : ∀ rr ∈ [k].map (fun k => (ρ.getD k .unk, σ.getD k none)), rr ∈ (ρ1 ++ fo).zip (σ1 ++ fv) := by
      intro rr hr
      simp only [List.map_cons, List.map_nil, List.mem_singleton] at hr
      subst hr
      refine List.mem_of_getElem? (i := k) ?_
      have kl1 : k < ρ1.length := by
        rw [List.getElem?_eq_getElem kl] at z1
        exact (List.getElem?_eq_some_iff.mp z1).1
      have kls : k < σ.length := by rw [l.1]; exact kl
      rw [List.getElem?_zip_eq_some]
      refine ⟨?_, ?_⟩
      · rw [List.getElem?_append_left kl1, z1, List.getD_eq_getElem?_getD, List.getElem?_eq_getElem kl]; rfl
      · rw [List.getElem?_append_left (by rw [l1.1]; exact kl1), l1.2 k hk, ← l.2 k hk, List.getElem?_eq_getElem kls]
        show some σ[k] = some (σ.getD k none)
        rw [List.getD_eq_getElem?_getD, List.getElem?_eq_getElem kls]; rfl
    obtain ⟨go, stop, yl⟩ := y i M1 H _ _ s1 R1 need
    by_cases hlt : i < ds.length
    · have ed : ds.drop i = ds[i] :: ds.drop (i + 1) := List.drop_eq_getElem_cons hlt
      rw [ed] at e1
      unfold loopO at e1
      cases q1 : g ds[i] ρ1 with
      | none => rw [q1] at e1; cases e1
      | some ρ2 =>
        rw [q1, Option.bind_some] at e1
        cases q2 : b ρ2 with
        | none => rw [q2] at e1; cases e1
        | some r2 =>
          rw [q2, Option.bind_some] at e1
          refine .inr ⟨go hlt, fun σ' H' => ∃ M1 ρ1, Same M0 M1 ∧ Rep X.K M1 H' (ρ1 ++ fo) (σ' ++ fv) ∧ Lk J σ0 σ' ρ1 ∧ ρ1[k]? = ρ[k]? ∧ loopO k ρ[k]? g b (ds.drop (i + 1)) ρ1 = some r, fun σ' H' h => ⟨ds.length - (i + 1), by omega, rfl, hlt, h⟩, fun x H' hy => ?_⟩
          obtain ⟨M2, s2, R2, d2⟩ := yl ds[i] (List.getElem?_eq_getElem hlt) x H' hy
          refine ⟨M2, ρ1, fo, fv, ds[i], ρ2, R2, l1.1, d2, q1, fun σ3 a3 l3 r3 R3 => ?_⟩
          have s02 : Same M M2 := s0.trans (s1.trans s2)
          refine ⟨M2, ρ2, fo, fv, r2, σ0, R3, l1.to l3 r3 a3 hJ, q2, ?_⟩
          cases r2 with
          | nx ρ4 =>
            change (open Classical in if ρ4[k]? = ρ[k]? then loopO k ρ[k]? g b (ds.drop (i + 1)) ρ4 else none) = some r at e1
            split at e1
            · rename_i hz; exact fun M4 H4 σ4 s4 R4 l4 => ⟨M4, ρ4, s1.trans (s2.trans s4), R4, l4, hz, e1⟩
            · cases e1
          | ct ρ4 =>
            change (open Classical in if ρ4[k]? = ρ[k]? then loopO k ρ[k]? g b (ds.drop (i + 1)) ρ4 else none) = some r at e1
            split at e1
            · rename_i hz; exact fun M4 H4 σ4 s4 R4 l4 => ⟨M4, ρ4, s1.trans (s2.trans s4), R4, l4, hz, e1⟩
            · cases e1
          | bk ρ4 => cases e1; exact fun M4 H4 σ4 s4 R4 l4 => kk M4 H4 σ4 (s02.trans s4) R4 l4
          | rt o ρ4 => cases e1; exact fun M4 H4 σ4 v s4 R4 l4 => kk M4 H4 σ4 v (s02.trans s4) R4 l4
          | ex x ρ4 => cases e1; exact fun M4 H4 σ4 cls d s4 R4 l4 => kk M4 H4 σ4 cls d (s02.trans s4) R4 l4
    · have ei : i = ds.length := by omega
      rw [ei, List.drop_length] at e1
      cases e1
      exact .inl ⟨stop ei, kk M1 H σ1 (s0.trans s1) R1 l1⟩
end

/-! ### what is never reached; recursion's ground -/
theorem sStuck {X : Cx} {W : WX} {J : List Nat} {st : Stmt} : PS X st (tS X.K W J fun _ => none) := ⟨fun p s σ H D I ⟨M, ρ, fo, fv, r, σ0, R, l, e, k⟩ => by cases e⟩
theorem fnNone {P : Program} {w : World} {K : PySem.W.Frag} {mg : Str → Option Value} {base : Heap} {CX : CXT} {k n : Nat} {f : Addr} {fd : FuncData} {ps : List Str} (hn : n = ps.length := by rfl) : FnOk P w K mg base CX k f fd ps (spP K n fun _ => none) :=
  ⟨fun vs H Q E h => hn ▸ h.1, fun A outer s H args us vs Q E _ _ _ _ h => by
    obtain ⟨_, M, fo, fv, ds, d, _, _, e, _⟩ := h
    cases e⟩
theorem isC_one {K : PySem.W.Frag} {C : Addr} (cx : ClsX K C) (h : (PySem.W.clsIn K C).isSome = true) : IsC K C [(C, true)] := ⟨h, cx.ty, fun C' b e => by
  simp only [List.lookup] at e
  split at e
  · rename_i z
    cases e
    have : C' = C := by simpa using z
    subst this
    exact ⟨cx, by unfold PySem.W.kitOne; rw [if_pos (by simp)]⟩
  · cases e⟩
/-- how a method binds when the arguments behind self come by name, in order -/
theorem kbn_of1 {K : PySem.W.Frag} {x qual : Str} {st : Stmt} {f : Addr} {fd : FuncData} {ps ks : List Str} (F : Fun K x qual st f fd)
    (h : ∀ (kV doc pm : Value) (an : Option Addr) (cdv ct : Value) (us ws : List Value), us.length = 1 → ws.length = ks.length → bindArgs (PySem.W.fnOf x qual (defArgs st) (defBody st) (defScope st) .none kV doc pm an cdv ct) ⟨us, ks.zip ws⟩ = pure (ps.zip (us ++ ws))) :
    KBn K fd ps 1 ks (fun us ws => us ++ ws) (fun vs zs => vs ++ zs) := by
  obtain ⟨oc, od, kV, doc, pm, an, cdv, ct, osl, rfl, lk, hcd⟩ := F.ex
  exact ⟨fun s us ws X h1 h2 => .of_eq (h kV doc pm an cdv ct us ws h1 h2), fun r1 r2 => r1.append r2⟩
end PD

namespace PD
open PySem PySem.Spec L2

/-! ### the evaluator: a simp set (word_snoc) that runs mirrors upon a written environment -/
/-- no rfl-lemma: the kernel must not run what stands behind it -/
theorem nrfl {α : Type} {a b : α} (h : a = b) : a = b := h
def toB : D → Option Bool
  | .bl b => some b
  | _ => none
def toI : D → Option Int
  | .int b => some b
  | _ => none
def andO (x y : Option Bool) : Option Bool := x.bind fun b => if b = true then y else some false
def orO (x y : Option Bool) : Option Bool := x.bind fun b => if b = true then some true else y
def iteO {α : Type} (c : Option Bool) (x y : Option α) : Option α := c.bind fun b => if b = true then x else y
def andW (y : Option D) : D → Option D
  | .bl true => y
  | .bl false => some (.bl false)
  | _ => none
def orW (y : Option D) : D → Option D
  | .bl true => some (.bl true)
  | .bl false => y
  | _ => none
def notW : D → Option D
  | .bl b => some (.bl (!b))
  | _ => none
def O.dats (ds : List D) : O := .lst (ds.map .dat)
theorem toD_dats (ds : List D) : (O.dats ds).toD = some (.lst ds) := by
  unfold O.dats O.toD
  rw [toDs_dat]; rfl
theorem line_of {n : Nat} (h : n ≤ 1000000) : n ≤ sizeLine := Nat.le_trans h (by decide)
section
variable {ρ r : Ev} {fa fb : Ev → Option D} {c c2 : Ev → Option Bool} {g : D → D → Option D} {h : D → Option D} {x y : D} {i : Nat} {o : O}
theorem ev_bind {α β : Type} (a : α) (f : α → Option β) : (some a).bind f = f a := nrfl rfl
theorem ev_map {α β : Type} (a : α) (f : α → β) : (some a).map f = some (f a) := nrfl rfl
theorem ev_gv0 : gv 0 (.dat x :: r) = some x := nrfl rfl
theorem ev_gvS : gv (i + 1) (o :: r) = gv i r := nrfl rfl
theorem ev_b2 : b2 fa fb g ρ = (fa ρ).bind fun x => (fb ρ).bind fun y => g x y := nrfl rfl
theorem ev_b1 : b1 fa h ρ = (fa ρ).bind h := nrfl rfl
theorem ev_kI (k : Int) : kI k ρ = some (.int k) := nrfl rfl
theorem ev_kS (k : Str) : kS k ρ = some (.str k) := nrfl rfl
theorem ev_kB (k : Bool) : kB k ρ = some (.bl k) := nrfl rfl
theorem ev_kN : kN ρ = some .non := nrfl rfl
theorem ev_aCons {f : Ev → Option (List D)} : aCons fa f ρ = (fa ρ).bind fun d => (f ρ).bind fun ds => some (d :: ds) := nrfl rfl
theorem ev_aNil : aNil ρ = some [] := nrfl rfl
theorem ev_cB {f : Ev → Option (List D)} {m : List D → Option D} : cB f m ρ = (f ρ).bind m := nrfl rfl
theorem ev_cO {f : Ev → Option (List D)} {m : List D → Option O} : cO f m ρ = (f ρ).bind m := nrfl rfl
theorem ev_asB : asB fa ρ = (fa ρ).bind toB := by
  unfold asB
  cases fa ρ with
  | none => rfl
  | some d => cases d <;> rfl
theorem ev_toB (b : Bool) : toB (.bl b) = some b := nrfl rfl
theorem ev_andT : andT c c2 ρ = andO (c ρ) (c2 ρ) := by
  unfold andT andO
  cases c ρ with
  | none => rfl
  | some b => cases b <;> rfl
theorem ev_orT : orT c c2 ρ = orO (c ρ) (c2 ρ) := by
  unfold orT orO
  cases c ρ with
  | none => rfl
  | some b => cases b <;> rfl
theorem ev_notT : notT c ρ = (c ρ).map (!·) := nrfl rfl
theorem ev_andO_t (y : Option Bool) : andO (some true) y = y := nrfl rfl
theorem ev_andO_f (y : Option Bool) : andO (some false) y = some false := nrfl rfl
theorem ev_andO (a b : Bool) : andO (some a) (some b) = some (a && b) := by cases a <;> rfl
theorem ev_orO_t (y : Option Bool) : orO (some true) y = some true := nrfl rfl
theorem ev_orO_f (y : Option Bool) : orO (some false) y = y := nrfl rfl
theorem ev_orO (a b : Bool) : orO (some a) (some b) = some (a || b) := by cases a <;> rfl
theorem ev_andV : andV fa fb ρ = (fa ρ).bind (andW (fb ρ)) := by
  unfold andV
  cases fa ρ with
  | none => rfl
  | some d => cases d with
    | bl b => cases b <;> rfl
    | _ => rfl
theorem ev_orV : orV fa fb ρ = (fa ρ).bind (orW (fb ρ)) := by
  unfold orV
  cases fa ρ with
  | none => rfl
  | some d => cases d with
    | bl b => cases b <;> rfl
    | _ => rfl
theorem ev_notV : notV fa ρ = (fa ρ).bind notW := by
  unfold notV
  cases fa ρ with
  | none => rfl
  | some d => cases d <;> rfl
theorem ev_andW_t (y : Option D) : andW y (.bl true) = y := nrfl rfl
theorem ev_andW_f (y : Option D) : andW y (.bl false) = some (.bl false) := nrfl rfl
theorem ev_andW (a b : Bool) : andW (some (.bl b)) (.bl a) = some (.bl (a && b)) := by cases a <;> rfl
theorem ev_orW_t (y : Option D) : orW y (.bl true) = some (.bl true) := nrfl rfl
theorem ev_orW_f (y : Option D) : orW y (.bl false) = y := nrfl rfl
theorem ev_orW (a b : Bool) : orW (some (.bl b)) (.bl a) = some (.bl (a || b)) := by cases a <;> rfl
theorem ev_notW (b : Bool) : notW (.bl b) = some (.bl (!b)) := nrfl rfl
theorem ev_ifV : ifV c fa fb ρ = iteO (c ρ) (fa ρ) (fb ρ) := by
  unfold ifV iteO
  cases c ρ with
  | none => rfl
  | some b => cases b <;> rfl
theorem ev_iteO {α : Type} (b : Bool) (x y : Option α) : iteO (some b) x y = if b = true then x else y := nrfl rfl
theorem ev_ite_some {α : Type} {p : Prop} [Decidable p] (x y : α) : (if p then some x else some y) = some (if p then x else y) := by split <;> rfl
theorem ev_ite_int {p : Prop} [Decidable p] (x y : Int) : (if p then D.int x else D.int y) = .int (if p then x else y) := by split <;> rfl
theorem ev_ite_str {p : Prop} [Decidable p] (x y : Str) : (if p then D.str x else D.str y) = .str (if p then x else y) := by split <;> rfl
theorem ev_dec {p : Prop} [Decidable p] : (decide p = true) = p := by simp
theorem ev_true {α : Type} (x y : α) : (if True then x else y) = x := nrfl rfl
theorem ev_false {α : Type} (x y : α) : (if False then x else y) = y := nrfl rfl
theorem ev_ft : (false = true) = False := by simp
theorem ev_tt : (true = true) = True := by simp
theorem ev_not {p : Prop} [Decidable p] : (!decide p) = decide (¬ p) := by simp
theorem ev_and {p q : Prop} [Decidable p] [Decidable q] : (decide p && decide q) = decide (p ∧ q) := by simp
theorem ev_or {p q : Prop} [Decidable p] [Decidable q] : (decide p || decide q) = decide (p ∨ q) := by simp
theorem ev_nt : (!true) = false := nrfl rfl
theorem ev_nf : (!false) = true := nrfl rfl
/-! things made -/
theorem ev_ba1 (b : Bool) : (b && true) = b := by cases b <;> rfl
theorem ev_ba2 (b : Bool) : (b && false) = false := by cases b <;> rfl
theorem ev_ba3 (b : Bool) : (true && b) = b := nrfl rfl
theorem ev_ba4 (b : Bool) : (false && b) = false := nrfl rfl
theorem ev_bo1 (b : Bool) : (b || true) = true := by cases b <;> rfl
theorem ev_bo2 (b : Bool) : (b || false) = b := by cases b <;> rfl
theorem ev_bo3 (b : Bool) : (true || b) = true := nrfl rfl
theorem ev_bo4 (b : Bool) : (false || b) = b := nrfl rfl
theorem ev_len?1 (m : List D → Option D) (a : D) : len? 1 m [a] = m [a] := nrfl rfl
theorem ev_lenO?1 (m : List D → Option O) (a : D) : lenO? 1 m [a] = m [a] := nrfl rfl
theorem ev_len?2 (m : List D → Option D) (a b : D) : len? 2 m [a, b] = m [a, b] := nrfl rfl
theorem ev_lenO?2 (m : List D → Option O) (a b : D) : lenO? 2 m [a, b] = m [a, b] := nrfl rfl
theorem ev_gT2 (h : List D → Ev → Option Ev) (a b : D) (ρ : Ev) : gT 2 h (.tup [a, b]) ρ = h [a, b] ρ := nrfl rfl
theorem ev_len?3 (m : List D → Option D) (a b c : D) : len? 3 m [a, b, c] = m [a, b, c] := nrfl rfl
theorem ev_lenO?3 (m : List D → Option O) (a b c : D) : lenO? 3 m [a, b, c] = m [a, b, c] := nrfl rfl
theorem ev_gT3 (h : List D → Ev → Option Ev) (a b c : D) (ρ : Ev) : gT 3 h (.tup [a, b, c]) ρ = h [a, b, c] ρ := nrfl rfl
theorem ev_len?4 (m : List D → Option D) (a b c d : D) : len? 4 m [a, b, c, d] = m [a, b, c, d] := nrfl rfl
theorem ev_lenO?4 (m : List D → Option O) (a b c d : D) : lenO? 4 m [a, b, c, d] = m [a, b, c, d] := nrfl rfl
theorem ev_gT4 (h : List D → Ev → Option Ev) (a b c d : D) (ρ : Ev) : gT 4 h (.tup [a, b, c, d]) ρ = h [a, b, c, d] ρ := nrfl rfl
theorem ev_len?5 (m : List D → Option D) (a b c d e : D) : len? 5 m [a, b, c, d, e] = m [a, b, c, d, e] := nrfl rfl
theorem ev_lenO?5 (m : List D → Option O) (a b c d e : D) : lenO? 5 m [a, b, c, d, e] = m [a, b, c, d, e] := nrfl rfl
theorem ev_gT5 (h : List D → Ev → Option Ev) (a b c d e : D) (ρ : Ev) : gT 5 h (.tup [a, b, c, d, e]) ρ = h [a, b, c, d, e] ρ := nrfl rfl
theorem ev_len?6 (m : List D → Option D) (a b c d e f : D) : len? 6 m [a, b, c, d, e, f] = m [a, b, c, d, e, f] := nrfl rfl
theorem ev_lenO?6 (m : List D → Option O) (a b c d e f : D) : lenO? 6 m [a, b, c, d, e, f] = m [a, b, c, d, e, f] := nrfl rfl
theorem ev_gT6 (h : List D → Ev → Option Ev) (a b c d e f : D) (ρ : Ev) : gT 6 h (.tup [a, b, c, d, e, f]) ρ = h [a, b, c, d, e, f] ρ := nrfl rfl
theorem ev_len?7 (m : List D → Option D) (a b c d e f g : D) : len? 7 m [a, b, c, d, e, f, g] = m [a, b, c, d, e, f, g] := nrfl rfl
theorem ev_lenO?7 (m : List D → Option O) (a b c d e f g : D) : lenO? 7 m [a, b, c, d, e, f, g] = m [a, b, c, d, e, f, g] := nrfl rfl
theorem ev_gT7 (h : List D → Ev → Option Ev) (a b c d e f g : D) (ρ : Ev) : gT 7 h (.tup [a, b, c, d, e, f, g]) ρ = h [a, b, c, d, e, f, g] ρ := nrfl rfl
theorem ev_len?8 (m : List D → Option D) (a b c d e f g h : D) : len? 8 m [a, b, c, d, e, f, g, h] = m [a, b, c, d, e, f, g, h] := nrfl rfl
theorem ev_lenO?8 (m : List D → Option O) (a b c d e f g h : D) : lenO? 8 m [a, b, c, d, e, f, g, h] = m [a, b, c, d, e, f, g, h] := nrfl rfl
theorem ev_gT8 (hh : List D → Ev → Option Ev) (a b c d e f g h : D) (ρ : Ev) : gT 8 hh (.tup [a, b, c, d, e, f, g, h]) ρ = hh [a, b, c, d, e, f, g, h] ρ := nrfl rfl
theorem ev_len?0 (m : List D → Option D) : len? 0 m [] = m [] := nrfl rfl
theorem ev_mkTup {f : Ev → Option (List D)} : mkTup f ρ = (f ρ).bind fun ds => if ds.length ≤ sizeLine then some (.tup ds) else none := nrfl rfl
theorem ev_mkLst {f : Ev → Option (List D)} : mkLst f ρ = (f ρ).bind fun ds => if ds.length ≤ sizeLine then some (.lst ds) else none := nrfl rfl
theorem ev_mkLstO {f : Ev → Option (List D)} : mkLstO f ρ = (f ρ).bind fun ds => if ds.length ≤ sizeLine then some (O.dats ds) else none := nrfl rfl
theorem ev_line {n : Nat} {α : Type} {x y : α} (h : n ≤ 1000000) : (if n ≤ sizeLine then x else y) = x := if_pos (line_of h)
theorem ev_isi_bool_non : isiD "bool" .non = some (.bl false) := nrfl rfl
theorem ev_isi_bool_bl (b : Bool) : isiD "bool" (.bl b) = some (.bl true) := nrfl rfl
theorem ev_isi_bool_int (k : Int) : isiD "bool" (.int k) = some (.bl false) := nrfl rfl
theorem ev_isi_bool_str (z : Str) : isiD "bool" (.str z) = some (.bl false) := nrfl rfl
theorem ev_isi_bool_lst (l : List D) : isiD "bool" (.lst l) = some (.bl false) := nrfl rfl
theorem ev_isi_bool_tup (l : List D) : isiD "bool" (.tup l) = some (.bl false) := nrfl rfl
theorem ev_isi_bool_dic (ks : List Key) (l : List D) : isiD "bool" (.dic ks l) = some (.bl false) := nrfl rfl
theorem ev_isi_int_non : isiD "int" .non = some (.bl false) := nrfl rfl
theorem ev_isi_int_bl (b : Bool) : isiD "int" (.bl b) = some (.bl true) := nrfl rfl
theorem ev_isi_int_int (k : Int) : isiD "int" (.int k) = some (.bl true) := nrfl rfl
theorem ev_isi_int_str (z : Str) : isiD "int" (.str z) = some (.bl false) := nrfl rfl
theorem ev_isi_int_lst (l : List D) : isiD "int" (.lst l) = some (.bl false) := nrfl rfl
theorem ev_isi_int_tup (l : List D) : isiD "int" (.tup l) = some (.bl false) := nrfl rfl
theorem ev_isi_int_dic (ks : List Key) (l : List D) : isiD "int" (.dic ks l) = some (.bl false) := nrfl rfl
theorem ev_isi_str_non : isiD "str" .non = some (.bl false) := nrfl rfl
theorem ev_isi_str_bl (b : Bool) : isiD "str" (.bl b) = some (.bl false) := nrfl rfl
theorem ev_isi_str_int (k : Int) : isiD "str" (.int k) = some (.bl false) := nrfl rfl
theorem ev_isi_str_str (z : Str) : isiD "str" (.str z) = some (.bl true) := nrfl rfl
theorem ev_isi_str_lst (l : List D) : isiD "str" (.lst l) = some (.bl false) := nrfl rfl
theorem ev_isi_str_tup (l : List D) : isiD "str" (.tup l) = some (.bl false) := nrfl rfl
theorem ev_isi_str_dic (ks : List Key) (l : List D) : isiD "str" (.dic ks l) = some (.bl false) := nrfl rfl
theorem ev_isi_tuple_non : isiD "tuple" .non = some (.bl false) := nrfl rfl
theorem ev_isi_tuple_bl (b : Bool) : isiD "tuple" (.bl b) = some (.bl false) := nrfl rfl
theorem ev_isi_tuple_int (k : Int) : isiD "tuple" (.int k) = some (.bl false) := nrfl rfl
theorem ev_isi_tuple_str (z : Str) : isiD "tuple" (.str z) = some (.bl false) := nrfl rfl
theorem ev_isi_tuple_lst (l : List D) : isiD "tuple" (.lst l) = some (.bl false) := nrfl rfl
theorem ev_isi_tuple_tup (l : List D) : isiD "tuple" (.tup l) = some (.bl true) := nrfl rfl
theorem ev_isi_tuple_dic (ks : List Key) (l : List D) : isiD "tuple" (.dic ks l) = some (.bl false) := nrfl rfl
theorem ev_isi_list_non : isiD "list" .non = some (.bl false) := nrfl rfl
theorem ev_isi_list_bl (b : Bool) : isiD "list" (.bl b) = some (.bl false) := nrfl rfl
theorem ev_isi_list_int (k : Int) : isiD "list" (.int k) = some (.bl false) := nrfl rfl
theorem ev_isi_list_str (z : Str) : isiD "list" (.str z) = some (.bl false) := nrfl rfl
theorem ev_isi_list_lst (l : List D) : isiD "list" (.lst l) = some (.bl true) := nrfl rfl
theorem ev_isi_list_tup (l : List D) : isiD "list" (.tup l) = some (.bl false) := nrfl rfl
theorem ev_isi_list_dic (ks : List Key) (l : List D) : isiD "list" (.dic ks l) = some (.bl false) := nrfl rfl
theorem ev_isi_dict_non : isiD "dict" .non = some (.bl false) := nrfl rfl
theorem ev_isi_dict_bl (b : Bool) : isiD "dict" (.bl b) = some (.bl false) := nrfl rfl
theorem ev_isi_dict_int (k : Int) : isiD "dict" (.int k) = some (.bl false) := nrfl rfl
theorem ev_isi_dict_str (z : Str) : isiD "dict" (.str z) = some (.bl false) := nrfl rfl
theorem ev_isi_dict_lst (l : List D) : isiD "dict" (.lst l) = some (.bl false) := nrfl rfl
theorem ev_isi_dict_tup (l : List D) : isiD "dict" (.tup l) = some (.bl false) := nrfl rfl
theorem ev_isi_dict_dic (ks : List Key) (l : List D) : isiD "dict" (.dic ks l) = some (.bl true) := nrfl rfl
/-! numbers -/
theorem ev_addA (i j : Int) : addA (.int i) (.int j) = some (.int (i + j)) := nrfl rfl
theorem ev_addD (i j : Int) : addD (.int i) (.int j) = some (.int (i + j)) := nrfl rfl
theorem ev_subI (i j : Int) : subI (.int i) (.int j) = some (.int (i - j)) := nrfl rfl
theorem ev_mulL {i j : Int} (h : -18446744073709551616 < i ∧ i < 18446744073709551616) : mulI (.int i) (.int j) = some (.int (i * j)) := by
  show (if okMul i j = true then _ else _) = _
  rw [if_pos]
  unfold okMul
  rw [decide_eq_true]
  exact .inl (by simpa using h)
theorem ev_mulR {i j : Int} (h : -18446744073709551616 < j ∧ j < 18446744073709551616) : mulI (.int i) (.int j) = some (.int (i * j)) := by
  show (if okMul i j = true then _ else _) = _
  rw [if_pos]
  unfold okMul
  rw [decide_eq_true]
  exact .inr (by simpa using h)
theorem ev_modI {i j : Int} (h : 0 < j) : modI (.int i) (.int j) = some (.int (i % j)) := by
  show (if decide (0 < j) = true then _ else _) = _
  rw [if_pos (decide_eq_true h)]
theorem ev_divI {i j : Int} (h : 0 < j ∧ j < 1073741824) : divI (.int i) (.int j) = some (.int (i / j)) := by
  show (if decide (0 < j ∧ j < 1073741824) = true then _ else _) = _
  rw [if_pos (decide_eq_true h)]
theorem ev_neg (i : Int) : negI (.int i) = some (.int (-i)) := nrfl rfl
theorem ev_intD (i : Int) : intD [.int i] = some (.int i) := nrfl rfl
theorem ev_max2 (i j : Int) : max2 [.int i, .int j] = some (.int (max i j)) := by
  show some (D.int (if j > i then j else i)) = _
  congr 2
  split <;> omega
theorem ev_min2 (i j : Int) : min2 [.int i, .int j] = some (.int (min i j)) := by
  show some (D.int (if j < i then j else i)) = _
  congr 2
  split <;> omega
theorem ev_eqI (i j : Int) : eqD (.int i) (.int j) = some (.bl (decide (i = j))) := nrfl rfl
theorem ev_eqB (i j : Bool) : eqD (.bl i) (.bl j) = some (.bl (decide (i = j))) := nrfl rfl
theorem ev_eqS (i j : Str) : eqD (.str i) (.str j) = some (.bl (decide (i = j))) := nrfl rfl
theorem ev_neI (i j : Int) : neD (.int i) (.int j) = some (.bl (decide (i ≠ j))) := by
  show some (D.bl (!decide (i = j))) = _
  simp
theorem ev_neS (i j : Str) : neD (.str i) (.str j) = some (.bl (decide (i ≠ j))) := by
  show some (D.bl (!decide (i = j))) = _
  simp
theorem ev_lt (i j : Int) : ltI (.int i) (.int j) = some (.bl (decide (i < j))) := nrfl rfl
theorem ev_le (i j : Int) : leI (.int i) (.int j) = some (.bl (decide (i ≤ j))) := nrfl rfl
theorem ev_gt (i j : Int) : gtI (.int i) (.int j) = some (.bl (decide (j < i))) := nrfl rfl
theorem ev_ge (i j : Int) : geI (.int i) (.int j) = some (.bl (decide (j ≤ i))) := nrfl rfl
theorem ev_isN_non : isN .non .non = some (.bl true) := nrfl rfl
theorem ev_isN_bl (b : Bool) : isN (.bl b) .non = some (.bl false) := nrfl rfl
theorem ev_isN_int (k : Int) : isN (.int k) .non = some (.bl false) := nrfl rfl
theorem ev_isN_str (k : Str) : isN (.str k) .non = some (.bl false) := nrfl rfl
theorem ev_isN_lst (k : List D) : isN (.lst k) .non = some (.bl false) := nrfl rfl
theorem ev_isN_tup (k : List D) : isN (.tup k) .non = some (.bl false) := nrfl rfl
theorem ev_isN_obj (C : Addr) (ks : List Str) (k : List D) : isN (.obj C ks k) .non = some (.bl false) := nrfl rfl
theorem ev_notN_non : notN .non .non = some (.bl false) := nrfl rfl
theorem ev_notN_int (k : Int) : notN (.int k) .non = some (.bl true) := nrfl rfl
theorem ev_notN_str (k : Str) : notN (.str k) .non = some (.bl true) := nrfl rfl
theorem ev_notN_lst (k : List D) : notN (.lst k) .non = some (.bl true) := nrfl rfl
theorem ev_notN_tup (k : List D) : notN (.tup k) .non = some (.bl true) := nrfl rfl
theorem ev_notN_obj (C : Addr) (ks : List Str) (k : List D) : notN (.obj C ks k) .non = some (.bl true) := nrfl rfl
/-! lists -/
theorem ev_lenC {α : Type} (a : α) (l : List α) : (a :: l).length = l.length + 1 := nrfl rfl
theorem ev_lenN {α : Type} : ([] : List α).length = 0 := nrfl rfl
theorem ev_lenM {α β : Type} (f : α → β) (l : List α) : (l.map f).length = l.length := List.length_map f
theorem ev_lenL (l : List D) : lenD [.lst l] = some (.int l.length) := nrfl rfl
theorem ev_lenT (l : List D) : lenD [.tup l] = some (.int l.length) := nrfl rfl
theorem ev_lenS {z : Str} (h : z.length ≤ 1000000) : lenD [.str z] = some (.int z.length) := if_pos (line_of h)
theorem ev_tupL (l : List D) : tupD [.lst l] = some (.tup l) := nrfl rfl
theorem ev_tupT (l : List D) : tupD [.tup l] = some (.tup l) := nrfl rfl
theorem ev_listL (l : List D) : listO [.lst l] = some (.dats l) := nrfl rfl
theorem ev_listT (l : List D) : listO [.tup l] = some (.dats l) := nrfl rfl
theorem ev_frz {f : Ev → Option O} : frz f ρ = (f ρ).bind O.toD := nrfl rfl
theorem ev_thaw : thaw fa ρ = (fa ρ).map .dat := nrfl rfl
theorem ev_toD (ds : List D) : (O.dats ds).toD = some (.lst ds) := toD_dats ds
theorem ev_toDd (d : D) : (O.dat d).toD = some d := nrfl rfl
theorem ev_iOf : iOf fa ρ = (fa ρ).bind seqD := nrfl rfl
theorem ev_seqL (l : List D) : seqD (.lst l) = some l := nrfl rfl
theorem ev_seqT (l : List D) : seqD (.tup l) = some l := nrfl rfl
theorem ev_seqS (z : Str) : seqD (.str z) = some (signs z) := nrfl rfl
def rngI (n : D) : Option (List D) := match n with
  | .int n => if n < 2 ^ 62 ∧ -(2 ^ 62) ≤ n then some (rangeD 0 n.toNat) else none
  | _ => none
def rngJ (m n : D) : Option (List D) := match m, n with
  | .int m, .int n => if (n < 2 ^ 62 ∧ -(2 ^ 62) ≤ n) ∧ m < 2 ^ 62 ∧ -(2 ^ 62) ≤ m then some (rangeD m (n - m).toNat) else none
  | _, _ => none
theorem ev_rng1 : rng1 fa ρ = (fa ρ).bind rngI := by
  unfold rng1
  cases fa ρ with
  | none => rfl
  | some d => cases d <;> rfl
theorem ev_rng2 : rng2 fa fb ρ = (fa ρ).bind fun m => (fb ρ).bind fun n => rngJ m n := by
  unfold rng2
  cases fa ρ with
  | none => rfl
  | some d => cases fb ρ with
    | none => cases d <;> rfl
    | some e => cases d <;> cases e <;> rfl
theorem ev_rngI {n : Int} (h : n < 4611686018427387904 ∧ -4611686018427387904 ≤ n) : rngI (.int n) = some (rangeD 0 n.toNat) := if_pos (by simpa using h)
theorem ev_rngJ {m n : Int} (h : (n < 4611686018427387904 ∧ -4611686018427387904 ≤ n) ∧ m < 4611686018427387904 ∧ -4611686018427387904 ≤ m) : rngJ (.int m) (.int n) = some (rangeD m (n - m).toNat) := if_pos (by simpa using h)
theorem ev_slc {lo hi : Ev → Option (Option Int)} : slc fa lo hi ρ = (fa ρ).bind fun x => (lo ρ).bind fun a => (hi ρ).bind fun b => slD x a b := nrfl rfl
theorem ev_noPart : noPart ρ = some none := nrfl rfl
theorem ev_part : part fa ρ = ((fa ρ).bind toI).map some := by
  unfold part
  cases fa ρ with
  | none => rfl
  | some d => cases d <;> rfl
theorem ev_toI (b : Int) : toI (.int b) = some b := nrfl rfl
theorem ev_slL (l : List D) (a b : Option Int) : slD (.lst l) a b = some (.lst (cutD l a b)) := nrfl rfl
theorem ev_slS {z : Str} (h : z.length ≤ 1000000) (a b : Option Int) : slD (.str z) a b = some (.str (cutS z a b)) := if_pos (line_of h)
theorem ev_catL {l m : List D} (h : l.length + m.length ≤ 1000000) : addA (.lst l) (.lst m) = some (.lst (l ++ m)) := by
  have : catL (.lst l) (.lst m) = some (.lst (l ++ m)) := if_pos (line_of h)
  show orD addD (orD catL catT) (.lst l) (.lst m) = _
  simp only [orD, addD, addI, addS, i2, s2, this]
theorem ev_catT {l m : List D} (h : l.length + m.length ≤ 1000000) : addA (.tup l) (.tup m) = some (.tup (l ++ m)) := by
  have : catT (.tup l) (.tup m) = some (.tup (l ++ m)) := if_pos (line_of h)
  have h0 : catL (.tup l) (.tup m) = none := rfl
  show orD addD (orD catL catT) (.tup l) (.tup m) = _
  simp only [orD, addD, addI, addS, i2, s2, this, h0]
theorem ev_catS {a b : Str} (h : a.length + b.length ≤ 1000000) : addA (.str a) (.str b) = some (.str (a ++ b)) := by
  have hz : a.length + b.length ≤ sizeLine := line_of h
  show orD addD (orD catL catT) (.str a) (.str b) = _
  simp only [orD, addD, addI, addS, i2, s2, decide_eq_true hz, if_true]
theorem ev_catSD {a b : Str} (h : a.length + b.length ≤ 1000000) : addD (.str a) (.str b) = some (.str (a ++ b)) := by
  have hz : a.length + b.length ≤ sizeLine := line_of h
  simp only [orD, addD, addI, addS, i2, s2, decide_eq_true hz, if_true]
theorem ev_strlen (a b : Str) : (a ++ b).length = a.length + b.length := by
  show (a.cps ++ b.cps).size = _
  rw [Array.size_append]; rfl
theorem ev_rev (l : List D) : revD (.lst l) = some (.lst l.reverse) := nrfl rfl
/-! by place -/
instance : Inhabited D := ⟨.non⟩
def nth {α : Type} [Inhabited α] (xs : List α) (k : Int) : α := xs.getD k.toNat default
theorem nth_eq {α : Type} [Inhabited α] {xs : List α} {k : Int} (h0 : 0 ≤ k) (h1 : k < xs.length) : nth xs k = xs[k.toNat]'(by omega) := by
  unfold nth
  rw [List.getD_eq_getElem?_getD, List.getElem?_eq_getElem (by omega)]; rfl
theorem nth_nat {α : Type} [Inhabited α] {xs : List α} {k : Nat} (h1 : k < xs.length) : nth xs (k : Int) = xs[k] := nth_eq (by omega) (by omega)
theorem nth_mem {α : Type} [Inhabited α] {xs : List α} {k : Int} (h0 : 0 ≤ k) (h1 : k < xs.length) : nth xs k ∈ xs := by
  rw [nth_eq h0 h1]; exact List.getElem_mem _
theorem nth_map {α β : Type} [Inhabited α] [Inhabited β] {f : α → β} {xs : List α} {k : Int} (h0 : 0 ≤ k) (h1 : k < xs.length) : nth (xs.map f) k = f (nth xs k) := by
  rw [nth_eq h0 (by rw [List.length_map]; exact h1), nth_eq h0 h1, List.getElem_map]
/-- each item of a list of bounded ints, in or out of the list -/
theorem nth_rng {rs : List Int} (hr : ∀ r ∈ rs, 0 ≤ r ∧ r < 1000) (k : Int) : 0 ≤ nth rs k ∧ nth rs k < 1000 := by
  unfold nth
  rw [List.getD_eq_getElem?_getD]
  by_cases h : k.toNat < rs.length
  · rw [List.getElem?_eq_getElem h]; exact hr _ (List.getElem_mem h)
  · rw [List.getElem?_eq_none (by omega)]; exact ⟨by decide, by decide⟩
theorem at_nth {α : Type} [Inhabited α] {xs : List α} {k : Int} (h0 : 0 ≤ k) (h1 : k < xs.length) : atI xs k = some (nth xs k) := by
  obtain ⟨j, rfl⟩ := Int.eq_ofNat_of_zero_le h0
  rw [nth_nat (by omega)]
  exact atI_nat (List.getElem?_eq_getElem _)
theorem ev_ix0L (a : D) (l : List D) : ixD (.lst (a :: l)) (.int 0) = some a := by
  show atI (a :: l) 0 = _
  exact atI_nat (j := 0) rfl
theorem ev_ix1L (a b : D) (l : List D) : ixD (.lst (a :: b :: l)) (.int 1) = some b := by
  show atI (a :: b :: l) 1 = _
  exact atI_nat (j := 1) rfl
theorem ev_ix0T (a : D) (l : List D) : ixD (.tup (a :: l)) (.int 0) = some a := by
  show atI (a :: l) 0 = _
  exact atI_nat (j := 0) rfl
theorem ev_ix1T (a b : D) (l : List D) : ixD (.tup (a :: b :: l)) (.int 1) = some b := by
  show atI (a :: b :: l) 1 = _
  exact atI_nat (j := 1) rfl
theorem ev_ix2T (a b c : D) (l : List D) : ixD (.tup (a :: b :: c :: l)) (.int 2) = some c := by
  show atI (a :: b :: c :: l) 2 = _
  exact atI_nat (j := 2) rfl
theorem ev_ix3T (a b c d : D) (l : List D) : ixD (.tup (a :: b :: c :: d :: l)) (.int 3) = some d := by
  show atI (a :: b :: c :: d :: l) 3 = _
  exact atI_nat (j := 3) rfl
theorem ev_ix4T (a b c d e : D) (l : List D) : ixD (.tup (a :: b :: c :: d :: e :: l)) (.int 4) = some e := by
  show atI (a :: b :: c :: d :: e :: l) 4 = _
  exact atI_nat (j := 4) rfl
theorem ev_ixML {α : Type} [Inhabited α] {f : α → D} {xs : List α} {k : Int} (h0 : 0 ≤ k) (h1 : k < xs.length) : ixD (.lst (xs.map f)) (.int k) = some (f (nth xs k)) := by
  show atI (xs.map f) k = _
  rw [at_nth h0 (by rw [List.length_map]; exact h1), nth_map h0 h1]
theorem ev_ixMT {α : Type} [Inhabited α] {f : α → D} {xs : List α} {k : Int} (h0 : 0 ≤ k) (h1 : k < xs.length) : ixD (.tup (xs.map f)) (.int k) = some (f (nth xs k)) := by
  show atI (xs.map f) k = _
  rw [at_nth h0 (by rw [List.length_map]; exact h1), nth_map h0 h1]
theorem cut_map {α β : Type} (f : α → β) (xs : List α) (a b : Option Int) : cutD (xs.map f) a b = (cutD xs a b).map f := by
  unfold cutD
  rw [List.length_map, List.map_take, List.map_drop]
theorem cut_mid {α : Type} (xs : List α) (a b : Nat) (hb : b ≤ xs.length) (hab : a ≤ b) : cutD xs (some (a : Int)) (some (b : Int)) = (xs.drop a).take (b - a) := by
  unfold cutD
  rw [HT.sIx_nat, HT.sIx_nat, Nat.min_eq_left (show a ≤ xs.length by omega), Nat.min_eq_left hb]
theorem cut_sub {α : Type} {xs : List α} {a b : Option Int} {x : α} (h : x ∈ cutD xs a b) : x ∈ xs := List.mem_of_mem_drop (List.mem_of_mem_take h)
theorem cut_len {α : Type} {xs : List α} {a b : Int} (h0 : 0 ≤ a) (h1 : a ≤ b) (h2 : b ≤ xs.length) : ((cutD xs (some a) (some b)).length : Int) = b - a := by
  obtain ⟨m, rfl⟩ := Int.eq_ofNat_of_zero_le h0
  obtain ⟨n, rfl⟩ := Int.eq_ofNat_of_zero_le (show 0 ≤ b by omega)
  rw [cut_mid xs m n (by omega) (by omega), List.length_take, List.length_drop]
  omega
/-! targets -/
theorem ev_wipe0 : wipeO ρ [] = ρ := nrfl rfl
theorem ev_wipeS (v : Nat) (vs : List Nat) : wipeO ρ (v :: vs) = (wipeO ρ vs).set v .unk := nrfl rfl
theorem ev_gN (d : D) : gN i d ρ = some (ρ.set i (.dat d)) := nrfl rfl
theorem ev_gsN : gsN [] ρ = some ρ := nrfl rfl
theorem ev_gsC {g : D → Ev → Option Ev} {h : List D → Ev → Option Ev} (d : D) (r : List D) : gsC g h (d :: r) ρ = (g d ρ).bind (h r) := nrfl rfl
theorem ev_set0 (a b : O) (l : Ev) : (a :: l).set 0 b = b :: l := nrfl rfl
theorem ev_setS (a b : O) (l : Ev) (n : Nat) : (a :: l).set (n + 1) b = a :: l.set n b := nrfl rfl
end
/-! ### running a body, statement by statement -/
section
variable {f g b : Ev → Option Fl} {ρ : Ev} {Q : Fl → Prop} {P : Ev → Prop}
theorem Rn.assoc {f1 f2 : Ev → Option Fl} (h : Rn (PD.sq f1 (PD.sq f2 g)) ρ Q) : Rn (PD.sq (PD.sq f1 f2) g) ρ Q := by
  obtain ⟨r, e, q⟩ := h
  refine ⟨r, ?_, q⟩
  rw [← e]
  unfold PD.sq
  cases f1 ρ with
  | none => rfl
  | some r1 => cases r1 <;> rfl
theorem Rn.sqst {i : Nat} {e : Ev → Option D} {d : D} (h : e ρ = some d) (k : Rn g (ρ.set i (.dat d)) Q) : Rn (PD.sq (stV i e) g) ρ Q := Rn.sq (Rn.st h k)
theorem Rn.sqstO {i : Nat} {e : Ev → Option O} {o : O} (h : e ρ = some o) (k : Rn g (ρ.set i o) Q) : Rn (PD.sq (PD.stO i e) g) ρ Q := Rn.sq (Rn.stO h k)
theorem Rn.sqskip (k : Rn g ρ Q) : Rn (PD.sq PD.skip g) ρ Q := Rn.sq (Rn.skip k)
theorem Rn.sqret {e : Ev → Option D} {d : D} (h : e ρ = some d) (k : Q (.rt (.dat d) ρ)) : Rn (PD.sq (rtV e) g) ρ Q := Rn.sq (Rn.ret h k)
theorem Rn.appD {i : Nat} {e : Ev → Option D} {d : D} {ds : List D} (h : e ρ = some d) (ho : ρ[i]? = some (O.dats ds)) (hl : ds.length < 1000000) (k : Q (.nx (ρ.set i (O.dats (ds ++ [d]))))) : Rn (PD.app i e) ρ Q := by
  refine Rn.app h ho (by rw [List.length_map]; exact Nat.lt_of_lt_of_le hl (by decide)) ?_
  have : O.dats (ds ++ [d]) = .lst (ds.map .dat ++ [.dat d]) := by unfold O.dats; rw [List.map_append]; rfl
  rw [← this]; exact k
theorem Rn.sqapp {i : Nat} {e : Ev → Option D} {d : D} {ds : List D} (h : e ρ = some d) (ho : ρ[i]? = some (O.dats ds)) (hl : ds.length < 1000000) (k : Rn g (ρ.set i (O.dats (ds ++ [d]))) Q) : Rn (PD.sq (PD.app i e) g) ρ Q := Rn.sq (Rn.appD h ho hl k)
theorem Rn.asg {e : Ev → Option D} {t : D → Ev → Option Ev} {d : D} {ρ' : Ev} (h : e ρ = some d) (ht : t d ρ = some ρ') (k : Q (.nx ρ')) : Rn (PD.asg e t) ρ Q := ⟨_, by unfold PD.asg; rw [h, Option.bind_some, ht]; rfl, k⟩
theorem Rn.sqasg {e : Ev → Option D} {t : D → Ev → Option Ev} {d : D} {ρ' : Ev} (h : e ρ = some d) (ht : t d ρ = some ρ') (k : Rn g ρ' Q) : Rn (PD.sq (PD.asg e t) g) ρ Q := Rn.sq (Rn.asg h ht k)
/-- an if whose test is a proposition -/
theorem Rn.iteP {c : Ev → Option Bool} {p : Prop} [Decidable p] (h : c ρ = some (decide p)) (h1 : p → Rn f ρ Q) (h2 : ¬ p → Rn b ρ Q) : Rn (ifS c f b) ρ Q := Rn.ite h (fun q => h1 (of_decide_eq_true q)) fun q => h2 (of_decide_eq_false q)
theorem sq_ifS {c : Ev → Option Bool} : PD.sq (ifS c f b) g = ifS c (PD.sq f g) (PD.sq b g) := by
  funext ρ
  unfold PD.sq ifS
  cases c ρ with
  | none => rfl
  | some t => cases t <;> rfl
theorem Rn.sqif {c : Ev → Option Bool} {p : Prop} [Decidable p] (h : c ρ = some (decide p)) (h1 : p → Rn (PD.sq f g) ρ Q) (h2 : ¬ p → Rn (PD.sq b g) ρ Q) : Rn (PD.sq (ifS c f b) g) ρ Q := by
  rw [sq_ifS]
  exact Rn.iteP h h1 h2
/-- an if whose way is known -/
theorem Rn.sqifT {c : Ev → Option Bool} (h : c ρ = some true) (h1 : Rn (PD.sq f g) ρ Q) : Rn (PD.sq (ifS c f b) g) ρ Q := by
  rw [sq_ifS]
  exact Rn.ite h (fun _ => h1) fun z => nomatch z
theorem Rn.sqifF {c : Ev → Option Bool} (h : c ρ = some false) (h1 : Rn (PD.sq b g) ρ Q) : Rn (PD.sq (ifS c f b) g) ρ Q := by
  rw [sq_ifS]
  exact Rn.ite h (fun z => nomatch z) fun _ => h1
/-- if not good: return False -/
theorem Rn.chk {c : Ev → Option Bool} (h : c ρ = some false) (h1 : Rn g ρ Q) : Rn (PD.sq (ifS c f PD.skip) g) ρ Q := Rn.sqifF h (Rn.sqskip h1)
/-- a for by an invariant; its items are those of a typed list -/
theorem Rn.forT {α : Type} {fi : Ev → Option (List D)} {gt : D → Ev → Option Ev} {xs : List α} {φ : α → D} (h : fi ρ = some (xs.map φ)) (I : Nat → Ev → Prop) (h0 : I 0 ρ)
    (hs : ∀ (i : Nat) (hi : i < xs.length) ρ, I i ρ → ∃ ρ1, gt (φ xs[i]) ρ = some ρ1 ∧ Rn b ρ1 fun r => match r with | .nx ρ2 => I (i + 1) ρ2 | .ct ρ2 => I (i + 1) ρ2 | .bk ρ2 => Q (.nx ρ2) | r => Q r) (k : ∀ ρ', I xs.length ρ' → Q (.nx ρ')) : Rn (forS fi gt b) ρ Q := by
  refine Rn.for h I h0 (fun i d ρ hd hI => ?_) (fun ρ' hI => k ρ' (by rw [List.length_map] at hI; exact hI))
  rw [List.getElem?_map] at hd
  obtain ⟨x, hx, rfl⟩ := Option.map_eq_some_iff.mp hd
  obtain ⟨hi, rfl⟩ := List.getElem?_eq_some_iff.mp hx
  exact hs i hi ρ hI
/-- the same, with what follows -/
theorem Rn.sqfor {α : Type} {fi : Ev → Option (List D)} {gt : D → Ev → Option Ev} {xs : List α} {φ : α → D} (h : fi ρ = some (xs.map φ)) (I : Nat → Ev → Prop) (h0 : I 0 ρ)
    (hs : ∀ (i : Nat) (hi : i < xs.length) ρ, I i ρ → ∃ ρ1, gt (φ xs[i]) ρ = some ρ1 ∧ Rn b ρ1 fun r => match r with | .nx ρ2 => I (i + 1) ρ2 | .ct ρ2 => I (i + 1) ρ2 | .bk ρ2 => Rn g ρ2 Q | r => Q r) (k : ∀ ρ', I xs.length ρ' → Rn g ρ' Q) : Rn (PD.sq (forS fi gt b) g) ρ Q := by
  refine Rn.sq (Rn.forT h I h0 (fun i hi ρ hI => ?_) k)
  obtain ⟨ρ1, e, r, er, q⟩ := hs i hi ρ hI
  refine ⟨ρ1, e, r, er, ?_⟩
  cases r <;> exact q
/-- over range(n) -/
theorem rangeD_map (lo : Int) (n : Nat) : rangeD lo n = (List.range n).map fun i : Nat => .int (lo + (i : Int)) := rfl
theorem Rn.sqforR {fi : Ev → Option (List D)} {gt : D → Ev → Option Ev} {lo : Int} {n : Nat} (h : fi ρ = some (rangeD lo n)) (I : Nat → Ev → Prop) (h0 : I 0 ρ)
    (hs : ∀ (i : Nat) (hi : i < n) ρ, I i ρ → ∃ ρ1, gt (.int (lo + (i : Int))) ρ = some ρ1 ∧ Rn b ρ1 fun r => match r with | .nx ρ2 => I (i + 1) ρ2 | .ct ρ2 => I (i + 1) ρ2 | .bk ρ2 => Rn g ρ2 Q | r => Q r) (k : ∀ ρ', I n ρ' → Rn g ρ' Q) : Rn (PD.sq (forS fi gt b) g) ρ Q := by
  refine Rn.sqfor (xs := List.range n) (φ := fun i : Nat => .int (lo + (i : Int))) h I h0 (fun i hi ρ hI => ?_) (fun ρ' hI => k ρ' (by rw [List.length_range] at hI; exact hI))
  rw [List.getElem_range]
  exact hs i (by simpa using hi) ρ hI
theorem Rn.fzD {i : Nat} {ds : List D} (ho : ρ[i]? = some (O.dats ds)) (k : Rn g (ρ.set i (.dat (.lst ds))) Q) : Rn (PD.fz i g) ρ Q := Rn.fz ho (toD_dats ds) k
/-- a join: what holds behind a part, whichever way was taken -/
theorem Rn.join (h : Rn f ρ (Nx P)) (k : ∀ ρ', P ρ' → Rn g ρ' Q) : Rn (PD.sq f g) ρ Q := Rn.sqN h k
end
/-! ### comprehensions over typed lists -/
section
variable {ρ : Ev} {fi : Ev → Option (List D)} {gt : D → Ev → Option Ev} {t : Ev → Option Bool} {f : Ev → Option D} {vs : List Nat}
theorem comp_mapT {α : Type} {φ ψ : α → D} {ρw : Ev} : ∀ {xs : List α}, (∀ x ∈ xs, ∃ ρ1, gt (φ x) ρw = some ρ1 ∧ f ρ1 = some (ψ x)) → comp gt yes f ρw (xs.map φ) = some (xs.map ψ)
  | [], _ => rfl
  | x :: xs, H => by
    obtain ⟨ρ1, e1, e2⟩ := H x List.mem_cons_self
    rw [List.map_cons, List.map_cons]
    unfold comp
    rw [e1, Option.bind_some, show yes ρ1 = some true from rfl, Option.bind_some, if_pos rfl, e2, Option.bind_some, comp_mapT fun x' hx => H x' (List.mem_cons_of_mem _ hx)]
    rfl
theorem comp_filT {α : Type} {φ ψ : α → D} {p : α → Bool} {ρw : Ev} : ∀ {xs : List α}, (∀ x ∈ xs, ∃ ρ1, gt (φ x) ρw = some ρ1 ∧ t ρ1 = some (p x) ∧ (p x = true → f ρ1 = some (ψ x))) → comp gt t f ρw (xs.map φ) = some ((xs.filter p).map ψ)
  | [], _ => rfl
  | x :: xs, H => by
    obtain ⟨ρ1, e1, e2, e3⟩ := H x List.mem_cons_self
    have ih := comp_filT (xs := xs) fun x' hx => H x' (List.mem_cons_of_mem _ hx)
    rw [List.map_cons]
    unfold comp
    rw [e1, Option.bind_some, e2, Option.bind_some]
    cases q : p x with
    | true => rw [if_pos rfl, e3 q, Option.bind_some, ih, List.filter_cons_of_pos q]; rfl
    | false => rw [if_neg Bool.false_ne_true, ih, List.filter_cons_of_neg (by rw [q]; exact Bool.false_ne_true)]
/-- [e for x in xs] -/
theorem lc_map {α : Type} {φ : α → D} (ψ : α → D) {xs : List α} (hw : okW ρ vs = true) (hi : fi ρ = some (xs.map φ)) (hl : xs.length ≤ 1000000) (H : ∀ x ∈ xs, ∃ ρ1, gt (φ x) (wipeO ρ vs) = some ρ1 ∧ f ρ1 = some (ψ x)) : lcD fi gt yes f vs ρ = some (.lst (xs.map ψ)) :=
  lcD_of hw hi rfl (comp_mapT H) (by rw [List.length_map]; exact line_of hl)
theorem lc_fil {α : Type} {φ : α → D} (ψ : α → D) (p : α → Bool) {xs : List α} (hw : okW ρ vs = true) (hi : fi ρ = some (xs.map φ)) (hl : xs.length ≤ 1000000) (H : ∀ x ∈ xs, ∃ ρ1, gt (φ x) (wipeO ρ vs) = some ρ1 ∧ t ρ1 = some (p x) ∧ (p x = true → f ρ1 = some (ψ x))) : lcD fi gt t f vs ρ = some (.lst ((xs.filter p).map ψ)) :=
  lcD_of hw hi rfl (comp_filT H) (by rw [List.length_map]; exact Nat.le_trans (List.length_filter_le _ _) (line_of hl))
theorem lcO_map {α : Type} {φ : α → D} (ψ : α → D) {xs : List α} (hw : okW ρ vs = true) (hi : fi ρ = some (xs.map φ)) (hl : xs.length ≤ 1000000) (H : ∀ x ∈ xs, ∃ ρ1, gt (φ x) (wipeO ρ vs) = some ρ1 ∧ f ρ1 = some (ψ x)) : lcO fi gt yes f vs ρ = some (.dats (xs.map ψ)) :=
  lcO_of hw hi rfl (comp_mapT H) (by rw [List.length_map]; exact line_of hl)
theorem lcO_fil {α : Type} {φ : α → D} (ψ : α → D) (p : α → Bool) {xs : List α} (hw : okW ρ vs = true) (hi : fi ρ = some (xs.map φ)) (hl : xs.length ≤ 1000000) (H : ∀ x ∈ xs, ∃ ρ1, gt (φ x) (wipeO ρ vs) = some ρ1 ∧ t ρ1 = some (p x) ∧ (p x = true → f ρ1 = some (ψ x))) : lcO fi gt t f vs ρ = some (.dats ((xs.filter p).map ψ)) :=
  lcO_of hw hi rfl (comp_filT H) (by rw [List.length_map]; exact Nat.le_trans (List.length_filter_le _ _) (line_of hl))
end
theorem mp_lenA {α : Type} (a b : List α) : (a ++ b).length = a.length + b.length := List.length_append
theorem mp_mapC {α β : Type} (f : α → β) (a : α) (l : List α) : (a :: l).map f = f a :: l.map f := rfl
theorem mp_mapN {α β : Type} (f : α → β) : ([] : List α).map f = [] := rfl
theorem mp_mapA {α β : Type} (f : α → β) (a b : List α) : (a ++ b).map f = a.map f ++ b.map f := List.map_append
/-- all of them, for simp -/
def MV := And.intro (And.intro (And.intro (And.intro (And.intro (And.intro (And.intro (@ev_bind) (And.intro (@ev_map) (@ev_gv0))) (And.intro (@ev_gvS) (And.intro (@ev_b2) (@ev_b1)))) (And.intro (And.intro (@ev_kI) (And.intro (@ev_kS) (@ev_kB))) (And.intro (And.intro (@ev_kN) (@ev_aCons)) (And.intro (@ev_aNil) (@ev_cB))))) (And.intro (And.intro (And.intro (@ev_cO) (And.intro (@ev_asB) (@ev_toB))) (And.intro (@ev_andT) (And.intro (@ev_orT) (@ev_notT)))) (And.intro (And.intro (@ev_andO_t) (And.intro (@ev_andO_f) (@ev_andO))) (And.intro (And.intro (@ev_orO_t) (@ev_orO_f)) (And.intro (@ev_orO) (@ev_andV)))))) (And.intro (And.intro (And.intro (And.intro (@ev_orV) (And.intro (@ev_notV) (@ev_andW_t))) (And.intro (@ev_andW_f) (And.intro (@ev_andW) (@ev_orW_t)))) (And.intro (And.intro (@ev_orW_f) (And.intro (@ev_orW) (@ev_notW))) (And.intro (And.intro (@ev_ifV) (@ev_iteO)) (And.intro (@ev_ite_some) (@ev_ite_int))))) (And.intro (And.intro (And.intro (@ev_ite_str) (And.intro (@ev_dec) (@ev_true))) (And.intro (And.intro (@ev_false) (@ev_ft)) (And.intro (@ev_tt) (@ev_not)))) (And.intro (And.intro (@ev_and) (And.intro (@ev_or) (@ev_nt))) (And.intro (And.intro (@ev_nf) (@ev_ba1)) (And.intro (@ev_ba2) (@ev_ba3))))))) (And.intro (And.intro (And.intro (And.intro (And.intro (@ev_ba4) (And.intro (@ev_bo1) (@ev_bo2))) (And.intro (@ev_bo3) (And.intro (@ev_bo4) (@ev_len?1)))) (And.intro (And.intro (@ev_lenO?1) (And.intro (@ev_len?2) (@ev_lenO?2))) (And.intro (And.intro (@ev_gT2) (@ev_len?3)) (And.intro (@ev_lenO?3) (@ev_gT3))))) (And.intro (And.intro (And.intro (@ev_len?4) (And.intro (@ev_lenO?4) (@ev_gT4))) (And.intro (And.intro (@ev_len?5) (@ev_lenO?5)) (And.intro (@ev_gT5) (@ev_len?6)))) (And.intro (And.intro (@ev_lenO?6) (And.intro (@ev_gT6) (@ev_len?7))) (And.intro (And.intro (@ev_lenO?7) (@ev_gT7)) (And.intro (@ev_len?8) (@ev_lenO?8)))))) (And.intro (And.intro (And.intro (And.intro (@ev_gT8) (And.intro (@ev_len?0) (@ev_mkTup))) (And.intro (@ev_mkLst) (And.intro (@ev_mkLstO) (@ev_line)))) (And.intro (And.intro (@ev_isi_bool_non) (And.intro (@ev_isi_bool_bl) (@ev_isi_bool_int))) (And.intro (And.intro (@ev_isi_bool_str) (@ev_isi_bool_lst)) (And.intro (@ev_isi_bool_tup) (@ev_isi_bool_dic))))) (And.intro (And.intro (And.intro (@ev_isi_int_non) (And.intro (@ev_isi_int_bl) (@ev_isi_int_int))) (And.intro (And.intro (@ev_isi_int_str) (@ev_isi_int_lst)) (And.intro (@ev_isi_int_tup) (@ev_isi_int_dic)))) (And.intro (And.intro (@ev_isi_str_non) (And.intro (@ev_isi_str_bl) (@ev_isi_str_int))) (And.intro (And.intro (@ev_isi_str_str) (@ev_isi_str_lst)) (And.intro (@ev_isi_str_tup) (@ev_isi_str_dic)))))))) (And.intro (And.intro (And.intro (And.intro (And.intro (And.intro (@ev_isi_tuple_non) (And.intro (@ev_isi_tuple_bl) (@ev_isi_tuple_int))) (And.intro (@ev_isi_tuple_str) (And.intro (@ev_isi_tuple_lst) (@ev_isi_tuple_tup)))) (And.intro (And.intro (@ev_isi_tuple_dic) (And.intro (@ev_isi_list_non) (@ev_isi_list_bl))) (And.intro (And.intro (@ev_isi_list_int) (@ev_isi_list_str)) (And.intro (@ev_isi_list_lst) (@ev_isi_list_tup))))) (And.intro (And.intro (And.intro (@ev_isi_list_dic) (And.intro (@ev_isi_dict_non) (@ev_isi_dict_bl))) (And.intro (And.intro (@ev_isi_dict_int) (@ev_isi_dict_str)) (And.intro (@ev_isi_dict_lst) (@ev_isi_dict_tup)))) (And.intro (And.intro (@ev_isi_dict_dic) (And.intro (@ev_addA) (@ev_addD))) (And.intro (And.intro (@ev_subI) (@ev_mulL)) (And.intro (@ev_mulR) (@ev_modI)))))) (And.intro (And.intro (And.intro (And.intro (@ev_divI) (And.intro (@ev_neg) (@ev_intD))) (And.intro (@ev_max2) (And.intro (@ev_min2) (@ev_eqI)))) (And.intro (And.intro (@ev_eqB) (And.intro (@ev_eqS) (@ev_neI))) (And.intro (And.intro (@ev_neS) (@ev_lt)) (And.intro (@ev_le) (@ev_gt))))) (And.intro (And.intro (And.intro (@ev_ge) (And.intro (@ev_isN_non) (@ev_isN_bl))) (And.intro (And.intro (@ev_isN_int) (@ev_isN_str)) (And.intro (@ev_isN_lst) (@ev_isN_tup)))) (And.intro (And.intro (@ev_isN_obj) (And.intro (@ev_notN_non) (@ev_notN_int))) (And.intro (And.intro (@ev_notN_str) (@ev_notN_lst)) (And.intro (@ev_notN_tup) (@ev_notN_obj))))))) (And.intro (And.intro (And.intro (And.intro (And.intro (@ev_lenC) (And.intro (@ev_lenN) (@ev_lenM))) (And.intro (@ev_lenL) (And.intro (@ev_lenT) (@ev_lenS)))) (And.intro (And.intro (@ev_tupL) (And.intro (@ev_tupT) (@ev_listL))) (And.intro (And.intro (@ev_listT) (@ev_frz)) (And.intro (@ev_thaw) (@ev_toD))))) (And.intro (And.intro (And.intro (@ev_toDd) (And.intro (@ev_iOf) (@ev_seqL))) (And.intro (And.intro (@ev_seqT) (@ev_seqS)) (And.intro (@ev_rng1) (@ev_rng2)))) (And.intro (And.intro (@ev_rngI) (And.intro (@ev_rngJ) (@ev_slc))) (And.intro (And.intro (@ev_noPart) (@ev_part)) (And.intro (@ev_toI) (@ev_slL)))))) (And.intro (And.intro (And.intro (And.intro (@ev_slS) (And.intro (@ev_catL) (@ev_catT))) (And.intro (@ev_catS) (And.intro (@ev_catSD) (@ev_strlen)))) (And.intro (And.intro (@ev_rev) (And.intro (@ev_ix0L) (@ev_ix1L))) (And.intro (And.intro (@ev_ix0T) (@ev_ix1T)) (And.intro (@ev_ix2T) (@ev_ix3T))))) (And.intro (And.intro (And.intro (@ev_ix4T) (And.intro (@ev_ixML) (@ev_ixMT))) (And.intro (And.intro (@ev_wipe0) (@ev_wipeS)) (And.intro (@ev_gN) (@ev_gsN)))) (And.intro (And.intro (@ev_gsC) (And.intro (@ev_set0) (@ev_setS))) (And.intro (And.intro (@mp_lenA) (@mp_mapC)) (And.intro (@mp_mapN) (@mp_mapA))))))))
end PD

namespace PD
open PySem PySem.Spec L2

/-! ### own error classes: super().__init__('..'); self.f = f; .. -/
abbrev superSt (p0 p1 p2 p3 p4 p5 : Pos) (x : Str) (j : Nat) : Stmt := .Expr (.Call (.Attribute (.Call (.Name "super" p0) [] [] p1) "__init__" p2) [.Constant (.str x) j p3] [] p4) p5
abbrev fldSt (f : Str) (q1 q2 q3 q4 : Pos) : Stmt := .Assign [.Attribute (.Name "self" q1) f q2] (.Name f q3) q4
inductive Flds : List Stmt → List Str → Prop
  | nil : Flds [] []
  | cons {f : Str} {q1 q2 q3 q4 : Pos} {r : List Stmt} {fs : List Str} : Flds r fs → Flds (fldSt f q1 q2 q3 q4 :: r) (f :: fs)

abbrev xEnv (qual : Str) (scope : Scope) (L f cda cc : Addr) : Env := PySem.W.envX qual scope L f (.ref cda) [("__class__", cc)]
abbrev xObj (C t1 : Addr) (dv : Option Addr) : Obj := { cls := .ref C, dict := dv, data := .fields #[.ref t1, .none, .none, .none, .bool false, .none] }

/-- what stands in the dict of an exception in the making -/
def XDic (hp : Heap) (e L : Addr) (done : List (Str × Value)) (h : Heap) : Option Addr → Prop
  | none => done = []
  | some dx => hp.objs.size ≤ dx ∧ dx ≠ e ∧ dx ≠ L ∧ ∃ mA, h.Ns1 dx mA ∧ Within mA (done.map (·.1)) ∧ ∀ y, mA y = done.lookup y
section
variable {prog : Program} {w : World} {A : Around} {E : Value → Shared → Prop} {K : PySem.W.Frag} {hp : Heap} {C e L f cda cc t1 : Addr} {qual : Str} {scope : Scope} {m : Str → Option Value} {os : OsState} {g : Array GenState} {d : Drawn}
/-- one store -/
theorem store_run {cd : ClassData} {fl : Str} {v : Value} {dv : Option Addr} {done : List (Str × Value)} {h : Heap} {t : Nat} {Q : Unit → Shared → Prop} (X : K.In hp) (hcd : PySem.W.clsIn K C = some cd) (hm : PySem.HandSPX.refsVE cd.mro = true) (hh : cd.hasDict = true)
    (sa : PySem.W.findIn K (.ref C) "__setattr__" = some (some (.builtin "object.__setattr__"))) (ha : PySem.W.findIn K (.ref C) fl = some none) (hl : done.length ≤ 900) (he : hp.objs.size ≤ e)
    (kp : ∀ b o, hp.get? b = some o → h.get? b = some o) (hx : h.get? e = some (xObj C t1 dv)) (hL : L ≠ e) (hn : h.Ns L m)
    (hdv : XDic hp e L done h dv)
    (hq : ∀ h' tk dx, (∀ b o, hp.get? b = some o → h'.get? b = some o) → h'.get? e = some (xObj C t1 (some dx)) → h'.Ns L m → hp.objs.size ≤ dx → dx ≠ e → dx ≠ L → (∃ mA, h'.Ns1 dx mA ∧ Within mA (((fl, v) :: done).map (·.1)) ∧ ∀ y, mA y = ((fl, v) :: done).lookup y) → Q () ⟨h', g, d, tk, os⟩) :
    wpAny (model prog w) A (setAttr (.ref e) fl v) Q E ⟨h, g, d, t, os⟩ := by
  have XK : K.In h := X.keeps kp
  have hpe : ∀ b o, hp.get? b = some o → b ≠ e := fun b o q => Nat.ne_of_lt (Nat.lt_of_lt_of_le (Heap.lt_size q) he)
  have look : ∀ y, (if y = fl then some v else done.lookup y) = ((fl, v) :: done).lookup y := fun y => by
    by_cases hy : y = fl
    · subst hy; simp [List.lookup]
    · have e' : (y == fl) = false := by simpa using hy
      rw [if_neg hy]; simp [List.lookup, e']
  cases dv with
  | none =>
    have hdv : done = [] := hdv
    subst hdv
    refine PySem.W.set_plain XK (ox := xObj C t1 none) (od := none) ⟨hx, rfl, rfl, trivial⟩ sa ?_
    refine PySem.HandSPX.exc_osa XK hx hcd hm hh ha (fun h' tk' dx k dn dne hx' hn' => ?_)
    obtain ⟨oL, es, ep, hoL, rL⟩ := hn
    have hdL : dx ≠ L := fun z => by
      have y := Heap.lt_size hoL
      rw [← z] at y
      exact absurd y (Nat.not_lt.mpr dn)
    have hsz : hp.objs.size ≤ dx := Nat.le_trans he (Nat.le_trans (Nat.le_of_lt (Heap.lt_size hx)) dn)
    exact hq h' tk' dx (fun b o q => k b o (hpe b o q) (kp b o q)) hx' ⟨oL, es, ep, k _ _ hL hoL, rL⟩ hsz dne hdL ⟨_, hn', Within.cons fl v Within.nil, fun y => by rw [← look]; rfl⟩
  | some dx =>
    obtain ⟨hsz, dne, hdL, mA, hns, hw, hlk⟩ := hdv
    obtain ⟨oD, _, _, hoD, _, _⟩ := hns.count hw
    refine PySem.W.set_plain XK (ox := xObj C t1 (some dx)) (od := some oD) ⟨hx, rfl, rfl, hoD⟩ sa ?_
    refine PySem.OEX.osa_old XK hx hns hw (by rw [List.length_map]; omega) hcd hm hh ha (fun h' tk' k hn' => ?_)
    obtain ⟨oL, es, ep, hoL, rL⟩ := hn
    have hpd : ∀ b o, hp.get? b = some o → b ≠ dx := fun b o q => Nat.ne_of_lt (Nat.lt_of_lt_of_le (Heap.lt_size q) hsz)
    exact hq h' tk' dx (fun b o q => k b o (hpd b o q) (kp b o q)) (k _ _ dne.symm hx) ⟨oL, es, ep, k _ _ hdL.symm hoL, rL⟩ hsz dne hdL ⟨_, hn', Within.cons fl v hw, fun y => by rw [← look, hlk y]⟩

theorem ldLoc {h : Heap} {t : Nat} {x : Str} {pos : Pos} {v : Value} {Q : Value → Shared → Prop} (hk : scope.kind = .function) (hl : scope.names.lookup x = some .local) (hd : (x == ("__debug__" : Str)) = false) (hn : h.Ns L m) (hv : m x = some v) (q : Q v ⟨h, g, d, t, os⟩) :
    wpAny (model prog w) A (eval (.Name x pos) (xEnv qual scope L f cda cc)) Q E ⟨h, g, d, t, os⟩ := wpAny_Name (wpAny_loadName_local hk hl hn hv q) hd

/-- the stores -/
theorem flds_run {cd : ClassData} (X : K.In hp) (hcd : PySem.W.clsIn K C = some cd) (hm : PySem.HandSPX.refsVE cd.mro = true) (hh : cd.hasDict = true)
    (sa : PySem.W.findIn K (.ref C) "__setattr__" = some (some (.builtin "object.__setattr__"))) (he : hp.objs.size ≤ e) (hL : L ≠ e) (hk : scope.kind = .function) (hself : scope.names.lookup ("self" : Str) = some .local) (ms : m "self" = some (.ref e)) :
    ∀ {rest : List Stmt} {fs : List Str} (F : Flds rest fs) (val : Str → Value) {dv : Option Addr} {done : List (Str × Value)} {h : Heap} {t : Nat} {Q : Flow → Shared → Prop},
    (∀ x ∈ fs, PySem.W.findIn K (.ref C) x = some none ∧ scope.names.lookup x = some .local ∧ (x == ("__debug__" : Str)) = false ∧ m x = some (val x)) → done.length + fs.length ≤ 900 →
    (∀ b o, hp.get? b = some o → h.get? b = some o) → h.get? e = some (xObj C t1 dv) → h.Ns L m →
    XDic hp e L done h dv →
    (∀ h' tk dv', (∀ b o, hp.get? b = some o → h'.get? b = some o) → h'.get? e = some (xObj C t1 dv') →
      XDic hp e L ((fs.map fun x => (x, val x)).reverse ++ done) h' dv' → Q .next ⟨h', g, d, tk, os⟩) →
    wpAny (model prog w) A (execs rest (xEnv qual scope L f cda cc)) Q E ⟨h, g, d, t, os⟩
  | _, _, .nil, val, dv, done, h, t, Q, _, _, kp, hx, hn, hdv, hq => wpAny_execs_nil (hq h t dv kp hx hdv)
  | _, _, .cons (f := fl) (q1 := q1) (q2 := q2) (q3 := q3) (q4 := q4) (fs := fs) F, val, dv, done, h, t, Q, hf, hl, kp, hx, hn, hdv, hq => by
    obtain ⟨h1, h2, h3, h4⟩ := hf fl List.mem_cons_self
    simp only [List.length_cons] at hl
    refine wpAny_execs_cons ?_
    refine plainObj_wpAny_Assign_Attribute ?_ (by rfl)
    refine ldLoc hk h2 h3 hn h4 ?_
    refine ldLoc hk hself (by decide) hn ms ?_
    refine store_run X hcd hm hh sa h1 (by omega) he kp hx hL hn hdv fun h' tk dx k1 k2 k3 k4 k5 k6 k7 => ?_
    refine flds_run X hcd hm hh sa he hL hk hself ms F val (dv := some dx) (done := (fl, val fl) :: done) (fun x hx => hf x (List.mem_cons_of_mem _ hx)) (by simp only [List.length_cons]; omega) k1 k2 k3 ⟨k4, k5, k6, k7⟩ fun h'' tk' dv' j1 j2 j3 => hq h'' tk' dv' j1 j2 ?_
    rw [List.map_cons, List.reverse_cons, List.append_assoc]
    exact j3
/-- ValueError.__init__ bound to the object, called -/
theorem call_bwV {nm q : Str} {N : Addr} {bs bm : List Value} {hdct : Bool} {sn : List Str} {sub : List Value} {ab : Bool} {col : Option Bool} {dd : Option Addr} {k0 k1 k2 k3 k5 : Option Value} {h : Heap} {t : Nat} {u t0 : Addr} {rest : List Value} {Q : Value → Shared → Prop}
    (hC : h.get? C = some (excClassObj nm q C N bs bm hdct sn sub ab col dd k0 k1 k2 k3 k5 "ValueError.__new__")) (he : h.get? e = some (xObj C t0 none)) (hu : h.get? u = some (PySem.W.kxs_mw "ValueError.__init__" e)) (hrest : rest.length ≤ sizeLine)
    (hq : ∀ h' t1, (∀ b o, b ≠ e → h.get? b = some o → h'.get? b = some o) → h'.get? e = some (xObj C t1 none) → Q .none ⟨h', g, d, t, os⟩) :
    wpAny (model prog w) A (call (.ref u) rest) Q E ⟨h, g, d, t, os⟩ := by
  refine wpAny_call (codeAny_of_tree ?_)
  show wpAny _ A.in1 (callAny (.ref u) ⟨rest, []⟩) _ _ _
  simp only [callAny]
  refine wpAny_bind (wpAny_load hu ?_)
  simp only [PySem.W.kxs_mw, show (Value.type "method-wrapper" == Value.type "method" || Value.type "method-wrapper" == Value.type "builtin_function_or_method" || Value.type "method-wrapper" == Value.type "method-wrapper") = true by decide, if_true]
  refine PySem.W.KFB.if_so (by decide) ?_
  refine wpAny_bind (PySem.W.check_bound_init F.excBase_ValueError.toExcCallFacts hC he rfl ?_)
  refine wpAny_bind (wpAny_pure (wpAny_pure ?_))
  refine ⟨plainId_quiet F.excBase_ValueError.init.plain _, codeAny_builtin F.excBase_ValueError.initEntry ?_⟩
  exact PySem.W.exc_init_tree (cls := .ref C) (t0 := t0) (dv := none) (c2 := .none) (c3 := .none) (b4 := .bool false) he hrest fun h' k1 k2 k3 => hq h' _ k1 k2

/-- the call is the ordinary one (the places of the text tell it) -/
def SupEv (qual : Str) (scope : Scope) (p0 p1 p2 p3 p4 : Pos) (x : Str) (j : Nat) : Prop := ∀ L f cda cc : Addr, ∃ pl : Sem Bool,
  eval (.Call (.Attribute (.Call (.Name "super" p0) [] [] p1) "__init__" p2) [.Constant (.str x) j p3] [] p4) (xEnv qual scope L f cda cc) = (do
    let ov ← attributeBase (.Call (.Name "super" p0) [] [] p1) "__init__" (xEnv qual scope L f cda cc) (eval (.Call (.Name "super" p0) [] [] p1) (xEnv qual scope L f cda cc))
    standAt p2.atName
    let (fn, first) ← holding [ov] (getMethod ov "__init__" pl)
    callWith p4 fn first (backTo p4 (starEach [.Constant (.str x) j p3] (xEnv qual scope L f cda cc))) [])
/-- super().__init__('..') -/
theorem super_run {mg : Str → Option Value} {D : Addr} {cdD : ClassData} {ar : PySem.Arg} {fd : FuncData} {vs : Array Value} {file : Str} {tf : Tok} {oc ccl cl : Value} {od cdd cld : Option Addr} {osl ccs csl : Array (Option Value)} {body : List Stmt} {p0 p1 p2 p3 p4 p5 : Pos} {x : Str} {j : Nat}
    {nm q : Str} {N : Addr} {bs bm : List Value} {sn : List Str} {sub : List Value} {ab : Bool} {col : Option Bool} {dd : Option Addr} {k0 k1 k2 k3 k5 : Option Value} {h : Heap} {t : Nat} {t0 : Addr} {Q : Flow → Shared → Prop} {E : Value → Shared → Prop}
    (hev : SupEv qual scope p0 p1 p2 p3 p4 x j) (X : K.In hp) (hG : hp.Ns mainGlobals mg) (hB : ∃ mb, hp.Ns builtinsNs mb ∧ ∀ x : Str, x ≠ "__name__" → mb x = bootBuiltins x) (hsup : mg "super" = none)
    (lf : K.lookup f = some ⟨oc, od, .func fd, osl⟩) (hp1 : (fd.params.posonlyargs ++ fd.params.args).head? = some ar) (har : ar.arg = "self")
    (hcode : K.lookup cda = some ⟨ccl, cdd, .fields vs, ccs⟩) (hvs : vs[2]? = some (.str file tf)) (hfile : ((prog.main.file : Str) == file) = true)
    (hcell : K.lookup cc = some ⟨cl, cld, .cell (some (.ref D)), csl⟩) (hD : PySem.W.clsIn K D = some cdD) (hsub : PySem.W.mroIn K C (.ref D) = some true) (ho : PySem.W.nsIn K cStatics "thirdparty.any" = some none)
    (hms : PySem.W.ks_superIn K C D "__init__" = some (some (.builtin "ValueError.__init__"))) (hVE : PySem.W.subIn K (.ref C) (.type "ValueError") = some true)
    (hC : K.lookup C = some (excClassObj nm q C N bs bm true sn sub ab col dd k0 k1 k2 k3 k5 "ValueError.__new__"))
    (hks : scope.names.lookup ("super" : Str) = some .globalImplicit) (hkc : scope.names.lookup ("__class__" : Str) = some .free) (hk : scope.kind = .function) (hself : scope.names.lookup ("self" : Str) = some .local)
    (htop : (prog.main.scope.names.lookup ("super" : Str)).isSome = false)
    (he : hp.objs.size ≤ e) (hL : L ≠ e) (kp : ∀ b o, hp.get? b = some o → h.get? b = some o) (hx : h.get? e = some (xObj C t0 none)) (hn : h.Ns L m) (ms : m "self" = some (.ref e))
    (hq : ∀ h' tk t1, (∀ b o, hp.get? b = some o → h'.get? b = some o) → h'.get? e = some (xObj C t1 none) → h'.Ns L m → Q .next ⟨h', g, d, tk, os⟩) :
    _root_.PySem.wpAt (model prog w) A (.func body (xEnv qual scope L f cda cc)) (exec (superSt p0 p1 p2 p3 p4 p5 x j) (xEnv qual scope L f cda cc)) Q E ⟨h, g, d, t, os⟩ := by
  have XK : K.In h := X.keeps kp
  obtain ⟨mb, hmb, hbt⟩ := hB
  obtain ⟨oD, hD1, hD2⟩ : ∃ oD, h.get? D = some oD ∧ oD.data = .cls cdD := by
    unfold PySem.W.clsIn at hD
    split at hD
    · rename_i c d cd' sl ho
      cases hD
      exact ⟨_, XK _ _ ho, rfl⟩
    · cases hD
  obtain ⟨cd, hcd⟩ : ∃ cd, PySem.W.clsIn K C = some cd := by
    cases z : PySem.W.clsIn K C with
    | none => unfold PySem.W.ks_superIn at hms; rw [z] at hms; cases hms
    | some cd => exact ⟨cd, rfl⟩
  have hms' : PySem.W.alongIn K "__init__" ((cd.mro.dropWhile (· != .ref D)).drop 1) = some (some (.builtin "ValueError.__init__")) := by
    unfold PySem.W.ks_superIn at hms
    rw [hcd] at hms
    exact hms
  have hint : interactive (xEnv qual scope L f cda cc) = false := by
    show (scope.kind == .module && _) = false
    rw [hk]; rfl
  obtain ⟨pl, hev⟩ := hev L f cda cc
  refine ks_wpAt_Expr_any (ks_wpAt_MethodCall (pl := pl) ?_ hev) hint (by rfl)
  refine ks_wpAt_super_base (env := xEnv qual scope L f cda cc) hks hkc (by decide) rfl (XK _ _ lf) rfl hp1 rfl (XK _ _ hcode) rfl hvs hfile htop ?_
  refine PySem.W.ks_loadName_global hk hks (Calls.loadGlobal_builtin (env := xEnv qual scope L f cda cc) (hG.keeps kp) hsup (hmb.keeps kp) ((hbt _ (by decide)).trans PyProof.Rows.Boot.«super») ⟨rfl, ?_⟩)
  refine wpAny_loadName_free hk hkc rfl ⟨_, XK _ _ hcell, rfl⟩ ?_
  rw [har]
  refine wpAny_loadName_local hk hself hn ms ?_
  refine ks_wpAny_isType_cls hD1 hD2 ⟨rfl, ?_⟩
  refine ks_wpAny_call_super hD1 hD2 hx rfl (fun c e => by cases e) (PySem.W.looks_mroIn XK hsub) (fun h1 es k1 => ?_)
  have XK1 : K.In h1 := XK.keeps k1
  have I1 : PySem.W.InstAt h1 e (xObj C t0 none) C none := ⟨k1 _ _ hx, rfl, rfl, trivial⟩
  refine PySem.W.kxs_getMethod PySem.W.kxs_ValueError es (PySem.W.looks_opaque XK1 ho) (l₀ := cd.mro) ?_ rfl XK1 hms' (I1.type.andThen (PySem.W.looks_subIn XK1 hVE)) (PySem.W.ks_ne XK1 I1 hcd) (by decide) ?_
  · exact fun A Q E s k q => wpAny_bind ((PySem.W.looks_clsIn XK1 hcd) A _ E s k (wpAny_pure q))
  · have up : ∀ b o, h1.get? b = some o → (h1.push (PySem.W.kxs_mw "ValueError.__init__" e)).get? b = some o := fun b o z => Heap.get?_push_of_some _ z
    have hu : (h1.push (PySem.W.kxs_mw "ValueError.__init__" e)).get? h1.objs.size = some (PySem.W.kxs_mw "ValueError.__init__" e) := Heap.get?_push_at rfl rfl
    refine PySem.W.kxs_callWith (i := "ValueError.__init__") (x := e) (by rfl) ?_
    refine Calls.evalArgs_plain (Calls.spliced_cons (x := eval (.Constant (.str x) j p3) (xEnv qual scope L f cda cc)) (Calls.Constant_str (Calls.spliced_nil ⟨hu, ?_⟩)))
    refine call_bwV (up _ _ (XK1 _ _ hC)) (up _ _ (k1 _ _ hx)) hu (by rw [sizeLine_eq]; exact (by decide : 1 ≤ 16777216)) fun h' t1 k2 hx' => ?_
    have pe : ∀ b o, hp.get? b = some o → b ≠ e := fun b o q => Nat.ne_of_lt (Nat.lt_of_lt_of_le (Heap.lt_size q) he)
    obtain ⟨oL, es', ep, hoL, rL⟩ := hn
    exact hq h' _ t1 (fun b o z => k2 b o (pe b o z) (up b o (k1 b o (kp b o z)))) hx' ⟨oL, es', ep, k2 _ _ hL (up _ _ (k1 _ _ hoL)), rL⟩

end
/-- the name of the first parameter is self, and the rest fs; what the top has written of the class C, its __init__ and its cell -/
structure XCls (prog : Program) (K : PySem.W.Frag) (mg : Str → Option Value) (C : Addr) (fs : List Str) : Prop where
  oex : OexC K C
  ve : PySem.W.subIn K (.ref C) (.type "ValueError") = some true
  ex : ∃ (f cc cda D : Addr) (qual nm : Str) (params : Arguments) (body : List Stmt) (scope : Scope) (dV kV doc pm ct oc ccl cl : Value) (an od cdd cld : Option Addr) (osl ccs csl : Array (Option Value)) (vs : Array Value) (file : Str) (tf : Tok) (cdD : ClassData) (ar : PySem.Arg)
      (p0 p1 p2 p3 p4 p5 : Pos) (x : Str) (j : Nat) (rest : List Stmt),
    PySem.W.findIn K (.ref C) "__init__" = some (some (.ref f)) ∧ PySem.W.typeIn K (.ref f) = some (.type "function") ∧
    K.lookup f = some ⟨oc, od, .func (PySem.W.fnX nm qual params body scope [("__class__", cc)] dV kV doc pm an (.ref cda) ct), osl⟩ ∧ PySem.W.codeIn K (.ref cda) qual = true ∧
    (params.posonlyargs ++ params.args).head? = some ar ∧ ar.arg = "self" ∧ K.lookup cda = some ⟨ccl, cdd, .fields vs, ccs⟩ ∧ vs[2]? = some (.str file tf) ∧ ((prog.main.file : Str) == file) = true ∧
    K.lookup cc = some ⟨cl, cld, .cell (some (.ref D)), csl⟩ ∧ PySem.W.clsIn K D = some cdD ∧ PySem.W.mroIn K C (.ref D) = some true ∧ PySem.W.nsIn K cStatics "thirdparty.any" = some none ∧
    PySem.W.ks_superIn K C D "__init__" = some (some (.builtin "ValueError.__init__")) ∧
    scope.names.lookup ("super" : Str) = some .globalImplicit ∧ scope.names.lookup ("__class__" : Str) = some .free ∧ scope.kind = .function ∧ scope.names.lookup ("self" : Str) = some .local ∧ scope.isCoroutine = false ∧ scope.isGenerator = false ∧ (∀ y ∈ scope.names, y.2 ≠ .cell) ∧
    body = superSt p0 p1 p2 p3 p4 p5 x j :: rest ∧ SupEv qual scope p0 p1 p2 p3 p4 x j ∧ Flds rest fs ∧
    (∀ us : List Value, us.length = fs.length + 1 → bindArgs (PySem.W.fnX nm qual params body scope [("__class__", cc)] dV kV doc pm an (.ref cda) ct) ⟨us, []⟩ = pure ((("self" : Str) :: fs).zip us)) ∧
    (∀ y ∈ fs, PySem.W.findIn K (.ref C) y = some none ∧ scope.names.lookup y = some .local ∧ (y == ("__debug__" : Str)) = false) ∧ (("self" : Str) :: fs).Nodup ∧ fs.length ≤ 800
  sup : mg "super" = none
  top : (prog.main.scope.names.lookup ("super" : Str)).isSome = false

theorem lookup_rev {α : Type} (y : Str) : ∀ l : List (Str × α), (l.map (·.1)).Nodup → l.reverse.lookup y = l.lookup y
  | [], _ => rfl
  | (k, v) :: l, h => by
    rw [List.map_cons, List.nodup_cons] at h
    rw [List.reverse_cons, List.lookup_append, lookup_rev y l h.2]
    by_cases e : y = k
    · subst e
      have : l.lookup y = none := by
        rw [List.lookup_eq_none_iff]
        intro p hp
        simp only [bne_iff_ne, ne_eq, beq_eq_false_iff_ne]
        intro z
        rw [z] at h
        exact h.1 (List.mem_map_of_mem (f := (·.1)) hp)
      rw [this]
      simp [List.lookup]
    · have e' : (y == k) = false := by simpa using e
      simp [List.lookup, e']
theorem zip_keys {α : Type} : ∀ (ks : List Str) (us : List α), us.length = ks.length → (ks.zip us).map (·.1) = ks
  | [], [], _ => rfl
  | k :: ks, u :: us, h => by simp only [List.zip_cons_cons, List.map_cons]; rw [zip_keys ks us (by simpa using h)]
theorem zip_get {α : Type} : ∀ {ks : List Str} {us : List α} {y : Str}, us.length = ks.length → y ∈ ks → ∃ u, (ks.zip us).lookup y = some u
  | k :: ks, u :: us, y, h, hy => by
    by_cases e : y = k
    · subst e; exact ⟨u, by simp [List.lookup]⟩
    · have e' : (y == k) = false := by simpa using e
      rcases List.mem_cons.mp hy with z | z
      · exact absurd z e
      · obtain ⟨v, hv⟩ := zip_get (us := us) (by simpa using h) z
        exact ⟨v, by simp [List.lookup, e', hv]⟩
theorem zip_vals {α : Type} (val : Str → α) : ∀ (ks : List Str) (us : List α), us.length = ks.length → ks.Nodup → (∀ y ∈ ks, (ks.zip us).lookup y = some (val y)) → ks.map (fun y => (y, val y)) = ks.zip us
  | [], [], _, _, _ => rfl
  | k :: ks, u :: us, h, nd, hv => by
    rw [List.nodup_cons] at nd
    have h1 := hv k List.mem_cons_self
    simp only [List.zip_cons_cons] at h1
    have h2 : val k = u := by
      simp [List.lookup] at h1
      exact h1.symm
    simp only [List.map_cons, List.zip_cons_cons]
    rw [h2, zip_vals val ks us (by simpa using h) nd.2 fun y hy => ?_]
    have h3 := hv y (List.mem_cons_of_mem _ hy)
    have e' : (y == k) = false := by
      simp only [beq_eq_false_iff_ne]
      intro z; exact nd.1 (z ▸ hy)
    simp only [List.zip_cons_cons, List.lookup, e'] at h3
    exact h3

section
variable {prog : Program} {w : World} {A : Around} {E : Value → Shared → Prop} {K : PySem.W.Frag} {mg : Str → Option Value} {C : Addr} {fs : List Str}
/-- the dict of the new exception -/
def XFin (hp : Heap) (e : Addr) (fs : List Str) (us : List Value) (h : Heap) : Option Addr → Prop
  | none => fs = []
  | some dx => hp.objs.size ≤ dx ∧ dx ≠ e ∧ ∃ mA, h.Ns1 dx mA ∧ ∀ y, mA y = (fs.zip us).lookup y
/-- C(e, ..) at the heap -/
theorem call_x (T : XCls prog K mg C fs) {us : List Value} {s : Shared} {R : Result → Shared → Prop} (X : K.In s.heap) (hG : s.heap.Ns mainGlobals mg) (hB : ∃ mb, s.heap.Ns builtinsNs mb ∧ ∀ x : Str, x ≠ "__name__" → mb x = bootBuiltins x) (hnl : s.heap.NoLimit)
    (hroom : (A.under (.builtin "type.__call__" ⟨.ref C :: us, []⟩)).depth < recursionLimit) (hl : us.length = fs.length)
    (hq : ∀ h' tk e t1 dv, (∀ b o, s.heap.get? b = some o → h'.get? b = some o) → s.heap.objs.size ≤ e → h'.get? e = some (xObj C t1 dv) → XFin s.heap e fs us h' dv → R (.ok (.ret (.ref e))) { s with heap := h', toks := tk }) :
    codeAny (model prog w) A (.call (.ref C) ⟨us, []⟩) R s := by
  obtain ⟨nm, q, N, bs, bm, sn, sub, ab, col, dd, k0, k1, k2, k3, k5, hC, hbm⟩ := T.oex.cls
  obtain ⟨f, cc, cda, D, qual, nmF, params, body, scope, dV, kV, doc, pm, ct, oc, ccl, cl, an, od, cdd, cld, osl, ccs, csl, vs, file, tf, cdD, ar, p0, p1, p2, p3, p4, p5, x, j, rest, iC, tI, lf, hcd, hpar, har, hcode, hvs, hfile, hcell, hD, hsub, ho, hms, hks, hkc, hk, hself, hco, hgen, hnc, hbody, hev, FF, hbind, hfld, hnd, hlen⟩ := T.ex
  subst hbody
  obtain ⟨hp, g, dr, tk, os⟩ := s
  have kk : ∀ b o, hp.get? b = some o → ((hp.push (PySem.W.kdv_tup us)).push (PySem.HandSPX.excO C hp.objs.size)).get? b = some o := fun b o e => Heap.get?_push_of_some _ (Heap.get?_push_of_some _ e)
  have hget : ((hp.push (PySem.W.kdv_tup us)).push (PySem.HandSPX.excO C hp.objs.size)).get? (hp.objs.size + 1) = some (PySem.HandSPX.excO C hp.objs.size) := by heap_get
  have hsz : us.length ≤ sizeLine := by rw [sizeLine_eq]; omega
  refine PySem.HandSPX.call_own F.excBase_ValueError (fun Y => PySem.HandSPX.refsVE_contains Y bm hbm) (X _ _ hC) (PySem.W.looks_findIn X iC) (fun self => PySem.W.bind_fn X self tI) hsz ?_
  have X2 : K.In ((hp.push (PySem.W.kdv_tup us)).push (PySem.HandSPX.excO C hp.objs.size)) := X.keeps kk
  refine ks_codeAny_call_defAt (fd := PySem.W.fnX nmF qual params (superSt p0 p1 p2 p3 p4 p5 x j :: rest) scope [("__class__", cc)] dV kV doc pm an (.ref cda) ct) (body := superSt p0 p1 p2 p3 p4 p5 x j :: rest) (binds := (("self" : Str) :: fs).zip (.ref (hp.objs.size + 1) :: us))
    hroom (X2 _ _ lf) rfl (hnl.keeps kk) (PySem.W.codeRec_of X2 hcd) rfl (.of_eq (hbind _ (by simp [hl]))) hnc ?_ (fun h₁ hns hk₁ => ?_) hco hgen hk
  · intro y hy
    have := List.of_mem_zip (show (y.1, y.2) ∈ _ from hy)
    rcases List.mem_cons.mp this.1 with z | z
    · rw [z]; exact hself
    · exact (hfld _ z).2.1
  · have he : hp.objs.size ≤ hp.objs.size + 1 := Nat.le_succ _
    have hsz2 : ((hp.push (PySem.W.kdv_tup us)).push (PySem.HandSPX.excO C hp.objs.size)).objs.size = hp.objs.size + 2 := by rw [Heap.size_push, Heap.size_push]
    have hLe : ((hp.push (PySem.W.kdv_tup us)).push (PySem.HandSPX.excO C hp.objs.size)).objs.size ≠ hp.objs.size + 1 := by rw [hsz2]; exact Nat.succ_ne_self _
    have kp1 : ∀ b o, hp.get? b = some o → h₁.get? b = some o := fun b o z => hk₁ b o (kk b o z)
    have hl' : (Value.ref (hp.objs.size + 1) :: us).length = (("self" : Str) :: fs).length := by simp [hl]
    have keys := zip_keys (("self" : Str) :: fs) (Value.ref (hp.objs.size + 1) :: us) hl'
    have ndz : (((("self" : Str) :: fs).zip (Value.ref (hp.objs.size + 1) :: us)).map (·.1)).Nodup := by rw [keys]; exact hnd
    have mlook : ∀ y, ((("self" : Str) :: fs).zip (Value.ref (hp.objs.size + 1) :: us)).reverse.lookup y = ((("self" : Str) :: fs).zip (Value.ref (hp.objs.size + 1) :: us)).lookup y := fun y => lookup_rev y _ ndz
    rw [List.nodup_cons] at hnd
    have fl : ∀ y ∈ fs, ((("self" : Str) :: fs).zip (Value.ref (hp.objs.size + 1) :: us)).lookup y = (fs.zip us).lookup y := fun y hy => by
      have e' : (y == ("self" : Str)) = false := by
        simp only [beq_eq_false_iff_ne]
        intro z; exact hnd.1 (z ▸ hy)
      simp only [List.zip_cons_cons, List.lookup, e']
    have val : ∀ y ∈ fs, (fs.zip us).lookup y = some (((fs.zip us).lookup y).getD .none) := fun y hy => by
      obtain ⟨u, hu⟩ := zip_get (us := us) hl hy
      rw [hu]; rfl
    refine ks_wpAt_execs_cons (super_run (hp := hp) (m := fun y => ((("self" : Str) :: fs).zip (Value.ref (hp.objs.size + 1) :: us)).reverse.lookup y) hev X hG hB T.sup lf hpar har hcode hvs hfile hcell hD hsub ho hms T.ve hC hks hkc hk hself T.top he hLe kp1 (hk₁ _ _ hget) hns (by rw [mlook]; rfl) fun h2 tk2 t2 q1 q2 q3 => ?_)
    obtain ⟨cd0, hcl⟩ : ∃ cd, PySem.W.clsIn K C = some cd ∧ PySem.HandSPX.refsVE cd.mro = true ∧ cd.hasDict = true := by
      refine ⟨{ name := nm, bases := bs, mro := .ref C :: bm, ns := N, qualname := q, hasDict := true, slotNames := sn, subclasses := sub, abstract := ab, collection := col, hasDel := false }, ?_, hbm, rfl⟩
      unfold PySem.W.clsIn; rw [hC] <;> rfl
    refine wpAt_of_wpAny (flds_run (hp := hp) X hcl.1 hcl.2.1 hcl.2.2 T.oex.sa he hLe hk hself (by show List.lookup _ _ = _; rw [mlook]; rfl) FF (fun y => ((fs.zip us).lookup y).getD .none) (dv := none) (done := []) (fun y hy => ?_) (by simp; omega) q1 q2 q3 rfl fun h3 tk3 dv3 j1 j2 j3 => ?_)
    · obtain ⟨a, b, c⟩ := hfld y hy
      refine ⟨a, b, c, ?_⟩
      show List.lookup _ _ = _
      rw [mlook, fl y hy]; exact val y hy
    · refine ⟨rfl, hq h3 tk3 _ t2 dv3 j1 he j2 ?_⟩
      rw [List.append_nil, zip_vals (fun y => ((fs.zip us).lookup y).getD Value.none) fs us hl hnd.2 val] at j3
      cases dv3 with
      | none =>
        have z : (fs.zip us).reverse = [] := j3
        have y := zip_keys fs us hl
        rw [List.reverse_eq_nil_iff.mp z] at y
        exact y.symm
      | some dx =>
        obtain ⟨a, b, c, mA, r1, r2, r3⟩ := j3
        exact ⟨a, b, mA, r1, fun y => by rw [r3 y, lookup_rev y _ (by rw [zip_keys fs us hl]; exact hnd.2)]⟩
end

theorem relO_zip : ∀ (fs : List Str) {vs : List V} {us : List Value}, Vals vs us → ∀ f, RelO ((fs.zip vs).lookup f) ((fs.zip us).lookup f)
  | [], _, _, _, _ => True.intro
  | _ :: _, _, _, .nil, _ => True.intro
  | k :: fs, _, _, .cons r rs, f => by
    simp only [List.zip_cons_cons, List.lookup]
    by_cases e : f = k
    · subst e; simp only [beq_self_eq_true]; exact r
    · have e' : (f == k) = false := by simpa using e
      rw [e']
      exact relO_zip fs rs f
/-- C(e, ..), C an own error class -/
def tMkX (C : Addr) (fs : List Str) (ta : TA) : L2.St → Hp → XK → Prop := fun σ H Q => ta σ H fun vs H1 => vs.length = fs.length ∧ ∀ dx, H1 dx = none → Q (.ref C) (some dx) (upd H1 dx (.xd (fs.zip vs)))
theorem pmk_x {X : Cx} {x : Str} {C : Addr} {fs : List Str} {e : Expr} {es : List Expr} {p pos : Pos} {ta : TA} (T : XCls X.prog X.K X.mg C fs) (hne : fs ≠ []) (hr : Room 1 X.A) (hm : X.mg x = some (.ref C)) (ha : PA X (e :: es) ta) (hg : Gl X x := by rfl)
    (hdb : (x == ("__debug__" : Str)) = false := by decide) (he : starEach (e :: es) X.env = (false, eval e X.env) :: starEach es X.env := by rfl) (hpl : (backTo pos (starEach es X.env)).any (·.1) = false := by rfl) :
    L2N.PMk X (.Call (.Name x p) (e :: es) [] pos) (tMkX C fs ta) := by
  intro pins s σ H Q I h
  refine wpAny_Call_Name_kw (ld_glob I hg hm ?_ hdb)
  refine PySem.W.callWith_K (h₀ := X.base) I.ok.mod.kin T.oex.kC (thn (ha.run pos pins s σ H _ I h) fun us s1 ⟨vs, H1, I1, r1, hz, q1⟩ => ⟨I1.kIn, ?_⟩) he hpl
  show wpAny _ _ (call (.ref C) us) _ _ _
  have hl : us.length = fs.length := by rw [← r1.length, hz]
  obtain ⟨mb, hmb, hbt⟩ := I1.mod.blt
  refine wpAny_call (call_x T I1.kIn (I1.mod.glob.keeps I1.bk) ⟨mb, hmb.keeps I1.bk, hbt⟩ I1.nolimit (hr.make C us []).depth hl fun h' tk e1 t1 dv k1 he1 hx hd => ?_)
  cases dv with
  | none => exact absurd hd hne
  | some dx =>
    obtain ⟨hdz, hde, mA, hns, hmA⟩ := hd
    obtain ⟨G, g1', g2'⟩ := restrict h' fun b => decide (b ≠ e1)
    have gk : ∀ b, b ≠ e1 → G.get? b = h'.get? b := fun b hb => g1' b (decide_eq_true hb)
    have ge : G.get? e1 = none := g2' e1 (by simp)
    have kG : ∀ b o, s1.heap.get? b = some o → G.get? b = some o := fun b o z => (gk b (Nat.ne_of_lt (Nat.lt_of_lt_of_le (Heap.lt_size z) he1))).trans (k1 b o z)
    have J := I1.laid (t' := tk) (a := dx) (o := .xd (fs.zip vs)) (h' := G) kG hdz ⟨mA, hns.at fun o y => (gk dx hde).trans y, fun f => by rw [hmA f]; exact relO_zip fs r1 f⟩
    refine ⟨e1, _, _, _, _, .ref C, some dx, rfl, J, fun b o z => ?_, ge, hx, ⟨rfl, rfl, fun vs0 e0 => by cases e0; rfl⟩, rfl, rfl, ?_, rfl, I1.bare, raises_own T.oex.exC T.oex.tyC, q1 dx (I1.hok.fresh hdz)⟩
    · by_cases hb : b = e1
      · have z' : G.get? b = some o := z
        rw [hb, ge] at z'; cases z'
      · exact (gk b hb).symm.trans z
    · rw [upd_ne (Ne.symm hde)]; exact I1.hok.fresh he1
end PD

namespace PD
open PySem PySem.Spec L2

/-! ### things that nobody can change -/
mutual
def immD : D → Bool
  | .non => true
  | .bl _ => true
  | .int _ => true
  | .str _ => true
  | .tup ds => immDs ds
  | _ => false
def immDs : List D → Bool
  | [] => true
  | d :: ds => immD d && immDs ds
end
mutual
def immO : O → Bool
  | .unk => true
  | .dat d => immD d
  | .lst os => immOs os
  | .tup os => immOs os
  | .dic _ os => immOs os
  | .obj _ _ os => immOs os
  | .raw _ => false
def immOs : List O → Bool
  | [] => true
  | o :: os => immO o && immOs os
end
section
variable {K : PySem.W.Frag} {M M' H : Hp}
mutual
theorem Dv.rebase (k : ∀ a xs, SqT K M a xs → SqT K M' a xs) : ∀ {v : V} {d : D}, Dv K M v d → immD d = true → Dv K M' v d
  | _, _, .non, _ => .non
  | _, _, .bl b, _ => .bl b
  | _, _, .int i, _ => .int i
  | _, _, .str x, _ => .str x
  | _, _, .lst _ _, h => nomatch h
  | _, _, .tup h hs, e => .tup (k _ _ h) (Dvs.rebase k hs e)
  | _, _, .dic _ _ _, h => nomatch h
  | _, _, .obj _ _ _ _, h => nomatch h
  | _, _, .exn0, h => nomatch h
  | _, _, .exn1 _ _ _, h => nomatch h
theorem Dvs.rebase (k : ∀ a xs, SqT K M a xs → SqT K M' a xs) : ∀ {vs : List V} {ds : List D}, Dvs K M vs ds → immDs ds = true → Dvs K M' vs ds
  | _, _, .nil, _ => .nil
  | _, _, .cons h hs, e => by
    unfold immDs at e
    rw [Bool.and_eq_true] at e
    exact .cons (Dv.rebase k h e.1) (Dvs.rebase k hs e.2)
end
mutual
theorem Ow.rebase (k : ∀ a xs, SqT K M a xs → SqT K M' a xs) (k2 : ∀ a xs, M a = some (.tup xs) → M' a = some (.tup xs)) : ∀ {o : O} {v : Option V} {fp : List Addr}, Ow K M H o v fp → immO o = true → Ow K M' H o v fp
  | _, _, _, .unk, _ => .unk
  | _, _, _, .dat h, e => .dat (h.rebase k e)
  | _, _, _, .lst h hs, e => .lst h (Ows.rebase k k2 hs e)
  | _, _, _, .tup h hs, e => .tup (k2 _ _ h) (Ows.rebase k k2 hs e)
  | _, _, _, .dic h q hs, e => .dic h q (Ows.rebase k k2 hs e)
  | _, _, _, .obj h h2 q hs, e => .obj h h2 q (Ows.rebase k k2 hs e)
  | _, _, _, .raw h m, _ => .raw h m
theorem Ows.rebase (k : ∀ a xs, SqT K M a xs → SqT K M' a xs) (k2 : ∀ a xs, M a = some (.tup xs) → M' a = some (.tup xs)) : ∀ {os : List O} {vs : List (Option V)} {fp : List Addr}, Ows K M H os vs fp → immOs os = true → Ows K M' H os vs fp
  | _, _, _, .nil, _ => .nil
  | _, _, _, .cons h hs, e => by
    unfold immOs at e
    rw [Bool.and_eq_true] at e
    exact .cons (Ow.rebase k k2 h e.1) (Ows.rebase k k2 hs e.2)
end
mutual
theorem Ow.muts : ∀ {o : O} {v : Option V} {fp : List Addr}, Ow K M H o v fp → ∀ a ∈ fp, ∃ u, H a = some u ∧ MutO u
  | _, _, _, .unk, _, h => nomatch h
  | _, _, _, .dat _, _, h => nomatch h
  | _, _, _, .lst h hs, a, ha => by
    rcases List.mem_cons.mp ha with rfl | ha
    · exact ⟨_, h, .inl ⟨_, rfl⟩⟩
    · exact Ows.muts hs a ha
  | _, _, _, .tup h hs, a, ha => Ows.muts hs a ha
  | _, _, _, .dic h _ hs, a, ha => by
    rcases List.mem_cons.mp ha with rfl | ha
    · exact ⟨_, h, .inr (.inl ⟨_, rfl⟩)⟩
    · exact Ows.muts hs a ha
  | _, _, _, .obj h h2 _ hs, a, ha => by
    rcases List.mem_cons.mp ha with rfl | ha
    · exact ⟨_, h, .inr (.inr (.inl ⟨_, _, _, rfl⟩))⟩
    · rcases List.mem_cons.mp ha with rfl | ha
      · exact ⟨_, h2, .inr (.inr (.inr ⟨_, rfl⟩))⟩
      · exact Ows.muts hs a ha
  | _, _, _, .raw h m, a, ha => ⟨_, by rw [List.mem_singleton.mp ha]; exact h, m⟩
theorem Ows.muts : ∀ {os : List O} {vs : List (Option V)} {fp : List Addr}, Ows K M H os vs fp → ∀ a ∈ fp, ∃ u, H a = some u ∧ MutO u
  | _, _, _, .nil, _, h => nomatch h
  | _, _, _, .cons h hs, a, ha => (List.mem_append.mp ha).elim (Ow.muts h a) (Ows.muts hs a)
end
theorem mut_tup {u : HO} (h : MutO u) {xs : List V} : u ≠ .tup xs ∧ ∀ o, u ≠ .frz o (.tup xs) := by
  refine ⟨fun z => ?_, fun _ z => ?_⟩ <;> (subst z; rcases h with ⟨_, h⟩ | ⟨_, h⟩ | ⟨_, _, _, h⟩ | ⟨_, h⟩ <;> cases h)
mutual
theorem Ow.det {M1 M2 : Hp} (s1 : Same M1 H) (s2 : Same M2 H) : ∀ {o : O} {v : Option V} {f g : List Addr}, Ow K M1 H o v f → Ow K M2 H o v g → f = g
  | _, _, _, _, .unk, .unk => rfl
  | _, _, _, _, .dat _, .dat _ => rfl
  | _, _, _, _, .lst h hs, .lst h' hs' => by rw [h] at h'; cases h'; rw [Ows.det s1 s2 hs hs']
  | _, _, _, _, .tup h hs, .tup h' hs' => by
    have a := s1 _ _ h
    rw [s2 _ _ h'] at a; cases a
    rw [Ows.det s1 s2 hs hs']
  | _, _, _, _, .dic h _ hs, .dic h' _ hs' => by rw [h] at h'; cases h'; rw [Ows.det s1 s2 hs hs']
  | _, _, _, _, .obj h _ _ hs, .obj h' _ _ hs' => by rw [h] at h'; cases h'; rw [Ows.det s1 s2 hs hs']
  | _, _, _, _, .raw _ _, .raw _ _ => rfl
theorem Ows.det {M1 M2 : Hp} (s1 : Same M1 H) (s2 : Same M2 H) : ∀ {os : List O} {vs : List (Option V)} {f g : List Addr}, Ows K M1 H os vs f → Ows K M2 H os vs g → f = g
  | _, _, _, _, .nil, .nil => rfl
  | _, _, _, _, .cons h hs, .cons h' hs' => by rw [Ow.det s1 s2 h h', Ows.det s1 s2 hs hs']
end
/-- own things looked at, for a while -/
theorem Rep.look {ρ fo : List O} {σ fv : List (Option V)} (R : Rep K M H (ρ ++ fo) (σ ++ fv)) (l : σ.length = ρ.length) :
    ∃ Ma, Same M Ma ∧ Rep K Ma H (ρ.map O.vw ++ []) (σ ++ []) ∧
      (∀ M2 H', Same Ma M2 → Same M2 H' → ∃ M3, Same M M3 ∧ Rep K M3 H' (ρ ++ fo) (σ ++ fv) ∧ ∀ v d, Dv K M2 v d → immD d = true → Dv K M3 v d) ∧
      (∀ M2 H' o v, Same Ma M2 → Rep K M2 H' (ρ.map O.vw ++ [o]) (σ ++ [v]) → immO o = true → ∃ M3, Same M M3 ∧ Rep K M3 H' (ρ ++ o :: fo) (σ ++ v :: fv)) ∧
      (∀ (i : Nat) (o : O) (v : Option V) (f : List Addr), ρ[i]? = some o → σ[i]? = some v → Ow K M H o v f → ∀ a ∈ f, Ma a = H a) := by
  obtain ⟨sm, fp, w, nd, nm⟩ := R
  obtain ⟨fa, fb, e, w1, w2⟩ := w.split l
  have s1 : Same M (fun a => if a ∈ fp then H a else M a) := fun b y q => by
    have : b ∉ fp := fun z => by rw [nm b z] at q; cases q
    show (if b ∈ fp then H b else M b) = some y
    rw [if_neg this]; exact q
  have s2 : Same (fun a => if a ∈ fp then H a else M a) H := fun b y q => by
    have q : (if b ∈ fp then H b else M b) = some y := q
    split at q
    · exact q
    · exact sm b y q
  have base : ∀ M2 H' : Hp, Same (fun a => if a ∈ fp then H a else M a) M2 → Same M2 H' → ∃ M3, Same M M3 ∧ Same M3 H' ∧ Ows K M3 H' (ρ ++ fo) (σ ++ fv) fp ∧ (∀ a ∈ fp, M3 a = none ∧ M2 a ≠ none) ∧ (∀ a, M2 a = none → M3 a = none) ∧
      (∀ a xs, SqT K M2 a xs → SqT K M3 a xs) ∧ ∀ a xs, M2 a = some (.tup xs) → M3 a = some (.tup xs) := fun M2 H' k1 k2 => by
    have at2 : ∀ a ∈ fp, ∃ u, M2 a = some u ∧ H a = some u ∧ MutO u := fun a ha => by
      obtain ⟨u, hu, mu⟩ := w.muts a ha
      exact ⟨u, k1 _ _ (show (if a ∈ fp then H a else M a) = some u by rw [if_pos ha]; exact hu), hu, mu⟩
    have nt : ∀ a xs, M2 a = some (.tup xs) → a ∉ fp := fun a xs q ha => by
      obtain ⟨u, hu, _, mu⟩ := at2 a ha
      rw [hu] at q; cases q
      exact (mut_tup mu (xs := xs)).1 rfl
    have nf : ∀ a xs o, M2 a = some (.frz o (.tup xs)) → a ∉ fp := fun a xs o q ha => by
      obtain ⟨u, hu, _, mu⟩ := at2 a ha
      rw [hu] at q; cases q
      exact (mut_tup mu (xs := xs)).2 o rfl
    have s3 : Same M (fun a => if a ∈ fp then none else M2 a) := fun b y q => by
      have : b ∉ fp := fun z => by rw [nm b z] at q; cases q
      show (if b ∈ fp then none else M2 b) = some y
      rw [if_neg this]
      exact k1 _ _ (s1 _ _ q)
    refine ⟨_, s3, fun b y q => ?_, w.frame s3 fun a ha => ?_, fun a ha => ⟨if_pos ha, ?_⟩, fun a ha => ?_, fun a xs hq => ?_, fun a xs hq => (if_neg (nt a xs hq)).trans hq⟩
    · have q : (if b ∈ fp then none else M2 b) = some y := q
      split at q
      · cases q
      · exact k2 _ _ q
    · obtain ⟨u, hu, hh, _⟩ := at2 a ha
      rw [hh]; exact k2 _ _ hu
    · obtain ⟨u, hu, _⟩ := at2 a ha
      rw [hu]; exact fun z => nomatch z
    · show (if a ∈ fp then none else M2 a) = none
      split
      · rfl
      · exact ha
    · rcases hq with (h | ⟨o, h⟩) | h
      · exact .inl (.inl ((if_neg (nt a xs h)).trans h))
      · exact .inl (.inr ⟨o, (if_neg (nf a xs o h)).trans h⟩)
      · exact .inr h
  refine ⟨_, s1, ⟨s2, [], ?_, List.nodup_nil, fun a ha => nomatch ha⟩, fun M2 H' k1 k2 => ?_, fun M2 H' o v k1 R2 io => ?_, fun i o v f eo ev h a ha => ?_⟩
  · rw [List.append_nil, List.append_nil]
    exact Ows.view s1 w1 fun a ha => if_pos (by rw [e]; exact List.mem_append_left _ ha)
  · obtain ⟨M3, a1, a2, a3, a4, a5, a6, a7⟩ := base M2 H' k1 k2
    exact ⟨M3, a1, ⟨a2, fp, a3, nd, fun a ha => (a4 a ha).1⟩, fun v d dv im => dv.rebase a6 im⟩
  · obtain ⟨t1, gp, u, gnd, gnm⟩ := R2
    obtain ⟨M3, a1, a2, a3, a4, a5, a6, a7⟩ := base M2 H' k1 t1
    obtain ⟨ga, gb, e2, u1, u2⟩ := u.split (by simpa using l)
    cases u2 with
    | cons u3 u4 =>
      cases u4
      rename_i g1
      have u5 := u3.rebase a6 a7 io
      subst e2
      obtain ⟨fa', fb', e3, w3, w4⟩ := a3.split l
      refine ⟨M3, a1, a2, fa' ++ (g1 ++ fb'), w3.append (.cons u5 w4), ?_, fun a ha => ?_⟩
      · rw [List.nodup_iff_count]
        intro b
        rw [List.nodup_iff_count] at nd gnd
        have c1 := nd b
        have c2 := gnd b
        rw [e3] at c1
        simp only [List.count_append, List.append_nil] at c1 c2 ⊢
        by_cases hb : b ∈ g1
        · have hn := gnm b (by simp [hb])
          have : b ∉ fp := fun z => (a4 b z).2 hn
          rw [e3, List.mem_append] at this
          have z1 := List.count_eq_zero.mpr fun z => this (.inl z)
          have z2 := List.count_eq_zero.mpr fun z => this (.inr z)
          omega
        · have z1 := List.count_eq_zero.mpr hb
          omega
      · simp only [List.mem_append] at ha
        rcases ha with ha | ha | ha
        · exact (a4 a (by rw [e3]; simp [ha])).1
        · exact a5 a (gnm a (by simp [ha]))
        · exact (a4 a (by rw [e3]; simp [ha])).1
  · obtain ⟨v', ga, g, gb, ev', e2, h', _⟩ := w1.at_ eo
    rw [ev] at ev'; cases ev'
    rw [Ow.det sm sm h h'] at ha
    exact if_pos (by rw [e, e2]; simp [ha])
end
def vwI (f : Ev → Option D) (ρ : Ev) : Option D := (f (ρ.map O.vw)).bind fun d => if immD d = true then some d else none
def vwO (f : Ev → Option O) (ρ : Ev) : Option O := (f (ρ.map O.vw)).bind fun d => if immO d = true then some d else none
section
variable {X : Cx} {W : WX} {pos : Pos} {e : Expr}
theorem pVwI {f : Ev → Option D} (h : PE X e (tP X.K f)) : PE X e (tP X.K (vwI f)) := PE.imp h fun σ H Q ⟨M, ρ, fo, fv, d, R, l, e, k⟩ => by
  unfold vwI at e
  cases q : f (ρ.map O.vw) with
  | none => rw [q] at e; cases e
  | some d' =>
    rw [q, Option.bind_some] at e
    split at e
    · rename_i hf
      cases e
      obtain ⟨Ma, s1, R1, back, _⟩ := R.look l
      refine ⟨Ma, ρ.map O.vw, [], [], _, R1, by simpa using l, q, fun M2 H2 v s2 R2 d2 => ?_⟩
      obtain ⟨M3, s3, R3, dd⟩ := back M2 H2 s2 R2.same
      exact k M3 H2 v s3 R3 (dd _ _ d2 hf)
    · cases e
theorem oVw {f : Ev → Option O} (h : PE X e (tO X.K f)) : PE X e (tO X.K (vwO f)) := PE.imp h fun σ H Q ⟨M, ρ, fo, fv, d, R, l, e, k⟩ => by
  unfold vwO at e
  cases q : f (ρ.map O.vw) with
  | none => rw [q] at e; cases e
  | some d' =>
    rw [q, Option.bind_some] at e
    split at e
    · rename_i hf
      cases e
      obtain ⟨Ma, s1, R1, _, back, _⟩ := R.look l
      refine ⟨Ma, ρ.map O.vw, [], [], _, R1, by simpa using l, q, fun M2 H2 v s2 R2 => ?_⟩
      obtain ⟨M3, s3, R3⟩ := back M2 H2 _ _ s2 R2 hf
      exact k M3 H2 v s3 R3
    · cases e
end

/-! ### expressions that take things out of slots -/
def tM (K : PySem.W.Frag) (f : Ev → Option (O × Ev)) : TE := fun σ H Q => ∃ M ρ fo fv o ρ1, Rep K M H (ρ ++ fo) (σ ++ fv) ∧ σ.length = ρ.length ∧ f ρ = some (o, ρ1) ∧
  ∀ M' H' v, Same M M' → Rep K M' H' (ρ1 ++ o :: fo) (σ ++ some v :: fv) → Q v H'
def tAM (K : PySem.W.Frag) (f : Ev → Option (List O × Ev)) : TA := fun σ H Q => ∃ M ρ fo fv os ρ1, Rep K M H (ρ ++ fo) (σ ++ fv) ∧ σ.length = ρ.length ∧ f ρ = some (os, ρ1) ∧
  ∀ M' H' vs, Same M M' → Rep K M' H' (ρ1 ++ (os ++ fo)) (σ ++ (vs.map some ++ fv)) → vs.length = os.length → Q vs H'
def stay (f : Ev → Option O) (ρ : Ev) : Option (O × Ev) := (f ρ).map fun o => (o, ρ)
def mv (k : Nat) (ρ : Ev) : Option (O × Ev) := match ρ[k]? with
  | some o => if o.known = true then some (o, ρ.set k .unk) else none
  | none => none
def mNil (ρ : Ev) : Option (List O × Ev) := some ([], ρ)
def mCons (f : Ev → Option (O × Ev)) (g : Ev → Option (List O × Ev)) (ρ : Ev) : Option (List O × Ev) := (f ρ).bind fun p => (g p.2).map fun q => (p.1 :: q.1, q.2)
def mTup (g : Ev → Option (List O × Ev)) (ρ : Ev) : Option (O × Ev) := (g ρ).bind fun p => if p.1.length ≤ sizeLine then some (.tup p.1, p.2) else none
def mLst (g : Ev → Option (List O × Ev)) (ρ : Ev) : Option (O × Ev) := (g ρ).bind fun p => if p.1.length ≤ sizeLine then some (.lst p.1, p.2) else none
section
variable {K : PySem.W.Frag} {M H : Hp}
/-- things become a new list -/
theorem Rep.packL {l os r : List O} {lv rv : List (Option V)} {vs : List V} (R : Rep K M H (l ++ (os ++ r)) (lv ++ (vs.map some ++ rv))) (e : lv.length = l.length) (e2 : vs.length = os.length) {p : Addr} (hp : H p = none) :
    Rep K M (upd H p (.lst vs)) (l ++ .lst os :: r) (lv ++ some (.ref p) :: rv) := by
  have R1 := R.grow (u := .lst vs) hp
  obtain ⟨s, fp, w, nd, nm⟩ := R
  obtain ⟨s1, _, _, _, _⟩ := R1
  have pn : p ∉ fp := fun z => w.dom p z hp
  have w' := w.frame (H' := upd H p (.lst vs)) (Same.refl _) fun a ha => upd_ne fun z => pn (z ▸ ha)
  obtain ⟨fa, fb, e1, wa, wb⟩ := w'.split e
  obtain ⟨fc, fd, e3, wc, wd⟩ := wb.split (by simp [e2])
  subst e1; subst e3
  refine ⟨s1, fa ++ ((p :: fc) ++ fd), wa.append (.cons (.lst upd_same wc) wd), ?_, fun a ha => ?_⟩
  · have pm : (fa ++ ((p :: fc) ++ fd)).Perm (p :: (fa ++ (fc ++ fd))) := by simp only [List.cons_append]; exact List.perm_middle
    rw [pm.nodup_iff]
    exact List.nodup_cons.mpr ⟨pn, nd⟩
  · simp only [List.mem_append, List.mem_cons] at ha
    rcases ha with ha | (rfl | ha) | ha
    · exact nm a (by simp [ha])
    · exact s.free hp
    · exact nm a (by simp [ha])
    · exact nm a (by simp [ha])
theorem Rep.packT {l os r : List O} {lv rv : List (Option V)} {vs : List V} (R : Rep K M H (l ++ (os ++ r)) (lv ++ (vs.map some ++ rv))) (e : lv.length = l.length) (e2 : vs.length = os.length) {p : Addr} (hp : H p = none) :
    Rep K (upd M p (.tup vs)) (upd H p (.tup vs)) (l ++ .tup os :: r) (lv ++ some (.ref p) :: rv) := by
  have R1 := R.growM (u := .tup vs) hp
  obtain ⟨s1, fp, w', nd, nm⟩ := R1
  obtain ⟨fa, fb, e1, wa, wb⟩ := w'.split e
  obtain ⟨fc, fd, e3, wc, wd⟩ := wb.split (by simp [e2])
  subst e1; subst e3
  exact ⟨s1, fa ++ (fc ++ fd), wa.append (.cons (.tup upd_same wc) wd), nd, nm⟩
end
section
variable {X : Cx} {W : WX} {J : List Nat} {pos p : Pos} {e : Expr} {es : List Expr} {f : Ev → Option (O × Ev)} {g : Ev → Option (List O × Ev)}
theorem mO {f : Ev → Option O} (h : PE X e (tO X.K f)) : PE X e (tM X.K (stay f)) := PE.imp h fun σ H Q ⟨M, ρ, fo, fv, o, ρ1, R, l, e, k⟩ => by
  unfold stay at e
  cases q : f ρ with
  | none => rw [q] at e; cases e
  | some o => rw [q] at e; cases e; exact ⟨M, ρ, fo, fv, o, R, l, q, k⟩
theorem mName {k : Nat} {x : Str} (hv : PE X (.Name x p) (tVar k)) : PE X (.Name x p) (tM X.K (mv k)) := PE.imp hv fun σ H Q ⟨M, ρ, fo, fv, o, ρ1, R, l, e, kk⟩ => by
  unfold mv at e
  split at e
  · rename_i o' eo
    split at e
    · rename_i ho
      cases e
      have lf := R.lens l
      have R' : Rep X.K M H (ρ ++ ([] ++ fo)) (σ ++ ([] ++ fv)) := R
      obtain ⟨v, f1, ft, ev, h1, _, _, _, _⟩ := R'.own l rfl eo
      obtain ⟨x', rfl⟩ := h1.known ho
      exact ⟨x', ev, kk M H x' (Same.refl _) ((Rep.pull (l := []) (lv := []) R rfl l lf eo ev).swap (by simp [l]))⟩
    · cases e
  · cases e
theorem mNil' : PA X [] (tAM X.K mNil) := PA.imp pa_nil fun σ H Q ⟨M, ρ, fo, fv, os, ρ1, R, l, e, k⟩ => by
  cases e
  exact k M H [] (Same.refl _) R rfl
theorem mCons' (ha : PE X e (tM X.K f)) (hr : PA X es (tAM X.K g)) (hs : starEach (e :: es) X.env = (false, eval e X.env) :: starEach es X.env := by rfl) : PA X (e :: es) (tAM X.K (mCons f g)) := PA.imp (pa_cons ha hr hs) fun σ H Q ⟨M, ρ, fo, fv, os, ρ1, R, l, e, k⟩ => by
  unfold mCons at e
  cases q : f ρ with
  | none => rw [q] at e; cases e
  | some p1 =>
    rw [q, Option.bind_some] at e
    cases q2 : g p1.2 with
    | none => rw [q2] at e; cases e
    | some p2 =>
      rw [q2] at e
      cases e
      have lf := R.lens l
      refine ⟨M, ρ, fo, fv, p1.1, p1.2, R, l, q, fun M1 H1 v s1 R1 => ?_⟩
      have l1 : σ.length = p1.2.length := by have := R1.length; simp at this; omega
      refine ⟨M1, p1.2, p1.1 :: fo, some v :: fv, p2.1, p2.2, R1, l1, q2, fun M2 H2 vs s2 R2 lv => k M2 H2 (v :: vs) (s1.trans s2) ?_ (by simp [lv])⟩
      have l2 : σ.length = p2.2.length := by have := R2.length; simp at this; omega
      refine R2.perm (by simp [l2, lv, lf]) (by simp [l2, lv, lf]) ?_
      rw [List.zip_append l2.symm, List.zip_append l2.symm]
      refine List.Perm.append_left _ ?_
      rw [List.zip_append (by simp [lv])]
      simp only [List.map_cons, List.cons_append, List.zip_cons_cons]
      rw [List.zip_append (by simp [lv])]
      exact List.perm_middle
theorem mTup' {k : Nat} (h : PA X es (tAM X.K g)) : PE X (.Tuple es k pos) (tM X.K (mTup g)) := PE.imp (pe_tup h) fun σ H Q ⟨M, ρ, fo, fv, o, ρ1, R, l, e, k⟩ => by
  unfold mTup at e
  cases q : g ρ with
  | none => rw [q] at e; cases e
  | some p =>
    rw [q, Option.bind_some] at e
    split at e
    · rename_i hl
      cases e
      have lf := R.lens l
      refine ⟨M, ρ, fo, fv, p.1, p.2, R, l, q, fun M1 H1 vs s1 R1 lv => ⟨by rw [lv]; exact hl, fun a ha => ?_⟩⟩
      have l1 : σ.length = p.2.length := by have := R1.length; simp at this; omega
      exact k _ _ _ (s1.trans (same_updM (R1.same.free ha))) (R1.packT l1 lv ha)
    · cases e
theorem mLst' (h : PA X es (tAM X.K g)) : PE X (.List es pos) (tM X.K (mLst g)) := PE.imp (pe_lst h) fun σ H Q ⟨M, ρ, fo, fv, o, ρ1, R, l, e, k⟩ => by
  unfold mLst at e
  cases q : g ρ with
  | none => rw [q] at e; cases e
  | some p =>
    rw [q, Option.bind_some] at e
    split at e
    · rename_i hl
      cases e
      have lf := R.lens l
      refine ⟨M, ρ, fo, fv, p.1, p.2, R, l, q, fun M1 H1 vs s1 R1 lv => ⟨by rw [lv]; exact hl, fun a ha => ?_⟩⟩
      have l1 : σ.length = p.2.length := by have := R1.length; simp at this; omega
      exact k _ _ _ s1 (R1.packL l1 lv ha)
    · cases e
def rtM (f : Ev → Option (O × Ev)) (ρ : Ev) : Option Fl := (f ρ).map fun p => .rt p.1 p.2
def stM (i : Nat) (f : Ev → Option (O × Ev)) (ρ : Ev) : Option Fl := (f ρ).map fun p => .nx (p.2.set i p.1)
theorem Lk.lens {σ0 : L2.St} {σ : L2.St} {ρ ρ1 : Ev} (l : Lk J σ0 σ ρ) (h : ρ1.length = ρ.length) : Lk J σ0 σ ρ1 := ⟨by rw [l.1, h], l.2⟩
theorem sRetM (h : PE X e (tM X.K f)) : PS X (.Return (some e) pos) (tS X.K W J (rtM f)) := PS.imp (ps_ret h) fun E σ H ⟨M, ρ, fo, fv, r, σ0, R, l, e, k⟩ => by
  unfold rtM at e
  cases q : f ρ with
  | none => rw [q] at e; cases e
  | some p =>
    rw [q] at e
    cases e
    have lf := R.lens l.1
    refine ⟨M, ρ, fo, fv, p.1, p.2, R, l.1, q, fun M1 H1 v s1 R1 => ?_⟩
    have l1 : p.2.length = ρ.length := by have a := R1.length; have b := l.1; simp at a; omega
    exact k M1 H1 σ v s1 R1 (l.lens l1)
theorem sSetM {i : Nat} {x : Str} {pos' : Pos} (hN : X.N.Nodup) (he : PE X e (tM X.K f)) (hJ : i ∉ J := by decide) (hi : X.N[i]? = some x := by rfl) (hx : Loc X.env.scope x := by first | exact Or.inl rfl | exact Or.inr rfl) (hs : swapsWith e (some (.Name x pos')) pos.line X.env = pure false := by rfl)
    (hf : X.fn x = true ∨ X.env.scope.names.lookup x = some .local := by first | exact .inl rfl | exact .inr rfl) : PS X (.Assign [.Name x pos'] e pos) (tS X.K W J (stM i f)) := PS.imp (ps_set (i := i) hN hi hx he hs hf) fun E σ H ⟨M, ρ, fo, fv, r, σ0, R, l, e, k⟩ => by
  unfold stM at e
  cases q : f ρ with
  | none => rw [q] at e; cases e
  | some p =>
    rw [q] at e
    cases e
    have lf := R.lens l.1
    refine ⟨M, ρ, fo, fv, p.1, p.2, R, l.1, q, fun M1 H1 v s1 R1 => ?_⟩
    have l1 : p.2.length = ρ.length := by have a := R1.length; have b := l.1; simp at a; omega
    exact k M1 H1 _ s1 (R1.into (by rw [l.1, l1])) ((l.lens l1).set hJ _ _)
end

/-! ### defs that give new things, called -/
def cO' (ga : Ev → Option (List D)) (n : Nat) (m : List D → Option O) (ρ : Ev) : Option O := (ga ρ).bind fun ds => if ds.length = n then m ds else none
section
variable {X : Cx} {k n : Nat} {f : Addr} {fd : FuncData} {ps : List Str} {x : Str} {p pos : Pos} {e : Expr} {es : List Expr} {ga : Ev → Option (List D)}
theorem tCall_O {K : PySem.W.Frag} {m : List D → Option O} {σ : L2.St} {H : Hp} {Q : VK} (h : tO K (cO' ga n m) σ H Q) : tCall (spO K n m) [] E0 (tAr K ga) σ H Q := by
  obtain ⟨M, ρ, fo, fv, o, R, l, e, kk⟩ := h
  unfold cO' at e
  cases q : ga ρ with
  | none => rw [q] at e; cases e
  | some ds =>
    rw [q, Option.bind_some] at e
    split at e
    · rename_i hl
      have lf := R.lens l
      refine ⟨M, ρ, fo, fv, ds, R, l, q, fun M1 H1 vs s1 R1 d1 => ⟨by simp [d1.length, hl], M1, ρ ++ fo, σ ++ fv, ds, o, R1, by simpa using d1, e, fun M2 H2 v s2 R2 => kk M2 H2 v (s1.trans s2) (R2.swap l)⟩⟩
    · cases e
theorem oCall {m : List D → Option O} (F : FnOk X.prog X.w X.K X.mg X.base CX0 k f fd ps (spO X.K n m)) (hr : Room k X.A) (hm : X.mg x = some (.ref f)) (hk : PySem.W.keepIn X.K (.ref f) = true) (hb : Binds X.K fd ps []) (ha : PA X (e :: es) (tAr X.K ga)) (hg : Gl X x := by rfl)
    (hdb : (x == ("__debug__" : Str)) = false := by decide) (he : starEach (e :: es) X.env = (false, eval e X.env) :: starEach es X.env := by rfl) (hpl : (backTo pos (starEach es X.env)).any (·.1) = false := by rfl) : PE X (.Call (.Name x p) (e :: es) [] pos) (tO X.K (cO' ga n m)) :=
  PE.imp (pe_call (E := E0) F hr hg hm hk hb .nil pass0 ha hdb he hpl) fun _ _ _ h => tCall_O h
end
end PD

namespace PD
open PySem PySem.Spec L2

/-! ### places inside own things -/
def kidV (H : Hp) (v : V) (k : Nat) : Option V := match v with
  | .ref a => match H a with
    | some (.lst xs) => xs[k]?
    | some (.tup xs) => xs[k]?
    | some (.dK kvs) => (kvs.map (·.2))[k]?
    | some (.ins _ _ fs) => (fs.map (·.2))[k]?
    | _ => none
  | _ => none
def atV (H : Hp) : V → List Nat → Option V
  | v, [] => some v
  | v, k :: p => (kidV H v k).bind fun u => atV H u p
def O.kid (o : O) (k : Nat) : Option O := match o with
  | .lst os => os[k]?
  | .tup os => os[k]?
  | .dic _ os => os[k]?
  | .obj _ _ os => os[k]?
  | _ => none
def O.setKid (o : O) (k : Nat) (y : O) : O := match o with
  | .lst os => .lst (os.set k y)
  | .tup os => .tup (os.set k y)
  | .dic ks os => .dic ks (os.set k y)
  | .obj C ks os => .obj C ks (os.set k y)
  | o => o
def O.sub : O → List Nat → Option O
  | o, [] => some o
  | o, k :: p => (o.kid k).bind fun o1 => o1.sub p
def O.put : O → List Nat → O → O
  | _, [], y => y
  | o, k :: p, y => match o.kid k with
    | some o1 => o.setKid k (o1.put p y)
    | none => o
section
variable {K : PySem.W.Frag} {M H : Hp}
theorem sub_known : ∀ {p : List Nat} {o o' : O}, o.sub p = some o' → o'.known = true → o.known = true
  | [], o, o', e, h => by cases e; exact h
  | k :: p, o, o', e, h => by
    unfold O.sub at e
    cases o with
    | unk => cases e
    | _ => rfl
/-- one step down -/
theorem Ow.kid {o o1 : O} {v : V} {f : List Addr} {k : Nat} (w : Ow K M H o (some v) f) (s : Same M H) (nd : f.Nodup) (e : o.kid k = some o1) (h : o1.known = true) :
    ∃ v1 f1, kidV H v k = some v1 ∧ Ow K M H o1 (some v1) f1 ∧ (∀ b, f1.count b ≤ f.count b) ∧ ∀ (M' H' : Hp) (y : O) (f2 : List Addr), Same M M' → Same M' H' → (∀ b ∈ f, b ∉ f1 → H' b = H b) → Ow K M' H' y (some v1) f2 →
      ∃ g, Ow K M' H' (o.setKid k y) (some v) g ∧ ∀ b, g.count b + f1.count b = f.count b + f2.count b := by
  rw [List.nodup_iff_count] at nd
  cases w with
  | unk => cases e
  | raw _ _ => cases e
  | dat _ => cases e
  | lst ha ws =>
    rename_i a xs os fp
    obtain ⟨v', fa, f1, fb, ev, ef, h1, up⟩ := ws.at_ e
    obtain ⟨x, rfl⟩ := h1.known h
    have hx : xs[k]? = some x := by rw [List.getElem?_map] at ev; cases q : xs[k]? with | none => rw [q] at ev; cases ev | some z => rw [q] at ev; cases ev; rfl
    refine ⟨x, f1, ?_, h1, fun b => by rw [ef]; simp only [List.count_cons, List.count_append]; omega, fun M' H' y f2 s1 s2 kk hy => ?_⟩
    · unfold kidV; simp only [ha]; exact hx
    have na : a ∉ f1 := fun z => by
      have := nd a
      have c := List.count_pos_iff.mpr z
      rw [ef] at this
      simp only [List.count_cons, List.count_append, beq_self_eq_true, if_true] at this
      omega
    have out : ∀ b ∈ fa ++ fb, H' b = H b := fun b hb => kk b (by rw [ef]; rcases List.mem_append.mp hb with hb | hb <;> simp [hb]) fun z => by
      have := nd b
      have c := List.count_pos_iff.mpr z
      have c2 := List.count_pos_iff.mpr hb
      rw [ef] at this
      simp only [List.count_cons, List.count_append] at this c2
      omega
    exact ⟨_, .lst ((kk a List.mem_cons_self na).trans ha) (up s1 out hy), fun b => by rw [ef]; simp only [List.count_cons, List.count_append]; omega⟩
  | tup ha ws =>
    rename_i a xs os
    obtain ⟨v', fa, f1, fb, ev, ef, h1, up⟩ := ws.at_ e
    obtain ⟨x, rfl⟩ := h1.known h
    have hx : xs[k]? = some x := by rw [List.getElem?_map] at ev; cases q : xs[k]? with | none => rw [q] at ev; cases ev | some z => rw [q] at ev; cases ev; rfl
    refine ⟨x, f1, ?_, h1, fun b => by rw [ef]; simp only [List.count_append]; omega, fun M' H' y f2 s1 s2 kk hy => ?_⟩
    · unfold kidV; simp only [s _ _ ha]; exact hx
    have out : ∀ b ∈ fa ++ fb, H' b = H b := fun b hb => kk b (by rw [ef]; rcases List.mem_append.mp hb with hb | hb <;> simp [hb]) fun z => by
      have := nd b
      have c := List.count_pos_iff.mpr z
      have c2 := List.count_pos_iff.mpr hb
      rw [ef] at this
      simp only [List.count_append] at this c2
      omega
    exact ⟨_, .tup (s1 _ _ ha) (up s1 out hy), fun b => by rw [ef]; simp only [List.count_append]; omega⟩
  | dic ha hk ws =>
    rename_i a kvs ks os fp
    obtain ⟨v', fa, f1, fb, ev, ef, h1, up⟩ := ws.at_ e
    obtain ⟨x, rfl⟩ := h1.known h
    have hx : (kvs.map (·.2))[k]? = some x := by rw [List.getElem?_map] at ev ⊢; cases q : kvs[k]? with | none => rw [q] at ev; cases ev | some z => rw [q] at ev; cases ev; rfl
    refine ⟨x, f1, ?_, h1, fun b => by rw [ef]; simp only [List.count_cons, List.count_append]; omega, fun M' H' y f2 s1 s2 kk hy => ?_⟩
    · unfold kidV; simp only [ha]; exact hx
    have na : a ∉ f1 := fun z => by
      have := nd a
      have c := List.count_pos_iff.mpr z
      rw [ef] at this
      simp only [List.count_cons, List.count_append, beq_self_eq_true, if_true] at this
      omega
    have out : ∀ b ∈ fa ++ fb, H' b = H b := fun b hb => kk b (by rw [ef]; rcases List.mem_append.mp hb with hb | hb <;> simp [hb]) fun z => by
      have := nd b
      have c := List.count_pos_iff.mpr z
      have c2 := List.count_pos_iff.mpr hb
      rw [ef] at this
      simp only [List.count_cons, List.count_append] at this c2
      omega
    exact ⟨_, .dic ((kk a List.mem_cons_self na).trans ha) hk (up s1 out hy), fun b => by rw [ef]; simp only [List.count_cons, List.count_append]; omega⟩
  | obj ha hd hk ws =>
    rename_i a C dx kvs ks os fp
    obtain ⟨v', fa, f1, fb, ev, ef, h1, up⟩ := ws.at_ e
    obtain ⟨x, rfl⟩ := h1.known h
    have hx : (kvs.map (·.2))[k]? = some x := by rw [List.getElem?_map] at ev ⊢; cases q : kvs[k]? with | none => rw [q] at ev; cases ev | some z => rw [q] at ev; cases ev; rfl
    refine ⟨x, f1, ?_, h1, fun b => by rw [ef]; simp only [List.count_cons, List.count_append]; omega, fun M' H' y f2 s1 s2 kk hy => ?_⟩
    · unfold kidV; simp only [ha]; exact hx
    have na : a ∉ f1 ∧ dx ∉ f1 := by
      constructor
      · intro z
        have := nd a
        have c := List.count_pos_iff.mpr z
        rw [ef] at this
        simp only [List.count_cons, List.count_append, beq_self_eq_true, if_true] at this
        omega
      · intro z
        have := nd dx
        have c := List.count_pos_iff.mpr z
        rw [ef] at this
        simp only [List.count_cons, List.count_append, beq_self_eq_true, if_true] at this
        omega
    have out : ∀ b ∈ fa ++ fb, H' b = H b := fun b hb => kk b (by rw [ef]; rcases List.mem_append.mp hb with hb | hb <;> simp [hb]) fun z => by
      have := nd b
      have c := List.count_pos_iff.mpr z
      have c2 := List.count_pos_iff.mpr hb
      rw [ef] at this
      simp only [List.count_cons, List.count_append] at this c2
      omega
    exact ⟨_, .obj ((kk a (by simp) na.1).trans ha) ((kk dx (by simp) na.2).trans hd) hk (up s1 out hy), fun b => by rw [ef]; simp only [List.count_cons, List.count_append]; omega⟩
theorem nodup_le {f1 f : List Addr} (h : ∀ b, f1.count b ≤ f.count b) (nd : f.Nodup) : f1.Nodup := by
  rw [List.nodup_iff_count] at nd ⊢
  exact fun b => Nat.le_trans (h b) (nd b)
theorem Ow.sub : ∀ (p : List Nat) {o o' : O} {v : V} {f : List Addr}, Ow K M H o (some v) f → Same M H → f.Nodup → o.sub p = some o' → o'.known = true →
    ∃ v1 f1, atV H v p = some v1 ∧ Ow K M H o' (some v1) f1 ∧ (∀ b, f1.count b ≤ f.count b) ∧ ∀ (M' H' : Hp) (y : O) (f2 : List Addr), Same M M' → Same M' H' → (∀ b ∈ f, b ∉ f1 → H' b = H b) → Ow K M' H' y (some v1) f2 →
      ∃ g, Ow K M' H' (o.put p y) (some v) g ∧ ∀ b, g.count b + f1.count b = f.count b + f2.count b
  | [], o, o', v, f, w, s, nd, e, h => by
    cases e
    exact ⟨v, f, rfl, w, fun b => Nat.le_refl _, fun M' H' y f2 s1 s2 kk hy => ⟨f2, hy, fun b => Nat.add_comm _ _⟩⟩
  | k :: p, o, o', v, f, w, s, nd, e, h => by
    unfold O.sub at e
    cases q : o.kid k with
    | none => rw [q] at e; cases e
    | some o1 =>
      rw [q, Option.bind_some] at e
      obtain ⟨v1, f1, ev, h1, c1, up1⟩ := w.kid s nd q (sub_known e h)
      obtain ⟨v2, f2, ev2, h2, c2, up2⟩ := Ow.sub p h1 s (nodup_le c1 nd) e h
      refine ⟨v2, f2, ?_, h2, fun b => Nat.le_trans (c2 b) (c1 b), fun M' H' y f3 s1 s2 kk hy => ?_⟩
      · unfold atV; rw [ev]; exact ev2
      obtain ⟨g1, w1, d1⟩ := up2 M' H' y f3 s1 s2 (fun b hb hn => kk b (List.count_pos_iff.mp (Nat.lt_of_lt_of_le (List.count_pos_iff.mpr hb) (c1 b))) hn) hy
      obtain ⟨g2, w2, d2⟩ := up1 M' H' _ g1 s1 s2 (fun b hb hn => kk b hb fun z => hn (List.count_pos_iff.mp (Nat.lt_of_lt_of_le (List.count_pos_iff.mpr z) (c2 b)))) w1
      refine ⟨g2, ?_, fun b => by have a1 := d1 b; have a2 := d2 b; omega⟩
      unfold O.put
      rw [q]
      exact w2
theorem atV_frame {H' : Hp} : ∀ (p : List Nat) {o o' : O} {v : V} {f : List Addr}, Ow K M H o (some v) f → Same M H → Same M H' → f.Nodup → (∀ a ∈ f, H' a = H a) → o.sub p = some o' → o'.known = true → atV H' v p = atV H v p
  | [], _, _, _, _, _, _, _, _, _, _, _ => rfl
  | k :: p, o, o', v, f, w, s, s', nd, kk, e, h => by
    unfold O.sub at e
    cases q : o.kid k with
    | none => rw [q] at e; cases e
    | some o1 =>
      rw [q, Option.bind_some] at e
      obtain ⟨v1, f1, ev, h1, c1, _⟩ := w.kid s nd q (sub_known e h)
      have w' : Ow K M H' o (some v) f := w.frame (Same.refl _) kk
      have e1 : kidV H' v k = kidV H v k := by
        cases w with
        | unk => cases q
        | raw _ _ => cases q
        | dat _ => cases q
        | lst ha _ => unfold kidV; simp only [ha, kk _ List.mem_cons_self]
        | tup ha _ => unfold kidV; simp only [s _ _ ha, s' _ _ ha]
        | dic ha _ _ => unfold kidV; simp only [ha, kk _ List.mem_cons_self]
        | obj ha _ _ _ => unfold kidV; simp only [ha, kk _ List.mem_cons_self]
      unfold atV
      rw [e1, ev]
      exact atV_frame p h1 s s' (nodup_le c1 nd) (fun a ha => kk a (List.count_pos_iff.mp (Nat.lt_of_lt_of_le (List.count_pos_iff.mpr ha) (c1 a)))) e h
/-- the thing at a place, and temporaries that may go into it -/
theorem Rep.place {ρ tmp fo : List O} {σ tv fv : List (Option V)} (R : Rep K M H (ρ ++ (tmp ++ fo)) (σ ++ (tv ++ fv))) (l : σ.length = ρ.length) (lt : tv.length = tmp.length) {i : Nat} {o o' : O} {p : List Nat} (e : ρ[i]? = some o) (ep : o.sub p = some o') (hk : o'.known = true) :
    ∃ v0 v f ft, σ[i]? = some (some v0) ∧ atV H v0 p = some v ∧ Ow K M H o' (some v) f ∧ Ows K M H tmp tv ft ∧ (f ++ ft).Nodup ∧ (∀ b ∈ f ++ ft, M b = none) ∧
      ∀ (M' H' : Hp) (y : O) (f' : List Addr), Same M M' → Same M' H' → (∀ b, b ∉ f → H b ≠ none → H' b = H b) → Ow K M' H' y (some v) f' → (∀ b, f'.count b ≤ f.count b + ft.count b) → (∀ b, M b = none → H b ≠ none → M' b = none) → Rep K M' H' (ρ.set i (o.put p y) ++ fo) (σ ++ fv) := by
  obtain ⟨v0', f0, ft, ev, h0, h2, nd, nm, up⟩ := R.own l lt e
  obtain ⟨v0, rfl⟩ := h0.known (sub_known ep hk)
  obtain ⟨v, f, ea, h1, c1, up1⟩ := Ow.sub p h0 R.same (nd.sublist (List.sublist_append_left _ _)) ep hk
  have sub : ∀ b, b ∈ f → b ∈ f0 := fun b hb => List.count_pos_iff.mp (Nat.lt_of_lt_of_le (List.count_pos_iff.mpr hb) (c1 b))
  refine ⟨v0, v, f, ft, ev, ea, h1, h2, ?_, fun b hb => nm b ?_, fun M' H' y f' s1 s2 kk hy hc hM => ?_⟩
  · rw [List.nodup_iff_count] at nd ⊢
    intro b
    have a1 := nd b
    have a2 := c1 b
    simp only [List.count_append] at a1 ⊢
    omega
  · rcases List.mem_append.mp hb with hb | hb
    · simp [sub b hb]
    · simp [hb]
  obtain ⟨g, w, cg⟩ := up1 M' H' y f' s1 s2 (fun b hb hn => kk b hn (h0.dom b hb)) hy
  exact up M' H' _ g s1 s2 (fun b hb hn => kk b (fun z => hb (sub b z)) hn) w (fun b => by have a1 := cg b; have a2 := hc b; omega) hM
/-- looked at, with what stays -/
theorem Rep.look2 {ρ fo : List O} {σ fv : List (Option V)} (R : Rep K M H (ρ ++ fo) (σ ++ fv)) (l : σ.length = ρ.length) {i : Nat} {o o' : O} {p : List Nat} {v0 v : V} (e : ρ[i]? = some o) (ep : o.sub p = some o') (hk : o'.known = true) (e0 : σ[i]? = some (some v0)) (ev : atV H v0 p = some v) :
    ∃ Ma, Same M Ma ∧ Rep K Ma H (ρ.map O.vw ++ []) (σ ++ []) ∧
      (∀ M2 H', Same Ma M2 → Same M2 H' → ∃ M3, Same M M3 ∧ Rep K M3 H' (ρ ++ fo) (σ ++ fv) ∧ atV H' v0 p = some v ∧ ∀ v d, Dv K M2 v d → immD d = true → Dv K M3 v d) ∧
      (∀ M2 H' z u, Same Ma M2 → Rep K M2 H' (ρ.map O.vw ++ [z]) (σ ++ [u]) → immO z = true → ∃ M3, Same M M3 ∧ Rep K M3 H' (ρ ++ z :: fo) (σ ++ u :: fv) ∧ atV H' v0 p = some v) := by
  have R0 : Rep K M H (ρ ++ ([] ++ fo)) (σ ++ ([] ++ fv)) := R
  obtain ⟨v0', f0, ft, e1, h0, _, nd, nm, _⟩ := R0.own l rfl e
  rw [e1] at e0
  cases e0
  have nd0 : f0.Nodup := nd.sublist (List.sublist_append_left _ _)
  obtain ⟨Ma, s1, R1, b1, b2, b3⟩ := R.look l
  have hMa : ∀ a ∈ f0, Ma a = H a := b3 i o _ f0 e e1 h0
  have keep : ∀ M2 H' : Hp, Same Ma M2 → Same M2 H' → atV H' v0 p = some v := fun M2 H' k1 k2 => by
    rw [atV_frame (H := H) (H' := H') p h0 R.same (s1.trans (k1.trans k2)) nd0 (fun a ha => ?_) ep hk]
    · exact ev
    · have h := h0.dom a ha
      cases q : H a with
      | none => exact absurd q h
      | some u => exact k2 _ _ (k1 _ _ ((hMa a ha).trans q))
  refine ⟨Ma, s1, R1, fun M2 H' k1 k2 => ?_, fun M2 H' z u k1 R2 iz => ?_⟩
  · obtain ⟨M3, a1, a2, a3⟩ := b1 M2 H' k1 k2
    exact ⟨M3, a1, a2, keep M2 H' k1 k2, a3⟩
  · obtain ⟨M3, a1, a2⟩ := b2 M2 H' z u k1 R2 iz
    exact ⟨M3, a1, a2, keep M2 H' k1 R2.same⟩
end

theorem sub_snoc : ∀ (p : List Nat) (o : O) (k : Nat), o.sub (p ++ [k]) = (o.sub p).bind fun z => z.kid k
  | [], o, k => by
    show (o.kid k).bind (fun o1 => some o1) = o.kid k
    cases o.kid k <;> rfl
  | j :: p, o, k => by
    show (o.kid j).bind (fun o1 => o1.sub (p ++ [k])) = ((o.kid j).bind fun o1 => o1.sub p).bind _
    cases o.kid j with
    | none => rfl
    | some o1 => exact sub_snoc p o1 k
theorem atV_snoc (H : Hp) : ∀ (p : List Nat) (v : V) (k : Nat), atV H v (p ++ [k]) = (atV H v p).bind fun z => kidV H z k
  | [], v, k => by
    show (kidV H v k).bind (fun o1 => some o1) = kidV H v k
    cases kidV H v k <;> rfl
  | j :: p, v, k => by
    show (kidV H v j).bind (fun o1 => atV H o1 (p ++ [k])) = ((kidV H v j).bind fun o1 => atV H o1 p).bind _
    cases kidV H v j with
    | none => rfl
    | some o1 => exact atV_snoc H p o1 k
/-- what stands at a place of slot i -/
def onSub (i : Nat) (p : List Nat) (ρ : Ev) : Option O := (ρ[i]?).bind fun o => o.sub p
def tPl (K : PySem.W.Frag) (i : Nat) (pf : Ev → Option (List Nat)) : TE := fun σ H Q => ∃ M ρ fo fv p, Rep K M H (ρ ++ fo) (σ ++ fv) ∧ σ.length = ρ.length ∧ pf ρ = some p ∧ (∃ o', onSub i p ρ = some o' ∧ o'.known = true) ∧
  ∀ M' H' v0 v, Same M M' → Rep K M' H' (ρ ++ fo) (σ ++ fv) → σ[i]? = some (some v0) → atV H' v0 p = some v → Q v H'
theorem onSub_some {i : Nat} {p : List Nat} {ρ : Ev} {o' : O} (h : onSub i p ρ = some o') : ∃ o, ρ[i]? = some o ∧ o.sub p = some o' := by
  unfold onSub at h
  cases q : ρ[i]? with
  | none => rw [q] at h; cases h
  | some o => rw [q] at h; exact ⟨o, rfl, h⟩
def plN (_ : Ev) : Option (List Nat) := some []
def plI (i : Nat) (pf : Ev → Option (List Nat)) (fb : Ev → Option D) (ρ : Ev) : Option (List Nat) := (pf ρ).bind fun p => match onSub i p ρ, fb (ρ.map O.vw) with
  | some (.lst os), some (.int n) => (ixN os.length n).bind fun k => if (os.getD k .unk).known = true then some (p ++ [k]) else none
  | some (.tup os), some (.int n) => (ixN os.length n).bind fun k => if (os.getD k .unk).known = true then some (p ++ [k]) else none
  | _, _ => none
theorem ows_getV {K : PySem.W.Frag} {M H : Hp} {os : List O} {xs : List V} {f : List Addr} (w : Ows K M H os (xs.map some) f) {k : Nat} (hk : k < os.length) : ∃ v, xs[k]? = some v := by
  have := w.length
  simp at this
  exact ⟨xs[k], List.getElem?_eq_getElem (by omega)⟩
section
variable {X : Cx} {W : WX} {J : List Nat} {pos p apos cpos : Pos} {a b e : Expr} {i : Nat} {pf : Ev → Option (List Nat)} {fb g : Ev → Option D} {f : Ev → Option O}
theorem plName {x : Str} (hv : PE X (.Name x p) (tVar i)) : PE X (.Name x p) (tPl X.K i plN) := PE.imp hv fun σ H Q ⟨M, ρ, fo, fv, pt, R, l, e, ⟨o', eo, ho⟩, k⟩ => by
  cases e
  obtain ⟨o, e1, e2⟩ := onSub_some eo
  have R' : Rep X.K M H (ρ ++ ([] ++ fo)) (σ ++ ([] ++ fv)) := R
  obtain ⟨v0, v, f, ft, ev, ea, _⟩ := R'.place l rfl e1 e2 ho
  cases ea
  exact ⟨v0, ev, k M H v0 v0 (Same.refl _) R ev rfl⟩
theorem plIx (ha : PE X a (tPl X.K i pf)) (hb : PE X b (tP X.K fb)) (hs : PlainIx b := by exact fun _ _ => rfl) : PE X (.Subscript a b pos) (tPl X.K i (plI i pf fb)) := PE.imp (pe_ix (IxR.or ix_list ix_tup) ha hb hs) fun σ H Q ⟨M, ρ, fo, fv, pt, R, l, e, ⟨o', eo, ho⟩, k⟩ => by
  unfold plI at e
  cases q : pf ρ with
  | none => rw [q] at e; cases e
  | some p0 =>
    rw [q, Option.bind_some] at e
    split at e
    · rename_i os n eo1 en
      cases q2 : ixN os.length n with
      | none => rw [q2] at e; cases e
      | some j =>
        rw [q2, Option.bind_some] at e
        split at e
        · rename_i hkn
          cases e
          refine ⟨M, ρ, fo, fv, p0, R, l, q, ⟨_, eo1, rfl⟩, fun M1 H1 v0 v s1 R1 e0 ev => ?_⟩
          obtain ⟨o, e1, e2⟩ := onSub_some eo1
          obtain ⟨Ma, t1, Ra, back, _⟩ := R1.look2 l e1 e2 rfl e0 ev
          refine ⟨Ma, ρ.map O.vw, [], [], _, Ra, by simpa using l, en, fun M2 H2 y s2 R2 d2 => ?_⟩
          cases d2
          obtain ⟨M3, s3, R3, ev3, _⟩ := back M2 H2 s2 R2.same
          have R3' : Rep X.K M3 H2 (ρ ++ ([] ++ fo)) (σ ++ ([] ++ fv)) := R3
          obtain ⟨w0, w, f, ft, ew, ea, h1, _⟩ := R3'.place l rfl e1 e2 rfl
          rw [e0] at ew; cases ew
          rw [ev3] at ea; cases ea
          cases h1 with
          | @lst ad xs _ fp hA ws =>
            have hj := (ixN_seq q2).2.1
            obtain ⟨v1, hv1⟩ := ows_getV ws hj
            have hl : xs.length = os.length := by simpa using ws.length
            refine .inl ⟨ad, xs, n, v1, rfl, rfl, SqL.of hA, by unfold atI; rw [hl, q2]; exact hv1, k M3 H2 v0 v1 (s1.trans s3) R3 e0 ?_⟩
            rw [atV_snoc, ev3]
            show kidV H2 (.ref ad) j = some v1
            unfold kidV
            simp only [hA]
            exact hv1
        · cases e
    · rename_i os n eo1 en
      cases q2 : ixN os.length n with
      | none => rw [q2] at e; cases e
      | some j =>
        rw [q2, Option.bind_some] at e
        split at e
        · rename_i hkn
          cases e
          refine ⟨M, ρ, fo, fv, p0, R, l, q, ⟨_, eo1, rfl⟩, fun M1 H1 v0 v s1 R1 e0 ev => ?_⟩
          obtain ⟨o, e1, e2⟩ := onSub_some eo1
          obtain ⟨Ma, t1, Ra, back, _⟩ := R1.look2 l e1 e2 rfl e0 ev
          refine ⟨Ma, ρ.map O.vw, [], [], _, Ra, by simpa using l, en, fun M2 H2 y s2 R2 d2 => ?_⟩
          cases d2
          obtain ⟨M3, s3, R3, ev3, _⟩ := back M2 H2 s2 R2.same
          have R3' : Rep X.K M3 H2 (ρ ++ ([] ++ fo)) (σ ++ ([] ++ fv)) := R3
          obtain ⟨w0, w, f, ft, ew, ea, h1, _⟩ := R3'.place l rfl e1 e2 rfl
          rw [e0] at ew; cases ew
          rw [ev3] at ea; cases ea
          cases h1 with
          | @tup ad xs _ _ hA ws =>
            have hj := (ixN_seq q2).2.1
            obtain ⟨v1, hv1⟩ := ows_getV ws hj
            have hl : xs.length = os.length := by simpa using ws.length
            have hH := R3.same _ _ hA
            refine .inr ⟨ad, xs, n, v1, rfl, rfl, SqT.of hH, by unfold atI; rw [hl, q2]; exact hv1, k M3 H2 v0 v1 (s1.trans s3) R3 e0 ?_⟩
            rw [atV_snoc, ev3]
            show kidV H2 (.ref ad) j = some v1
            unfold kidV
            simp only [hH]
            exact hv1
        · cases e
    · cases e
/-- a list in a place is changed -/
theorem Rep.putL {K : PySem.W.Frag} {M H : Hp} {ρ tmp fo : List O} {σ tv fv : List (Option V)} (R : Rep K M H (ρ ++ (tmp ++ fo)) (σ ++ (tv ++ fv))) (l : σ.length = ρ.length) (lt : tv.length = tmp.length) {i : Nat} {o : O} {p : List Nat} {os : List O} {v0 : V} {ad : V} (e : ρ[i]? = some o) (ep : o.sub p = some (.lst os)) (e0 : σ[i]? = some (some v0)) (ev : atV H v0 p = some ad) :
    ∃ a xs f ft, ad = .ref a ∧ H a = some (.lst xs) ∧ Ows K M H os (xs.map some) f ∧ Ows K M H tmp tv ft ∧ a ∉ f ∧ a ∉ ft ∧ M a = none ∧ ∀ ys os' f', Ows K M (upd H a (.lst ys)) os' (ys.map some) f' → (∀ b, f'.count b ≤ f.count b + ft.count b) →
      Rep K M (upd H a (.lst ys)) (ρ.set i (o.put p (.lst os')) ++ fo) (σ ++ fv) := by
  obtain ⟨w0, w, f, ft, ew, ea, h1, h2, nd, nm, up⟩ := R.place l lt e ep rfl
  rw [e0] at ew; cases ew
  rw [ev] at ea; cases ea
  cases h1 with
  | lst hA ws =>
    rename_i a xs fp
    have nd' := nd
    rw [List.nodup_iff_count] at nd'
    have na := nd' a
    simp only [List.count_append, List.count_cons, beq_self_eq_true, if_true] at na
    have n1 : a ∉ fp := fun z => by have := List.count_pos_iff.mpr z; omega
    have n2 : a ∉ ft := fun z => by have := List.count_pos_iff.mpr z; omega
    have mA : M a = none := nm a (by simp)
    have sm : ∀ ys, Same M (upd H a (.lst ys)) := fun ys b u q => by
      rw [upd_ne (fun z => by subst z; rw [mA] at q; cases q)]; exact R.same b u q
    refine ⟨a, xs, fp, ft, rfl, hA, ws, h2, n1, n2, mA, fun ys os' f' w' hc => up M _ _ (a :: f') (Same.refl _) (sm ys) (fun b hb _ => upd_ne fun z => hb (by simp [z])) (.lst upd_same w') (fun b => ?_) fun b hb _ => hb⟩
    have := hc b
    simp only [List.count_cons]; omega
def appP (i : Nat) (pf : Ev → Option (List Nat)) (f : Ev → Option O) (ρ : Ev) : Option Fl := (pf ρ).bind fun p => match onSub i p ρ with
  | some (.lst os) => (vwO f ρ).bind fun y => if os.length < sizeLine then some (.nx (ρ.set i ((ρ.getD i .unk).put p (.lst (os ++ [y]))))) else none
  | _ => none
theorem vwO_some {f : Ev → Option O} {ρ : Ev} {y : O} (h : vwO f ρ = some y) : f (ρ.map O.vw) = some y ∧ immO y = true := by
  unfold vwO at h
  cases q : f (ρ.map O.vw) with
  | none => rw [q] at h; cases h
  | some d =>
    rw [q, Option.bind_some] at h
    split at h
    · cases h; exact ⟨rfl, by assumption⟩
    · cases h
theorem getD_of {ρ : Ev} {o : O} (h : ρ[i]? = some o) : ρ.getD i .unk = o := by rw [List.getD_eq_getElem?_getD, h]; rfl
theorem sAppP (hp : PE X b (tPl X.K i pf)) (he : PE X e (tO X.K f)) (hbase : attributeBase b "append" X.env (eval b X.env) = eval b X.env := by rfl)
    (hfew : ((backTo cpos (starEach [e] X.env)).all (fun x => !x.1) && (backToKw cpos (keywordEach [] X.env)).all (fun x => x.1.isSome)
      && decide ([e].length + ([] : List Keyword).length + (if ([] : List Keyword).isEmpty then 0 else 1) < 30)) = true := by rfl)
    (hline : (apos.endLine == cpos.line) = true := by rfl) (hs : starEach [e] X.env = (false, eval e X.env) :: starEach [] X.env := by rfl) (hplain : (backTo cpos (starEach [] X.env)).any (·.1) = false := by rfl)
    (hsw : swapsWith (.Call (.Attribute b "append" apos) [e] [] cpos) none pos.line X.env = pure false := by rfl) :
    PS X (.Expr (.Call (.Attribute b "append" apos) [e] [] cpos) pos) (tS X.K W J (appP i pf f)) :=
  PS.imp (ps_expr (pe_bm PySem.F.plainAttrs_list PySem.F.slot_list_append PySem.F.type_list_append mt_append hp (pa_cons he pa_nil hs) hbase hfew hline hs hplain) hsw) fun E σ H ⟨M, ρ, fo, fv, r, σ0, R, l, e, k⟩ => by
    unfold appP at e
    cases q : pf ρ with
    | none => rw [q] at e; cases e
    | some p0 =>
      rw [q, Option.bind_some] at e
      split at e
      · rename_i os eo
        cases q2 : vwO f ρ with
        | none => rw [q2] at e; cases e
        | some y =>
          rw [q2, Option.bind_some] at e
          split at e
          · rename_i hlen
            cases e
            obtain ⟨q3, im⟩ := vwO_some q2
            refine ⟨M, ρ, fo, fv, p0, R, l.1, q, ⟨_, eo, rfl⟩, fun M1 H1 v0 v s1 R1 e0 ev => ?_⟩
            obtain ⟨o, e1, e2⟩ := onSub_some eo
            have R1' : Rep X.K M1 H1 (ρ ++ ([] ++ fo)) (σ ++ ([] ++ fv)) := R1
            obtain ⟨a1, xs1, _, _, rfl, hA1, _⟩ := R1'.putL l.1 rfl e1 e2 e0 ev
            obtain ⟨Ma, t1, Ra, _, back⟩ := R1.look2 l.1 e1 e2 rfl e0 ev
            refine ⟨.inl ⟨rfl, _, .inl (.inl hA1)⟩, Ma, ρ.map O.vw, [], [], y, Ra, by simpa using l.1, q3, fun M2 H2 u s2 R2 => ?_⟩
            obtain ⟨M3, s3, R3, ev3⟩ := back M2 H2 _ _ s2 R2 im
            have R3' : Rep X.K M3 H2 (ρ ++ ([y] ++ fo)) (σ ++ ([some u] ++ fv)) := R3
            obtain ⟨a2, xs, f1, ft, ea, hA, ws, wt, n1, n2, mA, up⟩ := R3'.putL l.1 rfl e1 e2 e0 ev3
            cases ea
            have hl : xs.length = os.length := by simpa using ws.length
            refine ⟨a1, xs, u, rfl, rfl, hA, by omega, ?_⟩
            rw [getD_of e1] at k
            refine k M3 _ σ (s1.trans s3) (up (xs ++ [u]) (os ++ [y]) (f1 ++ ft) ?_ fun b => by rw [List.count_append]; exact Nat.le_refl _) (l.setR _)
            have w1 := ws.frame (H' := upd H2 a1 (.lst (xs ++ [u]))) (Same.refl _) fun c hc => upd_ne fun z => n1 (z ▸ hc)
            have w2 := wt.frame (H' := upd H2 a1 (.lst (xs ++ [u]))) (Same.refl _) fun c hc => upd_ne fun z => n2 (z ▸ hc)
            simpa using w1.append w2
          · cases e
      · cases e
/-- o[i] of a list, by values -/
def rGetL : V → V → Hp → VK → Prop := fun o i H Q => ∃ p xs k v, o = .ref p ∧ i = .int k ∧ 0 ≤ k ∧ H p = some (.lst xs) ∧ xs[k.toNat]? = some v ∧ Q v H
theorem get_list : PGet X rGetL := by
  intro pins s σ H o i ov iv Q I ro ri h
  obtain ⟨p, xs, n, v, rfl, rfl, h0, hA, hx, q⟩ := h
  cases ro
  obtain ⟨t, rfl⟩ := ri
  obtain ⟨its, r, pl, hz⟩ := I.list (SqL.of hA)
  obtain ⟨w, ew, rw'⟩ := r.get hx
  have hl := r.length
  have hn := line63
  have hx' := (List.getElem?_eq_some_iff.mp hx).1
  exact wpAny_getItem_list pl.isList h0 (by omega) (by simpa using ew) ⟨v, H, I, rw', q⟩
def setP (i : Nat) (pf : Ev → Option (List Nat)) (fb : Ev → Option D) (f : Ev → Option O) (ρ : Ev) : Option Fl := (f ρ).bind fun y => (pf ρ).bind fun p => match onSub i p ρ, fb (ρ.map O.vw) with
  | some (.lst os), some (.int n) => (ixN os.length n).map fun k => .nx (ρ.set i ((ρ.getD i .unk).put p (.lst (os.set k y))))
  | _, _ => none
theorem Ows.set_ {K : PySem.W.Frag} {M H : Hp} {os : List O} {vs : List (Option V)} {fp fy : List Addr} {k : Nat} {y : O} {v : Option V} (w : Ows K M H os vs fp) (hk : k < os.length) (h : Ow K M H y v fy) : ∃ f', Ows K M H (os.set k y) (vs.set k v) f' ∧ ∀ b, f'.count b ≤ fp.count b + fy.count b := by
  induction os generalizing k vs fp with
  | nil => simp at hk
  | cons o1 os ih =>
    cases w with
    | cons h1 hs =>
      rename_i v1 f1 vs f2
      cases k with
      | zero => exact ⟨fy ++ f2, .cons h hs, fun b => by simp only [List.count_append]; omega⟩
      | succ k =>
        obtain ⟨f', w', c'⟩ := ih hs (by simpa using hk)
        exact ⟨f1 ++ f', .cons h1 w', fun b => by have := c' b; simp only [List.count_append]; omega⟩
theorem sSetP (he : PE X e (tO X.K f)) (hp : PE X a (tPl X.K i pf)) (hb : PE X b (tP X.K fb)) (hs : swapsWithSole [.Subscript a b p] e pos.line X.env = pure false := by rfl) (hw : swappedStores [.Subscript a b p] e X.env = pure none := by rfl)
    (h1 : (assignEach [.Subscript a b p] X.env).map (·.2) = [assign (.Subscript a b p) X.env] := by rfl)
    (ha : ∀ v, assign (.Subscript a b p) X.env v = (do
      let ov ← holding [v] (eval a X.env)
      let iv ← holding [v, ov] (eval b X.env)
      standAt p
      holding [v, ov, iv] (setItem ov iv v); release [v, ov, iv] []) := by intro _; rfl) : PS X (.Assign [.Subscript a b p] e pos) (tS X.K W J (setP i pf fb f)) :=
  PS.imp (ps_asg he (pg_sub hp hb set_list ha) hs hw h1) fun E σ H ⟨M, ρ, fo, fv, r, σ0, R, l, e, k⟩ => by
    unfold setP at e
    cases q0 : f ρ with
    | none => rw [q0] at e; cases e
    | some y =>
      rw [q0, Option.bind_some] at e
      cases q : pf ρ with
      | none => rw [q] at e; cases e
      | some p0 =>
        rw [q, Option.bind_some] at e
        split at e
        · rename_i os n eo en
          cases q2 : ixN os.length n with
          | none => rw [q2] at e; cases e
          | some j =>
            rw [q2] at e
            cases e
            refine ⟨M, ρ, fo, fv, y, R, l.1, q0, fun M0 H0 u s0 R0 => ?_⟩
            refine ⟨M0, ρ, y :: fo, some u :: fv, p0, R0, l.1, q, ⟨_, eo, rfl⟩, fun M1 H1 v0 v s1 R1 e0 ev => ?_⟩
            obtain ⟨o, e1, e2⟩ := onSub_some eo
            obtain ⟨Ma, t1, Ra, back, _⟩ := R1.look2 l.1 e1 e2 rfl e0 ev
            refine ⟨Ma, ρ.map O.vw, [], [], _, Ra, by simpa using l.1, en, fun M2 H2 z s2 R2 d2 => ?_⟩
            cases d2
            obtain ⟨M3, s3, R3, ev3, _⟩ := back M2 H2 s2 R2.same
            have R3' : Rep X.K M3 H2 (ρ ++ ([y] ++ fo)) (σ ++ ([some u] ++ fv)) := R3
            obtain ⟨a2, xs, f1, ft, ea, hA, ws, wt, n1, n2, mA, up⟩ := R3'.putL l.1 rfl e1 e2 e0 ev3
            have hl : xs.length = os.length := by simpa using ws.length
            refine ⟨a2, xs, n, j, ea, rfl, hA, by rw [hl]; exact q2, ?_⟩
            have w1 := ws.frame (H' := upd H2 a2 (.lst (xs.set j u))) (Same.refl _) fun c hc => upd_ne fun z => n1 (z ▸ hc)
            have w2 := wt.frame (H' := upd H2 a2 (.lst (xs.set j u))) (Same.refl _) fun c hc => upd_ne fun z => n2 (z ▸ hc)
            cases w2 with
            | cons wy wn =>
              cases wn
              rename_i fy
              obtain ⟨f', w', c'⟩ := w1.set_ (ixN_seq q2).2.1 wy
              rw [getD_of e1] at k
              refine k M3 _ σ (s0.trans (s1.trans s3)) (up (xs.set j u) (os.set j y) f' ?_ fun b => by have := c' b; simpa using this) (l.setR _)
              rw [List.map_set]; exact w'
        · cases e
def augP (i : Nat) (pf : Ev → Option (List Nat)) (fb : Ev → Option D) (g : Ev → Option D) (h : Int → Int → Int) (ρ : Ev) : Option Fl := (pf ρ).bind fun p => match onSub i p ρ, fb (ρ.map O.vw), g (ρ.map O.vw) with
  | some (.lst os), some (.int n), some (.int c) => if 0 ≤ n then match os[n.toNat]? with
    | some (.dat (.int d)) => some (.nx (ρ.set i ((ρ.getD i .unk).put p (.lst (os.set n.toNat (.dat (.int (h d c))))))))
    | _ => none else none
  | _, _, _ => none
theorem sAugP {op : Operator} {h : Int → Int → Int} (ho : PIp X op (ipI h)) (hp : PE X a (tPl X.K i pf)) (hb : PE X b (tP X.K fb)) (he : PE X e (tP X.K g))
    (ha : ∀ ov iv new, augStore b ov iv new = (do holding [new, ov, iv] (setItem ov iv new); release [new, ov, iv] []; pure .next) := by intros; rfl) : PS X (.AugAssign (.Subscript a b p) op e pos) (tS X.K W J (augP i pf fb g h)) :=
  PS.imp (ps_augS hp hb get_list he ho set_list ha) fun E σ H ⟨M, ρ, fo, fv, r, σ0, R, l, e, k⟩ => by
    unfold augP at e
    cases q : pf ρ with
    | none => rw [q] at e; cases e
    | some p0 =>
      rw [q, Option.bind_some] at e
      split at e
      · rename_i os n c eo en ec
        split at e
        · rename_i h0
          split at e
          · rename_i d ed
            cases e
            refine ⟨M, ρ, fo, fv, p0, R, l.1, q, ⟨_, eo, rfl⟩, fun M1 H1 v0 v s1 R1 e0 ev => ?_⟩
            obtain ⟨o, e1, e2⟩ := onSub_some eo
            obtain ⟨Ma, t1, Ra, back, _⟩ := R1.look2 l.1 e1 e2 rfl e0 ev
            refine ⟨Ma, ρ.map O.vw, [], [], _, Ra, by simpa using l.1, en, fun M2 H2 z s2 R2 d2 => ?_⟩
            cases d2
            obtain ⟨M3, s3, R3, ev3, _⟩ := back M2 H2 s2 R2.same
            have R3' : Rep X.K M3 H2 (ρ ++ ([] ++ fo)) (σ ++ ([] ++ fv)) := R3
            obtain ⟨a2, xs, f1, ft, ea, hA, ws, wt, n1, n2, mA, up⟩ := R3'.putL l.1 rfl e1 e2 e0 ev3
            subst ea
            have hj : n.toNat < os.length := (List.getElem?_eq_some_iff.mp ed).1
            obtain ⟨w0, _, _, _, ew0, _, hw0, _⟩ := ws.at_ ed
            cases hw0 with
            | dat dv =>
              rename_i x0
              cases dv
              have hx : xs[n.toNat]? = some (.int d) := by
                rw [List.getElem?_map] at ew0
                cases q5 : xs[n.toNat]? with
                | none => rw [q5] at ew0; cases ew0
                | some z => rw [q5] at ew0; cases ew0; rfl
              refine ⟨a2, xs, n, .int d, rfl, rfl, h0, hA, hx, ?_⟩
              obtain ⟨Mb, t2, Rb, back2, _⟩ := R3.look2 l.1 e1 e2 rfl e0 ev3
              refine ⟨Mb, ρ.map O.vw, [], [], _, Rb, by simpa using l.1, ec, fun M4 H4 z s4 R4 d4 => ?_⟩
              cases d4
              obtain ⟨M5, s5, R5, ev5, _⟩ := back2 M4 H4 s4 R4.same
              have R5' : Rep X.K M5 H4 (ρ ++ ([] ++ fo)) (σ ++ ([] ++ fv)) := R5
              obtain ⟨a3, xs3, f3, ft3, ea3, hA3, ws3, wt3, m1, m2, mA3, up3⟩ := R5'.putL l.1 rfl e1 e2 e0 ev5
              cases ea3
              have hl3 : xs3.length = os.length := by simpa using ws3.length
              refine ⟨d, c, rfl, rfl, a2, xs3, n, n.toNat, rfl, rfl, hA3, ?_, ?_⟩
              · unfold ixN
                rw [if_pos h0, if_pos (by omega)]
              · have w1 := ws3.frame (H' := upd H4 a2 (.lst (xs3.set n.toNat (.int (h d c))))) (Same.refl _) fun b hb => upd_ne fun z => m1 (z ▸ hb)
                obtain ⟨f', w', c'⟩ := w1.set_ hj (Ow.dat (d := .int (h d c)) (v := .int (h d c)) (.int _))
                rw [getD_of e1] at k
                refine k M5 _ σ (s1.trans (s3.trans s5)) (up3 (xs3.set n.toNat (.int (h d c))) (os.set n.toNat (.dat (.int (h d c)))) f' ?_ fun b => by have := c' b; simp only [List.count_nil] at this; omega) (l.setR _)
                rw [List.map_set]; exact w'
          · cases e
        · cases e
      · cases e
end
end PD

namespace PD
open PySem PySem.Spec L2

/-! ### numbers -/
section
variable {X : Cx} {W : WX} {J : List Nat} {pos p : Pos} {a b e : Expr}
def mulW : D → D → Option D := i2 (fun i j => decide (i.natAbs.log2 + j.natAbs.log2 < 1000000)) fun i j => .int (i * j)
def divW : D → D → Option D := i2 (fun _ j => decide (0 < j ∧ j.natAbs.log2 < 9000)) fun i j => .int (i / j)
def mulA : D → D → Option D := orD mulI mulW
def divA : D → D → Option D := orD divI divW
theorem oMulW : OpR X (binaryOp .Mult) (rD X.K mulW) := op_i2 op_mulW (fun i j h => by simpa [CMulW] using h) fun _ _ _ => .int _
theorem oDivW : OpR X (binaryOp .FloorDiv) (rD X.K divW) := op_i2 op_fdivW (fun i j h => by simpa [CDivW] using h) fun _ _ _ => .int _
theorem oMulA : OpR X (binaryOp .Mult) (rD X.K mulA) := op_orD oMul oMulW
theorem oDivA : OpR X (binaryOp .FloorDiv) (rD X.K divA) := op_orD oDiv oDivW
def shlI : D → D → Option D := i2 (fun i j => decide (0 ≤ j ∧ j ≤ 1000000 ∧ i.natAbs < 2 ^ 64)) fun i j => .int (i * 2 ^ j.toNat)
def shrI : D → D → Option D := i2 (fun _ j => decide (0 ≤ j)) fun i j => .int (i / 2 ^ j.toNat)
def andI1 : D → D → Option D := i2 (fun _ j => decide (j = 1)) fun i _ => .int (i % 2)
theorem oShl : OpR X (binaryOp .LShift) (rD X.K shlI) := op_i2 op_shl (fun i j h => by simpa [CPow] using h) fun _ _ _ => .int _
theorem oShr : OpR X (binaryOp .RShift) (rD X.K shrI) := op_i2 op_shr (fun i j h => of_decide_eq_true h) fun _ _ _ => .int _
theorem oAnd1 : OpR X (binaryOp .BitAnd) (rD X.K andI1) := OpR.imp op_andM fun x y H Q ⟨M, fo, fv, dx, dy, d, R, d1, d2, e, k⟩ => by
  obtain ⟨i, j, rfl, rfl, hc, rfl⟩ := i2_some e
  have := of_decide_eq_true hc
  subst this
  cases d1; cases d2
  exact ⟨i, 1, rfl, rfl, k M H _ (Same.refl _) R (.int _)⟩
/-! x op= e -/
theorem jAdd : OpR X (inplaceOp .Add) (rD X.K addI) := op_i20 iop_add fun _ _ _ => .int _
theorem jSub : OpR X (inplaceOp .Sub) (rD X.K subI) := op_i20 iop_sub fun _ _ _ => .int _
theorem jMul : OpR X (inplaceOp .Mult) (rD X.K mulI) := op_i2 iop_mul (fun i j h => by simpa [okMul, CMul] using h) fun _ _ _ => .int _
def augV (i : Nat) (f : Ev → Option D) (g : D → D → Option D) (ρ : Ev) : Option Fl := (gv i ρ).bind fun x => (f ρ).bind fun y => (g x y).map fun d => .nx (ρ.set i (.dat d))
theorem sAug {i : Nat} {x : Str} {op : Operator} {f : Ev → Option D} {g : D → D → Option D} {pos' : Pos} (hN : X.N.Nodup) (ho : OpR X (inplaceOp op) (rD X.K g)) (he : PE X e (tP X.K f)) (hJ : i ∉ J := by decide) (hi : X.N[i]? = some x := by rfl) (hx : Loc X.env.scope x := by first | exact Or.inl rfl | exact Or.inr rfl)
    (hf : X.fn x = true ∨ X.env.scope.names.lookup x = some .local := by first | exact .inl rfl | exact .inr rfl) : PS X (.AugAssign (.Name x pos') op e pos) (tS X.K W J (augV i f g)) := PS.imp (ps_aug (i := i) (ti := rD X.K g) hN hi hx he ho hf) fun E σ H ⟨M, ρ, fo, fv, r, σ0, R, l, e, k⟩ => by
  unfold augV at e
  cases q : gv i ρ with
  | none => rw [q] at e; cases e
  | some d1 =>
    rw [q, Option.bind_some] at e
    cases q2 : f ρ with
    | none => rw [q2] at e; cases e
    | some d2 =>
      rw [q2, Option.bind_some] at e
      cases q3 : g d1 d2 with
      | none => rw [q3] at e; cases e
      | some d3 =>
        rw [q3] at e
        cases e
        have eo : ρ[i]? = some (.dat d1) := by
          unfold gv at q
          split at q
          · cases q; assumption
          · cases q
        obtain ⟨v, ev, dv⟩ := R.slot l.1 eo
        refine ⟨v, ev, M, ρ, fo, fv, d2, R, l.1, q2, fun M1 H1 u s1 R1 du => ⟨M1, ρ ++ fo, σ ++ fv, d1, d2, d3, R1, dv.mono s1, du, q3, fun M2 H2 z s2 R2 dz => ?_⟩⟩
        exact k M2 H2 _ (s1.trans s2) (R2.setD l.1 dz) (l.set hJ _ _)
/-! sums, least and greatest of a list of ints -/
def intsD : List D → Option (List Int)
  | [] => some []
  | .int i :: ds => (intsD ds).map (i :: ·)
  | _ => none
theorem intsD_vs {K : PySem.W.Frag} {M : Hp} : ∀ {ds : List D} {ns : List Int} {vs : List V}, intsD ds = some ns → Dvs K M vs ds → vs = ns.map V.int
  | [], ns, _, e, .nil => by cases e; rfl
  | d :: ds, ns, _, e, .cons h hs => by
    cases d with
    | int i =>
      unfold intsD at e
      cases q : intsD ds with
      | none => rw [q] at e; cases e
      | some ms =>
        rw [q] at e; cases e
        cases h
        rw [intsD_vs q hs]; rfl
    | _ => cases e
theorem intsD_map : ∀ ns : List Int, intsD (ns.map .int) = some ns
  | [] => rfl
  | n :: ns => by unfold intsD; simp only [List.map_cons, intsD_map ns]; rfl
def sumD : List D → Option D
  | [.lst ds] => (intsD ds).map fun ns => .int ns.sum
  | _ => none
def minLD : List D → Option D
  | [.lst ds] => (intsD ds).bind fun ns => ns.min?.map .int
  | _ => none
def maxLD : List D → Option D
  | [.lst ds] => (intsD ds).bind fun ns => ns.max?.map .int
  | _ => none
theorem cSum (hc : X.calm = true) : CallR X (.builtin "sum") (rDs X.K sumD) := CallR.imp (cr_sum hc) fun xs H Q ⟨M, fo, fv, ds, d, R, dv, e, k⟩ => by
  unfold sumD at e
  split at e
  · rename_i es
    cases q : intsD es with
    | none => rw [q] at e; cases e
    | some ns =>
      rw [q] at e; cases e
      cases dv with
      | cons d1 dn =>
        cases dn
        cases d1 with
        | lst hs hd =>
          have := intsD_vs q hd
          subst this
          exact ⟨_, ns, rfl, seqX R.same hs, k M H _ (Same.refl _) R (.int _)⟩
  · cases e
theorem cMinL (hc : X.calm = true) : CallR X (.builtin "min") (rDs X.K minLD) := CallR.imp (cr_min hc) fun xs H Q ⟨M, fo, fv, ds, d, R, dv, e, k⟩ => by
  unfold minLD at e
  split at e
  · rename_i es
    cases q : intsD es with
    | none => rw [q] at e; cases e
    | some ns =>
      rw [q, Option.bind_some] at e
      cases q2 : ns.min? with
      | none => rw [q2] at e; cases e
      | some m =>
        rw [q2] at e; cases e
        cases dv with
        | cons d1 dn =>
          cases dn
          cases d1 with
          | lst hs hd =>
            have := intsD_vs q hd
            subst this
            obtain ⟨h1, h2⟩ := List.min?_eq_some_iff.mp q2
            refine ⟨_, ns, rfl, seqX R.same hs, List.length_pos_of_mem h1, fun m' a1 a2 => ?_⟩
            have : m' = m := Int.le_antisymm (a2 m h1) (h2 m' a1)
            subst this
            exact k M H _ (Same.refl _) R (.int _)
  · cases e
theorem cMaxL (hc : X.calm = true) : CallR X (.builtin "max") (rDs X.K maxLD) := CallR.imp (cr_max hc) fun xs H Q ⟨M, fo, fv, ds, d, R, dv, e, k⟩ => by
  unfold maxLD at e
  split at e
  · rename_i es
    cases q : intsD es with
    | none => rw [q] at e; cases e
    | some ns =>
      rw [q, Option.bind_some] at e
      cases q2 : ns.max? with
      | none => rw [q2] at e; cases e
      | some m =>
        rw [q2] at e; cases e
        cases dv with
        | cons d1 dn =>
          cases dn
          cases d1 with
          | lst hs hd =>
            have := intsD_vs q hd
            subst this
            obtain ⟨h1, h2⟩ := List.max?_eq_some_iff.mp q2
            refine ⟨_, ns, rfl, seqX R.same hs, List.length_pos_of_mem h1, fun m' a1 a2 => ?_⟩
            have : m' = m := Int.le_antisymm (h2 m' a1) (a2 m h1)
            subst this
            exact k M H _ (Same.refl _) R (.int _)
  · cases e
def absD : List D → Option D
  | [.int i] => some (.int (if i < 0 then -i else i))
  | _ => none
theorem cAbs : CallR X (.builtin "abs") (rDs X.K absD) := CallR.imp call_abs fun xs H Q ⟨M, fo, fv, ds, d, R, dv, e, k⟩ => by
  unfold absD at e
  split at e
  · cases e
    cases dv with
    | cons d1 dn => cases dn; cases d1; exact ⟨_, rfl, k M H _ (Same.refl _) R (.int _)⟩
  · cases e
theorem ows_undat {K : PySem.W.Frag} {M H : Hp} : ∀ {ds : List D} {xs : List V} {f : List Addr}, Ows K M H (ds.map .dat) (xs.map some) f → Dvs K M xs ds
  | [], [], _, _ => .nil
  | d :: ds, x :: xs, _, .cons h hs => by
    cases h with
    | dat dv => exact .cons dv (ows_undat hs)
  | [], _ :: _, _, h => by cases h
  | _ :: _, [], _, h => by cases h
/-- [..] * n -/
def repO (ga : Ev → Option (List D)) (fb : Ev → Option D) (ρ : Ev) : Option O := (ga ρ).bind fun ds => (fb ρ).bind fun y => match y with
  | .int n => if ds.length ≤ sizeLine ∧ (-(2 ^ 63) ≤ n ∧ n < 2 ^ 63) ∧ ds.length * n.toNat ≤ sizeLine then some (.lst (((List.replicate n.toNat ds).flatten).map .dat)) else none
  | _ => none
theorem dvs_rep {K : PySem.W.Frag} {M : Hp} {vs : List V} {ds : List D} (h : Dvs K M vs ds) : ∀ n : Nat, Dvs K M (List.replicate n vs).flatten (List.replicate n ds).flatten
  | 0 => .nil
  | n + 1 => by
    simp only [List.replicate_succ, List.flatten_cons]
    exact h.append (dvs_rep h n)
theorem oRep {es : List Expr} {lp : Pos} {ga : Ev → Option (List D)} {fb : Ev → Option D} (ha : PA X es (tAr X.K ga)) (hb : PE X b (tP X.K fb)) : PE X (.BinOp (.List es lp) .Mult b pos) (tO X.K (repO ga fb)) := PE.imp (pe_op op_rep (pe_lst ha) hb) fun σ H Q ⟨M, ρ, fo, fv, o, R, l, e, k⟩ => by
  unfold repO at e
  cases q : ga ρ with
  | none => rw [q] at e; cases e
  | some ds =>
    rw [q, Option.bind_some] at e
    cases q2 : fb ρ with
    | none => rw [q2] at e; cases e
    | some y =>
      rw [q2, Option.bind_some] at e
      split at e
      · rename_i n
        split at e
        · rename_i hc
          cases e
          obtain ⟨h1, ⟨h2, h3⟩, h4⟩ := hc
          refine ⟨M, ρ, fo, fv, ds, R, l, q, fun M1 H1 vs s1 R1 d1 => ⟨by rw [d1.length]; exact h1, fun pn hpn => ?_⟩⟩
          have R2 := R1.newL l hpn d1
          refine ⟨M1, ρ, _, _, .int n, R2, l, q2, fun M2 H2 v s2 R3 d3 => ?_⟩
          cases d3
          obtain ⟨fa, f, fb', w1, w2, w3, _, _⟩ := R3.mid l
          cases w2 with
          | @lst _ xs _ fp hA ws =>
            refine ⟨pn, n, xs, rfl, rfl, hA, h2, h3, ?_, fun p2 hp2 => ?_⟩
            · have : xs.length = ds.length := by simpa using ws.length
              rw [this]; exact h4
            · have dx : Dvs X.K M2 xs ds := ows_undat ws
              exact k M2 _ _ (s1.trans s2) ((R3.drop l).newL l hp2 (dvs_rep dx _))
        · cases e
      · cases e
/-- a, b = [x, y] -/
def gL (n : Nat) (h : List D → Ev → Option Ev) (d : D) (ρ : Ev) : Option Ev := match d with
  | .lst ds => if ds.length = n then h ds ρ else none
  | _ => none
theorem gLst' {es : List Expr} {k n : Nat} {is : List Nat} {h : List D → Ev → Option Ev} (hc : X.calm = true) (h1 : PGs X es (tGs X.K is h)) (hn : (assignEach es X.env).length = n := by rfl) (hst : (assignEach es X.env).findIdx? (·.1) = none := by rfl) : PG X (.Tuple es k pos) (tG X.K is (gL n h)) :=
  PG.imp (pg_lst hc h1 hn hst) fun v σ H Q ⟨M, ρ, fo, fv, d, ρ', R, l, dv, e, k⟩ => by
    unfold gL at e
    split at e
    · rename_i ds
      split at e
      · rename_i hl
        cases dv with
        | lst hs hd => exact ⟨_, _, rfl, seqX R.same hs, by rw [hd.length]; exact hl, M, ρ, fo, fv, ds, ρ', R, l, hd, e, k⟩
      · cases e
    · cases e
theorem gL_ok {is : List Nat} {n : Nat} {h : List D → Ev → Option Ev} (h1 : TgsOk is h) : TgOk is (gL n h) := by
  constructor
  · intro d ρ ρ' e
    unfold gL at e
    split at e
    · split at e
      · exact h1.len _ _ _ e
      · cases e
    · cases e
  · intro d ρ ρ' e
    unfold gL at e
    split at e
    · split at e
      · exact h1.out _ _ _ e
      · cases e
    · cases e
end
end PD

namespace PD
open PySem PySem.Spec L2

/-! ### comprehensions whose items are things of their own -/
section
variable {K : PySem.W.Frag} {M H : Hp}
/-- a thing on top goes to the end of the list below it -/
theorem Rep.appO {l r : List O} {lv rv : List (Option V)} {y : O} {u : V} {acc : List O} {a : Addr} (R : Rep K M H (l ++ y :: .lst acc :: r) (lv ++ some u :: some (.ref a) :: rv)) (e : lv.length = l.length) :
    ∃ xs, H a = some (.lst xs) ∧ xs.length = acc.length ∧ Rep K M (upd H a (.lst (xs ++ [u]))) (l ++ .lst (acc ++ [y]) :: r) (lv ++ some (.ref a) :: rv) := by
  obtain ⟨s, fp, w, nd, nm⟩ := R
  obtain ⟨fa, fb, e1, w1, w2⟩ := w.split e
  cases w2 with
  | cons wy w3 =>
    rename_i fy f2
    cases w3 with
    | cons wl wr =>
      rename_i fl fr
      cases wl with
      | @lst _ xs _ fx hA ws =>
        subst e1
        have hl : xs.length = acc.length := by simpa using ws.length
        have nd' := nd
        rw [List.nodup_iff_count] at nd'
        have na := nd' a
        simp only [List.count_append, List.count_cons, beq_self_eq_true, if_true, List.cons_append] at na
        have ne : ∀ c, c ∈ fa ∨ c ∈ fy ∨ c ∈ fx ∨ c ∈ fr → c ≠ a := fun c hc z => by
          subst z
          rcases hc with hc | hc | hc | hc <;> (have := List.count_pos_iff.mpr hc; omega)
        have mA : M a = none := nm a (by simp)
        refine ⟨xs, hA, hl, fun b q hb => ?_, fa ++ ((a :: (fx ++ fy)) ++ fr), ?_, ?_, fun c hc => nm c ?_⟩
        · rw [upd_ne (fun z => by subst z; rw [mA] at hb; cases hb)]; exact s b q hb
        · have k1 := w1.frame (H' := upd H a (.lst (xs ++ [u]))) (Same.refl _) fun c hc => upd_ne (ne c (.inl hc))
          have k2 := wy.frame (H' := upd H a (.lst (xs ++ [u]))) (Same.refl _) fun c hc => upd_ne (ne c (.inr (.inl hc)))
          have k3 := ws.frame (H' := upd H a (.lst (xs ++ [u]))) (Same.refl _) fun c hc => upd_ne (ne c (.inr (.inr (.inl hc))))
          have k4 := wr.frame (H' := upd H a (.lst (xs ++ [u]))) (Same.refl _) fun c hc => upd_ne (ne c (.inr (.inr (.inr hc))))
          refine k1.append (.cons (.lst upd_same ?_) k4)
          have := k3.append (Ows.cons k2 .nil)
          simpa using this
        · rw [List.nodup_iff_count]
          intro c
          have := nd' c
          simp only [List.count_append, List.count_cons, List.cons_append] at this ⊢
          omega
        · simp only [List.mem_append, List.mem_cons] at hc ⊢
          rcases hc with hc | (hc | hc | hc) | hc <;> simp [hc]
end
def compO (g : D → Ev → Option Ev) (t : Ev → Option Bool) (f : Ev → Option O) (ρ : Ev) : List D → Option (List O)
  | [] => some []
  | d :: ds => (g d ρ).bind fun ρ1 => (t ρ1).bind fun b => if b = true then (f ρ1).bind fun y => (compO g t f ρ ds).map (y :: ·) else compO g t f ρ ds
def lcOO (fi : Ev → Option (List D)) (g : D → Ev → Option Ev) (t : Ev → Option Bool) (f : Ev → Option O) (vs : List Nat) (ρ : Ev) : Option O := if okW ρ vs = true then
  (fi ρ).bind fun ds => (compO g t f (wipeO ρ vs) ds).bind fun ys => if ys.length ≤ sizeLine then some (.lst ys) else none else none
section
variable {X : Cx} {W : WX} {J : List Nat} {pos : Pos} {tg iter elt : Expr} {ifs : List Expr} {scope : Scope} {fi : Ev → Option (List D)} {is kn : List Nat} {g : D → Ev → Option Ev} {t : Ev → Option Bool} {f : Ev → Option O}
theorem lc_ofO {K : PySem.W.Frag} {vs : List Nat} {σ : L2.St} {H : Hp} {Q : VK} (ok : TgOk is g) (hv : ∀ i ∈ is, i ∈ vs) (hkn : ∀ ρ ds, fi ρ = some ds → ∀ k ∈ kn, k < ρ.length) (hkv : ∀ k ∈ kn, k ∉ vs) (h : tO K (lcOO fi g t f vs) σ H Q) : tLc (tI K kn fi) (tG K is g) (tT K t) (tO K f) vs σ H Q := by
  obtain ⟨M, ρ, fo, fv, o, R, l, e, k⟩ := h
  unfold lcOO at e
  by_cases hw : okW ρ vs = true
  · rw [if_pos hw] at e
    cases q : fi ρ with
    | none => rw [q] at e; cases e
    | some ds =>
      rw [q, Option.bind_some] at e
      cases q2 : compO g t f (wipeO ρ vs) ds with
      | none => rw [q2] at e; cases e
      | some ys =>
        rw [q2, Option.bind_some] at e
        by_cases hz : ys.length ≤ sizeLine
        · rw [if_pos hz] at e
          cases e
          refine ⟨M, ρ, fo, fv, ds, R, l, q, fun M0 H0 Ji s0 R0 y DD hD => ?_⟩
          have lw : (L2.wipe σ vs).length = (wipeO ρ vs).length := by rw [wipe_length, wipeO_length]; exact l
          let Inv (i : Nat) (H : Hp) : Prop := ∃ M1 acc rest, Same M0 M1 ∧ Rep K M1 H (wipeO ρ vs ++ .lst acc :: fo) (L2.wipe σ vs ++ some (.ref DD) :: fv) ∧ compO g t f (wipeO ρ vs) (ds.drop i) = some rest ∧ ys = acc ++ rest
          refine ⟨fun i m H => m = ds.length - i ∧ i ≤ ds.length ∧ Inv i H, ⟨ds.length, by omega, Nat.zero_le _, M0, [], ys, Same.refl _, (R0.newL l hD .nil).wipe l vs, by simpa using q2, rfl⟩, ?_⟩
          rintro i m H ⟨rfl, hi, M1, acc, rest, s1, R1, e1, ey⟩
          obtain ⟨go, stop, yl⟩ := y i M1 H _ _ s1 R1 (fun r hr => by
            obtain ⟨k, hk, rfl⟩ := List.mem_map.mp hr
            have h1 := hkn ρ ds q k hk
            have h2 := hkv k hk
            refine List.mem_of_getElem? (i := k) ?_
            have a1 : (wipeO ρ vs)[k]? = some (ρ.getD k .unk) := by rw [wipeO_out h2, List.getElem?_eq_getElem h1, List.getD_eq_getElem?_getD, List.getElem?_eq_getElem h1]; rfl
            have a2 : (L2.wipe σ vs)[k]? = some (σ.getD k none) := by rw [wipe_out h2, List.getElem?_eq_getElem (by omega), List.getD_eq_getElem?_getD, List.getElem?_eq_getElem (by omega)]; rfl
            rw [List.getElem?_zip_eq_some]
            exact ⟨by rw [List.getElem?_append_left (by rw [wipeO_length]; exact h1)]; exact a1, by rw [List.getElem?_append_left (by rw [wipe_length]; omega)]; exact a2⟩)
          by_cases hlt : i < ds.length
          · have ed : ds.drop i = ds[i] :: ds.drop (i + 1) := List.drop_eq_getElem_cons hlt
            rw [ed] at e1
            unfold compO at e1
            cases q3 : g ds[i] (wipeO ρ vs) with
            | none => rw [q3] at e1; cases e1
            | some ρ2 =>
              rw [q3, Option.bind_some] at e1
              cases q4 : t ρ2 with
              | none => rw [q4] at e1; cases e1
              | some b =>
                rw [q4, Option.bind_some] at e1
                refine .inr ⟨go hlt, Inv (i + 1), fun H' h => ⟨ds.length - (i + 1), by omega, rfl, hlt, h⟩, fun x H' hy => ?_⟩
                obtain ⟨M2, s2, R2, d2⟩ := yl ds[i] (List.getElem?_eq_getElem hlt) x H' hy
                refine ⟨M2, wipeO ρ vs, .lst acc :: fo, some (.ref DD) :: fv, ds[i], ρ2, R2, lw, d2, q3, fun σ3 a3 l3 r3 R3 => ?_⟩
                have ew : L2.wipe σ3 vs = L2.wipe σ vs := by
                  refine wipe_ext (by rw [l3, wipe_length]) fun j hj => ?_
                  rw [a3 j fun z => hj (hv j z), wipe_out hj]
                have er : wipeO ρ2 vs = wipeO ρ vs := by
                  refine wipeO_ext (by rw [r3, wipeO_length]) fun j hj => ?_
                  rw [ok.out _ _ _ q3 j fun z => hj (hv j z), wipeO_out hj]
                have l23 : σ3.length = ρ2.length := by omega
                refine ⟨ew, M2, ρ2, .lst acc :: fo, some (.ref DD) :: fv, b, R3, l23, q4, fun M4 H4 s4 R4 => ?_⟩
                cases b with
                | false =>
                  refine iteF ⟨M4, acc, rest, s1.trans (s2.trans s4), ?_, e1, ey⟩
                  have := R4.wipe l23 vs
                  rw [ew, er] at this
                  exact this
                | true =>
                  rw [if_pos rfl] at e1
                  cases q5 : f ρ2 with
                  | none => rw [q5] at e1; cases e1
                  | some z =>
                    rw [q5, Option.bind_some] at e1
                    cases q6 : compO g t f (wipeO ρ vs) (ds.drop (i + 1)) with
                    | none => rw [q6] at e1; cases e1
                    | some rest2 =>
                      rw [q6] at e1
                      cases e1
                      refine iteT ⟨M4, ρ2, .lst acc :: fo, some (.ref DD) :: fv, z, R4, l23, q5, fun M5 H5 v5 s5 R5 => ?_⟩
                      obtain ⟨xs, ha, hl, R6⟩ := R5.appO l23
                      refine ⟨xs, ha, by rw [hl]; rw [ey] at hz; simp at hz; omega, M5, acc ++ [z], rest2, s1.trans (s2.trans (s4.trans s5)), ?_, q6, by rw [ey]; simp⟩
                      have R7 := R6.wipe l23 vs
                      rw [ew, er] at R7
                      exact R7
          · have ei : i = ds.length := by omega
            rw [ei, List.drop_length] at e1
            cases e1
            rw [List.append_nil] at ey
            subst ey
            exact .inl ⟨stop ei, k M1 H _ (s0.trans s1) (R0.unwipe l hw s1 R1)⟩
        · rw [if_neg hz] at e; cases e
  · rw [if_neg hw] at e; cases e
variable {own : List (Str × Nat)}
theorem oLcO (own : List (Str × Nat)) (hc : X.calm = true) (hN : X.N.Nodup) (hi : PI X tg iter (tI X.K kn fi)) (bo : BlkOk X.N X.env.scope scope own)
    (hg : ∀ (s : Shared) (H : Hp) (C : Addr) (cl : List (Str × Addr)) (fp : List Addr), PG (X.blk s H scope (compEnvC scope cl C X.env) fp) tg (tG X.K is g)) (ht : ∀ (s : Shared) (H : Hp) (C : Addr) (cl : List (Str × Addr)) (fp : List Addr), PTs (X.blk s H scope (compEnvC scope cl C X.env) fp) ifs (tT X.K t))
    (he : ∀ (s : Shared) (H : Hp) (C : Addr) (cl : List (Str × Addr)) (fp : List Addr), PE (X.blk s H scope (compEnvC scope cl C X.env) fp) elt (tO X.K f)) (ok : TgOk is g) (hv : ∀ i ∈ is, i ∈ own.map (·.2) := by decide) (hkn : ∀ ρ ds, fi ρ = some ds → ∀ k ∈ kn, k < ρ.length := by intro _ _ _ _ hk; cases hk) (hkv : ∀ k ∈ kn, k ∉ own.map (·.2) := by decide) (hs : ∀ x, foldedSetIterable iter X.env x = pure x := by intro _; rfl) :
    PE X (.ListComp elt [⟨tg, iter, ifs, 0⟩] scope pos) (tO X.K (lcOO fi g t f (own.map (·.2)))) := PE.imp (pe_lc hc hN hi bo hg ht he hs) fun _ _ _ h => lc_ofO ok hv hkn hkv h
/-- y = [..] on one line -/
theorem sLcO {i : Nat} {y : Str} {py spos : Pos} (own : List (Str × Nat)) (hc : X.calm = true) (hN : X.N.Nodup) (hi : PI X tg iter (tI X.K kn fi)) (bo : BlkOk X.N X.env.scope scope own)
    (hg : ∀ (s : Shared) (H : Hp) (C : Addr) (cl : List (Str × Addr)) (fp : List Addr), PG (X.blk s H scope (compEnvC scope cl C X.env) fp) tg (tG X.K is g)) (ht : ∀ (s : Shared) (H : Hp) (C : Addr) (cl : List (Str × Addr)) (fp : List Addr), PTs (X.blk s H scope (compEnvC scope cl C X.env) fp) ifs (tT X.K t))
    (he : ∀ (s : Shared) (H : Hp) (C : Addr) (cl : List (Str × Addr)) (fp : List Addr), PE (X.blk s H scope (compEnvC scope cl C X.env) fp) elt (tO X.K f)) (ok : TgOk is g) (hJ : i ∉ J := by decide) (hy : X.N[i]? = some y := by rfl) (hyl : X.env.scope.names.lookup y = some .local := by rfl)
    (hsw : swapsWith (.ListComp elt [⟨tg, iter, ifs, 0⟩] scope pos) (some (.Name y py)) spos.line X.env = pure true := by exact sw_true rfl rfl rfl (by decide +kernel)) (hv : ∀ i ∈ is, i ∈ own.map (·.2) := by decide) (hkn : ∀ ρ ds, fi ρ = some ds → ∀ k ∈ kn, k < ρ.length := by intro _ _ _ _ hk; cases hk) (hkv : ∀ k ∈ kn, k ∉ own.map (·.2) := by decide) (hs : ∀ x, foldedSetIterable iter X.env x = pure x := by intro _; rfl) :
    PS X (.Assign [.Name y py] (.ListComp elt [⟨tg, iter, ifs, 0⟩] scope pos) spos) (tS X.K W J (stO i (lcOO fi g t f (own.map (·.2))))) :=
  sAsgO (PS.imp (ps_setLc (i := i) hc hN hy hyl hsw hi bo hg ht he hs) fun E σ H h => lc_ofO ok hv hkn hkv h) hJ
end
end PD

namespace PD
open PySem PySem.Spec L2 PyProof.Rows

/-! ### enumerate(tuple) -/
/-- the tuple at a, each item in a new pair with its place -/
def IteT (K : PySem.W.Frag) (a : Addr) (xs : List V) : It where
  go i H := SqT K H a xs ∧ i < xs.length
  yld i H v H' := ∃ T x, (v = .ref T ∧ H T = none) ∧ H' = upd H T (.tup [.int (i : Nat), x]) ∧ xs[i]? = some x
  stop i H := SqT K H a xs ∧ xs.length ≤ i
set_option maxHeartbeats 1000000 in
theorem enumT_new (l : Addr) (items : Array Value) (n : Nat) (dct : Option Addr) (sl : Array (Option Value)) :
    Meets (Builtin.«enumerate.__new__» ⟨[.type "enumerate", .ref l], []⟩) (fun _ R s => s.heap.get? l = some { cls := .type "tuple", dict := dct, data := .seq items n, slots := sl } ∧
      R (.ok (.ret (.ref (s.heap.push { cls := .type "tuple_iterator", data := .fields #[.ref l, .int 0 0] }).objs.size)))
        { s with heap := (s.heap.push { cls := .type "tuple_iterator", data := .fields #[.ref l, .int 0 0] }).push { cls := .type "enumerate", data := .fields #[.none, .bool false, .ref s.heap.objs.size, rawInt 0, .none, .none] } }) :=
  .of_wp fun prog w A R st0 hh => by
    obtain ⟨hp, gl, dd, tk, os⟩ := st0
    obtain ⟨hl, hh⟩ := hh
    have hsub := sub_enumerate
    have hT : Heap.IsTuple (Shared.heap ⟨hp, gl, dd, tk, os⟩) l items := ⟨_, hl, rfl, n, rfl⟩
    wp_walk using wpAny_loadPart' hl
    refine wpAny_stack_any fun _ => wpAny_pure ?_
    split
    · rename_i cc _ _ _ _ _
      cases (cc == Value.type "enumerate")
      · wp_walk using wpAny_loadPart' hl, wpAny_pyIter_tuple hT
        exact ⟨_, rfl, hh⟩
      · wp_walk using wpAny_loadPart' hl, wpAny_pyIter_tuple hT
        exact ⟨_, rfl, hh⟩
    · wp_walk using wpAny_loadPart' hl, wpAny_pyIter_tuple hT
      exact ⟨_, rfl, hh⟩
section
variable {prog : Program} {w : World} {A : Around} {E : Value → Shared → Prop} {s : Shared}
theorem call_enumT {l : Addr} {items : Array Value} {Q : Value → Shared → Prop} (hL : s.heap.IsTuple l items)
    (h : ∀ h1, IsEnum h1 (s.heap.objs.size + 1) s.heap.objs.size 0 .none → h1.IsTupleIter s.heap.objs.size l 0 →
      (∀ b o, s.heap.get? b = some o → h1.get? b = some o) → Q (.ref (s.heap.objs.size + 1)) { s with heap := h1 }) : wpAny (model prog w) A (call (.type "enumerate") [.ref l]) Q E s := by
  obtain ⟨⟨c, dct, dt, sl⟩, hl, hc, n, hd⟩ := hL
  replace hc : c = .type "tuple" := hc
  replace hd : dt = .seq items n := hd
  subst hc hd
  refine callType_new F.called_enumerate (by decide) (F.typeCall_enumerate_1 _) (F.newCall_enumerate_1 _) (fun ob => F.args_object_init_2 ob _) F.entry_enumerate_new (enumT_new l items n dct sl) ⟨hl, ?_⟩
  generalize eo : ({ cls := .type "tuple_iterator", data := .fields #[.ref l, .int 0 0] } : Obj) = oi
  have fo : oi.isFreed = false := by rw [← eo]; rfl
  have zz : (s.heap.push oi).objs.size = s.heap.objs.size + 1 := Heap.size_push ..
  show _ ∧ _
  rw [zz]
  generalize ee : ({ cls := .type "enumerate", data := .fields #[.none, .bool false, .ref s.heap.objs.size, rawInt 0, .none, .none] } : Obj) = oe
  have fe : oe.isFreed = false := by rw [← ee]; rfl
  have g1 : ((s.heap.push oi).push oe).get? (s.heap.objs.size + 1) = some oe := zz ▸ Heap.get?_push_size (s.heap.push oi) fe
  have he : IsEnum ((s.heap.push oi).push oe) (s.heap.objs.size + 1) s.heap.objs.size 0 .none := by rw [← ee] at g1 ⊢; exact g1
  have hi : ((s.heap.push oi).push oe).IsTupleIter s.heap.objs.size l 0 := ⟨oi, Heap.get?_push_of_some _ (Heap.get?_push_size _ fo), by rw [← eo], by rw [← eo]; rfl⟩
  exact ⟨⟨_, he, rfl⟩, h _ he hi fun b o x => Heap.get?_push_of_some _ (Heap.get?_push_of_some _ x)⟩
end
theorem turn_enumT {P : Program} {w : World} {K : PySem.W.Frag} {elts : List Expr} {kk : Nat} {tpos : Pos} (a e it : Addr) (xs : List V) :
    Turn P w K (.Tuple elts kk tpos) (IteT K a xs) [e, it] e (fun i h => ((∃ old, IsEnum h e it ((i : Nat) : Int) old) ∧ h.IsTupleIter it a i) ∧ (e ≠ it ∧ a ≠ it ∧ a ≠ e) ∧ i ≤ xs.length) where
  mem := by simp
  obj := fun i h st b hb => by
    obtain ⟨⟨⟨old, he⟩, ⟨oi, ho, hcl, hdt⟩⟩, _⟩ := st
    have two : b = e ∨ b = it := by simpa using hb
    rcases two with rfl | rfl
    · exact ⟨_, he, fun v q => nomatch q⟩
    · exact ⟨oi, ho, fun v q => by rw [hdt] at q; cases q⟩
  keep := fun i h h1 st k => by
    obtain ⟨⟨⟨old, he⟩, hi⟩, hne⟩ := st
    exact ⟨⟨⟨old, k e (by simp) _ he⟩, hi.at fun o q => k it (by simp) o q⟩, hne⟩
  item := by
    intro X hP hw hK hc i pins s σ H E I hf st hgo
    subst hP hw hK
    obtain ⟨⟨⟨old, he⟩, hit⟩, ⟨hne, hai, hae⟩, hle⟩ := st
    obtain ⟨hq, hlt⟩ := hgo
    obtain ⟨its, rv, pl, hz⟩ := I.tuple hq
    have hln := rv.length
    have hel : e < s.heap.objs.size := Heap.lt_size he
    have hil : it < s.heap.objs.size := by obtain ⟨_, q, _⟩ := hit; exact Heap.lt_size q
    refine wpAny_pyNext_enum_itemD (Draws.tuple (A := X.A.in1) (show X.A.in1.handled = none from I.ok.hd hc) it a hai its.toArray) he ⟨hit, pl⟩ (by simp; omega) hne (by simp [hne, Ne.symm hae]) fun u h1 tk hu ho st1 hT hsz hk => ?_
    refine ⟨_, rfl, wpAny_letOwnedTupleGo_enum (s := { s with heap := h1, toks := tk + 1 }) ho fun h2 he2 sb => ?_⟩
    have hx : xs[i]? = some xs[i] := List.getElem?_eq_getElem hlt
    obtain ⟨u', hu', ru⟩ := rv.get hx
    have eu : u' = u := by
      have : its[i]? = some u := by simpa using hu
      rw [this] at hu'; cases hu'; rfl
    subst eu
    have hT2 := (sb.2 s.heap.objs.size (Nat.ne_of_gt hel)).trans hT
    have nw : ObjOk X.prog X.w (upd H s.heap.objs.size (.tup [.int (i : Nat), xs[i]])) h2 s.heap.objs.size (.tup [.int (i : Nat), xs[i]]) := ⟨by show 2 ≤ sizeLine; decide, [.int i tk, u'], .cons ⟨_, rfl⟩ (.cons ru .nil), ⟨_, hT2, rfl, _, rfl⟩⟩
    have I1 : Inv X pins σ (upd H s.heap.objs.size (.tup [.int (i : Nat), xs[i]])) { s with heap := h2, toks := tk + 1 } :=
      I.turnedNew (ch := [e, it]) (fun b ob hb q => (sb.2 b (fun z => hb (by simp [z]))).trans (hk b ob (fun z => hb (by simp [z])) (fun z => hb (by simp [z])) q)) hf (Nat.le_refl _) nw
    refine ⟨.ref s.heap.objs.size, _, I1, rfl, ⟨_, xs[i], ⟨rfl, I.hok.fresh (Nat.le_refl _)⟩, rfl, hx⟩, ⟨⟨⟨u', ?_⟩, st1.1.at fun o q => (sb.2 it (Ne.symm hne)).trans q⟩, ⟨hne, hai, hae⟩, hlt⟩, fun b hb => ?_⟩
    · have e1 : ((i + 1 : Nat) : Int) = (i : Int) + 1 := by omega
      rw [e1]
      exact he2
    · have bs : b < s.heap.objs.size := by
        have two : b = e ∨ b = it := by simpa using hb
        rcases two with rfl | rfl <;> assumption
      rw [upd_ne (Nat.ne_of_lt bs)]; exact (hf b hb).1
  done := by
    intro X hP hw hK hc i pins s σ H E I hf st hst
    subst hP hw hK
    obtain ⟨⟨⟨old, he⟩, hit⟩, ⟨hne, hai, hae⟩, hle⟩ := st
    obtain ⟨hq, hge⟩ := hst
    obtain ⟨its, rv, pl, hz⟩ := I.tuple hq
    have hln := rv.length
    obtain ⟨f0, f1, f2, f3, f4, f5⟩ := hf it (by simp)
    have en : i = its.toArray.size := by simp; omega
    refine wpAny_pyNext_enum_endD (Draws.tuple (A := X.A.in1) (show X.A.in1.handled = none from I.ok.hd hc) it a hai its.toArray) he ⟨en ▸ hit, pl⟩ fun h1 eb => ⟨rfl, I.turned (t' := s.toks) (fun b o hb q => eb b o hb q) f0 f1 f3 f4 f5⟩
  self := fun A i s Q E st h => by
    obtain ⟨⟨⟨old, he⟩, _⟩, _⟩ := st
    exact wpAny_pyIter_enum he h
def iEnumT (K : PySem.W.Frag) (ta : TA) : TI := fun σ H R => ta σ H fun vs H1 => ∃ a xs, vs = [.ref a] ∧ SqT K H1 a xs ∧ R (IteT K a xs) H1
theorem pi_enumT {X : Cx} {e : Expr} {ta : TA} {p pos tpos : Pos} {elts : List Expr} {kk : Nat} (hg : Gl X "enumerate") (hm : X.mg "enumerate" = none) (ha : PA X [e] ta) (hs : starEach [e] X.env = [(false, eval e X.env)] := by rfl) : PI X (.Tuple elts kk tpos) (.Call (.Name "enumerate" p) [e] [] pos) (iEnumT X.K ta) := by
  refine ⟨fun pins s σ H R I h => Call_ (ld_blt I hg hm boot_enumerate (callWith_type1 (thn (ha.run pos pins s σ H _ I h) fun us s1 ⟨vs, H1, I1, r1, q1⟩ => ?_) hs rfl))⟩
  obtain ⟨a, xs, rfl, hq, q⟩ := q1
  cases r1 with
  | cons r rr =>
    cases rr
    cases r
    obtain ⟨its, rv, pl, hz⟩ := I1.tuple hq
    have ha : a < s1.heap.objs.size := by obtain ⟨_, q, _⟩ := pl; exact Heap.lt_size q
    refine call_enumT pl fun h1 he hit hk => wpAny_pyIter_enum he ?_
    refine ⟨_, [s1.heap.objs.size + 1, s1.heap.objs.size], _, _, H1, rfl, I1.kept (t' := s1.toks) hk, turn_enumT a (s1.heap.objs.size + 1) s1.heap.objs.size xs, ⟨⟨⟨.none, he⟩, hit⟩, ⟨Nat.succ_ne_self _, Nat.ne_of_lt ha, Nat.ne_of_lt (Nat.lt_succ_of_lt ha)⟩, Nat.zero_le _⟩, fun b hb => ?_, q⟩
    have hle : s1.heap.objs.size ≤ b := by
      have two : b = s1.heap.objs.size + 1 ∨ b = s1.heap.objs.size := by simpa using hb
      rcases two with z | z
      · rw [z]; exact Nat.le_succ _
      · rw [z]; exact Nat.le_refl _
    exact I1.fpOk hle (I1.hok.fresh hle)
theorem yld_enumT {K : PySem.W.Frag} {M : Hp} {a : Addr} {xs : List V} {ds : List D} (h : SqT K M a xs) (d : Dvs K M xs ds) : Yld K M [] (IteT K a xs) (ds.zipIdx.map fun p => .tup [.int (p.2 : Nat), p.1]) := fun i M1 H os vs s1 R _ => by
  have hd := d.length
  refine ⟨fun hlt => ⟨sqT_same (s1.trans R.same) h, by simp at hlt; omega⟩, fun e => ⟨sqT_same (s1.trans R.same) h, by simp at e; omega⟩, fun z ez v H' hy => ?_⟩
  obtain ⟨T, x, ⟨rfl, hT⟩, rfl, hx⟩ := hy
  rw [List.getElem?_map, List.getElem?_zipIdx] at ez
  cases q : ds[i]? with
  | none => rw [q] at ez; cases ez
  | some di =>
    rw [q] at ez
    cases ez
    obtain ⟨x', hx', dx⟩ := d.get q
    rw [hx] at hx'; cases hx'
    have s2 := same_updM (u := .tup [.int (i : Nat), x]) (R.same.free hT)
    refine ⟨_, s2, R.growM hT, ?_⟩
    refine .tup (.inl (.inl upd_same)) (.cons ?_ (.cons ((dx.mono s1).mono s2) .nil))
    simpa using Dv.int _
section
variable {X : Cx} {pos p tpos : Pos} {e : Expr} {f : Ev → Option D} {elts : List Expr} {kk : Nat}
def enuA (f : Ev → Option D) (ρ : Ev) : Option (List D) := match f ρ with
  | some (.lst ds) => some (ds.zipIdx.map fun p => .tup [.int (p.2 : Nat), p.1])
  | some (.tup ds) => some (ds.zipIdx.map fun p => .tup [.int (p.2 : Nat), p.1])
  | _ => none
theorem iEnumA (h : PE X e (tP X.K f)) (hm : X.mg "enumerate" = none) (hg : Gl X "enumerate" := by rfl) (hs : starEach [e] X.env = [(false, eval e X.env)] := by rfl) (hs2 : starEach [e] X.env = (false, eval e X.env) :: starEach [] X.env := by rfl) :
    PI X (.Tuple elts kk tpos) (.Call (.Name "enumerate" p) [e] [] pos) (tI X.K [] (enuA f)) :=
  PI.imp (PI.or (pi_enum hg hm (pa_cons h pa_nil hs2) hs) (pi_enumT hg hm (pa_cons h pa_nil hs2) hs)) fun σ H R ⟨M, ρ, fo, fv, ds, R0, l, e, k⟩ => by
    unfold enuA at e
    split at e
    · rename_i es q
      cases e
      refine .inl ⟨M, ρ, fo, fv, _, R0, l, q, fun M1 H1 v s1 R1 d1 => ?_⟩
      cases d1 with
      | lst hs hd => exact ⟨_, _, rfl, seqX R1.same hs, k M1 H1 _ s1 R1 (yld_enum hs hd)⟩
    · rename_i es q
      cases e
      refine .inr ⟨M, ρ, fo, fv, _, R0, l, q, fun M1 H1 v s1 R1 d1 => ?_⟩
      cases d1 with
      | tup hs hd => exact ⟨_, _, rfl, sqT_same R1.same hs, k M1 H1 _ s1 R1 (yld_enumT hs hd)⟩
    · cases e
end
end PD

namespace PD
open PySem PySem.Spec L2
section
variable {X : Cx} {W : WX} {J : List Nat} {pos : Pos} {a b e : Expr} {fa fb : Ev → Option D}
/-! ### k not in d -/
def ndinD (x y : D) : Option D := match y with
  | .dic ks ds => if ds.length = ks.length then (keyD x).map fun k => .bl (!(dlook k ks ds).isSome) else none
  | _ => none
theorem ndin_of {K : PySem.W.Frag} {σ : L2.St} {H : Hp} {Q : VK} (h : tP K (b2 fa fb ndinD) σ H Q) : tDNotIn (tP K fa) (tP K fb) σ H Q := by
  obtain ⟨M, ρ, fo, fv, d, R, l, e, k⟩ := h
  obtain ⟨x, y, ea, eb, eg⟩ := b2_some e
  refine ⟨M, ρ, fo, fv, x, R, l, ea, fun M1 H1 v1 s1 R1 d1 => ⟨M1, ρ, fo, fv, y, R1, l, eb, fun M2 H2 v2 s2 R2 d2 => ?_⟩⟩
  unfold ndinD at eg
  split at eg
  · rename_i ks ds
    split at eg
    · cases q : keyD x with
      | none => rw [q] at eg; cases eg
      | some kk =>
        rw [q] at eg
        cases eg
        cases d2 with
        | dic h1 hk hd =>
          subst hk
          have hv := dlook_val (k := kk) hd
          rw [key_of d1 q]
          refine ⟨_, _, rfl, dget_rd (Rd.up R2.same h1), ?_⟩
          cases q2 : dlook kk _ ds with
          | none => rw [q2] at hv; rw [show valV _ kk = none from hv]; exact k M2 H2 _ (s1.trans s2) R2 (by simp only [q2]; exact .bl _)
          | some z => rw [q2] at hv; obtain ⟨v, ev, _⟩ := hv; rw [ev]; exact k M2 H2 _ (s1.trans s2) R2 (by simp only [q2]; exact .bl _)
    · cases eg
  · cases eg
theorem pNdin (hu : X.A.units + 64 < cLine) (ha : PE X a (tP X.K fa)) (hb : PE X b (tP X.K fb)) (hm : behindInMarks .NotIn b = false := by rfl) : PE X (.Compare a [.NotIn] [b] pos) (tP X.K (b2 fa fb ndinD)) := PE.imp (pe_cmp (pc_dnotin (by omega) ha hb) hm) fun _ _ _ h => ndin_of h
theorem tNdin' (hu : X.A.units + 64 < cLine) (ha : PE X a (tP X.K fa)) (hb : PE X b (tP X.K fb)) (hm : behindInMarks .NotIn b = false := by rfl) : PT X (.Compare a [.NotIn] [b] pos) (tT X.K (asB (b2 fa fb ndinD))) :=
  PT.imp (pt_cmp (pc_dnotin (by omega) ha hb) hm) fun σ H Q ⟨M, ρ, fo, fv, b, R, l, e, k⟩ => ndin_of (K := X.K) (Q := fun x H' => ∃ k, x = .bl k ∧ Q k H') ⟨M, ρ, fo, fv, .bl b, R, l, asB_some e, fun M' H' v s R' dv => by cases dv; exact ⟨b, rfl, k M' H' s R'⟩⟩

/-! ### {k: v} -/
def dic1 (fk fv : Ev → Option D) (ρ : Ev) : Option O := (fk ρ).bind fun y => (keyD y).bind fun k => (fv ρ).map fun d => .dic [k] [.dat d]
theorem Rep.dic1 {K : PySem.W.Frag} {M H : Hp} {l r : List O} {lv rv : List (Option V)} {p : Addr} (R : Rep K M H (l ++ .dic [] [] :: r) (lv ++ some (.ref p) :: rv)) (e : lv.length = l.length) {k : Key} {v : V} {d : D} (dv : Dv K M v d) :
    H p = some (.dK []) ∧ Rep K M (upd H p (.dK [(k, v)])) (l ++ .dic [k] [.dat d] :: r) (lv ++ some (.ref p) :: rv) := by
  obtain ⟨fa, f, fb, w1, w2, w3, nd, nm⟩ := R.mid e
  cases w2 with
  | dic hA hk ws =>
    rename_i kvs fp
    have : kvs = [] := by cases kvs with | nil => rfl | cons _ _ => cases hk
    subst this
    cases ws
    refine ⟨hA, ?_⟩
    have nd' := nd
    rw [List.nodup_iff_count] at nd'
    have na := nd' p
    simp only [List.count_append, List.count_cons, beq_self_eq_true, if_true, List.cons_append] at na
    have ne : ∀ c, c ∈ fa ∨ c ∈ fb → c ≠ p := fun c hc z => by
      subst z
      rcases hc with hc | hc <;> (have := List.count_pos_iff.mpr hc; omega)
    have mA : M p = none := nm p (by simp)
    refine ⟨fun b q hb => ?_, fa ++ ([p] ++ fb), ?_, nd, nm⟩
    · rw [upd_ne (fun z => by subst z; rw [mA] at hb; cases hb)]; exact R.same b q hb
    · exact (w1.frame (Same.refl _) fun c hc => upd_ne (ne c (.inl hc))).append (.cons (.dic upd_same rfl (Ows.cons (.dat dv) .nil)) (w3.frame (Same.refl _) fun c hc => upd_ne (ne c (.inr hc))))
theorem oDic1 (ha : PE X a (tP X.K fa)) (hb : PE X b (tP X.K fb)) : PE X (.Dict [some a] [b] pos) (tO X.K (dic1 fa fb)) := PE.imp (pe_disp (pps_cons ha hb pps_nil) rfl rfl (by simp) (by simp)) fun σ H Q ⟨M, ρ, fo, fv, o, R, l, e, k⟩ => by
  unfold dic1 at e
  cases q : fa ρ with
  | none => rw [q] at e; cases e
  | some y =>
    rw [q, Option.bind_some] at e
    cases q2 : keyD y with
    | none => rw [q2] at e; cases e
    | some ky =>
      rw [q2, Option.bind_some] at e
      cases q3 : fb ρ with
      | none => rw [q3] at e; cases e
      | some d =>
        rw [q3] at e
        cases e
        intro p hp
        have R1 := R.newD l hp
        refine ⟨M, ρ, _, _, y, R1, l, q, fun M2 H2 v2 s2 R2 d2 => ⟨M2, ρ, _, _, d, R2, l, q3, fun M3 H3 v3 s3 R3 d3 => ?_⟩⟩
        obtain ⟨hA, R4⟩ := R3.dic1 (k := ky) l d3
        refine ⟨hA, [(ky, v3)], by rw [key_of d2 q2]; rfl, by simp, ?_⟩
        exact k M3 _ _ (s2.trans s3) R4
end
section
variable {X : Cx} {k n : Nat} {f : Addr} {fd : FuncData} {ps : List Str} {x : Str} {p pos : Pos} {ga : Ev → Option (List D)}
theorem oCallK {m : List D → Option O} {ks : List Str} {kws : List Keyword} {g : List Value → List Value → List Value} (F : FnOk X.prog X.w X.K X.mg X.base CX0 k f fd ps (spO X.K n m)) (hr : Room k X.A) (hm : X.mg x = some (.ref f)) (hk : PySem.W.keepIn X.K (.ref f) = true) (hb : KBn X.K fd ps 0 ks g (fun vs zs => vs ++ zs)) (hn : ks.length = n)
    (hkw : PK X kws (tAr X.K ga)) (hg : Gl X x := by rfl) (hall : (backToKw pos (keywordEach kws X.env)).all (·.1.isSome) = true := by rfl) (hks : (backToKw pos (keywordEach kws X.env)).filterMap (·.1) = ks := by rfl)
    (hdb : (x == ("__debug__" : Str)) = false := by decide)
    (hpl : ((backTo pos (starEach [] X.env)).any (·.1) || (backToKw pos (keywordEach kws X.env)).any (·.1.isNone)) = false := by rfl) :
    PE X (.Call (.Name x p) [] kws pos) (tO X.K (cO' ga n m)) := PE.imp (pe_callN0 F hr hg hm hk hb pass0 hkw hall hks hdb hpl) fun σ H Q h => by
  obtain ⟨M, ρ, fo, fv, o, R, l, e, kk⟩ := h
  unfold cO' at e
  cases q : ga ρ with
  | none => rw [q] at e; cases e
  | some ds =>
    rw [q, Option.bind_some] at e
    split at e
    · rename_i hl
      refine ⟨M, ρ, fo, fv, ds, R, l, q, fun M1 H1 vs s1 R1 d1 => ?_⟩
      have hv : vs.length = n := by rw [d1.length]; exact hl
      exact ⟨by omega, hv, M1, ρ ++ fo, σ ++ fv, ds, o, R1, d1, e, fun M2 H2 v s2 R2 => kk M2 H2 v (s1.trans s2) (R2.swap l)⟩
    · cases e
end
end PD

namespace PD
open PySem PySem.Spec L2

/-! ### raise C(..) -/
def raiS (C : Addr) (fs : List Str) (ga : Ev → Option (List D)) (ρ : Ev) : Option Fl := (ga ρ).bind fun ds => if ds.length = fs.length then some (.ex ⟨.ref C, some (fs, ds)⟩ ρ) else none
theorem zip_snd' {α β : Type} : ∀ {ks : List α} {vs : List β}, vs.length = ks.length → (ks.zip vs).map (·.2) = vs
  | [], [], _ => rfl
  | k :: ks, v :: vs, h => by
    simp only [List.zip_cons_cons, List.map_cons]
    rw [zip_snd' (by simpa using h)]
  | [], _ :: _, h => by simp at h
  | _ :: _, [], h => by simp at h
theorem zip_fst' {α β : Type} : ∀ {ks : List α} {vs : List β}, vs.length = ks.length → (ks.zip vs).map (·.1) = ks
  | [], [], _ => rfl
  | k :: ks, v :: vs, h => by
    simp only [List.zip_cons_cons, List.map_cons]
    rw [zip_fst' (by simpa using h)]
  | [], _ :: _, h => by simp at h
  | _ :: _, [], h => by simp at h
section
variable {X : Cx} {W : WX} {J : List Nat} {pos p q : Pos} {e : Expr} {es : List Expr} {ga : Ev → Option (List D)}
theorem sRaise {x : Str} {C : Addr} {fs : List Str} (hc : X.calm = true) (tk : L2N.Takes X W) (T : XCls X.prog X.K X.mg C fs) (hne : fs ≠ []) (hr : Room 1 X.A) (hm : X.mg x = some (.ref C)) (ha : PA X (e :: es) (tAr X.K ga)) (hg : Gl X x := by rfl)
    (hdb : (x == ("__debug__" : Str)) = false := by decide) (he : starEach (e :: es) X.env = (false, eval e X.env) :: starEach es X.env := by rfl) (hpl : (backTo q (starEach es X.env)).any (·.1) = false := by rfl) :
    PS X (.Raise (some (.Call (.Name x p) (e :: es) [] q)) none pos) (tS X.K W J (raiS C fs ga)) :=
  PS.imp (L2N.ps_raise hc tk (pmk_x T hne hr hm ha hg hdb he hpl)) fun E σ H ⟨M, ρ, fo, fv, r, σ0, R, l, e, k⟩ => by
    unfold raiS at e
    cases q : ga ρ with
    | none => rw [q] at e; cases e
    | some ds =>
      rw [q, Option.bind_some] at e
      split at e
      · rename_i hl
        cases e
        refine ⟨M, ρ, fo, fv, ds, R, l.1, q, fun M1 H1 vs s1 R1 d1 => ?_⟩
        have hv : vs.length = fs.length := by rw [d1.length]; exact hl
        refine ⟨hv, fun dx hdx => ?_⟩
        have s2 := same_updM (u := .xd (fs.zip vs)) (R1.same.free hdx)
        refine k _ _ σ _ _ (s1.trans s2) (R1.growM hdx) l ⟨rfl, .inr ⟨fs, ds, dx, fs.zip vs, rfl, rfl, upd_same, zip_fst' hv, ?_⟩⟩
        rw [zip_snd' hv]
        exact d1.mono s2
      · cases e
end

/-! ### defs that may raise -/
section
variable {P : Program} {w : World} {K : PySem.W.Frag} {mg : Str → Option Value} {base : Heap}
theorem fnX {x qual : Str} {st : Stmt} {f : Addr} {fd : FuncData} {N ps : List Str} {k : Nat} {b : Ev → Option Fl} (F : Fun K x qual st f fd) (S : FnScope N ps (defScope st))
    (hb : ∀ (cdv : Value) (A : Around) (outer : List Env) (s : Shared) (H : Hp) (E : XK), Room k (A.deeper (PyProof.Rows.envOfC qual (defScope st) s.heap.objs.size f cdv)) →
      PSs (cxOf (L2N.CX P w) P w K mg base N qual (defScope st) f cdv A outer s H E) (defBody st) (tS K (fun cls d _ H => E cls d H) [] b)) : FnOk P w K mg base (L2N.CX P w) (k + 1) f fd ps (spX K ps.length (runX N.length b)) := by
  obtain ⟨oc, od, kV, doc, pm, an, cdv, ct, osl, rfl, lk, hcd⟩ := F.ex
  refine fn_of lk hcd S (fun vs H Q E h => ?_) fun A outer s H vs Q E hr h => ⟨_, hb cdv A outer s H E hr, ?_⟩
  · obtain ⟨_, _, _, _, _, hl, _⟩ := h
    exact hl
  obtain ⟨M, fo, fv, ds, r, hl, R, dv, e, k⟩ := h
  obtain ⟨R1, l1⟩ := R.enter (N := N) dv
  unfold runX at e
  cases q : b (env0 N.length ds) with
  | none => rw [q] at e; cases e
  | some z =>
    rw [q, Option.bind_some] at e
    refine ⟨M, _, fo, fv, z, L2.start N vs, R1, ⟨l1, fun _ z => nomatch z⟩, q, ?_⟩
    cases z with
    | nx ρ =>
      cases e
      exact fun M1 H1 σ1 s1 R1 l1 => k M1 H1 _ s1 ((R1.push l1.1 .non).dropL l1.1)
    | rt o' ρ =>
      cases e
      exact fun M1 H1 σ1 v s1 R1 l1 => k M1 H1 v s1 (R1.dropL l1.1)
    | bk ρ => cases e
    | ct ρ => cases e
    | ex y ρ =>
      cases e
      exact fun M1 H1 σ1 cls d s1 R1 l1 ex => k M1 H1 cls d s1 (R1.dropL l1.1) ex
end

/-! ### such defs, called -/
def okO : Rz → Option O
  | .ok o => some o
  | .ex _ => none
/-- where nothing is raised -/
def cX (ga : Ev → Option (List D)) (n : Nat) (m : List D → Option Rz) (ρ : Ev) : Option O := (ga ρ).bind fun ds => if ds.length = n then (m ds).bind okO else none
/-- a reading that may raise -/
def tXc (K : PySem.W.Frag) (W : WX) (f : Ev → Option Rz) : TE := fun σ H Q => ∃ M ρ fo fv r, Rep K M H (ρ ++ fo) (σ ++ fv) ∧ σ.length = ρ.length ∧ f ρ = some r ∧ match r with
  | .ok o => ∀ M' H' v, Same M M' → Rep K M' H' (ρ ++ o :: fo) (σ ++ some v :: fv) → Q v H'
  | .ex x => ∀ M' H' cls d, Same M M' → Rep K M' H' (ρ ++ fo) (σ ++ fv) → ExR K M' x cls d → W cls d σ H'
def xC (ga : Ev → Option (List D)) (n : Nat) (m : List D → Option Rz) (ρ : Ev) : Option Rz := (ga ρ).bind fun ds => if ds.length = n then m ds else none
section
variable {X : Cx} {W : WX} {J : List Nat} {k n : Nat} {f : Addr} {fd : FuncData} {ps : List Str} {x : Str} {p pos : Pos} {e : Expr} {es : List Expr} {ga : Ev → Option (List D)} {m : List D → Option Rz} {g : Ev → Option Rz}
theorem passX : Passes (L2N.CX X.prog X.w) X E0 := fun _ _ _ _ _ _ _ h => by
  obtain ⟨_, _, _, _, _, _, _, _, _, _, _, _, z⟩ := h
  exact z.elim
theorem oCallX (F : FnOk X.prog X.w X.K X.mg X.base (L2N.CX X.prog X.w) k f fd ps (spX X.K n m)) (hr : Room k X.A) (hm : X.mg x = some (.ref f)) (hk : PySem.W.keepIn X.K (.ref f) = true) (hb : Binds X.K fd ps []) (ha : PA X (e :: es) (tAr X.K ga)) (hg : Gl X x := by rfl)
    (hdb : (x == ("__debug__" : Str)) = false := by decide) (he : starEach (e :: es) X.env = (false, eval e X.env) :: starEach es X.env := by rfl) (hpl : (backTo pos (starEach es X.env)).any (·.1) = false := by rfl) : PE X (.Call (.Name x p) (e :: es) [] pos) (tO X.K (cX ga n m)) :=
  PE.imp (pe_call (E := E0) F hr hg hm hk hb .nil passX ha hdb he hpl) fun σ H Q ⟨M, ρ, fo, fv, o, R, l, e, kk⟩ => by
    unfold cX at e
    cases q : ga ρ with
    | none => rw [q] at e; cases e
    | some ds =>
      rw [q, Option.bind_some] at e
      split at e
      · rename_i hl
        cases q2 : m ds with
        | none => rw [q2] at e; cases e
        | some r =>
          rw [q2, Option.bind_some] at e
          cases r with
          | ex _ => cases e
          | ok o' =>
            cases e
            refine ⟨M, ρ, fo, fv, ds, R, l, q, fun M1 H1 vs s1 R1 d1 => ?_⟩
            exact ⟨M1, ρ ++ fo, σ ++ fv, ds, .ok o, by simp [d1.length, hl], R1, by simpa using d1, q2, fun M2 H2 v s2 R2 => kk M2 H2 v (s1.trans s2) (R2.swap l)⟩
      · cases e
theorem xCall (tk : L2N.Takes X W) (F : FnOk X.prog X.w X.K X.mg X.base (L2N.CX X.prog X.w) k f fd ps (spX X.K n m)) (hr : Room k X.A) (hm : X.mg x = some (.ref f)) (hk : PySem.W.keepIn X.K (.ref f) = true) (hb : Binds X.K fd ps []) (ha : PA X (e :: es) (tAr X.K ga)) (hg : Gl X x := by rfl)
    (hdb : (x == ("__debug__" : Str)) = false := by decide) (he : starEach (e :: es) X.env = (false, eval e X.env) :: starEach es X.env := by rfl) (hpl : (backTo pos (starEach es X.env)).any (·.1) = false := by rfl) : PE X (.Call (.Name x p) (e :: es) [] pos) (tXc X.K W (xC ga n m)) :=
  PE.imp (pe_callS (E := WE W) F hr hg hm hk hb (fun σ => L2N.passAt tk σ) ha hdb he hpl) fun σ H Q ⟨M, ρ, fo, fv, r, R, l, e, kk⟩ => by
    unfold xC at e
    cases q : ga ρ with
    | none => rw [q] at e; cases e
    | some ds =>
      rw [q, Option.bind_some] at e
      split at e
      · rename_i hl
        refine ⟨M, ρ, fo, fv, ds, R, l, q, fun M1 H1 vs s1 R1 d1 => ?_⟩
        refine ⟨M1, ρ ++ fo, σ ++ fv, ds, r, by simp [d1.length, hl], R1, by simpa using d1, e, ?_⟩
        cases r with
        | ok o => exact fun M2 H2 v s2 R2 => kk M2 H2 v (s1.trans s2) (R2.swap l)
        | ex y => exact fun M2 H2 cls d s2 R2 ex => kk M2 H2 cls d (s1.trans s2) R2 ex
      · cases e
def stX (i : Nat) (f : Ev → Option Rz) (ρ : Ev) : Option Fl := (f ρ).bind fun r => match r with
  | .ok o => some (.nx (ρ.set i o))
  | .ex x => some (.ex x ρ)
def stXD (i : Nat) (f : Ev → Option Rz) (ρ : Ev) : Option Fl := (f ρ).bind fun r => match r with
  | .ok o => o.toD.map fun d => .nx (ρ.set i (.dat d))
  | .ex x => some (.ex x ρ)
def rtX (f : Ev → Option Rz) (ρ : Ev) : Option Fl := (f ρ).map fun r => match r with
  | .ok o => .rt o ρ
  | .ex x => .ex x ρ
def drpX (f : Ev → Option Rz) (ρ : Ev) : Option Fl := (f ρ).map fun r => match r with
  | .ok _ => .nx ρ
  | .ex x => .ex x ρ
theorem sSetX {i : Nat} {y : Str} {pos' : Pos} (hN : X.N.Nodup) (he : PE X e (tXc X.K W g)) (hJ : i ∉ J := by decide) (hi : X.N[i]? = some y := by rfl) (hx : Loc X.env.scope y := by first | exact Or.inl rfl | exact Or.inr rfl) (hs : swapsWith e (some (.Name y pos')) pos.line X.env = pure false := by rfl)
    (hf : X.fn y = true ∨ X.env.scope.names.lookup y = some .local := by first | exact .inl rfl | exact .inr rfl) : PS X (.Assign [.Name y pos'] e pos) (tS X.K W J (stX i g)) := PS.imp (ps_set (i := i) hN hi hx he hs hf) fun E σ H ⟨M, ρ, fo, fv, r, σ0, R, l, e, k⟩ => by
  unfold stX at e
  cases q : g ρ with
  | none => rw [q] at e; cases e
  | some z =>
    rw [q, Option.bind_some] at e
    refine ⟨M, ρ, fo, fv, z, R, l.1, q, ?_⟩
    cases z with
    | ok o => cases e; exact fun M1 H1 v s1 R1 => k M1 H1 _ s1 (R1.into l.1) (l.set hJ _ _)
    | ex y => cases e; exact fun M1 H1 cls d s1 R1 ex => k M1 H1 σ cls d s1 R1 l ex
theorem sSetXD {i : Nat} {y : Str} {pos' : Pos} (hN : X.N.Nodup) (he : PE X e (tXc X.K W g)) (hJ : i ∉ J := by decide) (hi : X.N[i]? = some y := by rfl) (hx : Loc X.env.scope y := by first | exact Or.inl rfl | exact Or.inr rfl) (hs : swapsWith e (some (.Name y pos')) pos.line X.env = pure false := by rfl)
    (hf : X.fn y = true ∨ X.env.scope.names.lookup y = some .local := by first | exact .inl rfl | exact .inr rfl) : PS X (.Assign [.Name y pos'] e pos) (tS X.K W J (stXD i g)) := PS.imp (ps_set (i := i) hN hi hx he hs hf) fun E σ H ⟨M, ρ, fo, fv, r, σ0, R, l, e, k⟩ => by
  unfold stXD at e
  cases q : g ρ with
  | none => rw [q] at e; cases e
  | some z =>
    rw [q, Option.bind_some] at e
    refine ⟨M, ρ, fo, fv, z, R, l.1, q, ?_⟩
    cases z with
    | ok o =>
      cases q2 : o.toD with
      | none => simp only [q2] at e; cases e
      | some d =>
        simp only [q2] at e
        cases e
        intro M1 H1 v s1 R1
        obtain ⟨M2, s2, R2, d2⟩ := R1.frz l.1 rfl q2
        exact k M2 H1 _ (s1.trans s2) (R2.into l.1) (l.set hJ _ _)
    | ex y => cases e; exact fun M1 H1 cls d s1 R1 ex => k M1 H1 σ cls d s1 R1 l ex
theorem sRetX (he : PE X e (tXc X.K W g)) : PS X (.Return (some e) pos) (tS X.K W J (rtX g)) := PS.imp (ps_ret he) fun E σ H ⟨M, ρ, fo, fv, r, σ0, R, l, e, k⟩ => by
  unfold rtX at e
  cases q : g ρ with
  | none => rw [q] at e; cases e
  | some z =>
    rw [q] at e
    refine ⟨M, ρ, fo, fv, z, R, l.1, q, ?_⟩
    cases z with
    | ok o => cases e; exact fun M1 H1 v s1 R1 => k M1 H1 σ v s1 R1 l
    | ex y => cases e; exact fun M1 H1 cls d s1 R1 ex => k M1 H1 σ cls d s1 R1 l ex
theorem sExprX (he : PE X e (tXc X.K W g)) (hs : swapsWith e none pos.line X.env = pure false := by rfl) : PS X (.Expr e pos) (tS X.K W J (drpX g)) := PS.imp (ps_expr he hs) fun E σ H ⟨M, ρ, fo, fv, r, σ0, R, l, e, k⟩ => by
  unfold drpX at e
  cases q : g ρ with
  | none => rw [q] at e; cases e
  | some z =>
    rw [q] at e
    refine ⟨M, ρ, fo, fv, z, R, l.1, q, ?_⟩
    cases z with
    | ok o => cases e; exact fun M1 H1 v s1 R1 => k M1 H1 σ s1 (R1.drop l.1) l
    | ex y => cases e; exact fun M1 H1 cls d s1 R1 ex => k M1 H1 σ cls d s1 R1 l ex
end

/-! ### try: .. except C as n: .. -/
def exnD (a : Addr) (da : Addr) (x : Exn) : D := match x.fs with
  | none => .exn a none x.cls [] []
  | some (ks, ds) => .exn a (some da) x.cls ks ds
def exnA (da : Addr) (x : Exn) : Option Addr := x.fs.map fun _ => da
def unX (i : Nat) : Fl → Option Fl
  | .nx ρ => some (.nx (ρ.set i .unk))
  | .bk ρ => some (.bk (ρ.set i .unk))
  | .ct ρ => some (.ct (ρ.set i .unk))
  | .rt o ρ => some (.rt o (ρ.set i .unk))
  | .ex _ _ => none
open Classical in
/-- the suite, whatever object the exception is -/
noncomputable def suiteS (i : Nat) (sm : Addr → Option Addr → Value → Ev → Option Fl) (x : Exn) (ρ : Ev) : Option Fl :=
  if h : ∃ r, ∀ a da, (sm a (exnA da x) x.cls (ρ.set i (.dat (exnD a da x)))).bind (unX i) = some r then some h.choose else none
theorem suiteS_of {i : Nat} {sm : Addr → Option Addr → Value → Ev → Option Fl} {x : Exn} {ρ : Ev} {r : Fl} (h : ∀ a da, (sm a (exnA da x) x.cls (ρ.set i (.dat (exnD a da x)))).bind (unX i) = some r) : suiteS i sm x ρ = some r := by
  have hx : ∃ r, ∀ a da, (sm a (exnA da x) x.cls (ρ.set i (.dat (exnD a da x)))).bind (unX i) = some r := ⟨r, h⟩
  unfold suiteS
  rw [dif_pos hx]
  have := hx.choose_spec (0 : Nat) (0 : Nat)
  rw [h] at this
  rw [← Option.some.inj this]
theorem suiteS_some {i : Nat} {sm : Addr → Option Addr → Value → Ev → Option Fl} {x : Exn} {ρ : Ev} {r : Fl} (h : suiteS i sm x ρ = some r) (a da : Addr) : ∃ r1, sm a (exnA da x) x.cls (ρ.set i (.dat (exnD a da x))) = some r1 ∧ unX i r1 = some r := by
  unfold suiteS at h
  split at h
  · rename_i hx
    have := hx.choose_spec a da
    rw [h] at this
    cases q : sm a (exnA da x) x.cls (ρ.set i (.dat (exnD a da x))) with
    | none => rw [q] at this; cases this
    | some r1 => rw [q] at this; exact ⟨r1, rfl, this⟩
  · cases h
/-- which classes a clause takes -/
def mtc (tb : List (Addr × Bool)) : Value → Option Bool
  | .ref C => tb.lookup C
  | _ => none
noncomputable def tryS (tb : List (Addr × Bool)) (i : Nat) (b : Ev → Option Fl) (sm : Addr → Option Addr → Value → Ev → Option Fl) (ρ : Ev) : Option Fl := (b ρ).bind fun r => match r with
  | .ex x ρ1 => (mtc tb x.cls).bind fun t => if t = true then suiteS i sm x ρ1 else some (.ex x ρ1)
  | r => some r
section
variable {X : Cx} {W : WX} {J : List Nat} {x n : Str} {c : Value} {i : Nat} {body suite : List Stmt} {b₀ : Stmt} {np pos pos' : Pos} {b : Ev → Option Fl} {sm : Addr → Option Addr → Value → Ev → Option Fl} {tb : List (Addr × Bool)}
theorem exR_dv {K : PySem.W.Frag} {M : Hp} {y : Exn} {cls : Value} {d : Option Addr} (h : ExR K M y cls d) (a : Addr) : cls = y.cls ∧ ∃ da, d = exnA da y ∧ Dv K M (.ref a) (exnD a da y) := by
  obtain ⟨h1, h2⟩ := h
  refine ⟨h1, ?_⟩
  rcases h2 with ⟨e1, e2⟩ | ⟨ks, ds, da, fvs, e1, e2, hm, hk, hd⟩
  · exact ⟨(0 : Nat), by unfold exnA; rw [e1, e2]; rfl, by unfold exnD; rw [e1]; exact .exn0⟩
  · exact ⟨da, by unfold exnA; rw [e1, e2]; rfl, by unfold exnD; rw [e1]; exact .exn1 hm hk hd⟩
theorem sTryAs (hs : X.stack = X.env :: X.outer) (hf : X.env.frame = some X.env.locals) (hN : X.N.Nodup) (hc : Names X x c) (tk : L2N.Takes X W) (hm : ∀ C t, tb.lookup C = some t → PySem.W.exmOne X.K (.ref C) c = some t)
    (hb : ∀ (W : WX) (pn : List (Addr × Obj)) (xe : Value → Shared → Prop), L2N.Takes (X.tr pn xe) W → PassesOwn (model X.prog X.w) X.A X.env xe → PSs (X.tr pn xe) body (tS X.K W J b))
    (hsu : ∀ (a : Addr) (oe : Obj) (cls : Value) (d : Option Addr) (pn : List (Addr × Obj)), L2N.Zn cls d oe → (∃ vs, oe.data = .fields vs) → PSs (X.suite a ((a, oe) :: pn)) (b₀ :: suite) (tS X.K W0 J (sm a d cls)))
    (hJ : i ∉ J := by decide) (hi : X.N[i]? = some n := by rfl) (hln : X.env.kindOf n = some .local := by rfl) :
    PS X (.Try body [.ExceptHandler (some (.Name x np)) (some n) (b₀ :: suite) pos'] [] [] pos) (tS X.K W J (tryS tb i b sm)) :=
  PS.imp (L2N.ps_try_as (i := i) (tb := fun W => tS X.K W J b) (ts := fun a cls d => tS X.K W0 J (sm a d cls)) hs hf hN hi hln hc tk hb hsu) fun E σ H ⟨M, ρ, fo, fv, r, σ0, R, l, e, k⟩ => by
    unfold tryS at e
    cases q : b ρ with
    | none => rw [q] at e; cases e
    | some r1 =>
      rw [q, Option.bind_some] at e
      refine ⟨M, ρ, fo, fv, r1, σ0, R, l, q, ?_⟩
      cases r1 with
      | nx ρ1 => cases e; exact k
      | rt o ρ1 => cases e; exact k
      | bk ρ1 => cases e; exact k
      | ct ρ1 => cases e; exact k
      | ex y ρ1 =>
        intro M1 H1 σ1 cls d s1 R1 l1 ex
        have e : ((mtc tb y.cls).bind fun t => if t = true then suiteS i sm y ρ1 else some (.ex y ρ1)) = some r := e
        cases qm : mtc tb y.cls with
        | none => rw [qm] at e; cases e
        | some t =>
          rw [qm, Option.bind_some] at e
          have hcls := ex.1
          have ht : PySem.W.exmOne X.K cls c = some t := by
            rw [hcls]
            unfold mtc at qm
            split at qm
            · rename_i C hC
              rw [hC]; exact hm C t qm
            · cases qm
          refine ⟨t, ht, fun tt a ha => ?_, fun tf => ?_⟩
          · subst tt
            rw [if_pos rfl] at e
            obtain ⟨_, da, ed, dv⟩ := exR_dv ex a
            obtain ⟨r2, e4, e3⟩ := suiteS_some e a da
            rw [← ed, ← hcls] at e4
            refine ⟨M1, ρ1.set i (.dat (exnD a da y)), fo, fv, r2, σ0, R1.setD l1.1 dv, l1.set hJ _ _, e4, ?_⟩
            cases r2 with
            | nx ρ2 =>
              cases e3
              exact fun M2 H2 σ2 s2 R2 l2 => k M2 H2 _ (s1.trans s2) (R2.setU l2.1 none) (l2.set hJ _ _)
            | bk ρ2 =>
              cases e3
              exact fun M2 H2 σ2 s2 R2 l2 => k M2 H2 _ (s1.trans s2) (R2.setU l2.1 none) (l2.set hJ _ _)
            | ct ρ2 =>
              cases e3
              exact fun M2 H2 σ2 s2 R2 l2 => k M2 H2 _ (s1.trans s2) (R2.setU l2.1 none) (l2.set hJ _ _)
            | rt o ρ2 =>
              cases e3
              intro M2 H2 σ2 v s2 R2 l2
              have hσ : σ2.set i (σ2.getD i none) = σ2 := by
                by_cases hi : i < σ2.length
                · rw [List.getD_eq_getElem?_getD, List.getElem?_eq_getElem hi, Option.getD_some, List.set_getElem_self]
                · exact List.set_eq_of_length_le (by omega)
              have R3 := R2.setU l2.1 (i := i) (σ2.getD i none)
              have l3 := l2.set hJ (σ2.getD i none) .unk
              rw [hσ] at R3 l3
              exact k M2 H2 σ2 v (s1.trans s2) R3 l3
            | ex _ _ => cases e3
          · subst tf
            rw [if_neg Bool.false_ne_true] at e
            cases e
            exact k M1 H1 σ1 cls d s1 R1 l1 ex
end

/-! ### what a suite asks of the exception -/
def fldE (a : Addr) (d : Option Addr) (cls : Value) (cs : List Addr) (f : Str) (x : D) : Option D := match x, cls with
  | .exn a' d' _ ks vs, .ref C => if a' = a ∧ d' = d ∧ C ∈ cs then (ks.zip vs).lookup f else none
  | _, _ => none
def isiE (a : Addr) (cls : Value) (tb : List (Addr × Bool)) (x : D) : Option D := match x, cls with
  | .exn a' _ _ _ _, .ref C => if a' = a then (tb.lookup C).map .bl else none
  | _, _ => none
theorem look_dvs {K : PySem.W.Frag} {M : Hp} {f : Str} : ∀ {fs : List (Str × V)} {ds : List D} {d : D}, Dvs K M (fs.map (·.2)) ds → ((fs.map (·.1)).zip ds).lookup f = some d → ∃ v, fs.lookup f = some v ∧ Dv K M v d
  | [], [], _, .nil, e => by cases e
  | (k, v) :: fs, d0 :: ds, d, .cons h hs, e => by
    simp only [List.map_cons, List.zip_cons_cons, List.lookup_cons] at e ⊢
    cases q : f == k with
    | true =>
      simp only [q] at e ⊢
      cases e
      exact ⟨v, rfl, h⟩
    | false =>
      simp only [q] at e ⊢
      exact look_dvs hs e
section
variable {X : Cx} {a : Addr} {oe : Obj} {cls : Value} {d : Option Addr} {pn : List (Addr × Obj)} {pos p q : Pos} {e : Expr} {fa : Ev → Option D}
theorem pNever {K : PySem.W.Frag} {Y : Cx} {f : Ev → Option D} (h : ∀ ρ, f ρ = none) : PE Y e (tP K f) := ⟨fun p s σ H Q I ⟨M, ρ, fo, fv, d, R, l, e, k⟩ => by rw [h ρ] at e; cases e⟩
theorem pFldX {cs : List Addr} {f : Str} (hcs : ∀ C ∈ cs, XfC X.K C ∧ PySem.W.findIn X.K (.ref C) f = some none) (hz : Zc cls d oe) (hf : ∃ vs, oe.data = .fields vs) (he : PE (X.suite a ((a, oe) :: pn)) e (tP X.K fa)) (hb : attributeBase e f X.env (eval e X.env) = eval e X.env := by rfl) :
    PE (X.suite a ((a, oe) :: pn)) (.Attribute e f pos) (tP X.K (b1 fa (fldE a d cls cs f))) := by
  have hn : (∀ C ∈ cs, cls ≠ .ref C) → PE (X.suite a ((a, oe) :: pn)) (.Attribute e f pos) (tP X.K (b1 fa (fldE a d cls cs f))) := fun h => pNever fun ρ => by
    unfold b1
    cases fa ρ with
    | none => rfl
    | some z =>
      show fldE a d cls cs f z = none
      unfold fldE
      split
      · rename_i C
        rw [if_neg fun z => h C z.2.2 rfl]
      · rfl
  by_cases hC : ∃ C ∈ cs, cls = .ref C
  · obtain ⟨C, hm, hcl⟩ := hC
    obtain ⟨T, hno⟩ := hcs C hm
    refine PE.imp (pe_xf T hno hz hf he hb) fun σ H Q ⟨M, ρ, fo, fv, d0, R, l, e, k⟩ => ?_
    obtain ⟨y, ea, eg⟩ := b1_some e
    refine ⟨M, ρ, fo, fv, y, R, l, ea, fun M1 H1 v s1 R1 dv => ?_⟩
    unfold fldE at eg
    split at eg
    · split at eg
      · rename_i hc
        obtain ⟨rfl, rfl, _⟩ := hc
        cases dv with
        | exn0 => cases eg
        | exn1 hM hk hd =>
          subst hk
          obtain ⟨v1, e1, d1⟩ := look_dvs hd eg
          exact ⟨rfl, hcl, _, _, v1, rfl, R1.same _ _ hM, e1, k M1 H1 v1 s1 R1 d1⟩
      · cases eg
    · cases eg
  · exact hn fun C hm e => hC ⟨C, hm, e⟩
/-- isinstance(e, y) -/
def rIsX (K : PySem.W.Frag) (D a : Addr) (d : Option Addr) : List V → Hp → VK → Prop := fun xs H Q => ∃ (c : V) (cv : Value) (b : Bool), xs = [.ref a, c] ∧ (∀ u, RelV c u → u = cv) ∧ (∀ dd, d = some dd → ∃ fs, H dd = some (.xd fs)) ∧ PySem.W.kitOne K (.ref D) cv = some b ∧ Q (.bl b) H
theorem call_isEX {C0 : Addr} (C : ExcC X.K C0) (hz : Zc (.ref C0) d oe) (hf : ∃ vs, oe.data = .fields vs) : CallR (X.suite a ((a, oe) :: pn)) (.builtin "isinstance") (rIsX X.K C0 a d) := by
  intro pins s σ H xs us Q I r h
  obtain ⟨c, cv, b, rfl, hcv, hdd, e, q⟩ := h
  cases r with
  | cons rx rr => cases rr with
    | cons rt rr =>
      cases rr
      cases rx
      have ec := hcv _ rt
      subst ec
      obtain ⟨hget, _⟩ := I.pin (a, oe) (List.mem_append_left _ List.mem_cons_self)
      obtain ⟨vs, hv⟩ := hf
      obtain ⟨od, J⟩ : ∃ od, PySem.W.InstAt s.heap a oe C0 od := by
        cases hd : d with
        | none =>
          refine ⟨none, hget, hz.1, by unfold PySem.W.notCls; rw [hv] <;> rfl, ?_⟩
          rw [hz.2, hd]; trivial
        | some dd =>
          obtain ⟨fs, hfs⟩ := hdd dd hd
          have hx : ObjOk X.prog X.w H s.heap dd (.xd fs) := I.hok dd _ hfs
          obtain ⟨mA, hns, hr⟩ := hx
          obtain ⟨od, ho, hl⟩ := lookIn_ns hns
          refine ⟨some od, hget, hz.1, by unfold PySem.W.notCls; rw [hv] <;> rfl, ?_⟩
          rw [hz.2, hd]; exact ho
      have hcl : (PySem.W.clsIn X.K C0).isSome = true := by
        obtain ⟨cd, hc, _⟩ := PySem.W.any_some C.hd
        rw [hc]; rfl
      exact PySem.W.kia_one (PySem.W.kitx_exc hcl C.hg C.hk C.hs C.ha C.hn C.ht C.hm) I.kIn J e (fun z => nomatch z) fun tk => ⟨.bl b, H, I.kept (t' := tk) fun _ _ z => z, rfl, q⟩
theorem pIsXv {cs : List (Addr × Bool)} {y : Expr} {c : V} {cv : Value} (htb : ∀ C t, cs.lookup C = some t → ExcC X.K C ∧ PySem.W.kitOne X.K (.ref C) cv = some t) (hcv : ∀ u, RelV c u → u = cv) (hz : Zc cls d oe) (hf : ∃ vs, oe.data = .fields vs) (he : PE (X.suite a ((a, oe) :: pn)) e (tP X.K fa)) (hy : PE (X.suite a ((a, oe) :: pn)) y (tC c)) (hm : X.mg "isinstance" = none)
    (hg : Gl (X.suite a ((a, oe) :: pn)) "isinstance") (hs : starEach [e, y] X.env = (false, eval e X.env) :: starEach [y] X.env) (hs2 : starEach [y] X.env = (false, eval y X.env) :: starEach [] X.env) (hpl : (backTo pos (starEach [y] X.env)).any (·.1) = false) :
    PE (X.suite a ((a, oe) :: pn)) (.Call (.Name "isinstance" p) [e, y] [] pos) (tP X.K (b1 fa (fun x => match x with | .exn a' d' c' ks vs => if d' = d then isiE a cls cs (.exn a' d' c' ks vs) else none | _ => none))) := by
  have hn : (∀ C t, cs.lookup C = some t → cls ≠ .ref C) → PE (X.suite a ((a, oe) :: pn)) (.Call (.Name "isinstance" p) [e, y] [] pos) (tP X.K (b1 fa (fun x => match x with | .exn a' d' c' ks vs => if d' = d then isiE a cls cs (.exn a' d' c' ks vs) else none | _ => none))) := fun h => pNever fun ρ => by
    unfold b1
    cases fa ρ with
    | none => rfl
    | some z =>
      rw [Option.bind_some]
      split
      · split
        · unfold isiE
          split
          · rename_i C' _
            split
            · cases q : cs.lookup C' with
              | none => rfl
              | some t => exact absurd rfl (h C' t q)
            · rfl
          · rfl
        · rfl
      · rfl
  by_cases hC : ∃ C t, cs.lookup C = some t ∧ cls = .ref C
  · obtain ⟨C0, t, hl, rfl⟩ := hC
    obtain ⟨TC, hk⟩ := htb C0 t hl
    refine PE.imp (pe_callB (call_isEX TC hz hf) hg hm (by decide +kernel) (pa_cons he (pa_cons hy pa_nil hs2) hs) (by decide) (by decide) hs hpl) fun σ H Q ⟨M, ρ, fo, fv, d0, R, l, e, k⟩ => ?_
    obtain ⟨z, ea, eg⟩ := b1_some e
    refine ⟨M, ρ, fo, fv, z, R, l, ea, fun M1 H1 v s1 R1 dv => ?_⟩
    split at eg
    · split at eg
      · rename_i hdd
        subst hdd
        unfold isiE at eg
        simp only at eg
        split at eg
        · rename_i haa
          rw [hl] at eg
          cases eg
          have hv : v = .ref a := by rw [← haa]; cases dv <;> rfl
          refine ⟨c, cv, t, by rw [hv], hcv, fun dd hdd => ?_, hk, k M1 H1 _ s1 R1 (.bl _)⟩
          cases dv with
          | exn0 => cases hdd
          | exn1 hM _ _ => cases hdd; exact ⟨_, R1.same _ _ hM⟩
        · cases eg
      · cases eg
    · cases eg
  · exact hn fun C t hl e => hC ⟨C, t, hl, e⟩
def isX (a : Addr) (d : Option Addr) (cls : Value) (cs : List (Addr × Bool)) (x : D) : Option D := match x with
  | .exn a' d' c' ks vs => if d' = d then isiE a cls cs (.exn a' d' c' ks vs) else none
  | _ => none
theorem pIsXo {cs : List (Addr × Bool)} {y : Str} {C1 : Addr} (htb : ∀ C t, cs.lookup C = some t → ExcC X.K C ∧ PySem.W.kitOne X.K (.ref C) (.ref C1) = some t) (hmC : X.mg y = some (.ref C1)) (hz : Zc cls d oe) (hf : ∃ vs, oe.data = .fields vs) (he : PE (X.suite a ((a, oe) :: pn)) e (tP X.K fa)) (hm : X.mg "isinstance" = none)
    (hg : Gl (X.suite a ((a, oe) :: pn)) "isinstance" := by rfl) (hgT : Gl (X.suite a ((a, oe) :: pn)) y := by rfl) (hd : (y == ("__debug__" : Str)) = false := by decide) (hs : starEach [e, .Name y q] X.env = (false, eval e X.env) :: starEach [.Name y q] X.env := by rfl) (hs2 : starEach [.Name y q] X.env = (false, eval (.Name y q) X.env) :: starEach [] X.env := by rfl) (hpl : (backTo pos (starEach [.Name y q] X.env)).any (·.1) = false := by rfl) :
    PE (X.suite a ((a, oe) :: pn)) (.Call (.Name "isinstance" p) [e, .Name y q] [] pos) (tP X.K (b1 fa (isX a d cls cs))) :=
  pIsXv (c := .ref C1) (cv := .ref C1) htb (fun _ r => r) hz hf he (pe_glob (v := .ref C1) hgT hmC rfl hd) hm hg hs hs2 hpl
theorem pIsXt {cs : List (Addr × Bool)} {y : Str} {T : String} (htb : ∀ C t, cs.lookup C = some t → ExcC X.K C ∧ PySem.W.kitOne X.K (.ref C) (.type T) = some t) (hmT : X.mg y = none) (hz : Zc cls d oe) (hf : ∃ vs, oe.data = .fields vs) (he : PE (X.suite a ((a, oe) :: pn)) e (tP X.K fa)) (hm : X.mg "isinstance" = none)
    (hv : bootBuiltins y = some (.type T) := by decide +kernel) (hg : Gl (X.suite a ((a, oe) :: pn)) "isinstance" := by rfl) (hgT : Gl (X.suite a ((a, oe) :: pn)) y := by rfl) (hn : y ≠ "__name__" := by decide) (hd : (y == ("__debug__" : Str)) = false := by decide) (hs : starEach [e, .Name y q] X.env = (false, eval e X.env) :: starEach [.Name y q] X.env := by rfl) (hs2 : starEach [.Name y q] X.env = (false, eval (.Name y q) X.env) :: starEach [] X.env := by rfl) (hpl : (backTo pos (starEach [.Name y q] X.env)).any (·.1) = false := by rfl) :
    PE (X.suite a ((a, oe) :: pn)) (.Call (.Name "isinstance" p) [e, .Name y q] [] pos) (tP X.K (b1 fa (isX a d cls cs))) :=
  pIsXv (c := .ty T) (cv := .type T) htb (fun _ r => r) hz hf he (pe_bltn (v := .ty T) hgT hmT hv rfl hn hd) hm hg hs hs2 hpl
end
end PD

namespace PD
open PySem PySem.Spec L2
/-- the text of an own error's __init__ -/
structure XSt (qual : Str) (st : Stmt) (fs : List Str) : Prop where
  ar : ∃ ar, ((defArgs st).posonlyargs ++ (defArgs st).args).head? = some ar ∧ ar.arg = "self"
  n1 : (defScope st).names.lookup ("super" : Str) = some .globalImplicit
  n2 : (defScope st).names.lookup ("__class__" : Str) = some .free
  n3 : (defScope st).kind = .function
  n4 : (defScope st).names.lookup ("self" : Str) = some .local
  n5 : (defScope st).isCoroutine = false
  n6 : (defScope st).isGenerator = false
  n7 : ∀ y ∈ (defScope st).names, y.2 ≠ .cell
  body : ∃ p0 p1 p2 p3 p4 p5 x j rest, defBody st = superSt p0 p1 p2 p3 p4 p5 x j :: rest ∧ SupEv qual (defScope st) p0 p1 p2 p3 p4 x j ∧ Flds rest fs
  binds : ∀ (nm : Str) (cc : Addr) (kV doc pm cd ct : Value) (an : Option Addr) (us : List Value), us.length = fs.length + 1 → bindArgs (PySem.W.fnX nm qual (defArgs st) (defBody st) (defScope st) [("__class__", cc)] .none kV doc pm an cd ct) ⟨us, []⟩ = pure ((("self" : Str) :: fs).zip us)
  loc : ∀ y ∈ fs, (defScope st).names.lookup y = some .local ∧ (y == ("__debug__" : Str)) = false
  nd : (("self" : Str) :: fs).Nodup
  few : fs.length ≤ 800
section
variable {prog : Program} {K : PySem.W.Frag} {mg : Str → Option Value} {C f cc cda D N : Addr} {fs : List Str} {qual nm cn cq : Str} {st : Stmt} {bs bm sub : List Value} {sn : List Str} {ab : Bool} {col : Option Bool} {dd an od cdd cld : Option Addr} {k0 k1 k2 k3 k5 : Option Value} {kV doc pm ct oc ccl cl : Value} {osl ccs csl : Array (Option Value)} {vs : Array Value} {file : Str} {tf : Tok} {cdD : ClassData}
theorem xcls_mk (S : XSt qual st fs) (hL : K.lookup C = some (excClassObj cn cq C N bs bm true sn sub ab col dd k0 k1 k2 k3 k5 "ValueError.__new__")) (hbm : PySem.HandSPX.refsVE bm = true) (sa : PySem.W.findIn K (.ref C) "__setattr__" = some (some (.builtin "object.__setattr__"))) (exC : PySem.W.subIn K (.ref C) (.type "BaseException") = some true) (tyC : PySem.W.typeIn K (.ref C) = some (.type "type")) (kC : PySem.W.keepIn K (.ref C) = true)
    (ve : PySem.W.subIn K (.ref C) (.type "ValueError") = some true) (hin : PySem.W.findIn K (.ref C) "__init__" = some (some (.ref f))) (hty : PySem.W.typeIn K (.ref f) = some (.type "function"))
    (lk : K.lookup f = some ⟨oc, od, .func (PySem.W.fnX nm qual (defArgs st) (defBody st) (defScope st) [("__class__", cc)] .none kV doc pm an (.ref cda) ct), osl⟩) (hcode : PySem.W.codeIn K (.ref cda) qual = true)
    (hcda : K.lookup cda = some ⟨ccl, cdd, .fields vs, ccs⟩) (hvs : vs[2]? = some (.str file tf)) (hfile : ((prog.main.file : Str) == file) = true) (hcc : K.lookup cc = some ⟨cl, cld, .cell (some (.ref D)), csl⟩) (hD : PySem.W.clsIn K D = some cdD) (hmro : PySem.W.mroIn K C (.ref D) = some true)
    (hst : PySem.W.nsIn K cStatics "thirdparty.any" = some none) (hsup : PySem.W.ks_superIn K C D "__init__" = some (some (.builtin "ValueError.__init__"))) (hno : ∀ y ∈ fs, PySem.W.findIn K (.ref C) y = some none) (sup : mg "super" = none) (top : (prog.main.scope.names.lookup ("super" : Str)).isSome = false) : XCls prog K mg C fs := by
  obtain ⟨ar, a1, a2⟩ := S.ar
  obtain ⟨p0, p1, p2, p3, p4, p5, x, j, rest, b1, b2, b3⟩ := S.body
  exact ⟨⟨⟨cn, cq, N, bs, bm, sn, sub, ab, col, dd, k0, k1, k2, k3, k5, hL, hbm⟩, sa, exC, tyC, kC⟩, ve,
    ⟨f, cc, cda, D, qual, nm, defArgs st, defBody st, defScope st, .none, kV, doc, pm, ct, oc, ccl, cl, an, od, cdd, cld, osl, ccs, csl, vs, file, tf, cdD, ar, p0, p1, p2, p3, p4, p5, x, j, rest, hin, hty, lk, hcode, a1, a2, hcda, hvs, hfile, hcc, hD, hmro, hst, hsup,
      S.n1, S.n2, S.n3, S.n4, S.n5, S.n6, S.n7, b1, b2, b3, fun us hl => S.binds _ _ _ _ _ _ _ _ us hl, fun y hy => ⟨hno y hy, S.loc y hy⟩, S.nd, S.few⟩, sup, top⟩
end
end PD
namespace PD
open PySem PySem.Spec L2
theorem tb_all {P : Addr → Bool → Prop} : ∀ {tb : List (Addr × Bool)}, (∀ p ∈ tb, P p.1 p.2) → ∀ C t, tb.lookup C = some t → P C t
  | [], _, _, _, e => by cases e
  | (k, b) :: tb, h, C, t, e => by
    rw [List.lookup_cons] at e
    cases q : C == k with
    | true =>
      rw [q] at e
      have hk : C = k := by simpa using q
      cases e
      subst hk
      exact h _ List.mem_cons_self
    | false =>
      rw [q] at e
      exact tb_all (fun p hp => h p (List.mem_cons_of_mem _ hp)) C t e
theorem fa_nil {α : Type} {P : α → Prop} : ∀ p ∈ ([] : List α), P p := fun _ h => nomatch h
theorem fa_cons {α : Type} {P : α → Prop} {a : α} {l : List α} (h : P a) (hs : ∀ p ∈ l, P p) : ∀ p ∈ a :: l, P p := fun p hp => (List.mem_cons.mp hp).elim (fun e => e ▸ h) (hs p)
end PD
namespace PD
open PySem PySem.Spec L2
section
variable {X : Cx} {k n : Nat} {f : Addr} {fd : FuncData} {ps : List Str} {x : Str} {p pos : Pos} {ga g : Ev → Option (List D)} {m : List D → Option Rz} {e : Expr} {es : List Expr} {fe : Ev → Option D}
theorem oCallXK {ks : List Str} {kws : List Keyword} {gg : List Value → List Value → List Value} (F : FnOk X.prog X.w X.K X.mg X.base (L2N.CX X.prog X.w) k f fd ps (spX X.K n m)) (hr : Room k X.A) (hm : X.mg x = some (.ref f)) (hk : PySem.W.keepIn X.K (.ref f) = true) (hb : KBn X.K fd ps 0 ks gg (fun vs zs => vs ++ zs)) (hn : ks.length = n)
    (hkw : PK X kws (tAr X.K ga)) (hg : Gl X x := by rfl) (hall : (backToKw pos (keywordEach kws X.env)).all (·.1.isSome) = true := by rfl) (hks : (backToKw pos (keywordEach kws X.env)).filterMap (·.1) = ks := by rfl)
    (hdb : (x == ("__debug__" : Str)) = false := by decide)
    (hpl : ((backTo pos (starEach [] X.env)).any (·.1) || (backToKw pos (keywordEach kws X.env)).any (·.1.isNone)) = false := by rfl) :
    PE X (.Call (.Name x p) [] kws pos) (tO X.K (cX ga n m)) := PE.imp (pe_callN0 F hr hg hm hk hb passX hkw hall hks hdb hpl) fun σ H Q h => by
  obtain ⟨M, ρ, fo, fv, o, R, l, e, kk⟩ := h
  unfold cX at e
  cases q : ga ρ with
  | none => rw [q] at e; cases e
  | some ds =>
    rw [q, Option.bind_some] at e
    split at e
    · rename_i hl
      cases q2 : m ds with
      | none => rw [q2] at e; cases e
      | some r =>
        rw [q2, Option.bind_some] at e
        cases r with
        | ex _ => cases e
        | ok o' =>
          cases e
          refine ⟨M, ρ, fo, fv, ds, R, l, q, fun M1 H1 vs s1 R1 d1 => ?_⟩
          have hv : vs.length = n := by rw [d1.length]; exact hl
          exact ⟨by omega, M1, ρ ++ fo, σ ++ fv, ds, .ok o, hv, R1, d1, q2, fun M2 H2 v s2 R2 => kk M2 H2 v (s1.trans s2) (R2.swap l)⟩
    · cases e
/-! ### n.bit_length() -/
def bitsD : D → Option D
  | .int i => some (.int (Builtin.Int.intBits i : Nat))
  | _ => none
theorem pBits {apos : Pos} (he : PE X e (tP X.K fe)) (hb : attributeBase e "bit_length" X.env (eval e X.env) = eval e X.env := by rfl) (hline : (apos.endLine == pos.line) = true := by rfl) : PE X (.Call (.Attribute e "bit_length" apos) [] [] pos) (tP X.K (b1 fe bitsD)) := PE.imp (pe_bits he hb hline) fun σ H Q ⟨M, ρ, fo, fv, d, R, l, e, k⟩ => by
  obtain ⟨x, ea, eg⟩ := b1_some e
  refine ⟨M, ρ, fo, fv, x, R, l, ea, fun M1 H1 v s1 R1 d1 => ?_⟩
  cases x with
  | int i =>
    cases d1
    cases eg
    exact ⟨i, rfl, k M1 H1 _ s1 R1 (.int _)⟩
  | _ => cases eg
/-! ### [.., *xs, ..] -/
def aStar (f : Ev → Option D) (g : Ev → Option (List D)) (ρ : Ev) : Option (List D) := (f ρ).bind fun d => match d with
  | .lst xs => (g ρ).map (xs ++ ·)
  | .tup xs => (g ρ).map (xs ++ ·)
  | _ => none
theorem qStar (he : PE X e (tP X.K fe)) (hr : PA X es (tAr X.K g)) : PA X (.Starred e p :: es) (tAr X.K (aStar fe g)) := PA.imp (StX.pa_star he hr) fun σ H Q ⟨M, ρ, fo, fv, ds, R, l, e, k⟩ => by
  unfold aStar at e
  cases q : fe ρ with
  | none => rw [q] at e; cases e
  | some d =>
    rw [q, Option.bind_some] at e
    refine ⟨M, ρ, fo, fv, d, R, l, q, fun M1 H1 v s1 R1 d1 => ?_⟩
    cases q2 : g ρ with
    | none => rw [q2] at e; split at e <;> cases e
    | some es =>
      rw [q2] at e
      split at e
      · cases e
        cases d1 with
        | lst hs hd => exact ⟨_, _, rfl, .inr (seqX R1.same hs), M1, ρ, fo, fv, es, R1, l, q2, fun M2 H2 vs s2 R2 d2 => k M2 H2 _ (s1.trans s2) R2 ((hd.mono s2).append d2)⟩
      · cases e
        cases d1 with
        | tup hs hd => exact ⟨_, _, rfl, .inl (sqT_same R1.same hs), M1, ρ, fo, fv, es, R1, l, q2, fun M2 H2 vs s2 R2 d2 => k M2 H2 _ (s1.trans s2) R2 ((hd.mono s2).append d2)⟩
      · cases e
end
end PD
namespace PD
open PySem PySem.Spec L2
section
variable {X : Cx} {a b : Expr} {pos : Pos} {fa fb : Ev → Option D}
/-! ### xs + ys, a new list -/
def catO (fa fb : Ev → Option D) (ρ : Ev) : Option O := (fa ρ).bind fun x => (fb ρ).bind fun y => match x, y with
  | .lst xs, .lst ys => if xs.length + ys.length ≤ sizeLine then some (O.lst ((xs ++ ys).map .dat)) else none
  | _, _ => none
theorem oCat (ha : PE X a (tP X.K fa)) (hb : PE X b (tP X.K fb)) : PE X (.BinOp a .Add b pos) (tO X.K (catO fa fb)) := PE.imp (pe_op op_catX ha hb) fun σ H Q ⟨M, ρ, fo, fv, o, R, l, e, k⟩ => by
  unfold catO at e
  cases q : fa ρ with
  | none => rw [q] at e; cases e
  | some x =>
    rw [q, Option.bind_some] at e
    cases q2 : fb ρ with
    | none => rw [q2] at e; cases e
    | some y =>
      rw [q2, Option.bind_some] at e
      refine ⟨M, ρ, fo, fv, x, R, l, q, fun M1 H1 v1 s1 R1 d1 => ⟨M1, ρ, fo, fv, y, R1, l, q2, fun M2 H2 v2 s2 R2 d2 => ?_⟩⟩
      split at e
      · rename_i xs ys
        split at e
        · rename_i hz
          cases e
          have d1' := d1.mono s2
          cases d1' with
          | @lst l1 ws _ h1 g1 =>
            cases d2 with
            | @lst b1 zs _ h2 g2 =>
              refine ⟨l1, b1, ws, zs, rfl, rfl, sqX_same R2.same h1, sqX_same R2.same h2, by rw [g1.length, g2.length]; exact hz, fun p hp => ?_⟩
              exact k M2 _ _ (s1.trans s2) (R2.newL l hp (g1.append g2))
        · cases e
      · cases e
end
end PD
namespace PD
open PySem PySem.Spec L2
section
variable {X : Cx} {o e : Expr} {apos pos : Pos} {fa fb : Ev → Option D}
/-! ### xs.index(n), ints -/
def indexD (x y : D) : Option D := match x, y with
  | .lst ds, .int n => (intsD ds).bind fun ns => if n ∈ ns then some (.int (ns.idxOf n : Nat)) else none
  | _, _ => none
theorem idxOf_ahead {n : Int} : ∀ {ns : List Int} {m : Nat} {z : Int}, m < ns.idxOf n → ns[m]? = some z → z ≠ n
  | [], _, _, h, e => by simp at e
  | x :: ns, m, z, h, e => by
    rw [List.idxOf_cons] at h
    cases q : x == n with
    | true => rw [q] at h; simp at h
    | false =>
      rw [q] at h
      cases m with
      | zero => simp at e; subst e; simpa using q
      | succ m => exact idxOf_ahead (ns := ns) (m := m) (by simpa using h) (by simpa using e)
theorem pIndex (ho : PE X o (tP X.K fa)) (he : PE X e (tP X.K fb)) (hbase : attributeBase o "index" X.env (eval o X.env) = eval o X.env := by rfl)
    (hfew : ((backTo pos (starEach [e] X.env)).all (fun x => !x.1) && (backToKw pos (keywordEach [] X.env)).all (fun x => x.1.isSome)
      && decide ([e].length + ([] : List Keyword).length + (if ([] : List Keyword).isEmpty then 0 else 1) < 30)) = true := by rfl)
    (hline : (apos.endLine == pos.line) = true := by rfl) (hs : starEach [e] X.env = (false, eval e X.env) :: starEach [] X.env := by rfl) (hplain : (backTo pos (starEach [] X.env)).any (·.1) = false := by rfl) :
    PE X (.Call (.Attribute o "index" apos) [e] [] pos) (tP X.K (b2 fa fb indexD)) :=
  PE.imp (pe_bm PySem.F.plainAttrs_list PySem.F.slot_list_index PySem.F.type_list_index mt_index ho (pa_cons he pa_nil hs) hbase hfew hline hs hplain) fun σ H Q ⟨M, ρ, fo, fv, d, R, l, e, k⟩ => by
    obtain ⟨x, y, ea, eb, eg⟩ := b2_some e
    unfold indexD at eg
    split at eg
    · rename_i ds n
      cases qn : intsD ds with
      | none => rw [qn] at eg; cases eg
      | some ns =>
        rw [qn, Option.bind_some] at eg
        split at eg
        · rename_i hin
          cases eg
          refine ⟨M, ρ, fo, fv, _, R, l, ea, fun M1 H1 v1 s1 R1 d1 => ?_⟩
          cases d1 with
          | lst hs hd =>
            have hv := intsD_vs qn hd
            subst hv
            refine ⟨.inl ⟨rfl, _, seqX R1.same hs⟩, M1, ρ, fo, fv, _, R1, l, eb, fun M2 H2 v2 s2 R2 d2 => ?_⟩
            cases d2
            refine ⟨_, _, _, ns.idxOf n, .int n, rfl, rfl, seqX (s2.trans R2.same) hs, rfl, ?_, ?_, ?_, fun m z hm hz => ?_, k M2 H2 _ (s1.trans s2) R2 (.int _)⟩
            · rw [List.all_eq_true]
              intro v hv
              obtain ⟨i, _, rfl⟩ := List.mem_map.mp hv
              rfl
            · rw [List.getElem?_map, List.getElem?_eq_getElem (List.idxOf_lt_length_of_mem hin), List.getElem_idxOf]; rfl
            · show (n == n) = true
              simp
            · rw [List.getElem?_map] at hz
              obtain ⟨i, hi, rfl⟩ := Option.map_eq_some_iff.mp hz
              have := idxOf_ahead hm hi
              show (i == n) = false
              simpa using this
        · cases eg
    · cases eg
end
end PD
namespace PD
open PySem PySem.Spec L2
section
variable {X : Cx} {W : WX} {J : List Nat} {a b : Expr} {pos px py pt pt2 : Pos} {ga : Ev → Option (List D)} {i j kt k2 : Nat} {x y : Str}
/-! ### a, b = e, f -/
def parS (i j : Nat) (ga : Ev → Option (List D)) (ρ : Ev) : Option Fl := (ga ρ).bind fun ds => match ds with
  | [d, e] => some (.nx ((ρ.set i (.dat d)).set j (.dat e)))
  | _ => none
theorem sPar (hc : X.calm = true) (hN : X.N.Nodup) (ha : PA X [a, b] (tAr X.K ga)) (hJ : i ∉ J := by decide) (hJ2 : j ∉ J := by decide) (hi : X.N[i]? = some x := by rfl) (hj : X.N[j]? = some y := by rfl) (hij : i ≠ j := by decide) (hx : X.env.scope.names.lookup x = some .local := by rfl) (hy : X.env.scope.names.lookup y = some .local := by rfl)
    (hw : swappedStores [.Tuple [.Name x px, .Name y py] kt pt] (.Tuple [a, b] k2 pt2) X.env = pure (some [x, y]) := by rfl) : PS X (.Assign [.Tuple [.Name x px, .Name y py] kt pt] (.Tuple [a, b] k2 pt2) pos) (tS X.K W J (parS i j ga)) :=
  PS.imp (ps_par (i := i) (j := j) hc hN hi hj hij hx hy ha hw) fun E σ H ⟨M, ρ, fo, fv, r, σ0, R, l, e, k⟩ => by
    unfold parS at e
    cases q : ga ρ with
    | none => rw [q] at e; cases e
    | some ds =>
      rw [q, Option.bind_some] at e
      split at e
      · rename_i d1 d2
        cases e
        refine ⟨M, ρ, fo, fv, _, R, l.1, q, fun M1 H1 vs s1 R1 dv => ?_⟩
        cases dv with
        | cons h1 hs =>
          cases hs with
          | cons h2 hn =>
            cases hn
            rename_i v1 v2
            exact ⟨v1, v2, rfl, k M1 H1 _ s1 ((R1.setD l.1 h1).setD (by simp [l.1]) h2) ((l.set hJ _ _).set hJ2 _ _)⟩
      · cases e
end
end PD
namespace PD
open PySem PySem.Spec L2
theorem vwO_of {K : PySem.W.Frag} {f : Ev → Option O} {σ : L2.St} {H : Hp} {Q : VK} (h : tO K (vwO f) σ H Q) : tO K f σ H Q := by
  obtain ⟨M, ρ, fo, fv, d, R, l, e, k⟩ := h
  obtain ⟨e1, im⟩ := vwO_some e
  obtain ⟨Ma, s1, R1, _, back, _⟩ := R.look l
  refine ⟨Ma, ρ.map O.vw, [], [], _, R1, by simpa using l, e1, fun M2 H2 v s2 R2 => ?_⟩
  obtain ⟨M3, s3, R3⟩ := back M2 H2 _ _ s2 R2 im
  exact k M3 H2 v s3 R3
section
variable {X : Cx} {W : WX} {J : List Nat} {pos : Pos} {tg iter elt : Expr} {ifs : List Expr} {scope : Scope} {own : List (Str × Nat)} {fi : Ev → Option (List D)} {is kn : List Nat} {g : D → Ev → Option Ev} {t : Ev → Option Bool} {f : Ev → Option D}
/-- y = [..] on one line, own things looked at -/
theorem sLcVw {i : Nat} {y : Str} {py spos : Pos} (own : List (Str × Nat)) (hc : X.calm = true) (hN : X.N.Nodup) (hi : PI X tg iter (tI X.K kn fi)) (bo : BlkOk X.N X.env.scope scope own)
    (hg : ∀ (s : Shared) (H : Hp) (C : Addr) (cl : List (Str × Addr)) (fp : List Addr), PG (X.blk s H scope (compEnvC scope cl C X.env) fp) tg (tG X.K is g)) (ht : ∀ (s : Shared) (H : Hp) (C : Addr) (cl : List (Str × Addr)) (fp : List Addr), PTs (X.blk s H scope (compEnvC scope cl C X.env) fp) ifs (tT X.K t))
    (he : ∀ (s : Shared) (H : Hp) (C : Addr) (cl : List (Str × Addr)) (fp : List Addr), PE (X.blk s H scope (compEnvC scope cl C X.env) fp) elt (tP X.K f)) (ok : TgOk is g) (hJ : i ∉ J := by decide) (hy : X.N[i]? = some y := by rfl) (hyl : X.env.scope.names.lookup y = some .local := by rfl)
    (hsw : swapsWith (.ListComp elt [⟨tg, iter, ifs, 0⟩] scope pos) (some (.Name y py)) spos.line X.env = pure true := by exact sw_true rfl rfl rfl (by decide +kernel)) (hv : ∀ i ∈ is, i ∈ own.map (·.2) := by decide) (hkn : ∀ ρ ds, fi ρ = some ds → ∀ k ∈ kn, k < ρ.length := by intro _ _ _ _ hk; cases hk) (hkv : ∀ k ∈ kn, k ∉ own.map (·.2) := by decide) (hs : ∀ x, foldedSetIterable iter X.env x = pure x := by intro _; rfl) :
    PS X (.Assign [.Name y py] (.ListComp elt [⟨tg, iter, ifs, 0⟩] scope pos) spos) (tS X.K W J (stO i (vwO (lcO fi g t f (own.map (·.2)))))) :=
  sAsgO (PS.imp (ps_setLc (i := i) hc hN hy hyl hsw hi bo hg ht he hs) fun E σ H h => lc_of ok hv hkn hkv (vwO_of h)) hJ
end
end PD

namespace PD
open PySem PySem.Spec L2
/-! ### dict(d): a copy of one's own -/
def dictO : List D → Option O
  | [.dic ks ds] => some (.dic ks (ds.map .dat))
  | _ => none
theorem Rep.newDK {K : PySem.W.Frag} {M H : Hp} {l r : List O} {lv rv : List (Option V)} (R : Rep K M H (l ++ r) (lv ++ rv)) (e : lv.length = l.length) {p : Addr} (hp : H p = none) {kvs : List (Key × V)} {ds : List D} (d : Dvs K M (kvs.map (·.2)) ds) :
    Rep K M (upd H p (.dK kvs)) (l ++ .dic (kvs.map (·.1)) (ds.map .dat) :: r) (lv ++ some (.ref p) :: rv) := by
  obtain ⟨s, fp, w, nd, nm⟩ := R
  have pn : p ∉ fp := fun z => w.dom p z hp
  have w' : Ows K M (upd H p (.dK kvs)) (l ++ r) (lv ++ rv) fp := w.frame (Same.refl _) fun a ha => upd_ne fun z => pn (z ▸ ha)
  obtain ⟨fa, fb, e1, wa, wb⟩ := w'.split e
  subst e1
  refine ⟨fun b u q => ?_, fa ++ ([p] ++ fb), wa.append (.cons (.dic upd_same rfl (by have := ows_dat (H := upd H p (.dK kvs)) d; rw [List.map_map] at this; exact this)) wb), ?_, fun a ha => ?_⟩
  · have q' := s b u q
    rw [upd_ne (ne_of_none q' hp)]; exact q'
  · rw [List.nodup_append] at nd ⊢
    obtain ⟨n1, n2, n3⟩ := nd
    refine ⟨n1, List.nodup_cons.mpr ⟨fun z => pn (List.mem_append_right _ z), n2⟩, fun a ha b hb => ?_⟩
    rcases List.mem_cons.mp hb with rfl | hb
    · exact fun z => pn (z ▸ List.mem_append_left _ ha)
    · exact n3 a ha b hb
  · rcases List.mem_append.mp ha with ha | ha
    · exact nm a (List.mem_append_left _ ha)
    · rcases List.mem_cons.mp ha with rfl | ha
      · cases q : M a with
        | none => rfl
        | some u => have := s a u q; rw [hp] at this; cases this
      · exact nm a (List.mem_append_right _ ha)
section
variable {X : Cx}
theorem cDict : CallR X (.type "dict") (rOs X.K dictO) := by
  intro pins s σ H vs us Q I r h
  obtain ⟨M, fo, fv, ds, o, R, dv, e, k⟩ := h
  unfold dictO at e
  split at e
  · cases e
    cases dv with
    | cons d1 dn =>
      cases dn
      cases d1 with
      | dic hM hk hd =>
        rw [Vals.ref1 r]
        refine d_copyOf I (Rd.up R.same hM) fun p s' hp I' => ⟨.ref p, _, I', rfl, ?_⟩
        subst hk
        exact k M _ _ (Same.refl _) (Rep.newDK (l := []) (lv := []) R rfl hp hd)
  · cases e
end
end PD

namespace PD
open PySem PySem.Spec L2
/-! ### for k in d: the data dict in slot i is locked while the loop runs -/
def keyO : Key → D
  | .inl i => .int i
  | .inr x => .str x
theorem keyO_dv {K : PySem.W.Frag} {M : Hp} (k : Key) : Dv K M (kV k) (keyO k) := by
  cases k with
  | inl i => exact .int i
  | inr x => exact .str x
def keysOf (i : Nat) (ρ : Ev) : Option (List D) := match ρ[i]? with
  | some (.dat (.dic ks _)) => some (ks.map keyO)
  | _ => none
structure LkTo (d : Addr) (kvs : List (Key × V)) (M M' : Hp) : Prop where
  ne : ∀ b, b ≠ d → M' b = M b
  l : Rd M d (.dK kvs)
  r : Rd M' d (.dK kvs)
theorem Rd.det {M : Hp} {a : Addr} {u v : HO} (h : Rd M a u) (h' : Rd M a v) (hu : ∀ o w, u ≠ .frz o w) (hv : ∀ o w, v ≠ .frz o w) : u = v := by
  rcases h with h | ⟨o, h⟩ <;> rcases h' with h' | ⟨o', h'⟩ <;> rw [h] at h' <;> cases h'
  · rfl
  · exact absurd rfl (hu _ _)
  · exact absurd rfl (hv _ _)
  · rfl
section
variable {K : PySem.W.Frag} {M M' H : Hp} {d : Addr} {kvs : List (Key × V)}
theorem LkTo.rd (h : LkTo d kvs M M') {a : Addr} {u : HO} (e : Rd M a u) (hu : ∀ o w, u ≠ .frz o w) : Rd M' a u := by
  by_cases z : a = d
  · subst z
    rw [Rd.det e h.l hu (fun _ _ z => nomatch z)]; exact h.r
  · unfold Rd; rw [h.ne a z]; exact e
theorem LkTo.eq (h : LkTo d kvs M M') {a : Addr} {u : HO} (e : M a = some u) (h1 : ∀ kvs, u ≠ .dK kvs) (h2 : ∀ o w, u ≠ .frz o w) : M' a = some u := by
  by_cases z : a = d
  · subst z
    rcases h.l with q | ⟨o, q⟩ <;> rw [e] at q <;> cases q
    · exact absurd rfl (h1 _)
    · exact absurd rfl (h2 _ _)
  · rw [h.ne a z]; exact e
theorem LkTo.sqx (h : LkTo d kvs M M') {a : Addr} {xs : List V} (e : SqX K M a xs) : SqX K M' a xs := by
  rcases e with e | e
  · exact .inl (h.rd e fun _ _ z => nomatch z)
  · exact .inr e
theorem LkTo.sqt (h : LkTo d kvs M M') {a : Addr} {xs : List V} (e : SqT K M a xs) : SqT K M' a xs := by
  rcases e with e | e
  · exact .inl (h.rd (u := .tup xs) e fun _ _ z => nomatch z)
  · exact .inr e
theorem LkTo.no (h : LkTo d kvs M M') {a : Addr} (e : M' a = none) : M a = none := by
  by_cases z : a = d
  · subst z
    rcases h.r with q | ⟨o, q⟩ <;> rw [e] at q <;> cases q
  · rw [← h.ne a z]; exact e
mutual
theorem Dv.relock (h : LkTo d kvs M M') : ∀ {v : V} {x : D}, Dv K M v x → Dv K M' v x
  | _, _, .non => .non
  | _, _, .bl b => .bl b
  | _, _, .int i => .int i
  | _, _, .str x => .str x
  | _, _, .lst q hs => .lst (h.sqx q) (Dvs.relock h hs)
  | _, _, .tup q hs => .tup (h.sqt q) (Dvs.relock h hs)
  | _, _, .dic q e hs => .dic (h.rd q fun _ _ z => nomatch z) e (Dvs.relock h hs)
  | _, _, .obj q q2 e hs => .obj (h.eq q (fun _ z => nomatch z) fun _ _ z => nomatch z) (h.eq q2 (fun _ z => nomatch z) fun _ _ z => nomatch z) e (Dvs.relock h hs)
  | _, _, .exn0 => .exn0
  | _, _, .exn1 q e hs => .exn1 (h.eq q (fun _ z => nomatch z) fun _ _ z => nomatch z) e (Dvs.relock h hs)
  | _, _, .tagM q hs => .tagM (fun a e => q a (h.no e)) (Dv.relock h hs)
  | _, _, .tagP q hs => .tagP (fun M2 l => q M2 fun a xs e => l a xs (h.eq e (fun _ z => nomatch z) fun _ _ z => nomatch z)) (Dv.relock h hs)
theorem Dvs.relock (h : LkTo d kvs M M') : ∀ {vs : List V} {ds : List D}, Dvs K M vs ds → Dvs K M' vs ds
  | _, _, .nil => .nil
  | _, _, .cons q hs => .cons (Dv.relock h q) (Dvs.relock h hs)
end
mutual
theorem Ow.relock (h : LkTo d kvs M M') : ∀ {o : O} {v : Option V} {fp : List Addr}, Ow K M H o v fp → Ow K M' H o v fp
  | _, _, _, .unk => .unk
  | _, _, _, .dat q => .dat (q.relock h)
  | _, _, _, .lst q hs => .lst q (Ows.relock h hs)
  | _, _, _, .tup q hs => .tup (h.eq q (fun _ z => nomatch z) fun _ _ z => nomatch z) (Ows.relock h hs)
  | _, _, _, .dic q e hs => .dic q e (Ows.relock h hs)
  | _, _, _, .obj q q2 e hs => .obj q q2 e (Ows.relock h hs)
  | _, _, _, .raw q m => .raw q m
theorem Ows.relock (h : LkTo d kvs M M') : ∀ {os : List O} {vs : List (Option V)} {fp : List Addr}, Ows K M H os vs fp → Ows K M' H os vs fp
  | _, _, _, .nil => .nil
  | _, _, _, .cons q hs => .cons (Ow.relock h q) (Ows.relock h hs)
end
/-- the whole state, locked or unlocked at d -/
theorem Rep.relock {os : List O} {vs : List (Option V)} {u u' : HO} (R : Rep K M H os vs) (hu : M d = some u) (h : LkTo d kvs M (upd M d u')) : Rep K (upd M d u') (upd H d u') os vs := by
  obtain ⟨s, fp, w, nd, nm⟩ := R
  have hd : d ∉ fp := fun z => by rw [nm d z] at hu; cases hu
  refine ⟨fun b q e => ?_, fp, (w.relock h).frame (Same.refl _) fun a ha => upd_ne fun z => hd (z ▸ ha), nd, fun a ha => ?_⟩
  · by_cases z : b = d
    · subst z; rw [upd_same] at e ⊢; exact e
    · rw [upd_ne z] at e ⊢; exact s b q e
  · rw [upd_ne (fun z : a = d => hd (by rw [← z]; exact ha))]; exact nm a ha
end
theorem PS.or {X : Cx} {e : Stmt} {t t' : TS} (h : PS X e t) (h' : PS X e t') : PS X e (fun E σ H => t E σ H ∨ t' E σ H) := ⟨fun p s σ H D I w => w.elim (h.run p s σ H D I) (h'.run p s σ H D I)⟩
theorem yld_keys {K : PySem.W.Frag} {M : Hp} {a : Addr} {o : Obj} {kvs : List (Key × V)} (h : M a = some (.frz o (.dK kvs))) : Yld K M [] (Itk a o kvs) ((kvs.map (·.1)).map keyO) := fun i M1 H os vs s1 R _ => by
  have q : H a = some (.frz o (.dK kvs)) := R.same _ _ (s1 _ _ h)
  have hl : ((kvs.map (·.1)).map keyO).length = kvs.length := by simp
  refine ⟨fun hi => ⟨q, by omega⟩, fun hi => ⟨q, by omega⟩, fun e he x H' y => ?_⟩
  obtain ⟨rfl, k, v, e1, rfl⟩ := y
  rw [List.getElem?_map, List.getElem?_map, e1] at he
  cases he
  exact ⟨M1, Same.refl _, R, keyO_dv k⟩
section
variable {X : Cx} {W : WX} {J : List Nat} {pos p : Pos} {tg : Expr} {i : Nat} {x : Str}
/-- the name's own value -/
def tSl (i : Nat) : TE := fun σ H Q => ∃ v, σ[i]? = some (some v) ∧ Q v H
def tIL (K : PySem.W.Frag) (i : Nat) : TI := fun σ H R => ∃ M ρ fo fv a o kvs, Rep K M H (ρ ++ fo) (σ ++ fv) ∧ σ.length = ρ.length ∧ σ[i]? = some (some (.ref a)) ∧ M a = some (.frz o (.dK kvs)) ∧
  ∀ J, Yld K M [] J ((kvs.map (·.1)).map keyO) → R J H
theorem iKeysL {e : Expr} (h : PE X e (tSl i)) : PI X tg e (tIL X.K i) := PI.imp (pi_keys h) fun σ H R ⟨M, ρ, fo, fv, a, o, kvs, R0, l, es, hM, k⟩ => ⟨_, es, a, o, rfl, .inl ⟨kvs, R0.same _ _ hM, k _ (yld_keys hM)⟩⟩
/-- the loop, the dict being locked -/
def tSL (K : PySem.W.Frag) (W : WX) (J : List Nat) (i : Nat) (gg : D → Ev → Option Ev) (b : Ev → Option Fl) : TS := fun E σ H => ∃ M ρ fo fv r σ0 a o kvs, Rep K M H (ρ ++ fo) (σ ++ fv) ∧ Lk J σ0 σ ρ ∧ σ[i]? = some (some (.ref a)) ∧ M a = some (.frz o (.dK kvs)) ∧
  loop gg b ((kvs.map (·.1)).map keyO) ρ = some r ∧ ends K W J σ0 M fo fv E r
theorem sForL {iter : Expr} {body : List Stmt} {is : List Nat} {g : D → Ev → Option Ev} {b : Ev → Option Fl} (hp : PassesOwn (model X.prog X.w) X.A X.env X.xe) (hc : X.calm = true) (hi : PI X tg iter (tIL X.K i)) (hg : PG X tg (tG X.K is g)) (hb : PSs X body (tS X.K W J b)) (hJ : ∀ i ∈ is, i ∉ J := by decide)
    (hs : ∀ x, foldedSetIterable iter X.env x = pure x := by intro _; rfl) : PS X (.For tg iter body [] pos) (tSL X.K W J i g b) := PS.imp (ps_for hp hc hi hg hb hs) fun E σ H ⟨M, ρ, fo, fv, r, σ0, a, o, kvs, R, l, es, hM, e, k⟩ => by
  obtain ⟨ds, hds⟩ : ∃ ds, (kvs.map (·.1)).map keyO = ds := ⟨_, rfl⟩
  rw [hds] at e
  have s0 : Same M M := Same.refl _
  refine ⟨M, ρ, fo, fv, a, o, kvs, R, l.1, es, hM, fun JJ y => ?_⟩
  rw [hds] at y
  refine ⟨fun i m σ H => m = ds.length - i ∧ i ≤ ds.length ∧ ∃ M1 ρ1, Same M M1 ∧ Rep X.K M1 H (ρ1 ++ fo) (σ ++ fv) ∧ Lk J σ0 σ ρ1 ∧ loop g b (ds.drop i) ρ1 = some r, ⟨ds.length, by omega, Nat.zero_le _, M, ρ, Same.refl _, R, l, by simpa using e⟩, ?_⟩
  rintro i m σ H ⟨rfl, hi, M1, ρ1, s1, R1, l1, e1⟩
  obtain ⟨go, stop, yl⟩ := y i M1 H _ _ s1 R1 (fun r hr => nomatch hr)
  by_cases hlt : i < ds.length
  · have ed : ds.drop i = ds[i] :: ds.drop (i + 1) := List.drop_eq_getElem_cons hlt
    rw [ed] at e1
    unfold loop at e1
    cases q1 : g ds[i] ρ1 with
    | none => rw [q1] at e1; cases e1
    | some ρ2 =>
      rw [q1, Option.bind_some] at e1
      cases q2 : b ρ2 with
      | none => rw [q2] at e1; cases e1
      | some r2 =>
        rw [q2, Option.bind_some] at e1
        refine .inr ⟨go hlt, fun σ' H' => ∃ M1 ρ1, Same M M1 ∧ Rep X.K M1 H' (ρ1 ++ fo) (σ' ++ fv) ∧ Lk J σ0 σ' ρ1 ∧ loop g b (ds.drop (i + 1)) ρ1 = some r, fun σ' H' h => ⟨ds.length - (i + 1), by omega, rfl, hlt, h⟩, fun x H' hy => ?_⟩
        obtain ⟨M2, s2, R2, d2⟩ := yl ds[i] (List.getElem?_eq_getElem hlt) x H' hy
        refine ⟨M2, ρ1, fo, fv, ds[i], ρ2, R2, l1.1, d2, q1, fun σ3 a3 l3 r3 R3 => ?_⟩
        have s02 : Same M M2 := s0.trans (s1.trans s2)
        refine ⟨M2, ρ2, fo, fv, r2, σ0, R3, l1.to l3 r3 a3 hJ, q2, ?_⟩
        cases r2 with
        | nx ρ4 => exact fun M4 H4 σ4 s4 R4 l4 => ⟨M4, ρ4, s1.trans (s2.trans s4), R4, l4, e1⟩
        | ct ρ4 => exact fun M4 H4 σ4 s4 R4 l4 => ⟨M4, ρ4, s1.trans (s2.trans s4), R4, l4, e1⟩
        | bk ρ4 => cases e1; exact fun M4 H4 σ4 s4 R4 l4 => k M4 H4 σ4 (s02.trans s4) R4 l4
        | rt o ρ4 => cases e1; exact fun M4 H4 σ4 v s4 R4 l4 => k M4 H4 σ4 v (s02.trans s4) R4 l4
        | ex x ρ4 => cases e1; exact fun M4 H4 σ4 cls d s4 R4 l4 => k M4 H4 σ4 cls d (s02.trans s4) R4 l4
  · have ei : i = ds.length := by omega
    rw [ei, List.drop_length] at e1
    cases e1
    exact .inl ⟨stop ei, k M1 H σ (s0.trans s1) R1 l1⟩

def noEx : Fl → Option Fl
  | .ex _ _ => none
  | r => some r
def forK (i : Nat) (g : D → Ev → Option Ev) (b : Ev → Option Fl) (ρ : Ev) : Option Fl := (keysOf i ρ).bind fun ds => (loop g b ds ρ).bind noEx
theorem noEx_eq {r r' : Fl} (h : noEx r = some r') : r = r' ∧ ∀ x ρ, r ≠ .ex x ρ := by
  cases r with
  | ex x ρ => cases h
  | nx ρ => cases h; exact ⟨rfl, fun _ _ z => nomatch z⟩
  | rt o ρ => cases h; exact ⟨rfl, fun _ _ z => nomatch z⟩
  | bk ρ => cases h; exact ⟨rfl, fun _ _ z => nomatch z⟩
  | ct ρ => cases h; exact ⟨rfl, fun _ _ z => nomatch z⟩
theorem sForK {iter : Expr} {body : List Stmt} {is : List Nat} {g : D → Ev → Option Ev} {b : Ev → Option Fl} (hp : PassesOwn (model X.prog X.w) X.A X.env X.xe) (hc : X.calm = true) (hn : PE X iter (tSl i)) (hg : PG X tg (tG X.K is g)) (hb : PSs X body (tS X.K W J b)) (hJ : ∀ i ∈ is, i ∉ J := by decide)
    (hs : ∀ x, foldedSetIterable iter X.env x = pure x := by intro _; rfl) : PS X (.For tg iter body [] pos) (tS X.K W J (forK i g b)) :=
  PS.imp (PS.or (sForL hp hc (iKeysL hn) hg hb hJ hs) (ps_lock (sForL hp hc (iKeysL hn) hg hb hJ hs))) fun E σ H ⟨M, ρ, fo, fv, r, σ0, R, l, e, k⟩ => by
    unfold forK at e
    cases qk : keysOf i ρ with
    | none => rw [qk] at e; cases e
    | some ds =>
      rw [qk, Option.bind_some] at e
      unfold keysOf at qk
      split at qk
      · rename_i ks vs e'
        cases qk
        cases ql : loop g b (ks.map keyO) ρ with
        | none => rw [ql] at e; cases e
        | some r1 =>
          rw [ql, Option.bind_some] at e
          obtain ⟨rfl, nx⟩ := noEx_eq e
          obtain ⟨v, ev, dv⟩ := R.slot l.1 e'
          cases dv with
          | @dic a kvs _ _ hM hk hd =>
            subst hk
            rcases hM with hM | ⟨o, hM⟩
            · refine .inr ⟨a, .dK kvs, R.same _ _ hM, trivial, fun od => ⟨upd M a (.frz od (.dK kvs)), ρ, fo, fv, r1, σ0, a, od, kvs, R.relock hM ⟨fun b hb => upd_ne hb, .inl hM, .inr ⟨od, upd_same⟩⟩, l, ev, upd_same, ql, ?_⟩⟩
              have back : ∀ {M' H' : Hp} {os : List O} {ws : List (Option V)}, Same (upd M a (.frz od (.dK kvs))) M' → Rep X.K M' H' os ws → H' a = some (.frz od (.dK kvs)) ∧ Same M (upd M' a (.dK kvs)) ∧ Rep X.K (upd M' a (.dK kvs)) (upd H' a (.dK kvs)) os ws := fun {M' H' os ws} s' R' => by
                have hm : M' a = some (.frz od (.dK kvs)) := s' _ _ upd_same
                refine ⟨R'.same _ _ hm, fun b u hb => ?_, R'.relock hm ⟨fun b hb => upd_ne hb, .inr ⟨od, hm⟩, .inl upd_same⟩⟩
                by_cases z : b = a
                · subst z; rw [hM] at hb; cases hb; exact upd_same
                · rw [upd_ne z]; exact s' _ _ (by rw [upd_ne z]; exact hb)
              cases r1 with
              | nx ρ1 => exact fun M' H' σ' s' R' l' => let ⟨a1, a2, a3⟩ := back s' R'; ⟨a1, k _ _ σ' a2 a3 l'⟩
              | bk ρ1 => exact fun M' H' σ' s' R' l' => let ⟨a1, a2, a3⟩ := back s' R'; ⟨a1, k _ _ σ' a2 a3 l'⟩
              | ct ρ1 => exact fun M' H' σ' s' R' l' => let ⟨a1, a2, a3⟩ := back s' R'; ⟨a1, k _ _ σ' a2 a3 l'⟩
              | rt o ρ1 => exact fun M' H' σ' v s' R' l' => let ⟨a1, a2, a3⟩ := back s' R'; ⟨a1, k _ _ σ' v a2 a3 l'⟩
              | ex x ρ1 => exact absurd rfl (nx _ _)
            · exact .inl ⟨M, ρ, fo, fv, r1, σ0, a, o, kvs, R, l, ev, hM, ql, k⟩
      · cases qk
theorem pSlot (i : Nat) {x : Str} {pos : Pos} (hN : X.N[i]? = some x := by rfl) (hv : Vis X.env.scope x := by first | exact Or.inl rfl | exact Or.inr (Or.inl rfl) | exact Or.inr (Or.inr rfl)) (hd : (x == ("__debug__" : Str)) = false := by decide)
    (hcd : (x == ("__classdict__" : Str)) = false := by decide) : PE X (.Name x pos) (tSl i) := pe_var hN hv hd hcd
end
end PD

namespace PD
open PySem PySem.Spec L2

/-! ### the evaluator for the newer parts -/
def immG (d : D) : Option D := if immD d = true then some d else none
def immH (o : O) : Option O := if immO o = true then some o else none
section
variable {ρ r : Ev} {fa fb : Ev → Option D} {c : Ev → Option Bool} {fo : Ev → Option O} {x y : D} {i : Nat} {o : O}
theorem ew_vwT : vwT c ρ = c (ρ.map O.vw) := nrfl rfl
theorem ew_vwI : vwI fa ρ = (fa (ρ.map O.vw)).bind immG := nrfl rfl
theorem ew_vwO : vwO fo ρ = (fo (ρ.map O.vw)).bind immH := nrfl rfl
theorem ew_immI (k : Int) : immG (.int k) = some (.int k) := nrfl rfl
theorem ew_immB (k : Bool) : immG (.bl k) = some (.bl k) := nrfl rfl
theorem ew_immS (k : Str) : immG (.str k) = some (.str k) := nrfl rfl
theorem ew_immN : immG .non = some .non := nrfl rfl
theorem ew_immT {ds : List D} (h : immDs ds = true) : immG (.tup ds) = some (.tup ds) := if_pos h
theorem ew_vwd : O.vw (.dat x) = .dat x := nrfl rfl
theorem ew_vwu : O.vw .unk = .unk := nrfl rfl
theorem ew_vwl (ds : List D) : O.vw (O.dats ds) = .dat (.lst ds) := by
  unfold O.vw
  rw [toD_dats]
theorem ew_frz : frz fo ρ = (fo ρ).bind O.toD := nrfl rfl
theorem ew_toDd : (O.dat x).toD = some x := nrfl rfl
theorem ew_toDl (ds : List D) : (O.dats ds).toD = some (.lst ds) := toD_dats ds
theorem ew_thaw : thaw fa ρ = (fa ρ).map .dat := nrfl rfl
theorem ew_stay : stay fo ρ = (fo ρ).map fun o => (o, ρ) := nrfl rfl
theorem ew_cO {f : Ev → Option (List D)} {n : Nat} {m : List D → Option O} : cO' f n m ρ = (f ρ).bind (lenO? n m) := nrfl rfl
theorem ew_mulL {i j : Int} (h : -18446744073709551616 < i ∧ i < 18446744073709551616) : mulA (.int i) (.int j) = some (.int (i * j)) := by
  unfold mulA orD
  rw [ev_mulL h]
theorem ew_mulR {i j : Int} (h : -18446744073709551616 < j ∧ j < 18446744073709551616) : mulA (.int i) (.int j) = some (.int (i * j)) := by
  unfold mulA orD
  rw [ev_mulR h]
theorem ew_div {i j : Int} (h : 0 < j ∧ j < 1073741824) : divA (.int i) (.int j) = some (.int (i / j)) := by
  unfold divA orD
  rw [ev_divI h]
theorem ew_addI (i j : Int) : addI (.int i) (.int j) = some (.int (i + j)) := nrfl rfl
theorem ew_notN0 : notN .non .non = some (.bl false) := nrfl rfl
theorem ew_notNt (l : List D) : notN (.tup l) .non = some (.bl true) := nrfl rfl
theorem ew_notNi (k : Int) : notN (.int k) .non = some (.bl true) := nrfl rfl
theorem ew_mulW {i j : Int} (h : i.natAbs.log2 + j.natAbs.log2 < 1000000) : mulA (.int i) (.int j) = some (.int (i * j)) := by
  have e : mulW (.int i) (.int j) = some (.int (i * j)) := by
    show (if decide (i.natAbs.log2 + j.natAbs.log2 < 1000000) = true then some (D.int (i * j)) else none) = _
    rw [if_pos (decide_eq_true h)]
  unfold mulA orD
  split
  · rename_i d q
    have : mulI (.int i) (.int j) = some (.int (i * j)) ∨ mulI (.int i) (.int j) = none := by
      by_cases hm : okMul i j = true
      · exact .inl (if_pos hm)
      · exact .inr (if_neg hm)
    rcases this with z | z
    · rw [z] at q; exact q.symm ▸ rfl
    · rw [z] at q; cases q
  · exact e
theorem ew_divW {i j : Int} (h : 0 < j) (h2 : j.natAbs.log2 < 9000) : divA (.int i) (.int j) = some (.int (i / j)) := by
  have e : divW (.int i) (.int j) = some (.int (i / j)) := by
    show (if decide (0 < j ∧ j.natAbs.log2 < 9000) = true then some (D.int (i / j)) else none) = _
    rw [if_pos (decide_eq_true ⟨h, h2⟩)]
  unfold divA orD
  by_cases hs : j < 1073741824
  · rw [ev_divI ⟨h, hs⟩]
  · have z : divI (.int i) (.int j) = none := by
      refine if_neg fun q => ?_
      have := of_decide_eq_true q
      omega
    rw [z]; exact e
end
def MW := And.intro (And.intro (And.intro (And.intro (@ew_vwT) (And.intro (@ew_vwI) (@ew_vwO))) (And.intro (@ew_immI) (And.intro (@ew_immB) (@ew_immS)))) (And.intro (And.intro (@ew_immN) (@ew_vwd)) (And.intro (@ew_vwu) (@ew_vwl)))) (And.intro (And.intro (And.intro (@ew_frz) (@ew_toDd)) (And.intro (@ew_toDl) (@ew_thaw))) (And.intro (And.intro (@ew_cO) (And.intro (@ew_mulL) (@ew_mulR))) (And.intro (And.intro (@ew_div) (@ew_addI)) (And.intro (@ew_notN0) (And.intro (@ew_notNt) (@ew_notNi))))))

/-! ### running the newer statements -/
section
variable {f g b : Ev → Option Fl} {ρ : Ev} {Q : Fl → Prop} {i : Nat}
theorem Rn.aug {e : Ev → Option D} {h : D → D → Option D} {x y d : D} (hx : gv i ρ = some x) (he : e ρ = some y) (hd : h x y = some d) (k : Q (.nx (ρ.set i (.dat d)))) : Rn (augV i e h) ρ Q := ⟨_, by unfold augV; rw [hx, Option.bind_some, he, Option.bind_some, hd]; rfl, k⟩
theorem Rn.sqaug {e : Ev → Option D} {h : D → D → Option D} {x y d : D} (hx : gv i ρ = some x) (he : e ρ = some y) (hd : h x y = some d) (k : Rn g (ρ.set i (.dat d)) Q) : Rn (PD.sq (augV i e h) g) ρ Q := Rn.sq (Rn.aug hx he hd k)
theorem ixN_nat {n k : Nat} (h : k < n) : ixN n (k : Int) = some k := by
  unfold ixN
  rw [if_pos (by omega), if_pos (by omega)]; simp
/-- x[k].append(y) -/
theorem Rn.appP1 {fb : Ev → Option D} {fe : Ev → Option O} {oss os : List O} {k : Nat} {y : O} (h0 : ρ[i]? = some (.lst oss)) (hb : fb (ρ.map O.vw) = some (.int k)) (hk : oss[k]? = some (.lst os)) (hf : fe (ρ.map O.vw) = some y) (im : immO y = true) (hl : os.length < 1000000)
    (q : Q (.nx (ρ.set i (.lst (oss.set k (.lst (os ++ [y]))))))) : Rn (appP i (plI i plN fb) fe) ρ Q := by
  have hk' := (List.getElem?_eq_some_iff.mp hk).1
  have e1 : plI i plN fb ρ = some [k] := by
    unfold plI plN
    rw [Option.bind_some, hb]
    simp only [onSub, h0, Option.bind_some, O.sub, ixN_nat hk', List.getD_eq_getElem?_getD, hk, Option.getD_some]
    rfl
  have e2 : onSub i [k] ρ = some (.lst os) := by
    simp only [onSub, h0, Option.bind_some, O.sub, O.kid, hk]
  refine ⟨_, ?_, q⟩
  unfold appP
  rw [e1, Option.bind_some, e2]
  simp only [vwO, hf, Option.bind_some, if_pos im]
  rw [if_pos (Nat.lt_of_lt_of_le hl (by decide)), getD_of h0]
  simp only [O.put, O.kid, hk, O.setKid]
theorem Rn.appPT {fb : Ev → Option D} {fe : Ev → Option O} {oss os : List O} {k : Nat} {y : O} (h0 : ρ[i]? = some (.tup oss)) (hb : fb (ρ.map O.vw) = some (.int k)) (hk : oss[k]? = some (.lst os)) (hf : fe (ρ.map O.vw) = some y) (im : immO y = true) (hl : os.length < 1000000)
    (q : Q (.nx (ρ.set i (.tup (oss.set k (.lst (os ++ [y]))))))) : Rn (appP i (plI i plN fb) fe) ρ Q := by
  have hk' := (List.getElem?_eq_some_iff.mp hk).1
  have e1 : plI i plN fb ρ = some [k] := by
    unfold plI plN
    rw [Option.bind_some, hb]
    simp only [onSub, h0, Option.bind_some, O.sub, ixN_nat hk', List.getD_eq_getElem?_getD, hk, Option.getD_some]
    rfl
  have e2 : onSub i [k] ρ = some (.lst os) := by
    simp only [onSub, h0, Option.bind_some, O.sub, O.kid, hk]
  refine ⟨_, ?_, q⟩
  unfold appP
  rw [e1, Option.bind_some, e2]
  simp only [vwO, hf, Option.bind_some, if_pos im]
  rw [if_pos (Nat.lt_of_lt_of_le hl (by decide)), getD_of h0]
  simp only [O.put, O.kid, hk, O.setKid]
/-- x[k] = y -/
theorem Rn.setP0 {fb : Ev → Option D} {fe : Ev → Option O} {os : List O} {k : Nat} {y : O} (h0 : ρ[i]? = some (.lst os)) (hf : fe ρ = some y) (hb : fb (ρ.map O.vw) = some (.int k)) (hk : k < os.length)
    (q : Q (.nx (ρ.set i (.lst (os.set k y))))) : Rn (setP i plN fb fe) ρ Q := by
  refine ⟨_, ?_, q⟩
  unfold setP plN
  rw [hf, Option.bind_some, Option.bind_some, hb]
  simp only [onSub, h0, Option.bind_some, O.sub, ixN_nat hk, Option.map_some, O.put]
/-- x[k] op= y -/
theorem Rn.augP0 {fb fe : Ev → Option D} {h : Int → Int → Int} {os : List O} {k : Nat} {c d : Int} (h0 : ρ[i]? = some (.lst os)) (hb : fb (ρ.map O.vw) = some (.int k)) (hk : os[k]? = some (.dat (.int d))) (hf : fe (ρ.map O.vw) = some (.int c))
    (q : Q (.nx (ρ.set i (.lst (os.set k (.dat (.int (h d c)))))))) : Rn (augP i plN fb fe h) ρ Q := by
  refine ⟨_, ?_, q⟩
  unfold augP plN
  rw [Option.bind_some, hb, hf]
  simp only [onSub, h0, Option.bind_some, O.sub]
  rw [if_pos (Int.natCast_nonneg k)]
  simp only [Int.toNat_natCast, hk, O.put]
theorem Rn.rtM {e : Ev → Option (O × Ev)} {o : O} {ρ' : Ev} (h : e ρ = some (o, ρ')) (k : Q (.rt o ρ')) : Rn (PD.rtM e) ρ Q := ⟨_, by unfold PD.rtM; rw [h]; rfl, k⟩
theorem runO_of {n : Nat} {ds : List D} {R : O → Prop} (h : Rn b (env0 n ds) fun r => ∃ o, outO r = some o ∧ R o) : ∃ o, runO n b ds = some o ∧ R o := by
  obtain ⟨r, e, o, h1, h2⟩ := h
  exact ⟨o, by unfold runO; rw [e]; exact h1, h2⟩
end
/-! ### comprehensions of own things, over typed lists -/
section
variable {ρ : Ev} {fi : Ev → Option (List D)} {gt : D → Ev → Option Ev} {t : Ev → Option Bool} {f : Ev → Option O} {vs : List Nat}
theorem compO_mapT {α : Type} {φ : α → D} {ψ : α → O} {ρw : Ev} : ∀ {xs : List α}, (∀ x ∈ xs, ∃ ρ1, gt (φ x) ρw = some ρ1 ∧ f ρ1 = some (ψ x)) → compO gt yes f ρw (xs.map φ) = some (xs.map ψ)
  | [], _ => rfl
  | x :: xs, H => by
    obtain ⟨ρ1, e1, e2⟩ := H x List.mem_cons_self
    rw [List.map_cons, List.map_cons]
    unfold compO
    rw [e1, Option.bind_some, show yes ρ1 = some true from rfl, Option.bind_some, if_pos rfl, e2, Option.bind_some, compO_mapT fun x' hx => H x' (List.mem_cons_of_mem _ hx)]
    rfl
theorem lcOO_map {α : Type} {φ : α → D} (ψ : α → O) {xs : List α} (hw : okW ρ vs = true) (hi : fi ρ = some (xs.map φ)) (hl : xs.length ≤ 1000000) (H : ∀ x ∈ xs, ∃ ρ1, gt (φ x) (wipeO ρ vs) = some ρ1 ∧ f ρ1 = some (ψ x)) : lcOO fi gt yes f vs ρ = some (.lst (xs.map ψ)) := by
  unfold lcOO
  rw [if_pos hw, hi, Option.bind_some, compO_mapT H, Option.bind_some, if_pos (by rw [List.length_map]; exact line_of hl)]
end
/-! ### own dicts of data -/
def O.dicD (ks : List Key) (ds : List D) : O := .dic ks (ds.map .dat)
theorem toD_dicD (ks : List Key) (ds : List D) : (O.dicD ks ds).toD = some (.dic ks ds) := by
  unfold O.dicD O.toD
  rw [toDs_dat]; rfl
theorem ew_vwk (ks : List Key) (ds : List D) : O.vw (O.dicD ks ds) = .dat (.dic ks ds) := by
  unfold O.vw
  rw [toD_dicD]
theorem dlook_find {α : Type} (κ : α → Key) (φ : α → D) (k : Key) : ∀ xs : List α, dlook k (xs.map κ) (xs.map φ) = (xs.find? fun x => decide (κ x = k)).map φ
  | [] => rfl
  | x :: xs => by
    rw [List.map_cons, List.map_cons, List.find?_cons]
    unfold dlook
    by_cases h : κ x = k
    · rw [if_pos h, decide_eq_true h]; rfl
    · rw [if_neg h, decide_eq_false h]; exact dlook_find κ φ k xs
theorem Rn.dputN {i : Nat} {ρ : Ev} {Q : Fl → Prop} {fk fv : Ev → Option D} {y d : D} {k : Key} {ks : List Key} {ds : List D} (h0 : ρ[i]? = some (O.dicD ks ds)) (hv : fv ρ = some d) (hy : fk ρ = some y) (hk : keyD y = some k) (hn : k ∉ ks) (hl : ds.length < 1000000)
    (q : Q (.nx (ρ.set i (O.dicD (ks ++ [k]) (ds ++ [d]))))) : Rn (dput i fk fv) ρ Q := by
  refine ⟨_, ?_, q⟩
  have e : (ks.any fun k' => decide (k' = k)) = false := by
    rw [List.any_eq_false]
    intro x hx
    simp only [decide_eq_true_eq]
    exact fun z => hn (z ▸ hx)
  unfold dput
  rw [hv, Option.bind_some, hy, Option.bind_some, hk, Option.bind_some, h0]
  simp only [O.dicD]
  rw [if_pos (by rw [List.length_map]; exact Nat.lt_of_lt_of_le hl (by decide))]
  unfold putKD
  rw [e]
  simp only [Bool.false_eq_true, if_false, List.map_append, List.map_cons, List.map_nil]
/-- a while by an invariant over things that the slots do not tell -/
theorem Rn.whileG {α : Type} {ρ : Ev} {b : Ev → Option Fl} {Q : Fl → Prop} {c : Ev → Option Bool} (μ : α → Nat) (I : α → Ev → Prop) {a0 : α} (h0 : I a0 ρ)
    (hs : ∀ a ρ, I a ρ → ∃ t, c ρ = some t ∧ (t = true → Rn b ρ fun r => match r with | .nx ρ2 => ∃ a2, I a2 ρ2 ∧ μ a2 < μ a | .ct ρ2 => ∃ a2, I a2 ρ2 ∧ μ a2 < μ a | .bk ρ2 => Q (.nx ρ2) | r => Q r) ∧ (t = false → Q (.nx ρ))) : Rn (whileS c b) ρ Q := by
  have key : ∀ (n : Nat) (a : α) (ρ : Ev), μ a < n → I a ρ → ∃ r, wl c b n ρ = some r ∧ Q r := by
    intro n
    induction n with
    | zero => intro a ρ h _; omega
    | succ n ih =>
      intro a ρ hm hi
      obtain ⟨t, ht, h1, h2⟩ := hs a ρ hi
      unfold wl
      rw [ht, Option.bind_some]
      cases t with
      | false => exact ⟨_, rfl, h2 rfl⟩
      | true =>
        obtain ⟨r, e, q⟩ := h1 rfl
        rw [if_pos rfl, e, Option.bind_some]
        cases r with
        | nx ρ2 => obtain ⟨a2, q1, q2⟩ := q; exact ih a2 ρ2 (by omega) q1
        | ct ρ2 => obtain ⟨a2, q1, q2⟩ := q; exact ih a2 ρ2 (by omega) q1
        | bk ρ2 => exact ⟨_, rfl, q⟩
        | rt o ρ2 => exact ⟨_, rfl, q⟩
        | ex x ρ2 => exact ⟨_, rfl, q⟩
  obtain ⟨r, e, q⟩ := key _ a0 ρ (Nat.lt_succ_self _) h0
  exact ⟨r, whileS_of e, q⟩
end PD

namespace PD
open PySem PySem.Spec L2
/-! ### what all laws draw with -/
noncomputable def gCell : Ev → Option Fl := (rtV (ifV (asB (b2 (gv 1) (cB (aCons (gv 0) aNil) lenD) ltI)) (cB (aCons (b2 (gv 0) (gv 1) ixD) aNil) intD) (kI 0)))
noncomputable def gRow : Ev → Option Fl := (sq (stO 2 (mkLstO aNil))
    (sq (stV 3 (b2 (cB (aCons (gv 0) aNil) intD) (kI 2147483629) modI))
    (sq (stV 4 (b2 (gv 0) (b2 (kI 10) (kI 18) powI) subI))
    (sq (forS (rng1 (gv 1)) (gN 5) (sq (stV 3 (b2 (cB (aCons (b2 (b2 (b2 (gv 3) (kI 48271) mulI) (b2 (kI 977) (gv 5) mulI) addA) (kI 12345) addA) aNil) intD) (kI 2147483647) modI))
    (sq (stV 6 (b2 (cB (aCons (b2 (b2 (b2 (gv 3) (kI 69621) mulI) (b2 (kI 31) (gv 5) mulI) addA) (kI 7) addA) aNil) intD) (kI 2147483629) modI))
    (sq (app 2 (ifV (asB (b2 (gv 0) (b2 (kI 10) (kI 18) powI) geI)) (b2 (cB (aCons (gv 4) aNil) intD) (kI 1000) modI) (b2 (cB (aCons (b2 (gv 6) (kI 4099) divI) aNil) intD) (kI 1000) modI)))
    (stV 4 (b2 (gv 4) (kI 1000) divI))))))
    (fz 2 (rtV (gv 2)))))))
theorem cell_eq (ns : List Int) (k : Nat) : runP 2 gCell [.lst (ns.map .int), .int k] = some (.int (ns.getD k 0)) := by
  refine runP_eq ?_
  unfold gCell
  by_cases h : k < ns.length
  · have e : atI (ns.map D.int) (k : Int) = some (.int (ns.getD k 0)) := atI_nat (by rw [List.getElem?_map, List.getElem?_eq_getElem h]; simp [h])
    refine Rn.ret (d := .int (ns.getD k 0)) ?_ ⟨_, rfl, rfl⟩
    show ifV _ _ _ [.dat (.lst (ns.map .int)), .dat (.int k)] = _
    have e2 : ixD (.lst (ns.map .int)) (.int k) = some (.int (ns.getD k 0)) := e
    (simp (disch := first | assumption | omega) only [e2, List.length_map, decide_eq_true (show (k : Int) < (ns.length : Int) by omega), MV, MW])
  · refine Rn.ret (d := .int (ns.getD k 0)) ?_ ⟨_, rfl, rfl⟩
    show ifV _ _ _ [.dat (.lst (ns.map .int)), .dat (.int k)] = _
    have e3 : ns.getD k 0 = 0 := by simp [List.getD_eq_getElem?_getD, List.getElem?_eq_none (show ns.length ≤ k by omega)]
    rw [e3]
    (simp (disch := first | assumption | omega) only [List.length_map, decide_eq_false (show ¬ (k : Int) < (ns.length : Int) by omega), MV, MW])
theorem row_ex (c : Int) (n : Nat) (hn : n ≤ 1000) : ∃ rs : List Int, runP 7 gRow [.int c, .int n] = some (.lst (rs.map .int)) ∧ rs.length = n ∧ ∀ r ∈ rs, 0 ≤ r ∧ r < 1000 := by
  obtain ⟨d, e, rs, rfl, hl, hr⟩ : ∃ d, runP 7 gRow [.int c, .int n] = some d ∧ ∃ rs : List Int, d = .lst (rs.map .int) ∧ rs.length = n ∧ ∀ r ∈ rs, 0 ≤ r ∧ r < 1000 := by
    refine runP_of ?_
    unfold gRow
    show Rn _ [.dat (.int c), .dat (.int n), .unk, .unk, .unk, .unk, .unk] _
    refine Rn.sqstO (o := .dats []) rfl ?_
    refine Rn.sqst (d := .int (c % 2147483629)) (by (simp (disch := first | assumption | omega) only [MV, MW])) ?_
    refine Rn.sqst (d := .int (c - 10 ^ 18)) (by (simp (disch := first | assumption | omega) only [MV, MW]); rfl) ?_
    refine Rn.sqforR (lo := 0) (n := n) (by show rng1 _ [.dat (.int c), .dat (.int n), _, _, _, _, _] = _; (simp (disch := first | assumption | omega) only [MV, MW]); rfl) (fun i ρ => ∃ (rs : List Int) (s t : Int) (x y : O), ρ = [.dat (.int c), .dat (.int n), .dats (rs.map .int), .dat (.int s), .dat (.int t), x, y] ∧ rs.length = i ∧ ∀ r ∈ rs, 0 ≤ r ∧ r < 1000)
      ⟨[], c % 2147483629, c - 10 ^ 18, .unk, .unk, rfl, rfl, fun r h => nomatch h⟩ (fun i hi ρ hI => ?_) (fun ρ hI => ?_)
    · obtain ⟨rs, s, t, x, y, rfl, hl, hr⟩ := hI
      refine ⟨_, rfl, ?_⟩
      refine Rn.sqst (d := .int ((s * 48271 + 977 * (0 + (i : Int)) + 12345) % 2147483647)) (by show b2 _ _ _ [.dat _, .dat _, _, .dat _, _, .dat _, _] = _; (simp (disch := first | assumption | omega) only [MV, MW])) ?_
      generalize (s * 48271 + 977 * (0 + (i : Int)) + 12345) % 2147483647 = s'
      refine Rn.sqst (d := .int ((s' * 69621 + 31 * (0 + (i : Int)) + 7) % 2147483629)) (by show b2 _ _ _ [.dat _, .dat _, _, .dat _, _, .dat _, _] = _; (simp (disch := first | assumption | omega) only [MV, MW])) ?_
      generalize (s' * 69621 + 31 * (0 + (i : Int)) + 7) % 2147483629 = m
      refine Rn.sqapp (d := .int (if decide ((10 : Int) ^ 18 ≤ c) = true then t % 1000 else m / 4099 % 1000)) (ds := rs.map .int) (by
        show ifV _ _ _ [.dat (.int c), .dat (.int n), _, .dat (.int s'), .dat (.int t), .dat _, .dat (.int m)] = _
        have ep : powI (.int 10) (.int 18) = some (.int ((10 : Int) ^ 18)) := rfl
        (simp (disch := first | assumption | omega) only [ep, MV, MW])) rfl (by rw [List.length_map, hl]; omega) ?_
      refine Rn.st (d := .int (t / 1000)) (by show b2 _ _ _ [.dat _, .dat _, _, .dat _, .dat _, .dat _, .dat _] = _; (simp (disch := first | assumption | omega) only [MV, MW])) ?_
      refine ⟨rs ++ [if decide ((10 : Int) ^ 18 ≤ c) = true then t % 1000 else m / 4099 % 1000], s', t / 1000, .dat (.int (0 + (i : Int))), .dat (.int m), ?_, by simp [hl], fun r hm => ?_⟩
      · rw [List.map_append]; rfl
      · rcases List.mem_append.mp hm with hm | hm
        · exact hr r hm
        · have : r = _ := List.mem_singleton.mp hm
          subst this
          split <;> omega
    · obtain ⟨rs, s, t, x, y, rfl, hl, hr⟩ := hI
      refine Rn.fzD rfl ?_
      refine Rn.ret (d := .lst (rs.map .int)) rfl ?_
      exact ⟨_, _, rfl, rfl, rs, rfl, hl, hr⟩
  exact ⟨rs, e, hl, hr⟩
end PD

namespace PD
open PySem PySem.Spec L2
/-! ### == of plain data: ints, texts, None, lists and tuples of them, not deeper than k -/
mutual
def D.plain (k : Nat) : D → Bool
  | .non => true
  | .int _ => true
  | .str x => PyData.canLay0 (.str x)
  | .lst ds => decide (D.deeps ds < k) && D.plains k ds
  | .tup ds => decide (D.deeps ds < k) && D.plains k ds
  | _ => false
def D.plains (k : Nat) : List D → Bool
  | [] => true
  | d :: ds => D.plain k d && D.plains k ds
def D.deep : D → Nat
  | .lst ds => D.deeps ds + 1
  | .tup ds => D.deeps ds + 1
  | _ => 0
def D.deeps : List D → Nat
  | [] => 0
  | d :: ds => max d.deep (D.deeps ds)
end
mutual
theorem plain_py (k : Nat) : ∀ d : D, d.plain k = true → ∃ p, d.py = some p ∧ p.canLay0 = true ∧ p.depth ≤ d.deep
  | .non, _ => ⟨_, rfl, rfl, Nat.le_refl _⟩
  | .int i, _ => ⟨_, rfl, rfl, Nat.le_refl _⟩
  | .str x, h => ⟨_, rfl, h, Nat.le_refl _⟩
  | .lst ds, h => by
    obtain ⟨ps, e, a, b⟩ := plain_pys k ds (Bool.and_eq_true_iff.mp h).2
    exact ⟨.list ps, by unfold D.py; rw [e]; rfl, by simp only [PyData.canLay0, a], by rw [PyData.depth]; unfold D.deep; omega⟩
  | .tup ds, h => by
    obtain ⟨ps, e, a, b⟩ := plain_pys k ds (Bool.and_eq_true_iff.mp h).2
    exact ⟨.tuple ps, by unfold D.py; rw [e]; rfl, by simp only [PyData.canLay0, a], by rw [PyData.depth]; unfold D.deep; omega⟩
  | .bl _, h => nomatch h
  | .dic _ _, h => nomatch h
  | .obj _ _ _, h => nomatch h
  | .exn _ _ _ _ _, h => nomatch h
theorem plain_pys (k : Nat) : ∀ ds : List D, D.plains k ds = true → ∃ ps, D.pys ds = some ps ∧ PyData.canLayAll0 ps = true ∧ PyData.depthAll ps ≤ D.deeps ds
  | [], _ => ⟨[], rfl, rfl, Nat.le_refl _⟩
  | d :: ds, h => by
    unfold D.plains at h
    rw [Bool.and_eq_true] at h
    obtain ⟨p, e1, a1, b1⟩ := plain_py k d h.1
    obtain ⟨ps, e2, a2, b2⟩ := plain_pys k ds h.2
    refine ⟨p :: ps, by unfold D.pys; rw [e1, e2], by rw [PyData.canLayAll0, a1, a2]; rfl, ?_⟩
    rw [PyData.depthAll]; unfold D.deeps; omega
end
theorem deep_plain {k : Nat} : ∀ {d : D}, d.plain k = true → d.deep ≤ k
  | .non, _ => Nat.zero_le _
  | .int i, _ => Nat.zero_le _
  | .str x, h => Nat.zero_le _
  | .lst ds, h => of_decide_eq_true (Bool.and_eq_true_iff.mp h).1
  | .tup ds, h => of_decide_eq_true (Bool.and_eq_true_iff.mp h).1
  | .bl _, h => nomatch h
  | .dic _ _, h => nomatch h
  | .obj _ _ _, h => nomatch h
  | .exn _ _ _ _ _, h => nomatch h
mutual
theorem eqv_plain {k : Nat} : ∀ {d e : D} {p q : PyData}, d.plain k = true → e.plain k = true → d.py = some p → e.py = some q → (PyData.eqv p q = true ↔ d = e)
  | .lst ds, e, p, q, h1, h2, e1, e2 => by
    obtain ⟨ps, ep, _⟩ := plain_pys k ds (Bool.and_eq_true_iff.mp h1).2
    unfold D.py at e1
    rw [ep] at e1
    cases e1
    cases e with
    | lst es =>
      obtain ⟨qs, eq, _⟩ := plain_pys k es (Bool.and_eq_true_iff.mp h2).2
      unfold D.py at e2
      rw [eq] at e2
      cases e2
      simp only [PyData.eqv, D.lst.injEq]
      exact eqvs_plain (Bool.and_eq_true_iff.mp h1).2 (Bool.and_eq_true_iff.mp h2).2 ep eq
    | tup es =>
      obtain ⟨qs, eq, _⟩ := plain_pys k es (Bool.and_eq_true_iff.mp h2).2
      unfold D.py at e2
      rw [eq] at e2
      cases e2
      simp [PyData.eqv]
    | _ => cases e2 <;> simp [PyData.eqv]
  | .tup ds, e, p, q, h1, h2, e1, e2 => by
    obtain ⟨ps, ep, _⟩ := plain_pys k ds (Bool.and_eq_true_iff.mp h1).2
    unfold D.py at e1
    rw [ep] at e1
    cases e1
    cases e with
    | tup es =>
      obtain ⟨qs, eq, _⟩ := plain_pys k es (Bool.and_eq_true_iff.mp h2).2
      unfold D.py at e2
      rw [eq] at e2
      cases e2
      simp only [PyData.eqv, D.tup.injEq]
      exact eqvs_plain (Bool.and_eq_true_iff.mp h1).2 (Bool.and_eq_true_iff.mp h2).2 ep eq
    | lst es =>
      obtain ⟨qs, eq, _⟩ := plain_pys k es (Bool.and_eq_true_iff.mp h2).2
      unfold D.py at e2
      rw [eq] at e2
      cases e2
      simp [PyData.eqv]
    | _ => cases e2 <;> simp [PyData.eqv]
  | .non, e, p, q, _, h2, e1, e2 => by
    cases e1
    obtain ⟨q', eq, _⟩ := plain_py k e h2
    cases e with
    | lst es => unfold D.py at e2; obtain ⟨qs, _, rfl⟩ := Option.map_eq_some_iff.mp e2; simp [PyData.eqv]
    | tup es => unfold D.py at e2; obtain ⟨qs, _, rfl⟩ := Option.map_eq_some_iff.mp e2; simp [PyData.eqv]
    | bl _ => cases h2
    | dic _ _ => cases h2
    | obj _ _ _ => cases h2
    | exn _ _ _ _ _ => cases h2
    | tagM _ _ => cases h2
    | tagP _ _ => cases h2
    | _ => cases e2; simp [PyData.eqv]
  | .int i, e, p, q, _, h2, e1, e2 => by
    cases e1
    cases e with
    | lst es => unfold D.py at e2; obtain ⟨qs, _, rfl⟩ := Option.map_eq_some_iff.mp e2; simp [PyData.eqv]
    | tup es => unfold D.py at e2; obtain ⟨qs, _, rfl⟩ := Option.map_eq_some_iff.mp e2; simp [PyData.eqv]
    | bl _ => cases h2
    | dic _ _ => cases h2
    | obj _ _ _ => cases h2
    | exn _ _ _ _ _ => cases h2
    | tagM _ _ => cases h2
    | tagP _ _ => cases h2
    | _ => cases e2; simp [PyData.eqv]
  | .str x, e, p, q, _, h2, e1, e2 => by
    cases e1
    cases e with
    | lst es => unfold D.py at e2; obtain ⟨qs, _, rfl⟩ := Option.map_eq_some_iff.mp e2; simp [PyData.eqv]
    | tup es => unfold D.py at e2; obtain ⟨qs, _, rfl⟩ := Option.map_eq_some_iff.mp e2; simp [PyData.eqv]
    | bl _ => cases h2
    | dic _ _ => cases h2
    | obj _ _ _ => cases h2
    | exn _ _ _ _ _ => cases h2
    | tagM _ _ => cases h2
    | tagP _ _ => cases h2
    | _ => cases e2; simp [PyData.eqv]
  | .bl _, _, _, _, h, _, _, _ => nomatch h
  | .dic _ _, _, _, _, h, _, _, _ => nomatch h
  | .obj _ _ _, _, _, _, h, _, _, _ => nomatch h
  | .exn _ _ _ _ _, _, _, _, h, _, _, _ => nomatch h
theorem eqvs_plain {k : Nat} : ∀ {ds es : List D} {ps qs : List PyData}, D.plains k ds = true → D.plains k es = true → D.pys ds = some ps → D.pys es = some qs → (PyData.eqvAll ps qs = true ↔ ds = es)
  | [], [], ps, qs, _, _, e1, e2 => by cases e1; cases e2; simp [PyData.eqvAll]
  | [], e :: es, ps, qs, _, h2, e1, e2 => by
    cases e1
    unfold D.pys at e2
    split at e2
    · cases e2; simp [PyData.eqvAll]
    · cases e2
  | d :: ds, [], ps, qs, _, h2, e1, e2 => by
    cases e2
    unfold D.pys at e1
    split at e1
    · cases e1; simp [PyData.eqvAll]
    · cases e1
  | d :: ds, e :: es, ps, qs, h1, h2, e1, e2 => by
    unfold D.plains at h1 h2
    rw [Bool.and_eq_true] at h1 h2
    unfold D.pys at e1 e2
    split at e1
    · rename_i p1 ps1 q1 q2
      split at e2
      · rename_i p2 ps2 q3 q4
        cases e1; cases e2
        rw [PyData.eqvAll, Bool.and_eq_true, eqv_plain h1.1 h2.1 q1 q3, eqvs_plain h1.2 h2.2 q2 q4, List.cons.injEq]
      · cases e2
    · cases e1
end
theorem eqv_of {x y : D} (hx : x.plain 60 = true) (hy : y.plain 60 = true) : ∃ b, eqvD x y = some b ∧ (b = true ↔ x = y) := by
  obtain ⟨p, e1, a1, b1⟩ := plain_py 60 x hx
  obtain ⟨q, e2, a2, b2⟩ := plain_py 60 y hy
  refine ⟨PyData.eqv p q, ?_, eqv_plain hx hy e1 e2⟩
  unfold eqvD
  rw [e1, e2]
  have s1 : SeqAt.shaped p = true := by unfold SeqAt.shaped; rw [a1, decide_eq_true (by have := deep_plain hx; omega)]; rfl
  have s2 : SeqAt.shaped q = true := by unfold SeqAt.shaped; rw [a2, decide_eq_true (by have := deep_plain hy; omega)]; rfl
  exact if_pos ⟨s1, s2⟩
theorem eqB_of {x y : D} (hx : x.plain 60 = true) (hy : y.plain 60 = true) : ∃ b, eqB x y = some b ∧ (b = true ↔ x = y) := by
  unfold eqB
  cases q : eqS x y with
  | none => exact eqv_of hx hy
  | some b =>
    refine ⟨b, rfl, ?_⟩
    unfold eqS at q
    split at q
    · cases q; simp
    · cases hx
    · cases q; simp
    · cases q
theorem eq_self {x : D} (hx : x.plain 60 = true) : eqD x x = some (.bl true) := by
  obtain ⟨b, e, h⟩ := eqB_of hx hx
  unfold eqD
  rw [e, h.mpr rfl]; rfl
theorem ne_self {x : D} (hx : x.plain 60 = true) : neD x x = some (.bl false) := by
  obtain ⟨b, e, h⟩ := eqB_of hx hx
  unfold neD
  rw [e, h.mpr rfl]; rfl
theorem eq_not {x y : D} (hx : x.plain 60 = true) (hy : y.plain 60 = true) (hn : x ≠ y) : eqD x y = some (.bl false) := by
  obtain ⟨b, e, h⟩ := eqB_of hx hy
  have : b = false := by cases b with | false => rfl | true => exact absurd (h.mp rfl) hn
  unfold eqD
  rw [e, this]; rfl
theorem plains_of {k : Nat} : ∀ {ds : List D}, (∀ d ∈ ds, d.plain k = true) → D.plains k ds = true
  | [], _ => rfl
  | d :: ds, h => by
    unfold D.plains
    rw [h d List.mem_cons_self, plains_of fun e he => h e (List.mem_cons_of_mem _ he)]; rfl
theorem deeps_of {k : Nat} : ∀ {ds : List D}, (∀ d ∈ ds, d.deep ≤ k) → D.deeps ds ≤ k
  | [], _ => Nat.zero_le _
  | d :: ds, h => by
    unfold D.deeps
    have a := h d List.mem_cons_self
    have b := deeps_of fun e he => h e (List.mem_cons_of_mem _ he)
    omega
/-- a list (tuple) of things of depth at most j -/
theorem plain_lst {ds : List D} (j : Nat) (hj : j < 60) (h : ∀ d ∈ ds, d.plain 60 = true ∧ d.deep ≤ j) : (D.lst ds).plain 60 = true ∧ (D.lst ds).deep ≤ j + 1 := by
  have a := deeps_of (k := j) fun d hd => (h d hd).2
  refine ⟨?_, by show D.deeps ds + 1 ≤ _; omega⟩
  unfold D.plain
  rw [decide_eq_true (by omega), plains_of fun d hd => (h d hd).1]; rfl
theorem plain_tup {ds : List D} (j : Nat) (hj : j < 60) (h : ∀ d ∈ ds, d.plain 60 = true ∧ d.deep ≤ j) : (D.tup ds).plain 60 = true ∧ (D.tup ds).deep ≤ j + 1 := by
  have a := deeps_of (k := j) fun d hd => (h d hd).2
  refine ⟨?_, by show D.deeps ds + 1 ≤ _; omega⟩
  unfold D.plain
  rw [decide_eq_true (by omega), plains_of fun d hd => (h d hd).1]; rfl
/-- x in a list of ints -/
theorem in_ints (v : Int) (ns : List Int) : inB (.int v) (.lst (ns.map .int)) = some (decide (v ∈ ns)) := by
  have h : (ns.map D.int).all D.flat = true := by rw [List.all_eq_true]; intro d hd; obtain ⟨_, _, rfl⟩ := List.mem_map.mp hd; rfl
  show (if (D.int v).flat && (ns.map D.int).all D.flat then some ((ns.map D.int).any fun z => z.same (.int v)) else none) = _
  rw [h]
  show some ((ns.map D.int).any fun z => z.same (.int v)) = _
  congr 1
  rw [Bool.eq_iff_iff, List.any_eq_true, decide_eq_true_iff]
  constructor
  · rintro ⟨d, hd, e⟩
    obtain ⟨i, hi, rfl⟩ := List.mem_map.mp hd
    have : i = v := by simpa [D.same] using e
    exact this ▸ hi
  · exact fun h => ⟨.int v, List.mem_map_of_mem h, by simp [D.same]⟩
end PD

namespace PD
open PySem PySem.Spec L2
/-! ### running what may raise -/
section
variable {f g b : Ev → Option Fl} {ρ : Ev} {Q : Fl → Prop} {i : Nat} {h : Ev → Option Rz}
theorem Rn.stXD {o : O} {d : D} (e : h ρ = some (.ok o)) (ho : o.toD = some d) (k : Q (.nx (ρ.set i (.dat d)))) : Rn (PD.stXD i h) ρ Q := ⟨_, by unfold PD.stXD; rw [e, Option.bind_some]; simp only [ho]; rfl, k⟩
theorem Rn.sqstXD {o : O} {d : D} (e : h ρ = some (.ok o)) (ho : o.toD = some d) (k : Rn g (ρ.set i (.dat d)) Q) : Rn (PD.sq (PD.stXD i h) g) ρ Q := Rn.sq (Rn.stXD e ho k)
theorem Rn.sqstXDe {x : Exn} (e : h ρ = some (.ex x)) (k : Q (.ex x ρ)) : Rn (PD.sq (PD.stXD i h) g) ρ Q := Rn.sq ⟨.ex x ρ, by unfold PD.stXD; rw [e]; rfl, k⟩
theorem Rn.drpX {o : O} (e : h ρ = some (.ok o)) (k : Q (.nx ρ)) : Rn (PD.drpX h) ρ Q := ⟨_, by unfold PD.drpX; rw [e]; rfl, k⟩
theorem Rn.drpXe {x : Exn} (e : h ρ = some (.ex x)) (k : Q (.ex x ρ)) : Rn (PD.drpX h) ρ Q := ⟨_, by unfold PD.drpX; rw [e]; rfl, k⟩
/-- the body raises, the suite takes it -/
theorem Rn.tryX {tb : List (Addr × Bool)} {sm : Addr → Option Addr → Value → Ev → Option Fl} {x : Exn} {ρ1 : Ev} {r2 : Fl} (e : b ρ = some (.ex x ρ1)) (hm : mtc tb x.cls = some true) (hs : ∀ a da, Rn (sm a (exnA da x) x.cls) (ρ1.set i (.dat (exnD a da x))) fun r => unX i r = some r2) (k : Q r2) : Rn (tryS tb i b sm) ρ Q := by
  refine ⟨r2, ?_, k⟩
  unfold tryS
  rw [e, Option.bind_some]
  show ((mtc tb x.cls).bind fun t => if t = true then suiteS i sm x ρ1 else some (.ex x ρ1)) = _
  rw [hm, Option.bind_some, if_pos rfl, suiteS_of fun a da => (by obtain ⟨r, e1, e2⟩ := hs a da; rw [e1]; exact e2)]
theorem Rn.tryN {tb : List (Addr × Bool)} {sm : Addr → Option Addr → Value → Ev → Option Fl} {ρ1 : Ev} (e : b ρ = some (.nx ρ1)) (k : Q (.nx ρ1)) : Rn (tryS tb i b sm) ρ Q := ⟨_, by unfold tryS; rw [e]; rfl, k⟩
theorem mtc1 (C : Addr) (t : Bool) : mtc [(C, t)] (.ref C) = some t := by
  show List.lookup C [(C, t)] = _
  rw [List.lookup_cons]; simp
theorem runX_ok {n : Nat} {ds : List D} {z : Rz} (h : Rn b (env0 n ds) fun r => outX r = some z) : runX n b ds = some z := by
  obtain ⟨r, e, h1⟩ := h
  unfold runX
  rw [e]; exact h1
end
theorem ew_aStarL {f : Ev → Option D} {g : Ev → Option (List D)} {ρ : Ev} {xs : List D} (h : f ρ = some (.lst xs)) : aStar f g ρ = (g ρ).map (xs ++ ·) := by
  unfold aStar
  rw [h]; rfl
theorem ew_cX {f : Ev → Option (List D)} {n : Nat} {m : List D → Option Rz} {ρ : Ev} {ds : List D} {z : Rz} (h : f ρ = some ds) (hn : ds.length = n) (hm : m ds = some z) : cX f n m ρ = okO z := by
  unfold cX
  rw [h, Option.bind_some, if_pos hn, hm]; rfl
theorem ew_xC {f : Ev → Option (List D)} {n : Nat} {m : List D → Option Rz} {ρ : Ev} {ds : List D} (h : f ρ = some ds) (hn : ds.length = n) : xC f n m ρ = m ds := by
  unfold xC
  rw [h, Option.bind_some, if_pos hn]
end PD

namespace PD
open PySem PySem.Spec PyProof.Rows L2
/-! ### zip of two lists -/
def zipE (ds es : List D) : List D := (ds.zip es).map fun p => .tup [p.1, p.2]
theorem yld_zip {K : PySem.W.Frag} {M : Hp} {a b : Addr} {xs ys : List V} {ds es : List D} (h : SqX K M a xs) (d : Dvs K M xs ds) (h2 : SqX K M b ys) (d2 : Dvs K M ys es) : Yld K M [] (Itz K a b) (zipE ds es) := fun i M1 H os vs s1 R _ => by
  have q := seqX (s1.trans R.same) h
  have q2 := seqX (s1.trans R.same) h2
  have hl := d.length
  have hl2 := d2.length
  have hz : (zipE ds es).length = min xs.length ys.length := by simp [zipE, hl, hl2]
  have w := walk_zip (K := K) (a := a) (b := b) (xs := xs) (ys := ys) (n := (zipE ds es).length) hz
  refine ⟨fun hi => w.goes i H hi ⟨q, q2⟩, fun hi => by subst hi; exact w.stops H ⟨q, q2⟩, fun e he x H' y => ?_⟩
  have hi : i < (zipE ds es).length := (List.getElem?_eq_some_iff.mp he).1
  obtain ⟨T, x1, x2, ex, hT, rfl, e1, e2⟩ := w.yields i H x H' hi ⟨q, q2⟩ y
  obtain ⟨e', he', dv⟩ := d.getV e1
  obtain ⟨e'', he'', dv2⟩ := d2.getV e2
  have : e = .tup [e', e''] := by
    unfold zipE at he
    rw [List.getElem?_map, show (ds.zip es)[i]? = some (e', e'') from List.getElem?_zip_eq_some.mpr ⟨he', he''⟩] at he
    exact (Option.some.inj he).symm
  subst this; subst ex
  have mT := R.same.free hT
  have s2 := same_updM (u := .tup [x1, x2]) mT
  exact ⟨_, s2, R.growM hT, .tup (.inl (.inl upd_same)) (.cons (dv.mono (s1.trans s2)) (.cons (dv2.mono (s1.trans s2)) .nil))⟩
def zipM (f : Ev → Option (List D)) (ρ : Ev) : Option (List D) := match f ρ with
  | some [.lst ds, .lst es] => some (zipE ds es)
  | _ => none
section
variable {X : Cx} {pos p tpos : Pos} {e e2 : Expr} {elts : List Expr} {kk : Nat} {ga : Ev → Option (List D)}
theorem iZipL (h : PA X [e, e2] (tAr X.K ga)) (hm : X.mg "zip" = none) (hg : Gl X "zip" := by rfl)
    (hs : starEach [e, e2] X.env = (false, eval e X.env) :: starEach [e2] X.env := by rfl) (hpl : (backTo pos (starEach [e2] X.env)).any (·.1) = false := by rfl) :
    PI X (.Tuple elts kk tpos) (.Call (.Name "zip" p) [e, e2] [] pos) (tI X.K [] (zipM ga)) :=
  PI.imp (pi_zip hg hm h hs hpl) fun σ H R ⟨M, ρ, fo, fv, ds, R0, l, e, k⟩ => by
    unfold zipM at e
    split at e
    · rename_i d1 d2 q
      cases e
      refine ⟨M, ρ, fo, fv, _, R0, l, q, fun M1 H1 vs s1 R1 dv => ?_⟩
      cases dv with
      | cons a1 dn =>
        cases dn with
        | cons a2 dn =>
          cases dn
          cases a1 with
          | lst hs hd =>
            cases a2 with
            | lst hs2 hd2 => exact ⟨_, _, _, _, rfl, seqX R1.same hs, seqX R1.same hs2, k M1 H1 _ s1 R1 (yld_zip hs hd hs2 hd2)⟩
    · cases e
/-! ### // by any divisor but 0, below 2 ^ 9000 -/
def CDivX (_ j : Int) : Prop := j ≠ 0 ∧ j.natAbs.log2 < 9000
theorem op_fdivX : OpR X (binaryOp .FloorDiv) (rI CDivX fun i j => .int (i.fdiv j)) := opI fun _ _ _ _ _ _ _ hc q => floordiv_int hc.1 q (.inl (PyProof.noPylong_of_log2 hc.2))
def divX : D → D → Option D := i2 (fun _ j => decide (j ≠ 0 ∧ j.natAbs.log2 < 9000)) fun i j => .int (i.fdiv j)
theorem oDivX : OpR X (binaryOp .FloorDiv) (rD X.K divX) := op_i2 op_fdivX (fun i j h => by simpa [CDivX] using h) fun _ _ _ => .int _
end
theorem ew_divX {i j : Int} (h : j ≠ 0) (h2 : j.natAbs.log2 < 9000) : divX (.int i) (.int j) = some (.int (i.fdiv j)) := by
  show (if decide (j ≠ 0 ∧ j.natAbs.log2 < 9000) = true then some (D.int (i.fdiv j)) else none) = _
  rw [if_pos (decide_eq_true ⟨h, h2⟩)]
end PD

namespace PD
open PySem PySem.Spec PyProof.Rows L2
/-! ### x = a place inside an own thing; x.append(e): both statements at once -/
def appA (j i : Nat) (pf : Ev → Option (List Nat)) (f : Ev → Option O) (ρ : Ev) : Option Fl := (pf ρ).bind fun p => match onSub i p ρ with
  | some (.lst os) => (vwO f (ρ.set j .unk)).bind fun y => if j < ρ.length ∧ os.length < sizeLine then some (.nx ((ρ.set j .unk).set i ((ρ.getD i .unk).put p (.lst (os ++ [y]))))) else none
  | _ => none
section
variable {X : Cx} {W : WX} {J : List Nat} {pos pos' pos1 apos cpos px : Pos} {b e : Expr} {i j : Nat} {pf : Ev → Option (List Nat)} {f : Ev → Option O}
theorem sAppA {x : Str} (hN : X.N.Nodup) (ha : PE X b (tPl X.K i pf)) (hv : PE X (.Name x px) (tVar j)) (he : PE X e (tO X.K f)) (hij : i ≠ j := by decide) (hJ : j ∉ J := by decide) (hi : X.N[j]? = some x := by rfl) (hx : Loc X.env.scope x := by first | exact Or.inl rfl | exact Or.inr rfl)
    (hs1 : swapsWith b (some (.Name x pos')) pos1.line X.env = pure false := by rfl) (hf : X.fn x = true ∨ X.env.scope.names.lookup x = some .local := by first | exact .inl rfl | exact .inr rfl)
    (hbase : attributeBase (.Name x px) "append" X.env (eval (.Name x px) X.env) = eval (.Name x px) X.env := by rfl)
    (hfew : ((backTo cpos (starEach [e] X.env)).all (fun x => !x.1) && (backToKw cpos (keywordEach [] X.env)).all (fun x => x.1.isSome)
      && decide ([e].length + ([] : List Keyword).length + (if ([] : List Keyword).isEmpty then 0 else 1) < 30)) = true := by rfl)
    (hline : (apos.endLine == cpos.line) = true := by rfl) (hs : starEach [e] X.env = (false, eval e X.env) :: starEach [] X.env := by rfl) (hplain : (backTo cpos (starEach [] X.env)).any (·.1) = false := by rfl)
    (hsw : swapsWith (.Call (.Attribute (.Name x px) "append" apos) [e] [] cpos) none pos.line X.env = pure false := by rfl) :
    PSs X [.Assign [.Name x pos'] b pos1, .Expr (.Call (.Attribute (.Name x px) "append" apos) [e] [] cpos) pos] (tS X.K W J (appA j i pf f)) :=
  PSs.imp (pss_cons (ps_set (i := j) hN hi hx ha hs1 hf) (pss_one (ps_expr (pe_bm PySem.F.plainAttrs_list PySem.F.slot_list_append PySem.F.type_list_append mt_append hv (pa_cons he pa_nil hs) hbase hfew hline hs hplain) hsw))) fun E σ H ⟨M, ρ, fo, fv, r, σ0, R, l, e, k⟩ => by
    unfold appA at e
    cases q : pf ρ with
    | none => rw [q] at e; cases e
    | some p0 =>
      rw [q, Option.bind_some] at e
      split at e
      · rename_i os eo
        cases q2 : vwO f (ρ.set j .unk) with
        | none => rw [q2] at e; cases e
        | some y =>
          rw [q2, Option.bind_some] at e
          split at e
          · rename_i hlen
            cases e
            obtain ⟨q3, im⟩ := vwO_some q2
            refine ⟨M, ρ, fo, fv, p0, R, l.1, q, ⟨_, eo, rfl⟩, fun M1 H1 v0 v s1 R1 e0 ev => ?_⟩
            obtain ⟨o, e1, e2⟩ := onSub_some eo
            have R2 : Rep X.K M1 H1 (ρ.set j .unk ++ fo) (σ.set j (some v) ++ fv) := R1.setU l.1 (some v)
            have l2 : (σ.set j (some v)).length = (ρ.set j O.unk).length := by simp [l.1]
            have e1' : (ρ.set j .unk)[i]? = some o := by rw [List.getElem?_set_ne (Ne.symm hij)]; exact e1
            have e0' : (σ.set j (some v))[i]? = some (some v0) := by rw [List.getElem?_set_ne (Ne.symm hij)]; exact e0
            have R2' : Rep X.K M1 H1 (ρ.set j .unk ++ ([] ++ fo)) (σ.set j (some v) ++ ([] ++ fv)) := R2
            obtain ⟨a1, xs1, _, _, rfl, hA1, _⟩ := R2'.putL l2 rfl e1' e2 e0' ev
            obtain ⟨Ma, t1, Ra, _, back⟩ := R2.look2 l2 e1' e2 rfl e0' ev
            have hjl : j < σ.length := by rw [l.1]; exact hlen.1
            refine ⟨.ref a1, by rw [List.getElem?_set_self hjl], .inl ⟨rfl, _, .inl (.inl hA1)⟩, Ma, (ρ.set j .unk).map O.vw, [], [], y, Ra, by simpa using l.1, q3, fun M2 H2 u s2 R3 => ?_⟩
            obtain ⟨M3, s3, R4, ev3⟩ := back M2 H2 _ _ s2 R3 im
            have R4' : Rep X.K M3 H2 (ρ.set j .unk ++ ([y] ++ fo)) (σ.set j (some (.ref a1)) ++ ([some u] ++ fv)) := R4
            obtain ⟨a2, xs, f1, ft, ea, hA, ws, wt, n1, n2, mA, up⟩ := R4'.putL l2 rfl e1' e2 e0' ev3
            cases ea
            have hl : xs.length = os.length := by simpa using ws.length
            refine ⟨a1, xs, u, rfl, rfl, hA, by omega, ?_⟩
            rw [getD_of e1] at k
            refine k M3 _ _ (s1.trans s3) (up (xs ++ [u]) (os ++ [y]) (f1 ++ ft) ?_ fun b => by rw [List.count_append]; exact Nat.le_refl _) ((l.set hJ _ _).setR _)
            have w1 := ws.frame (H' := upd H2 a1 (.lst (xs ++ [u]))) (Same.refl _) fun c hc => upd_ne fun z => n1 (z ▸ hc)
            have w2 := wt.frame (H' := upd H2 a1 (.lst (xs ++ [u]))) (Same.refl _) fun c hc => upd_ne fun z => n2 (z ▸ hc)
            simpa using w1.append w2
          · cases e
      · cases e
end
end PD

namespace PD
open PySem PySem.Spec PyProof.Rows L2
/-! ### (a, b, ..) = a call that may raise -/
def asgX (h : Ev → Option Rz) (g : D → Ev → Option Ev) (ρ : Ev) : Option Fl := (h ρ).bind fun z => match z with
  | .ok o => (match o.toD with
    | some d => (g d ρ).map .nx
    | none => none)
  | .ex x => some (.ex x ρ)
section
variable {X : Cx} {W : WX} {J : List Nat} {pos : Pos} {tg e : Expr} {h : Ev → Option Rz}
theorem sAsgX {is : List Nat} {g : D → Ev → Option Ev} (he : PE X e (tXc X.K W h)) (hg : PG X tg (tG X.K is g)) (hJ : ∀ i ∈ is, i ∉ J := by decide) (hs : swapsWithSole [tg] e pos.line X.env = pure false := by rfl) (hw : swappedStores [tg] e X.env = pure none := by rfl) (h1 : (assignEach [tg] X.env).map (·.2) = [assign tg X.env] := by rfl) : PS X (.Assign [tg] e pos) (tS X.K W J (asgX h g)) :=
  PS.imp (ps_asg he hg hs hw h1) fun E σ H ⟨M, ρ, fo, fv, r, σ0, R, l, e, k⟩ => by
    unfold asgX at e
    cases q : h ρ with
    | none => rw [q] at e; cases e
    | some z =>
      rw [q, Option.bind_some] at e
      refine ⟨M, ρ, fo, fv, z, R, l.1, q, ?_⟩
      cases z with
      | ok o =>
        cases q2 : o.toD with
        | none => simp only [q2] at e; cases e
        | some d =>
          simp only [q2] at e
          cases q3 : g d ρ with
          | none => rw [q3] at e; cases e
          | some ρ1 =>
            rw [q3] at e
            cases e
            intro M1 H1 v s1 R1
            obtain ⟨M2, s2, R2, d2⟩ := R1.frz l.1 rfl q2
            exact ⟨M2, ρ, fo, fv, d, ρ1, R2.drop l.1, l.1, d2, q3, fun σ1 a1 l1 r1 R3 => k M2 H1 σ1 (s1.trans s2) R3 (l.to l1 r1 a1 hJ)⟩
      | ex y => cases e; exact fun M1 H1 cls d s1 R1 ex => k M1 H1 σ cls d s1 R1 l ex
end
section
variable {ρ : Ev} {Q : Fl → Prop} {h : Ev → Option Rz} {t : D → Ev → Option Ev} {f : Ev → Option Fl}
theorem Rn.sqasgX {o : O} {d : D} {ρ' : Ev} (e : h ρ = some (.ok o)) (ho : o.toD = some d) (ht : t d ρ = some ρ') (k : Rn f ρ' Q) : Rn (PD.sq (asgX h t) f) ρ Q := Rn.sq ⟨.nx ρ', by unfold asgX; rw [e, Option.bind_some]; simp only [ho, ht]; rfl, k⟩
theorem Rn.sqasgXe {x : Exn} (e : h ρ = some (.ex x)) (k : Q (.ex x ρ)) : Rn (PD.sq (asgX h t) f) ρ Q := Rn.sq ⟨.ex x ρ, by unfold asgX; rw [e]; rfl, k⟩
end
end PD

namespace PD
open PySem PySem.Spec PyProof.Rows L2
/-! ### for x in t: if isinstance(x, list): x.append(e) -- t an own tuple -/
def grow (y : O) : O → O
  | .lst os => .lst (os ++ [y])
  | o => o
def growOk : O → Bool
  | .lst os => decide (os.length < sizeLine)
  | .dat (.int _) => true
  | _ => false
def appEach (j i : Nat) (y : O) (ρ : Ev) : Option Fl := match ρ[i]? with
  | some (.tup os) => if j < ρ.length ∧ os.all growOk = true then some (.nx ((ρ.set j .unk).set i (.tup (os.map (grow y))))) else none
  | some (.dat (.tup [])) => if j < ρ.length then some (.nx (ρ.set j .unk)) else none
  | _ => none
def partG (y : O) (os : List O) (t : Nat) : List O := (os.take t).map (grow y) ++ os.drop t
theorem partG_at {y : O} {os : List O} {t : Nat} (h : t < os.length) : (partG y os t)[t]? = some os[t] := by
  unfold partG
  rw [List.getElem?_append_right (by simp; omega), List.getElem?_drop]
  simp only [List.length_map, List.length_take]
  rw [show t + (t - min t os.length) = t by omega, List.getElem?_eq_getElem h]
theorem partG_set {y : O} {os : List O} {t : Nat} (h : t < os.length) : (partG y os t).set t (grow y os[t]) = partG y os (t + 1) := by
  unfold partG
  rw [List.set_append_right _ _ (by simp; omega)]
  simp only [List.length_map, List.length_take]
  rw [show t - min t os.length = 0 by omega, List.drop_eq_getElem_cons h, List.set_cons_zero, List.take_succ_eq_append_getElem h, List.map_append, List.append_assoc]
  rfl
theorem partG_len {y : O} {os : List O} {t : Nat} : (partG y os t).length = os.length := by
  unfold partG
  simp; omega
section
variable {X : Cx} {W : WX} {J : List Nat} {pos epos ipos fpos apos cpos p0 pt px px' pi pl : Pos} {e : Expr} {i j : Nat} {f : Ev → Option O} {y : O}
theorem sForApp {x t : Str} (hp : PassesOwn (model X.prog X.w) X.A X.env X.xe) (hc : X.calm = true) (hN : X.N.Nodup) (ht : PE X (.Name t pt) (tVar i)) (hv : PE X (.Name x px) (tVar j)) (hv' : PE X (.Name x px') (tVar j)) (he : PE X e (tO X.K f)) (hm : X.mg "isinstance" = none) (hmL : X.mg "list" = none)
    (hf : ∀ ρ, f ρ = some y) (him : immO y = true)
    (hij : i ≠ j := by decide) (hJ : j ∉ J := by decide) (hi : X.N[j]? = some x := by rfl) (hx : Loc X.env.scope x := by first | exact Or.inl rfl | exact Or.inr rfl)
    (hfn : X.fn x = true ∨ X.env.scope.names.lookup x = some .local := by first | exact .inl rfl | exact .inr rfl)
    (hg : Gl X "isinstance" := by rfl) (hgT : Gl X "list" := by rfl)
    (hs1 : starEach [.Name x px, .Name "list" pl] X.env = (false, eval (.Name x px) X.env) :: starEach [.Name "list" pl] X.env := by rfl) (hs2 : starEach [.Name "list" pl] X.env = (false, eval (.Name "list" pl) X.env) :: starEach [] X.env := by rfl) (hpl : (backTo ipos (starEach [.Name "list" pl] X.env)).any (·.1) = false := by rfl)
    (hbase : attributeBase (.Name x px') "append" X.env (eval (.Name x px') X.env) = eval (.Name x px') X.env := by rfl)
    (hfew : ((backTo cpos (starEach [e] X.env)).all (fun x => !x.1) && (backToKw cpos (keywordEach [] X.env)).all (fun x => x.1.isSome)
      && decide ([e].length + ([] : List Keyword).length + (if ([] : List Keyword).isEmpty then 0 else 1) < 30)) = true := by rfl)
    (hline : (apos.endLine == cpos.line) = true := by rfl) (hs : starEach [e] X.env = (false, eval e X.env) :: starEach [] X.env := by rfl) (hplain : (backTo cpos (starEach [] X.env)).any (·.1) = false := by rfl)
    (hsw : swapsWith (.Call (.Attribute (.Name x px') "append" apos) [e] [] cpos) none epos.line X.env = pure false := by rfl)
    (hfs : ∀ z, foldedSetIterable (.Name t pt) X.env z = pure z := by intro _; rfl) :
    PS X (.For (.Name x p0) (.Name t pt) [.If (.Call (.Name "isinstance" pi) [.Name x px, .Name "list" pl] [] ipos) [.Expr (.Call (.Attribute (.Name x px') "append" apos) [e] [] cpos) epos] [] pos] [] fpos) (tS X.K W J (appEach j i y)) :=
  PS.imp (ps_for hp hc (pi_tup ht) (pg_name hN hi hx hfn) (pss_one (ps_if (pt_val (pe_callB call_isi hg hm (by decide +kernel) (pa_cons hv (pa_cons (pe_bltn (v := .ty "list") hgT hmL (by decide +kernel) rfl (by decide) (by decide)) pa_nil hs2) hs1) (by decide) (by decide) hs1 hpl)) (pss_one (ps_expr (pe_bm PySem.F.plainAttrs_list PySem.F.slot_list_append PySem.F.type_list_append mt_append hv' (pa_cons he pa_nil hs) hbase hfew hline hs hplain) hsw)) pss_nil)) hfs) fun E σ H ⟨M, ρ, fo, fv, r, σ0, R, l, e, k⟩ => by
    unfold appEach at e
    have hset : σ.set j (σ.getD j none) = σ := by
      refine List.ext_getElem? fun n => ?_
      rw [List.getElem?_set]
      by_cases q : j = n
      · subst q
        by_cases hl : j < σ.length
        · rw [if_pos rfl, if_pos hl, List.getD_eq_getElem?_getD, List.getElem?_eq_getElem hl]; rfl
        · rw [if_pos rfl, if_neg hl, List.getElem?_eq_none (by omega)]
      · rw [if_neg q]
    split at e
    · rename_i os eo
      split at e
      · rename_i hcond
        obtain ⟨hj, hall⟩ := hcond
        cases e
        have R' : Rep X.K M H (ρ ++ ([] ++ fo)) (σ ++ ([] ++ fv)) := R
        obtain ⟨v, f1, ft, ev, h1, _, _, _, _⟩ := R'.own l.1 rfl eo
        cases h1 with
        | @tup a xs _ fp hM ws =>
          have hlen : xs.length = os.length := by simpa using ws.length
          have hil : i < ρ.length := (List.getElem?_eq_some_iff.mp eo).1
          have hil' : i < σ.length := by rw [l.1]; exact hil
          have hjl : j < σ.length := by rw [l.1]; exact hj
          have sq : ∀ {M1 H1 : Hp} {o1 : List O} {v1 : List (Option V)}, Same M M1 → Rep X.K M1 H1 o1 v1 → SqT X.K H1 a xs := fun s1 R1 => .inl (.inl (R1.1 _ _ (s1 _ _ hM)))
          refine ⟨.ref a, ev, a, rfl, ⟨xs, sq (Same.refl _) R⟩, ?_⟩
          refine ⟨fun n m σ' H' => m = os.length - n ∧ n ≤ os.length ∧ ∃ M1, Same M M1 ∧ Rep X.K M1 H' ((ρ.set j .unk).set i (.tup (partG y os n)) ++ fo) (σ' ++ fv) ∧ Lk J σ0 σ' ((ρ.set j .unk).set i (.tup (partG y os n))) ∧ σ'[i]? = some (some (.ref a)), ⟨os.length, rfl, Nat.zero_le _, M, Same.refl _, ?_, ?_, ev⟩, ?_⟩
          · have R2 := R.setU (i := j) l.1 (σ.getD j none)
            rw [hset] at R2
            have e0 : (ρ.set j .unk).set i (.tup (partG y os 0)) = ρ.set j .unk := by
              refine List.ext_getElem? fun n => ?_
              rw [List.getElem?_set]
              by_cases q : i = n
              · subst q
                rw [if_pos rfl, if_pos (by simpa using hil), List.getElem?_set_ne (Ne.symm hij), eo]
                rfl
              · rw [if_neg q]
            rw [e0]; exact R2
          · exact (l.setR _).setR _
          rintro n m σ1 H1 ⟨rfl, hn, M1, s1, R1, l1, ei⟩
          by_cases hlt : n < os.length
          · have hnx : n < xs.length := by omega
            refine .inr ⟨⟨xs, xs[n], sq s1 R1, List.getElem?_eq_getElem hnx⟩, fun σ' H' => ∃ M2, Same M M2 ∧ Rep X.K M2 H' ((ρ.set j .unk).set i (.tup (partG y os (n + 1))) ++ fo) (σ' ++ fv) ∧ Lk J σ0 σ' ((ρ.set j .unk).set i (.tup (partG y os (n + 1)))) ∧ σ'[i]? = some (some (.ref a)), fun σ' H' h => ⟨os.length - (n + 1), by omega, rfl, by omega, h⟩, ?_⟩
            rintro z H2 ⟨rfl, hz⟩
            have hz := hz xs (sq s1 R1)
            rw [List.getElem?_eq_getElem hnx] at hz
            cases hz
            -- the slot x holds the part
            have eρ : ((ρ.set j .unk).set i (.tup (partG y os n))).set j .unk = (ρ.set j .unk).set i (.tup (partG y os n)) := by
              rw [List.set_comm _ _ hij, List.set_set]
            have R2 := R1.setU (i := j) l1.1 (some xs[n])
            rw [eρ] at R2
            have l2 : Lk J σ0 (σ1.set j (some xs[n])) ((ρ.set j .unk).set i (.tup (partG y os n))) := by
              have := l1.set hJ (some xs[n]) .unk
              rwa [eρ] at this
            have hj1 : j < σ1.length := by rw [l1.1]; simpa using hj
            have ei2 : (σ1.set j (some xs[n]))[i]? = some (some (.ref a)) := by rw [List.getElem?_set_ne (Ne.symm hij)]; exact ei
            have ej2 : (σ1.set j (some xs[n]))[j]? = some (some xs[n]) := List.getElem?_set_self hj1
            generalize hρ1 : (ρ.set j .unk).set i (.tup (partG y os n)) = ρ1 at *
            have eo1 : ρ1[i]? = some (.tup (partG y os n)) := by rw [← hρ1]; exact List.getElem?_set_self (by simpa using hil)
            have hup : ∀ o, ρ1.set i o = (ρ.set j .unk).set i o := fun o => by rw [← hρ1, List.set_set]
            have hok : growOk os[n] = true := List.all_eq_true.mp hall _ (List.getElem_mem hlt)
            have pset := partG_set (y := y) hlt
            have pat := partG_at (y := y) hlt
            have ev2 : atV H2 (.ref a) [n] = some xs[n] := by
              show (kidV H2 (.ref a) n).bind (fun u => some u) = _
              have : kidV H2 (.ref a) n = xs[n]? := by
                have hH := R2.1 _ _ (s1 _ _ hM)
                unfold kidV
                simp only [hH]
              rw [this, List.getElem?_eq_getElem hnx]; rfl
            cases q : os[n] with
            | lst ps =>
              rw [q] at hok pset pat
              have hps : ps.length < sizeLine := of_decide_eq_true hok
              have ep : (O.tup (partG y os n)).sub [n] = some (.lst ps) := by
                show ((partG y os n)[n]?).bind _ = _
                rw [pat]; rfl
              have R2' : Rep X.K M1 H2 (ρ1 ++ ([] ++ fo)) (σ1.set j (some xs[n]) ++ ([] ++ fv)) := R2
              obtain ⟨a1, xs1, _, _, ea1, hA1, _⟩ := R2'.putL l2.1 rfl eo1 ep ei2 ev2
              refine ⟨xs[n], ej2, xs[n], .ty "list", .type "list", .type "list", true, rfl, .ty "list", by rw [ea1]; exact .base (.lst hA1), kit_ty (by decide +kernel), true, rfl, ?_⟩
              show tDrop (tBM X.K "list" rAppend (tVar j) (tCons (tO X.K f) tNil)) _ _ _
              obtain ⟨Ma, t1, Ra, _, back⟩ := R2.look2 l2.1 eo1 ep rfl ei2 ev2
              refine ⟨.ref a1, by rw [ej2, ea1], .inl ⟨rfl, _, .inl (.inl hA1)⟩, Ma, ρ1.map O.vw, [], [], y, Ra, by simpa using l2.1, hf _, fun M2 H3 u s2 R3 => ?_⟩
              obtain ⟨M3, s3, R4, ev3⟩ := back M2 H3 _ _ s2 R3 him
              have R4' : Rep X.K M3 H3 (ρ1 ++ ([y] ++ fo)) (σ1.set j (some xs[n]) ++ ([some u] ++ fv)) := R4
              obtain ⟨a2, xs2, g1, gt, ea, hA, vs, vt, n1, n2, mA, up⟩ := R4'.putL l2.1 rfl eo1 ep ei2 ev3
              rw [ea1] at ea
              cases ea
              have hl : xs2.length = ps.length := by simpa using vs.length
              refine ⟨a1, xs2, u, rfl, rfl, hA, by omega, ?_⟩
              have w1 := vs.frame (H' := upd H3 a1 (.lst (xs2 ++ [u]))) (Same.refl _) fun c hc => upd_ne fun z => n1 (z ▸ hc)
              have w2 := vt.frame (H' := upd H3 a1 (.lst (xs2 ++ [u]))) (Same.refl _) fun c hc => upd_ne fun z => n2 (z ▸ hc)
              have R5 := up (xs2 ++ [u]) (ps ++ [y]) (g1 ++ gt) (by simpa using w1.append w2) fun b => by rw [List.count_append]; exact Nat.le_refl _
              have eput : (O.tup (partG y os n)).put [n] (.lst (ps ++ [y])) = .tup (partG y os (n + 1)) := by
                show (match (partG y os n)[n]? with | some o1 => (O.tup (partG y os n)).setKid n (.lst (ps ++ [y])) | none => _) = _
                rw [pat]
                show O.tup ((partG y os n).set n (.lst (ps ++ [y]))) = _
                rw [← pset]; rfl
              rw [eput, hup] at R5
              exact ⟨M3, s1.trans s3, R5, by rw [← hup]; exact l2.setR _, ei2⟩
            | dat d =>
              rw [q] at hok pset pat
              cases d with
              | int b =>
                have pg : partG y os (n + 1) = partG y os n := by
                  rw [← pset]
                  refine List.ext_getElem? fun m => ?_
                  rw [List.getElem?_set]
                  by_cases z : n = m
                  · subst z
                    rw [if_pos rfl, if_pos (by rw [partG_len]; exact hlt), pat]; rfl
                  · rw [if_neg z]
                have ep : (O.tup (partG y os n)).sub [n] = some (.dat (.int b)) := by
                  show ((partG y os n)[n]?).bind _ = _
                  rw [pat]; rfl
                have R2' : Rep X.K M1 H2 (ρ1 ++ ([] ++ fo)) (σ1.set j (some xs[n]) ++ ([] ++ fv)) := R2
                obtain ⟨w0, f2, ft2, ew, hw, _, _, _, _⟩ := R2'.own l2.1 rfl eo1
                rw [ei2] at ew
                cases ew
                have hx1 : xs[n] = .int b := by
                  cases hw with
                  | @tup _ xs' _ fp' hM' ws' =>
                    have : xs' = xs := by
                      have h3 := s1 _ _ hM
                      rw [hM'] at h3
                      cases h3; rfl
                    subst this
                    obtain ⟨_, ho⟩ := ows_at (o := .dat (.int b)) (v := some xs'[n]) ws' (List.mem_of_getElem? (i := n) (by
                      rw [List.getElem?_zip_eq_some]
                      exact ⟨pat, by rw [List.getElem?_map, List.getElem?_eq_getElem hnx]; rfl⟩))
                    cases ho with
                    | dat hd => exact (show ∀ {w : V}, Dv X.K M1 w (.int b) → w = .int b from fun h => by cases h; rfl) hd
                refine ⟨xs[n], ej2, xs[n], .ty "list", .type "int", .type "list", false, rfl, .ty "list", by rw [hx1]; exact .base (.int b), kit_ty (by decide +kernel), false, rfl, ?_⟩
                show tNext _ _ _
                refine ⟨M1, s1, ?_, ?_, ei2⟩
                · rw [pg, ← hup, ← hρ1]
                  rw [← hρ1] at R2
                  rw [List.set_set]; exact R2
                · rw [pg, hρ1]; exact l2
              | _ => cases hok
            | unk => rw [q] at hok; cases hok
            | tup _ => rw [q] at hok; cases hok
            | dic _ _ => rw [q] at hok; cases hok
            | obj _ _ _ => rw [q] at hok; cases hok
            | raw _ => rw [q] at hok; cases hok
          · have en : n = os.length := by omega
            subst en
            refine .inl ⟨⟨xs, sq s1 R1, by omega⟩, ?_⟩
            have : partG y os os.length = os.map (grow y) := by unfold partG; simp
            rw [this] at R1 l1
            exact k M1 H1 σ1 s1 R1 l1
      · cases e
    · rename_i eo
      split at e
      · rename_i hj
        cases e
        have R' : Rep X.K M H (ρ ++ ([] ++ fo)) (σ ++ ([] ++ fv)) := R
        obtain ⟨v, f1, ft, ev, h1, _, _, _, _⟩ := R'.own l.1 rfl eo
        cases h1 with
        | dat hd =>
          cases hd with
          | @tup a xs _ hq hs =>
            have hx0 : xs = [] := by
              have := hs.length
              simpa using this
            subst hx0
            refine ⟨.ref a, ev, a, rfl, ⟨[], sqT_same R.1 hq⟩, ?_⟩
            refine ⟨fun n m σ' H' => n = 0 ∧ σ' = σ ∧ H' = H, ⟨0, rfl, rfl, rfl⟩, ?_⟩
            rintro n m σ1 H1 ⟨rfl, rfl, rfl⟩
            refine .inl ⟨⟨[], sqT_same R.1 hq, Nat.le_refl _⟩, ?_⟩
            have R2 := R.setU (i := j) l.1 (σ1.getD j none)
            rw [hset] at R2
            exact k M H1 σ1 (Same.refl _) R2 (l.setR _)
      · cases e
    · cases e
end
end PD

namespace PD
open PySem PySem.Spec PyProof.Rows L2
/-! ### f(k=v, ..), f may raise -/
section
variable {X : Cx} {W : WX} {x : Str} {f : Addr} {fd : FuncData} {ps : List Str} {k n : Nat} {p pos : Pos} {m : List D → Option Rz} {ga : Ev → Option (List D)}
theorem run_fnNS {CX : CXT} {E : L2.St → XK} {sp : Sp} {ks : List Str} {g : List Value → List Value → List Value} {gV : List V → List V → List V} {n0 : Nat} {pins : List (Addr × Obj)} {σ : L2.St} {H : Hp} {s : Shared} {Q : VK} {us ws : List Value} {vs zs : List V} (F : FnOk X.prog X.w X.K X.mg X.base CX k f fd ps sp) (hr : Room k X.A) (hb : KBn X.K fd ps n0 ks g gV) (hx : PassesAt CX X σ (E σ))
    (I : Inv X pins σ H s) (r : Vals vs us) (rz : Vals zs ws) (l1 : vs.length = n0) (l2 : zs.length = ks.length) (h : sp (gV vs zs) H Q (E σ)) : wpAny (model X.prog X.w) X.A (call (.ref f) us (ks.zip ws)) (EP X pins σ Q) X.xe s := by
  have r2 := hb.rel r rz
  refine wpAny_call (codeAny_mono (F.run X.A X.stack s H ⟨us, ks.zip ws⟩ (g us ws) (gV vs zs) Q (E σ) hr I.env0 (hb.to s us ws I.kIn (r.length.symm.trans l1) (rz.length.symm.trans l2)) r2 h) fun r s' hq => ?_)
  cases r with
  | error e => exact hx pins H s e s' I hq
  | ok fl =>
    cases fl with
    | ret u => exact I.after hq
    | next => exact False.elim hq
    | brk => exact False.elim hq
    | cont => exact False.elim hq
def tCallNS (m : Nat) (sp : Sp) (gV : List V → List V) (E : L2.St → XK) (tk : TA) : TE := fun σ H Q => tk σ H fun zs H2 => zs.length = m ∧ sp (gV zs) H2 Q (E σ)
theorem pe_callNS {CX : CXT} {E : L2.St → XK} {sp : Sp} {ks : List Str} {kws : List Keyword} {tk : TA} {g : List Value → List Value → List Value} {gV : List V → List V → List V} (F : FnOk X.prog X.w X.K X.mg X.base CX k f fd ps sp) (hr : Room k X.A) (hg : Gl X x) (hm : X.mg x = some (.ref f)) (hk : PySem.W.keepIn X.K (.ref f) = true) (hb : KBn X.K fd ps 0 ks g gV) (hx : ∀ σ, PassesAt CX X σ (E σ))
    (hkw : PK X kws tk) (hall : (backToKw pos (keywordEach kws X.env)).all (·.1.isSome) = true := by rfl) (hks : (backToKw pos (keywordEach kws X.env)).filterMap (·.1) = ks := by rfl)
    (hdb : (x == ("__debug__" : Str)) = false := by decide)
    (hpl : ((backTo pos (starEach [] X.env)).any (·.1) || (backToKw pos (keywordEach kws X.env)).any (·.1.isNone)) = false := by rfl) :
    PE X (.Call (.Name x p) [] kws pos) (tCallNS ks.length sp (gV []) E tk) := by
  refine ⟨fun pins s σ H Q I h => ?_⟩
  refine wpAny_Call_Name_kw (ld_glob I hg hm ?_ hdb)
  refine PySem.W.callWith_KW0 (h₀ := X.base) I.ok.mod.kin hk hall ?_ hpl
  refine thn (hkw.run pos pins s σ H _ I h) fun ws s2 ⟨zs, H2, I2, rz, l2, q2⟩ => ⟨I2.kIn, ?_⟩
  rw [hks]
  exact run_fnNS F hr hb (hx σ) I2 .nil rz rfl l2 q2
theorem xCallK {ks : List Str} {kws : List Keyword} {gg : List Value → List Value → List Value} (tk : L2N.Takes X W) (F : FnOk X.prog X.w X.K X.mg X.base (L2N.CX X.prog X.w) k f fd ps (spX X.K n m)) (hr : Room k X.A) (hm : X.mg x = some (.ref f)) (hk : PySem.W.keepIn X.K (.ref f) = true) (hb : KBn X.K fd ps 0 ks gg (fun vs zs => vs ++ zs)) (hn : ks.length = n)
    (hkw : PK X kws (tAr X.K ga)) (hg : Gl X x := by rfl) (hall : (backToKw pos (keywordEach kws X.env)).all (·.1.isSome) = true := by rfl) (hks : (backToKw pos (keywordEach kws X.env)).filterMap (·.1) = ks := by rfl)
    (hdb : (x == ("__debug__" : Str)) = false := by decide)
    (hpl : ((backTo pos (starEach [] X.env)).any (·.1) || (backToKw pos (keywordEach kws X.env)).any (·.1.isNone)) = false := by rfl) :
    PE X (.Call (.Name x p) [] kws pos) (tXc X.K W (xC ga n m)) := PE.imp (pe_callNS (E := WE W) F hr hg hm hk hb (fun σ => L2N.passAt tk σ) hkw hall hks hdb hpl) fun σ H Q ⟨M, ρ, fo, fv, r, R, l, e, kk⟩ => by
  unfold xC at e
  cases q : ga ρ with
  | none => rw [q] at e; cases e
  | some ds =>
    rw [q, Option.bind_some] at e
    split at e
    · rename_i hl
      refine ⟨M, ρ, fo, fv, ds, R, l, q, fun M1 H1 vs s1 R1 d1 => ?_⟩
      have hv : vs.length = n := by rw [d1.length]; exact hl
      refine ⟨by omega, M1, ρ ++ fo, σ ++ fv, ds, r, hv, R1, d1, e, ?_⟩
      cases r with
      | ok o => exact fun M2 H2 v s2 R2 => kk M2 H2 v (s1.trans s2) (R2.swap l)
      | ex y => exact fun M2 H2 cls d s2 R2 ex => kk M2 H2 cls d (s1.trans s2) R2 ex
    · cases e
end
end PD

namespace PD
open PySem PySem.Spec PyProof.Rows L2 HotX L2H

/-! ### an iterator ends while an exception is handled -/
section
variable {prog : Program} {w : World} {A : Around} {E : Value → Shared → Prop} {s : Shared}
theorem HotAt.keep {x1 : Addr} {h h' : Heap} (hot : HotAt A x1 h) (k : ∀ o, h.get? x1 = some o → h'.get? x1 = some o) : HotAt A x1 h' := by
  obtain ⟨hh, o, vs, e, d, c⟩ := hot
  exact ⟨hh, o, vs, k _ e, d, c⟩
/-- the end of an iterator: StopIteration is made and raised, chained to what is handled; all but the iterator stands -/
theorem stops_hot {α : Type} {x1 it : Addr} {s0 : Shared} {Q : α → Shared → Prop} {E' : Value → Shared → Prop} (hot : HotAt A x1 s.heap) (eb : Heap.ExtBut it s0.heap s.heap) (hit : it < s.heap.objs.size)
    (hE : ∀ e h', (∃ o, h'.get? e = some o ∧ o.cls = .type "StopIteration") → Heap.ExtBut it s0.heap h' → E' (.ref e) { s with heap := h' }) :
    wpAny (model prog w) A (newExc (.type "StopIteration") [] >>= fun e => (raiseNew e : Sem α)) Q E' s := by
  obtain ⟨hh, o1, vs1, h1, d1, c1⟩ := hot
  refine wpAny_bind ?_
  simp only [newExc, newTuple]
  refine wpAny_bind (wpAny_newObj_type ?_ (by size_fits))
  refine wpAny_bind (m := firstArgMember _ _) (wpAny_of_eq (a := Value.none) (by first | rfl | (simp only [firstArgMember]; rfl)) ?_)
  refine wpAny_newObj_type ?_ (by size_fits)
  refine raiseNew_hot ⟨hh, o1, vs1, Heap.get?_push_of_some _ (Heap.get?_push_of_some _ h1), d1, c1⟩ (Nat.ne_of_lt (Heap.lt_size (Heap.get?_push_of_some _ h1))) (Heap.get?_push_size _ rfl) rfl (by first | (simp; done) | (simp; omega) | (simp only [Array.size_append]; simp; omega)) ?_
  refine hE _ _ ⟨_, Heap.get?_update_self _ (Heap.get?_push_size _ rfl) rfl, rfl⟩ fun b o hb e => ?_
  have e := eb b o hb e
  rw [Heap.get?_update_other _ _ (Nat.ne_of_gt (Heap.lt_size (Heap.get?_push_of_some _ e)))]
  exact Heap.get?_push_of_some _ (Heap.get?_push_of_some _ e)
theorem ends_hot {α : Type} {x1 it : Addr} {o : Obj} {vs : Array Value} {k : Nat} {v : Value} {Q : α → Shared → Prop} {E' : Value → Shared → Prop} (hot : HotAt A.in1 x1 s.heap) (hne : x1 ≠ it) (ho : s.heap.get? it = some o) (hd : o.data = .fields vs)
    (hE : ∀ e h', (∃ o, h'.get? e = some o ∧ o.cls = .type "StopIteration") → Heap.ExtBut it s.heap h' → E' (.ref e) { s with heap := h' }) :
    wpAny (model prog w) A.in1 (newExc (.type "StopIteration") [] >>= fun e => (raiseNew e : Sem α)) Q E' { s with heap := s.heap.update it (Obj.mapFields (·.setIfInBounds k v)) } := by
  have sb : Heap.ExtBut it s.heap (s.heap.update it (Obj.mapFields (·.setIfInBounds k v))) := (Heap.SameBut.update ..).extBut
  refine stops_hot (s := { s with heap := s.heap.update it (Obj.mapFields (·.setIfInBounds k v)) }) (s0 := s) (it := it) (HotAt.keep hot fun o e => sb x1 o hne e) sb ?_ fun e h' hs eb => hE e h' hs eb
  exact Heap.lt_size (Heap.get?_update_self _ ho (Obj.isFreed_of_fields (Obj.data_mapFields hd _)))
theorem list_end_hot {it l x1 : Addr} {i : Nat} {items : Array Value} {Q : Option Value → Shared → Prop} (hot : HotAt A x1 s.heap) (hne : x1 ≠ it)
    (hit : s.heap.IsListIter it l i) (hl : s.heap.IsList l items) (hx : items[i]? = none)
    (hQ : ∀ h', Heap.ExtBut it s.heap h' → Q none { s with heap := h' }) : wpAny (model prog w) A (pyNext (.ref it)) Q E s := by
  obtain ⟨o, ho, hc, hd⟩ := id hit
  obtain ⟨ol, hol, _, nl, hdl⟩ := hl
  unfold pyNext
  refine wpAny_bind (wpAny_attempt (wpAny_callSpecial?_slot (name := Str.ofString "__next__") hit.typeIs slot_listiter_next (wpAny_call_entry slot_listiter_next hit.typeIs entry_listiter_next ?_ (args_listiter_next _))))
  refine wpAny_bind (m := field (.ref it) 0) (wpAny_field ho hd (x := .ref l) rfl ?_)
  show wpAny _ _ (if (Value.ref l == Value.none) = true then _ else _) _ _ s
  rw [if_neg (show ¬ ((Value.ref l == Value.none) = true) from Bool.false_ne_true)]
  refine wpAny_bind (m := field (.ref it) 1) (wpAny_field ho hd (x := .int i 0) rfl ?_)
  refine wpAny_bind (m := seqItems? (.ref l)) (wpAny_seqItems hol hdl ?_)
  simp only [Int.toNat_natCast, hx]
  refine wpAny_bind (wpAny_rule (wpAny_bind (wpAny_setField ho hd (by simp) ?_)))
  refine ends_hot hot hne ho hd fun e h' hs eb => ?_
  refine wpAny_bind (wpAny_isInstance (T := "StopIteration") (b := true) hs isSubtype_stop ?_)
  exact wpAny_pure (hQ _ eb)
theorem tuple_end_hot {it l x1 : Addr} {i : Nat} {items : Array Value} {Q : Option Value → Shared → Prop} (hot : HotAt A x1 s.heap) (hne : x1 ≠ it)
    (hit : s.heap.IsTupleIter it l i) (hl : s.heap.IsTuple l items) (hx : items[i]? = none)
    (hQ : ∀ h', Heap.ExtBut it s.heap h' → Q none { s with heap := h' }) : wpAny (model prog w) A (pyNext (.ref it)) Q E s := by
  obtain ⟨o, ho, hc, hd⟩ := id hit
  obtain ⟨ol, hol, _, nl, hdl⟩ := hl
  unfold pyNext
  refine wpAny_bind (wpAny_attempt (wpAny_callSpecial?_slot (name := Str.ofString "__next__") hit.typeIs F.slot_tuple_iterator_next (wpAny_call_entry F.slot_tuple_iterator_next hit.typeIs F.entry_tuple_iterator_next ?_ (F.args_tuple_iterator_next_1 _))))
  refine wpAny_bind (m := field (.ref it) 0) (wpAny_field ho hd (x := .ref l) rfl ?_)
  show wpAny _ _ (if (Value.ref l == Value.none) = true then _ else _) _ _ s
  rw [if_neg (show ¬ ((Value.ref l == Value.none) = true) from Bool.false_ne_true)]
  refine wpAny_bind (m := field (.ref it) 1) (wpAny_field ho hd (x := .int i 0) rfl ?_)
  refine wpAny_bind (m := seqItems? (.ref l)) (wpAny_seqItems hol hdl ?_)
  simp only [Int.toNat_natCast, hx]
  refine wpAny_bind (wpAny_rule (wpAny_bind (wpAny_setField ho hd (by simp) ?_)))
  refine ends_hot hot hne ho hd fun e h' hs eb => ?_
  refine wpAny_bind (wpAny_isInstance (T := "StopIteration") (b := true) hs isSubtype_stop ?_)
  exact wpAny_pure (hQ _ eb)
/-! ### the items of an unpacking -/
theorem unpackItems_tuple_hot {t x1 : Addr} {items : Array Value} {Q : List Value → Shared → Prop} (hot : HotAt A x1 s.heap) (ht : IsTup s.heap t items)
    (hQ : ∀ h', Heap.ExtBut s.heap.objs.size s.heap h' → Q items.toList { s with heap := h' }) : wpAny (model prog w) A (unpackItems (.ref t) items.size none) Q E s := by
  have hlt : t ≠ s.heap.objs.size := by obtain ⟨o, ho, _⟩ := ht; exact Nat.ne_of_lt (Heap.lt_size ho)
  have hxt : x1 ≠ s.heap.objs.size := by obtain ⟨_, o, _, ho, _⟩ := hot; exact Nat.ne_of_lt (Heap.lt_size ho)
  unfold unpackItems
  refine wpAny_bind ?_
  · unfold notIterableAtAll
    refine wpAny_bind (wpAny_specialOf ht.typeIs slot_tuple_iter.lookup ?_)
    refine wpAny_pure ?_
    simp only [Bool.false_eq_true, if_false]
    refine wpAny_bind (wpAny_holding (iter_tuple ht ?_))
    refine wpAny_bind (wpAny_holding (draw_tuple hlt items.size 0 _ _ ⟨_, Heap.get?_push_size _ rfl, rfl, rfl⟩ (ht.push _) (by omega) fun h₁ hit₁ hs₁ => ?_))
    have hall : List.take items.size (List.drop 0 items.toList) = items.toList := by
      rw [List.drop_zero]; exact List.take_of_length_le (by simp)
    rw [hall]
    rw [if_neg (by simp)]
    have ht₁ : IsTup h₁ t items := (ht.push _).extBut hs₁.extBut hlt
    have hot₁ : HotAt A x1 h₁ := HotAt.keep hot fun o e => hs₁.extBut _ _ hxt (Heap.get?_push_of_some _ e)
    refine wpAny_bind (wpAny_holding (tuple_end_hot hot₁ hxt hit₁ ht₁ (by simp) fun h₂ he₂ => ?_))
    simp only [Option.isSome_none, Bool.false_eq_true, if_false]
    refine wpAny_pure (hQ h₂ fun b o hb e => he₂ b o hb (hs₁.extBut b o hb (Heap.get?_push_of_some _ e)))
theorem unpackItems_list_hot {l x1 : Addr} {items : Array Value} {Q : List Value → Shared → Prop} (hot : HotAt A x1 s.heap) (hl : s.heap.IsList l items)
    (hQ : ∀ h', Heap.ExtBut s.heap.objs.size s.heap h' → Q items.toList { s with heap := h' }) : wpAny (model prog w) A (unpackItems (.ref l) items.size none) Q E s := by
  have hlt : l ≠ s.heap.objs.size := by obtain ⟨o, ho, _⟩ := hl; exact Nat.ne_of_lt (Heap.lt_size ho)
  have hxt : x1 ≠ s.heap.objs.size := by obtain ⟨_, o, _, ho, _⟩ := hot; exact Nat.ne_of_lt (Heap.lt_size ho)
  unfold unpackItems
  refine wpAny_bind ?_
  · unfold notIterableAtAll
    refine wpAny_bind (wpAny_specialOf hl.typeIs slot_list_iter.lookup ?_)
    refine wpAny_pure ?_
    simp only [Bool.false_eq_true, if_false]
    refine wpAny_bind (wpAny_holding (wpAny_pyIter_list hl ?_))
    refine wpAny_bind (wpAny_holding (PySem.W.kun_draw hlt items.size 0 _ _ ⟨_, Heap.get?_push_size _ rfl, rfl, rfl⟩ (hl.push _) (by omega) fun h₁ hit₁ hs₁ => ?_))
    have hall : List.take items.size (List.drop 0 items.toList) = items.toList := by
      rw [List.drop_zero]; exact List.take_of_length_le (by simp)
    rw [hall]
    rw [if_neg (by simp)]
    have hl₁ : h₁.IsList l items := (hl.push _).extBut hs₁.extBut hlt
    have hot₁ : HotAt A x1 h₁ := HotAt.keep hot fun o e => hs₁.extBut _ _ hxt (Heap.get?_push_of_some _ e)
    refine wpAny_bind (wpAny_holding (list_end_hot hot₁ hxt hit₁ hl₁ (by simp) fun h₂ he₂ => ?_))
    simp only [Option.isSome_none, Bool.false_eq_true, if_false]
    refine wpAny_pure (hQ h₂ fun b o hb e => he₂ b o hb (hs₁.extBut b o hb (Heap.get?_push_of_some _ e)))
/-- a list walked by a built-in -/
theorem walks_listH {x1 : Addr} (I ax : Addr) (hne : ax ≠ I) (hx : x1 ≠ I) (items : Array Value) :
    Walks prog w A I [I, ax, x1] [I] items.size (fun i v => items[i]? = some v) (fun i h => h.IsListIter I ax i ∧ h.IsList ax items ∧ HotAt A x1 h) where
  sub := fun b hb => by simp at hb; simp [hb]
  frame := fun _ _ _ st hk => ⟨st.1.at fun o e => hk I (by simp) o e, st.2.1.at fun o e => hk ax (by simp) o e, HotAt.keep st.2.2 fun o e => hk x1 (by simp) o e⟩
  item := fun i s Q E hi st hQ => by
    refine wpAny_pyNext_list_item st.1 st.2.1 (x := items[i]) (by simp [hi]) fun h' hit' hs' => ?_
    exact hQ _ h' s.toks (by simp [hi]) ⟨hit', st.2.1.extBut hs'.extBut hne, HotAt.keep st.2.2 fun o e => hs'.extBut _ _ hx e⟩ fun b o hb e => hs'.extBut b o (fun h => hb (by simp [h])) e
  done := fun s Q E st hQ => list_end_hot st.2.2 hx st.1 st.2.1 (by simp) fun h' he' => hQ h' s.toks fun b o hb e => he' b o (fun h => hb (by simp [h])) e
  self := fun _ _ _ _ st hQ => wpAny_pyIter_listiter st.1 hQ
end

/-! ### the rules: turns, iterators, targets -/
section
variable {X : Cx} {pins : List (Addr × Obj)} {σ : L2.St} {H : Hp} {s : Shared}
/-- the pin that is handled: it is none of the iterator's objects -/
theorem hotAt_fp {fp : List Addr} (hc : HotC X) (I : Inv X pins σ H s) (hf : ∀ b ∈ fp, FpOk X pins H b) : ∃ x1, HotAt X.A x1 s.heap ∧ ∀ b ∈ fp, x1 ≠ b := by
  obtain ⟨p, ⟨hh, v1, e1, c1⟩, hp⟩ := hc
  exact ⟨p.1, ⟨hh, p.2, v1, (I.pin p (List.mem_append_left _ hp)).1, e1, c1⟩, fun b hb => (hf b hb).2.2.2.2.2 p (List.mem_append_left _ hp)⟩
theorem turn_listH {P : Program} {w : World} {K : PySem.W.Frag} {tg : Expr} (a it : Addr) : TurnH P w K tg (Itl K a) [it] it (fun i h => h.IsListIter it a i) where
  mem := by simp
  obj := (turn_list (P := P) (w := w) (K := K) (tg := tg) a it).obj
  keep := (turn_list (P := P) (w := w) (K := K) (tg := tg) a it).keep
  item := by
    intro X hP hw hK hc i pins s σ H E I hf st hg
    subst hP hw hK
    obtain ⟨xs, x, hq, hx⟩ := hg
    obtain ⟨its, rv, p, hz⟩ := I.list hq
    obtain ⟨u, hu, ru⟩ := rv.get hx
    obtain ⟨f0, f1, f2, f3, f4, f5⟩ := hf it (by simp)
    refine wpAny_pyNext_list_item st p.isList (x := u) (by simpa using hu) fun h' st' sb => ?_
    have I1 : Inv X pins σ H { s with heap := h' } := I.turned (t' := s.toks) (fun b o hb e => (sb.2 b hb).trans e) f0 f1 f3 f4 f5
    obtain ⟨o, e, c, d⟩ := id st'
    exact ⟨u, rfl, go_of (s := { s with heap := h' }) e c d (by decide) ⟨x, H, I1, ru, ⟨rfl, fun ys hy => by rw [I.list_inj hy hq]; exact hx⟩, st', fun b hb => (hf b hb).1⟩⟩
  done := by
    intro X hP hw hK hc i pins s σ H E I hf st hg
    subst hP hw hK
    obtain ⟨xs, hq, hx⟩ := hg
    obtain ⟨its, rv, p, hz⟩ := I.list hq
    obtain ⟨x1, hot, hne⟩ := hotAt_fp hc I hf
    obtain ⟨f0, f1, f2, f3, f4, f5⟩ := hf it (by simp)
    have hl := rv.length
    exact list_end_hot hot (hne it (by simp)) st p.isList (by simp; omega) fun h' eb => ⟨rfl, I.turned (t' := s.toks) (fun b o hb e => eb b o hb e) f0 f1 f3 f4 f5⟩
  self := fun _ _ _ _ _ st h => wpAny_pyIter_listiter st h
theorem turn_tupleH {P : Program} {w : World} {K : PySem.W.Frag} {tg : Expr} (a it : Addr) : TurnH P w K tg (Itt K a) [it] it (fun i h => h.IsTupleIter it a i) where
  mem := by simp
  obj := (turn_tuple (P := P) (w := w) (K := K) (tg := tg) a it).obj
  keep := (turn_tuple (P := P) (w := w) (K := K) (tg := tg) a it).keep
  item := by
    intro X hP hw hK hc i pins s σ H E I hf st hg
    subst hP hw hK
    obtain ⟨xs, x, hq, hx⟩ := hg
    obtain ⟨its, rv, p, hz⟩ := I.tuple hq
    obtain ⟨u, hu, ru⟩ := rv.get hx
    obtain ⟨f0, f1, f2, f3, f4, f5⟩ := hf it (by simp)
    refine wpAny_pyNext_tuple_item st (show s.heap.IsTuple a its.toArray from p) (x := u) (by simpa using hu) fun h' st' sb => ?_
    have I1 : Inv X pins σ H { s with heap := h' } := I.turned (t' := s.toks) (fun b o hb e => (sb.2 b hb).trans e) f0 f1 f3 f4 f5
    obtain ⟨o, e, c, d⟩ := id st'
    exact ⟨u, rfl, go_of (s := { s with heap := h' }) e c d (by decide) ⟨x, H, I1, ru, ⟨rfl, fun ys hy => by rw [I.tuple_inj hy hq]; exact hx⟩, st', fun b hb => (hf b hb).1⟩⟩
  done := by
    intro X hP hw hK hc i pins s σ H E I hf st hg
    subst hP hw hK
    obtain ⟨xs, hq, hx⟩ := hg
    obtain ⟨its, rv, p, hz⟩ := I.tuple hq
    obtain ⟨x1, hot, hne⟩ := hotAt_fp hc I hf
    obtain ⟨f0, f1, f2, f3, f4, f5⟩ := hf it (by simp)
    have hl := rv.length
    exact tuple_end_hot hot (hne it (by simp)) st (show s.heap.IsTuple a its.toArray from p) (by simp; omega) fun h' eb => ⟨rfl, I.turned (t' := s.toks) (fun b o hb e => eb b o hb e) f0 f1 f3 f4 f5⟩
  self := fun _ _ _ _ _ st h => wpAny_pyIter_tupleiter st h
theorem pi_oneH {tg : Expr} {R : It → Hp → Prop} {J : It} {tn : Nat → Heap → Prop} {tk : Nat} (I : Inv X pins σ H s) (o : Obj)
    (T : TurnH X.prog X.w X.K tg J [s.heap.objs.size] s.heap.objs.size tn) (st : tn 0 (s.heap.push o)) (q : R J H) : PIEH X pins σ tg R (.ref s.heap.objs.size) { s with heap := s.heap.push o, toks := tk } := by
  refine ⟨s.heap.objs.size, [s.heap.objs.size], tn, J, H, rfl, I.kept fun b ob e => Heap.get?_push_of_some _ e, T, st, fun b hb => ?_, q⟩
  have e : b = s.heap.objs.size := by simpa using hb
  subst e
  exact I.fpOk (Nat.le_refl _) (I.hok.fresh (Nat.le_refl _))
theorem pi_listH {tg l : Expr} {tl : TE} (hl : PE X l tl) : PIH X tg l (iList X.K tl) := by
  refine ⟨fun pins s σ H R I h => ?_⟩
  refine thn (hl.run pins s σ H _ I h) fun v s1 ⟨x, H1, I1, r1, q1⟩ => ?_
  obtain ⟨a, e, ⟨xs, hq⟩, q⟩ := q1
  subst e
  cases r1
  obtain ⟨its, rv, p, hz⟩ := I1.list hq
  exact wpAny_pyIter_list p.isList (pi_oneH (tk := s1.toks) I1 _ (turn_listH a _) ⟨_, Heap.get?_push_size _ rfl, rfl, rfl⟩ q)
theorem pi_tupH {tg l : Expr} {tl : TE} (hl : PE X l tl) : PIH X tg l (iTup X.K tl) := by
  refine ⟨fun pins s σ H R I h => ?_⟩
  refine thn (hl.run pins s σ H _ I h) fun v s1 ⟨x, H1, I1, r1, q1⟩ => ?_
  obtain ⟨a, e, ⟨xs, hq⟩, q⟩ := q1
  subst e
  cases r1
  obtain ⟨its, rv, p, hz⟩ := I1.tuple hq
  exact wpAny_pyIter_tuple (show s1.heap.IsTuple a its.toArray from p) (pi_oneH (tk := s1.toks) I1 _ (turn_tupleH a _) ⟨_, Heap.get?_push_size _ rfl, rfl, rfl⟩ q)
theorem PIH.imp {tg e : Expr} {t t' : TI} (h : PIH X tg e t) (i : ∀ σ H R, t' σ H R → t σ H R) : PIH X tg e t' := ⟨fun p s σ H R I w => h.run p s σ H R I (i σ H R w)⟩
theorem PIH.or {tg e : Expr} {t t' : TI} (h : PIH X tg e t) (h' : PIH X tg e t') : PIH X tg e (fun σ H R => t σ H R ∨ t' σ H R) := ⟨fun p s σ H R I w => w.elim (h.run p s σ H R I) (h'.run p s σ H R I)⟩
theorem pg_tupH {es : List Expr} {k : Nat} {t : TGs} {n : Nat} {pos : Pos} (hc : HotC X) (h : PGs X es t)
    (hn : (assignEach es X.env).length = n := by rfl) (hst : (assignEach es X.env).findIdx? (·.1) = none := by rfl) : PG X (.Tuple es k pos) (gTup X.K n t) := by
  refine ⟨fun pins s σ H v u Q I r hw => ?_⟩
  obtain ⟨a, xs, e1, hq, hl, hw⟩ := hw
  subst e1
  cases r
  obtain ⟨its, rv, ht, hz⟩ := I.tuple hq
  obtain ⟨x1, hot⟩ := hc.at I
  rw [PyProof.Rows.assign_Tuple]
  refine wpAny_bind (wpAny_standAt ?_)
  unfold unpack
  have hsz : (assignEach es X.env).length = its.toArray.size := by simp [hn, ← hl, rv.length]
  rw [hsz, hst]
  refine wpAny_bind (wpAny_holding (unpackItems_tuple_hot hot ht fun h' hx => ?_))
  have I1 : Inv X pins σ H { s with heap := h' } := I.kept (t' := s.toks) fun b o e => hx b o (Nat.ne_of_lt (Heap.lt_size e)) e
  exact h.run pins _ σ H xs _ Q I1 (by simpa using rv) hw
theorem pg_lstH {es : List Expr} {k : Nat} {t : TGs} {n : Nat} {pos : Pos} (hc : HotC X) (h : PGs X es t)
    (hn : (assignEach es X.env).length = n := by rfl) (hst : (assignEach es X.env).findIdx? (·.1) = none := by rfl) : PG X (.Tuple es k pos) (gLst X.K n t) := by
  refine ⟨fun pins s σ H v u Q I r hw => ?_⟩
  obtain ⟨a, xs, e1, hq, hl, hw⟩ := hw
  subst e1
  cases r
  obtain ⟨its, rv, pl, hz⟩ := I.list hq
  obtain ⟨x1, hot⟩ := hc.at I
  have hsz : (assignEach es X.env).length = its.toArray.size := by simp [hn, ← hl, rv.length]
  rw [PyProof.Rows.assign_Tuple]
  refine wpAny_bind (wpAny_standAt ?_)
  unfold unpack
  rw [hsz, hst]
  refine wpAny_bind (wpAny_holding (unpackItems_list_hot hot pl.isList fun h' hx => ?_))
  have I1 : Inv X pins σ H { s with heap := h' } := I.kept (t' := s.toks) fun b o e => hx b o (Nat.ne_of_lt (Heap.lt_size e)) e
  exact h.run pins _ σ H xs _ Q I1 (by simpa using rv) hw
/-! ### sum, any, all -/
theorem cr_sumH (hc : HotC X) : CallR X (.builtin "sum") (rSum X.K) := by
  intro pins s σ H vs us Q I r h
  obtain ⟨a, ns, rfl, hs, q⟩ := h
  obtain ⟨its, rv, hl, _⟩ := I.list hs
  obtain ⟨x1, hot⟩ := hc.at I
  rw [Vals.ref1 r]
  have hi := rv.ints
  obtain ⟨xs, e⟩ := hi.allInts.items
  have hn : numsOf (intItems xs).toList = ns := by rw [← e]; exact hi.numsOf
  rw [nums_intItems] at hn
  have hL := hl.isList
  rw [e] at hL
  have hxl : x1 < s.heap.objs.size := by obtain ⟨_, o, _, ho, _⟩ := hot; exact Heap.lt_size ho
  refine call_sum_walkG (iter_intList hL fun s₂ e2 st hfp hlI => ?_)
  subst e2
  have hot2 : HotAt X.A.in1 x1 (s.heap.push { cls := .type "list_iterator", data := .fields #[.ref a, .int 0 0] }) := HotAt.keep (A := X.A.in1) hot fun o e => Heap.get?_push_of_some _ e
  refine ⟨_, _, _, _, _, _, numAt xs, rfl, walks_listH (A := X.A.in1) (x1 := x1) _ a hlI (Nat.ne_of_lt hxl) (intItems xs), ⟨st.1, st.2, hot2⟩, fun b hb => ?_, (fun _ _ => intItems_at), fun h' tk t' hk => ?_⟩
  · rcases List.mem_cons.mp hb with rfl | hb
    · exact hfp _ (by simp)
    · rcases List.mem_cons.mp hb with rfl | hb
      · exact hfp _ (by simp)
      · have : b = x1 := by simpa using hb
        subst this
        show b < (s.heap.push _).objs.size
        rw [Heap.size_push]
        exact Nat.lt_succ_of_lt hxl
  · have ep : preSum (numAt xs) (intItems xs).size = ns.sum := by
      rw [preSum_eq, ← hn, List.take_of_length_le (by simp [intItems])]
    rw [ep]
    exact ⟨.int _, H, I.kept (old_kept hk), ⟨_, rfl⟩, q⟩
theorem cr_anyH (hc : HotC X) : CallR X (.builtin "any") (rAny X.K) := by
  intro pins s σ H vs us Q I r h
  obtain ⟨a, bs, rfl, hs, q⟩ := h
  obtain ⟨its, rv, hl, _⟩ := I.list hs
  obtain ⟨x1, hot⟩ := hc.at I
  rw [Vals.ref1 r]
  have hb := rv.bls
  have hxl : x1 < s.heap.objs.size := by obtain ⟨_, o, _, ho, _⟩ := hot; exact Heap.lt_size ho
  refine call_any_walk (iter_any hl.isList fun s₂ e2 st hne => ?_)
  subst e2
  have hot2 : HotAt X.A.in1 x1 (s.heap.push { cls := .type "list_iterator", data := .fields #[.ref a, .int 0 0] }) := HotAt.keep (A := X.A.in1) hot fun o e => Heap.get?_push_of_some _ e
  refine ⟨_, _, _, _, _, _, _, rfl, walks_listH (A := X.A.in1) (x1 := x1) _ a hne (Nat.ne_of_lt hxl) its.toArray, ⟨st.1, st.2, hot2⟩, truth_bools hb, fun h' tk hk => ?_⟩
  refine ⟨.bl _, H, I.kept fun b o eo => hk b o (fun hmem => ?_) (Heap.get?_push_of_some _ eo), ?_, q⟩
  · rcases List.mem_cons.mp hmem with e1 | hmem
    · exact absurd (e1 ▸ Heap.lt_size eo) (Nat.lt_irrefl _)
    · cases hmem
  · show Value.bool _ = Value.bool _
    rw [← L2.any_range, hb, List.size_toArray, List.length_map]
theorem cr_allH (hc : HotC X) : CallR X (.builtin "all") (rAll X.K) := by
  intro pins s σ H vs us Q I r h
  obtain ⟨a, bs, rfl, hs, q⟩ := h
  obtain ⟨its, rv, hl, _⟩ := I.list hs
  obtain ⟨x1, hot⟩ := hc.at I
  rw [Vals.ref1 r]
  have hb := rv.bls
  have hxl : x1 < s.heap.objs.size := by obtain ⟨_, o, _, ho, _⟩ := hot; exact Heap.lt_size ho
  refine call_all_walk (iter_any hl.isList fun s₂ e2 st hne => ?_)
  subst e2
  have hot2 : HotAt X.A.in1 x1 (s.heap.push { cls := .type "list_iterator", data := .fields #[.ref a, .int 0 0] }) := HotAt.keep (A := X.A.in1) hot fun o e => Heap.get?_push_of_some _ e
  refine ⟨_, _, _, _, _, _, _, rfl, walks_listH (A := X.A.in1) (x1 := x1) _ a hne (Nat.ne_of_lt hxl) its.toArray, ⟨st.1, st.2, hot2⟩, truth_bools hb, fun h' tk hk => ?_⟩
  refine ⟨.bl _, H, I.kept fun b o eo => hk b o (fun hmem => ?_) (Heap.get?_push_of_some _ eo), ?_, q⟩
  · rcases List.mem_cons.mp hmem with e1 | hmem
    · exact absurd (e1 ▸ Heap.lt_size eo) (Nat.lt_irrefl _)
    · cases hmem
  · show Value.bool _ = Value.bool _
    rw [← L2.all_range, hb, List.size_toArray, List.length_map]
end
end PD

namespace PD
open PySem PySem.Spec PyProof.Rows L2 HotX L2H

/-! ### a comprehension's block while an exception is handled: the handled one stays pinned -/
abbrev blkH (X : Cx) (s : Shared) (H : Hp) (scope : Scope) (cenv : Env) (fp : List Addr) (p : Addr × Obj) : Cx := { X.blk s H scope cenv fp with pn := [p] }
theorem blkH_hot {X : Cx} {s : Shared} {H : Hp} {scope : Scope} {cenv : Env} {fp : List Addr} {p : Addr × Obj} (h : Hot1 X.A p) : HotC (blkH X s H scope cenv fp p) := ⟨p, h, List.mem_cons_self⟩
/-- what is told of a block's parts, in whatever block -/
abbrev Blks (X : Cx) (scope : Scope) (T : Cx → Prop) : Prop := ∀ (s : Shared) (H : Hp) (C : Addr) (cl : List (Str × Addr)) (fp : List Addr) (p : Addr × Obj), HotC (blkH X s H scope (compEnvC scope cl C X.env) fp p) → T (blkH X s H scope (compEnvC scope cl C X.env) fp p)
section
variable {X : Cx} {pins : List (Addr × Obj)} {σ : L2.St} {H : Hp} {s : Shared}
theorem block_startH {scope : Scope} {own : List (Str × Nat)} {fp : List Addr} {p : Addr × Obj} (I : Inv X pins σ H s) (hp : p ∈ X.pn) (ok : BlkOk X.N X.env.scope scope own) (hN : X.N.Nodup) (hfp : ∀ b ∈ fp, FpOk X pins H b ∧ b < s.heap.objs.size) :
    Inv (blkH X s H scope (compEnvC scope (cellsFrom (s.heap.objs.size + 1) scope.names (cloFrom X.env.cells scope.names [])) s.heap.objs.size X.env) fp p) [] (L2.wipe σ (own.map (·.2))) H { s with heap := pushCells (s.heap.push { cls := .type "dict", data := .dict #[] }) scope.names } := by
  have B := block_start I ok hN hfp
  have P := I.pin p (List.mem_append_left _ hp)
  obtain ⟨a1, a2, a3, a4, a5, a6, a7, a8, a9, a10, a11⟩ := B
  refine ⟨⟨a1.mod, a1.kind, a1.glob, a1.blt, a1.above, a1.inj, a1.has, a1.cab, a1.hd, a1.frames, a1.stk, a1.exf, a1.bs, a1.bsz, a1.noex, a1.exfs, a1.funs, a1.frf⟩, a2, a3, a4, a5, a6, a7, a8, fun q hq => ?_, a10, a11⟩
  have eq : q = p := by simpa using (show q ∈ [p] ++ ([] : List (Addr × Obj)) from hq)
  rw [eq]
  refine ⟨pushCells_keeps _ _ _ _ (Heap.get?_push_of_some _ P.1), P.2.1, ?_, fun z => ?_, P.2.2.2.2⟩
  · show p.1 ≠ s.heap.objs.size
    exact Nat.ne_of_lt (Heap.lt_size P.1)
  · rcases List.mem_cons.mp (I.stkSub p.1 z) with z | z
    · exact P.2.2.1 z
    · exact P.2.2.2.1 z
/-- what holds ahead of each turn of the block's loop -/
def LpI (Y : Cx) (σ0 : L2.St) (fp : List Addr) (tn : Nat → Heap → Prop) (W : Nat → Nat → Hp → Prop) (n : Nat) (s : Shared) : Prop := ∃ i H, Inv Y [] σ0 H s ∧ tn i s.heap ∧ (∀ b ∈ fp, H b = none) ∧ W i n H
variable {elt tg iter : Expr} {ifs : List Expr} {scope : Scope} {own : List (Str × Nat)} {wi : TI} {g : TG} {tt : TT} {te : TE} {p : Addr × Obj} {fp : List Addr} {it D : Addr} {J : It} {tn : Nat → Heap → Prop} {W : Nat → Nat → Hp → Prop} {Q : VK} {vs : List Nat} {s0 : Shared} {H0 : Hp} {ce : Env}
theorem blkH_stat {σ' : L2.St} {H' : Hp} {s' : Shared} (I : Inv (blkH X s0 H0 scope ce fp p) [] σ' H' s') (hp : ∀ b ∈ fp, p.1 ≠ b) (hn : ∀ b ∈ fp, H' b = none) : ∀ b ∈ fp, FpOk (blkH X s0 H0 scope ce fp p) [] H' b := fun b hb =>
  ⟨hn b hb, (I.ok.exf b hb).1, I.ok.exfs b hb, .inl hb, fun x c e => (I.ok.exf b hb).2 x c e, fun q hq => by
    have eq : q = p := by simpa using (show q ∈ [p] ++ ([] : List (Addr × Obj)) from hq)
    rw [eq]; exact hp b hb⟩
/-- the loop, from its start to its end -/
theorem blkH_loop {pos : Pos} {R : Result → Shared → Prop} {s4 : Shared} {m0 : Nat} (hc : HotC (blkH X s0 H0 scope ce fp p)) (hp : ∀ b ∈ fp, p.1 ≠ b) (T : TurnH X.prog X.w X.K tg J fp it tn)
    (pg : PG (blkH X s0 H0 scope ce fp p) tg g) (pt : PTs (blkH X s0 H0 scope ce fp p) ifs tt) (pe : PE (blkH X s0 H0 scope ce fp p) elt te)
    (turn : ∀ i m H, W i m H → (J.stop i H ∧ Q (.ref D) H) ∨ (J.go i H ∧ ∃ Nx : Hp → Prop, (∀ H', Nx H' → ∃ m', m' < m ∧ W (i + 1) m' H') ∧ ∀ x H', J.yld i H x H' → g x (L2.wipe σ vs) H' fun σ2 H2 => L2.wipe σ2 vs = L2.wipe σ vs ∧ tt σ2 H2 fun b H3 =>
      if b = true then te σ2 H3 fun y H4 => ∃ acc, H4 D = some (.lst acc) ∧ acc.length < sizeLine ∧ Nx (upd H4 D (.lst (acc ++ [y]))) else Nx H3))
    (st : LpI (blkH X s0 H0 scope ce fp p) (L2.wipe σ vs) fp tn W m0 s4)
    (fin : ∀ s' H', Inv (blkH X s0 H0 scope ce fp p) [] (L2.wipe σ vs) H' s' → (∀ b ∈ fp, H' b = none) → Q (.ref D) H' → R (.ok .next) s') :
    codeAny (model X.prog X.w) X.A (.compLoop (.ListComp elt [⟨tg, iter, ifs, 0⟩] scope pos) 0 (.ref it) (.ref D) ce) R s4 := by
  refine compLoop_any (LpI (blkH X s0 H0 scope ce fp p) (L2.wipe σ vs) fp tn W) (fun n s5 ⟨i, H5, I5, st5, n5, w5⟩ => ?_) m0 st
  rcases turn i n H5 w5 with ⟨stop, qq⟩ | ⟨go, Nx, hNx, step⟩
  · refine thnF (T.done (blkH X s0 H0 scope ce fp p) rfl rfl rfl hc i [] s5 _ H5 (fun _ _ => False) I5 (blkH_stat I5 hp n5) st5 stop) fun r s6 ⟨hr, I6⟩ => ?_
    subst hr
    exact fin s6 H5 I6 n5 qq
  · refine thnF (T.item (blkH X s0 H0 scope ce fp p) rfl rfl rfl hc i [] s5 _ H5 (fun _ _ => False) I5 (blkH_stat I5 hp n5) st5 go) fun r s6 ⟨u, hr, h6⟩ => ?_
    subst hr
    refine thnF h6 fun _ s7 ⟨x, H7, I7, r7, y7, st7, n7⟩ => ?_
    have I7' := I7.pinned (blkH_stat I7 hp n7) (T.obj _ _ st7)
    refine thnF (pg.run _ s7 _ H7 x u _ I7' r7 (step x H7 y7)) fun _ s8 ⟨σ8, H8, I8, hw8, q8⟩ => ?_
    refine thnF (pt.run _ s8 σ8 H8 _ I8 q8) fun b s9 ⟨H9, I9, q9⟩ => ?_
    have again : ∀ {s' : Shared} {H' : Hp}, Inv (blkH X s0 H0 scope ce fp p) ([] ++ pinsAt fp s7.heap) σ8 H' s' → Nx H' → ∃ m, m < n ∧ LpI (blkH X s0 H0 scope ce fp p) (L2.wipe σ vs) fp tn W m s' := fun {s' H'} I' nx => by
      obtain ⟨m', hm, w'⟩ := hNx H' nx
      have keep : ∀ b ∈ fp, ∀ o, s7.heap.get? b = some o → s'.heap.get? b = some o ∧ H' b = none := fun b hb o e => by
        have z := I'.pin (b, o) (List.mem_append_right _ (List.mem_append_right _ (mem_pinsAt hb e)))
        exact ⟨z.1, z.2.1⟩
      refine ⟨m', hm, i + 1, H', (I'.unpinned (pins := [])).weak (by rw [← hw8, wipe_length]) (fun j v e => ?_), T.keep _ _ _ st7 fun b hb o e => (keep b hb o e).1, fun b hb => ?_, w'⟩
      · rw [← hw8] at e
        exact (wipe_some e).1
      · obtain ⟨o, e, _⟩ := T.obj _ _ st7 b hb
        exact (keep b hb o e).2
    cases b with
    | false =>
      simp only [Bool.false_eq_true, if_false] at q9 ⊢
      exact again I9 q9
    | true =>
      simp only [if_true] at q9 ⊢
      refine thnF (pe.run _ s9 σ8 H9 _ I9 q9) fun z s10 ⟨yv, H10, I10, r10, acc, hD10, hz10, nx⟩ => ?_
      exact app_ok (X := blkH X s0 H0 scope ce fp p) I10 hD10 hz10 r10 fun s11 I11 => again I11 nx
theorem lc_coreH {pos pos' : Pos} {use : Option (Value → Sem Unit)} {Qf : Value → Shared → Prop}
    (hc : HotC X) (hN : X.N.Nodup) (I : Inv X pins σ H s) (hi : PIH X tg iter wi) (ok : BlkOk X.N X.env.scope scope own)
    (hg : Blks X scope fun Y => PG Y tg g) (ht : Blks X scope fun Y => PTs Y ifs tt) (he : Blks X scope fun Y => PE Y elt te) (hs : ∀ x, foldedSetIterable iter X.env x = pure x)
    (h : tLc wi g tt te (own.map (·.2)) σ H Q)
    (hRR : ∀ D C s' m H', Inv X pins σ H' s' → Q (.ref D) H' → s'.heap.Ns C m → FpOk X pins H' C → compPost (model X.prog X.w) X.A X.xe use Qf (.ref D) C (.ok .next) s') :
    wpAny (model X.prog X.w) X.A (comprehension (.ListComp elt [⟨tg, iter, ifs, 0⟩] scope pos) scope X.env pos' (newList []) false (eval iter X.env) use) Qf X.xe s := by
  obtain ⟨p, hot, hp⟩ := hc
  have hfree : ∀ y ∈ scope.names, y.2 = .free → ∃ c, X.env.cells.lookup y.1 = some c := fun y hy e => (ok.free y hy e).elim (fun k => I.ok.has _ (.inl k)) fun k => I.ok.has _ (.inr k)
  refine wpAny_comprehension_free (use := use) rfl hs (closure_ok hfree) ok.kind (fun y hy e => by rw [ok.uniq y hy, e])
    (thn (hi.run pins s σ H _ I h) fun xv s1 hx => thn hx fun itv s2 h2 => ?_)
  obtain ⟨it, fp, tn, J, H2, e, I2, T, st2, f2, q⟩ := h2
  subst e
  refine wpAny_newObj_type (newEnv_comp ?_) (by show 0 ≤ sizeLine; decide)
  have hDn : H2 s2.heap.objs.size = none := I2.hok.fresh (Nat.le_refl _)
  obtain ⟨W, ⟨m0, w0⟩, turn⟩ := q s2.heap.objs.size hDn
  have up2 : ∀ b o, s2.heap.get? b = some o → (s2.heap.push { cls := .type "list", data := .seq ([] : List Value).toArray }).get? b = some o := fun b o e => Heap.get?_push_of_some _ e
  have I3 : Inv X pins σ (upd H2 s2.heap.objs.size (.lst [])) { s2 with heap := s2.heap.push { cls := .type "list", data := .seq ([] : List Value).toArray } } :=
    I2.laid (t' := s2.toks) up2 (Nat.le_refl _) ⟨Nat.zero_le _, [], 0, .nil, Heap.get?_push_size _ rfl⟩
  have lt2 : ∀ b ∈ fp, b < s2.heap.objs.size := fun b hb => by
    obtain ⟨o, e, _⟩ := T.obj _ _ st2 b hb
    exact Heap.lt_size e
  have f3 : ∀ b ∈ fp, FpOk X pins (upd H2 s2.heap.objs.size (.lst [])) b ∧ b < (s2.heap.push { cls := .type "list", data := .seq ([] : List Value).toArray }).objs.size := fun b hb => by
    refine ⟨⟨by rw [upd_ne (Nat.ne_of_lt (lt2 b hb))]; exact (f2 b hb).1, (f2 b hb).2⟩, ?_⟩
    rw [Heap.size_push]; exact Nat.lt_succ_of_lt (lt2 b hb)
  have I4 := block_startH I3 hp ok hN f3
  have hpf : ∀ b ∈ fp, p.1 ≠ b := fun b hb => (f2 b hb).2.2.2.2.2 p (List.mem_append_left _ hp)
  generalize hs3 : ({ s2 with heap := s2.heap.push { cls := .type "list", data := .seq ([] : List Value).toArray } } : Shared) = s3 at I3 I4
  have e3 : s2.heap.push { cls := .type "list", data := .seq ([] : List Value).toArray } = s3.heap := by rw [← hs3]
  rw [e3] at f3
  show codeAny _ _ (.compStart (.ListComp elt [⟨tg, iter, ifs, 0⟩] scope pos) 0 (.ref it) (.ref s2.heap.objs.size) (compEnvC scope (cellsFrom (s3.heap.objs.size + 1) scope.names (cloFrom X.env.cells scope.names [])) s3.heap.objs.size X.env)) (compPost (model X.prog X.w) X.A X.xe use Qf (.ref s2.heap.objs.size) s3.heap.objs.size) { s3 with heap := pushCells (s3.heap.push { cls := .type "dict", data := .dict #[] }) scope.names }
  have hh := blkH_hot (X := X) (s := s3) (H := upd H2 s2.heap.objs.size (.lst [])) (scope := scope) (fp := fp) (cenv := compEnvC scope (cellsFrom (s3.heap.objs.size + 1) scope.names (cloFrom X.env.cells scope.names [])) s3.heap.objs.size X.env) hot
  have st4 : tn 0 (pushCells (s3.heap.push { cls := .type "dict", data := .dict #[] }) scope.names) := T.keep _ _ _ st2 fun b _ o e => pushCells_keeps _ _ _ _ (Heap.get?_push_of_some _ (by rw [← e3]; exact up2 b o e))
  have loop := fun R fin => blkH_loop (R := R) (pos := pos) (iter := iter) hh hpf T (hg _ _ _ _ _ _ hh) (ht _ _ _ _ _ _ hh) (he _ _ _ _ _ _ hh) turn ⟨0, _, I4, st4, fun b hb => (f3 b hb).1.1, w0⟩ fin
  refine codeAny_compStart_list ?_ (T.self X.A 0 _ _ _ st4 ?_)
  all_goals
    refine loop _ fun s6 H5 I6 n5 qq => ?_
    have I7 : Inv X pins σ H5 s6 := I3.call' (ch := fp) I6.os I6.base I6.hok I6.bare fun b hb => ⟨(f3 b hb).1.2.2.2.1, (f3 b hb).1.2.1, (f3 b hb).1.2.2.2.2.1, (f3 b hb).1.2.2.2.2.2⟩
    obtain ⟨m, hn, _⟩ := I6.loc
    exact hRR _ s3.heap.objs.size s6 m H5 I7 qq hn (I3.fpOk (Nat.le_refl _) I6.free)
end
section
variable {X : Cx} {elt tg iter : Expr} {ifs : List Expr} {scope : Scope} {own : List (Str × Nat)} {wi : TI} {g : TG} {tt : TT} {te : TE} {pos spos py : Pos}
theorem pe_lcH (hc : HotC X) (hN : X.N.Nodup) (hi : PIH X tg iter wi) (ok : BlkOk X.N X.env.scope scope own)
    (hg : Blks X scope fun Y => PG Y tg g) (ht : Blks X scope fun Y => PTs Y ifs tt) (he : Blks X scope fun Y => PE Y elt te) (hs : ∀ x, foldedSetIterable iter X.env x = pure x := by intro _; rfl) :
    PE X (.ListComp elt [⟨tg, iter, ifs, 0⟩] scope pos) (tLc wi g tt te (own.map (·.2))) := by
  refine ⟨fun pins s σ H Q I h => ?_⟩
  rw [eval_ListComp]
  refine lc_coreH hc hN I hi ok hg ht he hs h fun D C s' m H' I' q hn ⟨f0, f1, f2, f3, f4, f5⟩ => ⟨m, hn, fun h'' sb => ?_⟩
  exact ⟨.ref D, H', I'.turned (t' := s'.toks) (fun b o hb e => (sb.2 b hb).trans e) f0 f1 f3 f4 f5, rfl, q⟩
theorem ps_setLcH {i : Nat} {y : Str} (hc : HotC X) (hN : X.N.Nodup) (hy : X.N[i]? = some y) (hyl : X.env.scope.names.lookup y = some .local)
    (hsw : swapsWith (.ListComp elt [⟨tg, iter, ifs, 0⟩] scope pos) (some (.Name y py)) spos.line X.env = pure true) (hi : PIH X tg iter wi) (ok : BlkOk X.N X.env.scope scope own)
    (hg : Blks X scope fun Y => PG Y tg g) (ht : Blks X scope fun Y => PTs Y ifs tt) (he : Blks X scope fun Y => PE Y elt te) (hs : ∀ x, foldedSetIterable iter X.env x = pure x := by intro _; rfl) :
    PS X (.Assign [.Name y py] (.ListComp elt [⟨tg, iter, ifs, 0⟩] scope pos) spos) (tAsg (tLc wi g tt te (own.map (·.2))) (gName i)) := by
  refine ⟨fun pins s σ H D I h => ?_⟩
  rw [exec_Assign_Name_used _ _ _ _ hsw]
  refine wpAny_bind (wpAny_standAt (wpAny_bind ?_))
  show wpAny _ X.A (do let _ ← comprehension (.ListComp elt [⟨tg, iter, ifs, 0⟩] scope pos) scope X.env (firstIterPos [⟨tg, iter, ifs, 0⟩] pos) (newList []) false (eval iter X.env) (some (assign (.Name y py) X.env))) _ _ s
  have h : tLc wi g tt te (own.map (·.2)) σ H (fun x H1 => gName i x σ H1 D.nx) := h
  refine wpAny_bind (thn (lc_coreH (Qf := fun _ s' => SP X pins D .next s') hc hN I hi ok hg ht he hs h fun L C s' m H' I' q hn ⟨f0, f1, f2, f3, f4, f5⟩ => ?_) fun _ s' hq => wpAny_pure (wpAny_pure hq))
  show wpAny _ _ (assign (.Name y py) X.env (.ref L)) _ _ _
  refine wpAny_assign_Name (store_ok2 (v := V.ref L) I' hN hy (.inl hyl) rfl (fun s2 I2 ⟨a, sb, ha⟩ => ?_) (.inr hyl))
  have haC : C ≠ a := ha.elim (fun z => by rw [z]; exact f1) fun z e => f4 y a z e.symm
  exact ⟨m, hn.sameBut sb haC, fun h3 sb3 => ⟨_, H', I2.turned (t' := s2.toks) (fun b o hb e => (sb3.2 b hb).trans e) f0 f1 f3 f4 f5, q⟩⟩
end
end PD

namespace PD
open PySem PySem.Spec PyProof.Rows L2 HotX L2H
/-! ### texts and ranges walked while an exception is handled -/
section
variable {prog : Program} {w : World} {A : Around} {E : Value → Shared → Prop} {s : Shared}
theorem ascii_end_hot {it x1 : Addr} {x : Str} {t : Tok} {i : Nat} {Q : Option Value → Shared → Prop} (hot : HotAt A x1 s.heap) (hne : x1 ≠ it) (hit : s.heap.IsStrIter it "str_ascii_iterator" x t i) (hx : x.cps[i]? = none)
    (hQ : ∀ h', Heap.ExtBut it s.heap h' → Q none { s with heap := h' }) : wpAny (model prog w) A (pyNext (.ref it)) Q E s := by
  obtain ⟨o, ho, hc, hd⟩ := id hit
  unfold pyNext
  refine wpAny_bind (wpAny_attempt (wpAny_callSpecial?_slot (name := Str.ofString "__next__") hit.typeIs F.slot_str_ascii_iterator_next (wpAny_call_entry F.slot_str_ascii_iterator_next hit.typeIs F.entry_str_ascii_iterator_next ?_ (F.args_str_ascii_iterator_next_1 _))))
  refine wpAny_bind (m := field (.ref it) 0) (wpAny_field ho hd (x := .str x t) rfl ?_)
  refine wpAny_bind (m := field (.ref it) 1) (wpAny_field ho hd (x := .int i 0) rfl ?_)
  simp only [Int.toNat_natCast, hx]
  refine wpAny_bind (wpAny_rule (wpAny_bind (wpAny_setField ho hd (by simp) (wpAny_bind (wpAny_letGo ?_)))))
  refine ends_hot hot hne ho hd fun e h' hs eb => ?_
  refine wpAny_bind (wpAny_isInstance (T := "StopIteration") (b := true) hs isSubtype_stop ?_)
  exact wpAny_pure (hQ _ eb)
theorem wide_end_hot {it x1 : Addr} {x : Str} {t : Tok} {i : Nat} {Q : Option Value → Shared → Prop} (hot : HotAt A x1 s.heap) (hne : x1 ≠ it) (hit : s.heap.IsStrIter it "str_iterator" x t i) (hx : x.cps[i]? = none)
    (hQ : ∀ h', Heap.ExtBut it s.heap h' → Q none { s with heap := h' }) : wpAny (model prog w) A (pyNext (.ref it)) Q E s := by
  obtain ⟨o, ho, hc, hd⟩ := id hit
  unfold pyNext
  refine wpAny_bind (wpAny_attempt (wpAny_callSpecial?_slot (name := Str.ofString "__next__") hit.typeIs F.slot_str_iterator_next (wpAny_call_entry F.slot_str_iterator_next hit.typeIs F.entry_str_iterator_next ?_ (F.args_str_iterator_next_1 _))))
  refine wpAny_bind (m := field (.ref it) 0) (wpAny_field ho hd (x := .str x t) rfl ?_)
  refine wpAny_bind (m := field (.ref it) 1) (wpAny_field ho hd (x := .int i 0) rfl ?_)
  simp only [Int.toNat_natCast, hx]
  refine wpAny_bind (wpAny_rule (wpAny_bind (wpAny_setField ho hd (by simp) (wpAny_bind (wpAny_letGo ?_)))))
  refine ends_hot hot hne ho hd fun e h' hs eb => ?_
  refine wpAny_bind (wpAny_isInstance (T := "StopIteration") (b := true) hs isSubtype_stop ?_)
  exact wpAny_pure (hQ _ eb)
end
section
variable {X : Cx} {pins : List (Addr × Obj)} {σ : L2.St} {H : Hp} {s : Shared}
theorem turn_strH {P : Program} {w : World} {K : PySem.W.Frag} {tg : Expr} (it : Addr) (x : Str) (t : Tok) (ty : String) (hty : ty = "str_ascii_iterator" ∨ ty = "str_iterator") :
    TurnH P w K tg (Its x) [it] it (fun i h => h.IsStrIter it ty x t i) where
  mem := by simp
  obj := (turn_str (P := P) (w := w) (K := K) (tg := tg) it x t ty hty).obj
  keep := (turn_str (P := P) (w := w) (K := K) (tg := tg) it x t ty hty).keep
  item := by
    intro X hP hw hK hc i pins s σ H E I hf st hg
    subst hP hw hK
    obtain ⟨f0, f1, f2, f3, f4, f5⟩ := hf it (by simp)
    have hno : ["enumerate", "zip", "dict_itemiterator", "dict_reverseitemiterator", "odict_iterator", "itertools.zip_longest", "itertools.pairwise"].contains ty = false := by
      rcases hty with e | e <;> (rw [e]; decide)
    have hi : i < x.cps.size := hg
    have go : ∀ h', h'.IsStrIter it ty x t (i + 1) → Heap.SameBut it s.heap h' → ∃ u, some (Value.str ⟨#[x.cps[i]]⟩ s.toks) = some u ∧ wpAny (model X.prog X.w) X.A (letOwnedTupleGo tg (.ref it) u) (fun _ s2 => ∃ y H', Inv X pins σ H' s2 ∧ RelV y u ∧ (Its x).yld i H y H' ∧ s2.heap.IsStrIter it ty x t (i + 1) ∧ ∀ b ∈ [it], H' b = none) E { s with heap := h', toks := s.toks + 1 } := fun h' st' sb => by
      have I1 : Inv X pins σ H { s with heap := h', toks := s.toks + 1 } := I.turned (fun b o hb e => (sb.2 b hb).trans e) f0 f1 f3 f4 f5
      obtain ⟨oi, e, cc, dd⟩ := id st'
      exact ⟨_, rfl, go_of (s := { s with heap := h', toks := s.toks + 1 }) e cc dd hno ⟨.str ⟨#[x.cps[i]]⟩, H, I1, ⟨_, rfl⟩, ⟨rfl, x.cps[i], by simp [hi], rfl⟩, st', fun b hb => (hf b hb).1⟩⟩
    rcases hty with e | e
    · subst e
      exact wpAny_pyNext_ascii_item st (c := x.cps[i]) (by simp [hi]) fun h' st' sb => go h' st' sb
    · subst e
      exact wpAny_pyNext_wide_item st (c := x.cps[i]) (by simp [hi]) fun h' st' sb => go h' st' sb
  done := by
    intro X hP hw hK hc i pins s σ H E I hf st hg
    subst hP hw hK
    obtain ⟨x1, hot, hne⟩ := hotAt_fp hc I hf
    obtain ⟨f0, f1, f2, f3, f4, f5⟩ := hf it (by simp)
    have hx : x.cps[i]? = none := Array.getElem?_eq_none hg
    rcases hty with e | e
    · subst e
      exact ascii_end_hot hot (hne it (by simp)) st hx fun h' eb => ⟨rfl, I.turned (t' := s.toks) (fun b o hb e => eb b o hb e) f0 f1 f3 f4 f5⟩
    · subst e
      exact wide_end_hot hot (hne it (by simp)) st hx fun h' eb => ⟨rfl, I.turned (t' := s.toks) (fun b o hb e => eb b o hb e) f0 f1 f3 f4 f5⟩
  self := (turn_str (P := P) (w := w) (K := K) (tg := tg) it x t ty hty).self
theorem pi_strH {tg e : Expr} {te : TE} (he : PE X e te) : PIH X tg e (iStr te) := by
  refine ⟨fun pins s σ H R I h => ?_⟩
  refine thn (he.run pins s σ H _ I h) fun v s1 ⟨y, H1, I1, r1, x, ex, q⟩ => ?_
  subst ex
  obtain ⟨t, rfl⟩ := r1
  cases ha : x.cps.all (· < 128)
  · exact wpAny_pyIter_wide ha (pi_oneH (tk := s1.toks) I1 _ (turn_strH _ x t "str_iterator" (.inr rfl)) ⟨_, Heap.get?_push_size _ rfl, rfl, rfl⟩ q)
  · exact wpAny_pyIter_ascii ha (pi_oneH (tk := s1.toks) I1 _ (turn_strH _ x t "str_ascii_iterator" (.inl rfl)) ⟨_, Heap.get?_push_size _ rfl, rfl, rfl⟩ q)
theorem pi_range2H {tg a b : Expr} {ta : TA} {p pos : Pos} (hg : Gl X "range") (hm : X.mg "range" = none) (ha : PA X [a, b] ta) (hs : starEach [a, b] X.env = [(false, eval a X.env), (false, eval b X.env)] := by rfl) (hs2 : starEach [b] X.env = [(false, eval b X.env)] := by rfl) :
    PIH X tg (.Call (.Name "range" p) [a, b] [] pos) (iRng2 ta) := by
  refine ⟨fun pins s σ H R I h => ?_⟩
  refine Call_ (ld_blt I hg hm boot_range (PyProof.Rows.callWith_type1 (thn (ha.run pos pins s σ H _ I h) fun us s1 ⟨vs, H1, I1, r1, i, j, e, ⟨q1, q2, q3, q4⟩, q⟩ => ?_) (by rw [hs, hs2]) (by rw [hs2]; rfl)))
  subst e
  obtain ⟨t, t', rfl⟩ := r1.int2
  exact call_range_2 (range_itH I1 q1 q2 q3 q4 q)
end

/-! ### the rules by data -/
section
variable {X : Cx} {W : WX} {J : List Nat} {pos : Pos} {tg e : Expr} {f : Ev → Option D}
theorem iSeqH (h : PE X e (tP X.K f)) : PIH X tg e (tI X.K [] (iOf f)) := PIH.imp (PIH.or (PIH.or (pi_listH h) (pi_tupH h)) (pi_strH h)) fun σ H R ⟨M, ρ, fo, fv, ds, R0, l, e, k⟩ => by
  unfold iOf at e
  cases q : f ρ with
  | none => rw [q] at e; cases e
  | some d =>
    rw [q, Option.bind_some] at e
    cases d with
    | lst es =>
      cases e
      exact .inl (.inl ⟨M, ρ, fo, fv, _, R0, l, q, fun M1 H1 v s1 R1 d1 => by
        cases d1 with
        | lst hs hd => exact ⟨_, rfl, ⟨_, seqX R1.same hs⟩, k M1 H1 _ s1 R1 (yld_list hs hd)⟩⟩)
    | tup es =>
      cases e
      exact .inl (.inr ⟨M, ρ, fo, fv, _, R0, l, q, fun M1 H1 v s1 R1 d1 => by
        cases d1 with
        | tup hs hd => exact ⟨_, rfl, ⟨_, sqT_same R1.same hs⟩, k M1 H1 _ s1 R1 (yld_tup hs hd)⟩⟩)
    | str z =>
      cases e
      exact .inr ⟨M, ρ, fo, fv, _, R0, l, q, fun M1 H1 v s1 R1 d1 => by cases d1; exact ⟨z, rfl, k M1 H1 _ s1 R1 yld_str⟩⟩
    | _ => cases e
theorem iRange1H {p : Pos} (h : PE X e (tP X.K f)) (hm : X.mg "range" = none) (hg : Gl X "range" := by rfl) (hs : starEach [e] X.env = [(false, eval e X.env)] := by rfl) (hs2 : starEach [e] X.env = (false, eval e X.env) :: starEach [] X.env := by rfl) : PIH X tg (.Call (.Name "range" p) [e] [] pos) (tI X.K [] (rng1 f)) :=
  PIH.imp (pi_range1H hg hm (pa_cons h pa_nil hs2) hs) fun σ H R ⟨M, ρ, fo, fv, ds, R0, l, e, k⟩ => by
    unfold rng1 at e
    split at e
    · rename_i n q
      split at e
      · rename_i hn
        cases e
        exact ⟨M, ρ, fo, fv, _, R0, l, q, fun M1 H1 v s1 R1 d1 => by cases d1; exact ⟨n, rfl, hn.2, hn.1, k M1 H1 _ s1 R1 yld_range⟩⟩
      · cases e
    · cases e
theorem iRange2H {p : Pos} {e2 : Expr} {f2 : Ev → Option D} (h : PE X e (tP X.K f)) (h2 : PE X e2 (tP X.K f2)) (hm : X.mg "range" = none) (hg : Gl X "range" := by rfl) (hs : starEach [e, e2] X.env = [(false, eval e X.env), (false, eval e2 X.env)] := by rfl) (hs2 : starEach [e2] X.env = [(false, eval e2 X.env)] := by rfl)
    (hs3 : starEach [e, e2] X.env = (false, eval e X.env) :: starEach [e2] X.env := by rfl) (hs4 : starEach [e2] X.env = (false, eval e2 X.env) :: starEach [] X.env := by rfl) : PIH X tg (.Call (.Name "range" p) [e, e2] [] pos) (tI X.K [] (rng2 f f2)) :=
  PIH.imp (pi_range2H hg hm (pa_cons h (pa_cons h2 pa_nil hs4) hs3) hs hs2) fun σ H R ⟨M, ρ, fo, fv, ds, R0, l, e, k⟩ => by
    unfold rng2 at e
    split at e
    · rename_i m n q q2
      split at e
      · rename_i hn
        cases e
        exact ⟨M, ρ, fo, fv, _, R0, l, q, fun M1 H1 v s1 R1 d1 => by
          cases d1
          exact ⟨M1, ρ, fo, fv, _, R1, l, q2, fun M2 H2 v2 s2 R2 d2 => by cases d2; exact ⟨m, n, rfl, ⟨hn.2.2, hn.2.1, hn.1.2, hn.1.1⟩, k M2 H2 _ (s1.trans s2) R2 yld_range⟩⟩⟩
      · cases e
    · cases e
theorem gTupH {es : List Expr} {k n : Nat} {is : List Nat} {h : List D → Ev → Option Ev} (hc : HotC X) (h1 : PGs X es (tGs X.K is h)) (hn : (assignEach es X.env).length = n := by rfl) (hst : (assignEach es X.env).findIdx? (·.1) = none := by rfl) : PG X (.Tuple es k pos) (tG X.K is (gT n h)) :=
  PG.imp (pg_tupH hc h1 hn hst) fun v σ H Q ⟨M, ρ, fo, fv, d, ρ', R, l, dv, e, k⟩ => by
    unfold gT at e
    split at e
    · rename_i ds
      split at e
      · rename_i hl
        cases dv with
        | tup hs hd => exact ⟨_, _, rfl, sqT_same R.same hs, by rw [hd.length]; exact hl, M, ρ, fo, fv, ds, ρ', R, l, hd, e, k⟩
      · cases e
    · cases e
theorem gLstH {es : List Expr} {k n : Nat} {is : List Nat} {h : List D → Ev → Option Ev} (hc : HotC X) (h1 : PGs X es (tGs X.K is h)) (hn : (assignEach es X.env).length = n := by rfl) (hst : (assignEach es X.env).findIdx? (·.1) = none := by rfl) : PG X (.Tuple es k pos) (tG X.K is (gL n h)) :=
  PG.imp (pg_lstH hc h1 hn hst) fun v σ H Q ⟨M, ρ, fo, fv, d, ρ', R, l, dv, e, k⟩ => by
    unfold gL at e
    split at e
    · rename_i ds
      split at e
      · rename_i hl
        cases dv with
        | lst hs hd => exact ⟨_, _, rfl, seqX R.same hs, by rw [hd.length]; exact hl, M, ρ, fo, fv, ds, ρ', R, l, hd, e, k⟩
      · cases e
    · cases e
theorem sForH {iter : Expr} {body : List Stmt} {fi : Ev → Option (List D)} {is : List Nat} {g : D → Ev → Option Ev} {b : Ev → Option Fl} (hp : PassesOwn (model X.prog X.w) X.A X.env X.xe) (hc : HotC X) (hi : PIH X tg iter (tI X.K [] fi)) (hg : PG X tg (tG X.K is g)) (hb : PSs X body (tS X.K W J b)) (hJ : ∀ i ∈ is, i ∉ J := by decide)
    (hs : ∀ x, foldedSetIterable iter X.env x = pure x := by intro _; rfl) : PS X (.For tg iter body [] pos) (tS X.K W J (forS fi g b)) := PS.imp (ps_forH hp hc hi hg hb hs) fun E σ H ⟨M, ρ, fo, fv, r, σ0, R, l, e, k⟩ => by
  unfold forS at e
  cases q : fi ρ with
  | none => rw [q] at e; cases e
  | some ds =>
    rw [q, Option.bind_some] at e
    refine ⟨M, ρ, fo, fv, ds, R, l.1, q, fun M0 H0 JJ s0 R0 y => ?_⟩
    refine ⟨fun i m σ H => m = ds.length - i ∧ i ≤ ds.length ∧ ∃ M1 ρ1, Same M0 M1 ∧ Rep X.K M1 H (ρ1 ++ fo) (σ ++ fv) ∧ Lk J σ0 σ ρ1 ∧ loop g b (ds.drop i) ρ1 = some r, ⟨ds.length, by omega, Nat.zero_le _, M0, ρ, Same.refl _, R0, l, by simpa using e⟩, ?_⟩
    rintro i m σ H ⟨rfl, hi, M1, ρ1, s1, R1, l1, e1⟩
    obtain ⟨go, stop, yl⟩ := y i M1 H _ _ s1 R1 (fun r hr => nomatch hr)
    by_cases hlt : i < ds.length
    · have ed : ds.drop i = ds[i] :: ds.drop (i + 1) := List.drop_eq_getElem_cons hlt
      rw [ed] at e1
      unfold loop at e1
      cases q1 : g ds[i] ρ1 with
      | none => rw [q1] at e1; cases e1
      | some ρ2 =>
        rw [q1, Option.bind_some] at e1
        cases q2 : b ρ2 with
        | none => rw [q2] at e1; cases e1
        | some r2 =>
          rw [q2, Option.bind_some] at e1
          refine .inr ⟨go hlt, fun σ' H' => ∃ M1 ρ1, Same M0 M1 ∧ Rep X.K M1 H' (ρ1 ++ fo) (σ' ++ fv) ∧ Lk J σ0 σ' ρ1 ∧ loop g b (ds.drop (i + 1)) ρ1 = some r, fun σ' H' h => ⟨ds.length - (i + 1), by omega, rfl, hlt, h⟩, fun x H' hy => ?_⟩
          obtain ⟨M2, s2, R2, d2⟩ := yl ds[i] (List.getElem?_eq_getElem hlt) x H' hy
          refine ⟨M2, ρ1, fo, fv, ds[i], ρ2, R2, l1.1, d2, q1, fun σ3 a3 l3 r3 R3 => ?_⟩
          have s02 : Same M M2 := s0.trans (s1.trans s2)
          refine ⟨M2, ρ2, fo, fv, r2, σ0, R3, l1.to l3 r3 a3 hJ, q2, ?_⟩
          cases r2 with
          | nx ρ4 => exact fun M4 H4 σ4 s4 R4 l4 => ⟨M4, ρ4, s1.trans (s2.trans s4), R4, l4, e1⟩
          | ct ρ4 => exact fun M4 H4 σ4 s4 R4 l4 => ⟨M4, ρ4, s1.trans (s2.trans s4), R4, l4, e1⟩
          | bk ρ4 => cases e1; exact fun M4 H4 σ4 s4 R4 l4 => k M4 H4 σ4 (s02.trans s4) R4 l4
          | rt o ρ4 => cases e1; exact fun M4 H4 σ4 v s4 R4 l4 => k M4 H4 σ4 v (s02.trans s4) R4 l4
          | ex x ρ4 => cases e1; exact fun M4 H4 σ4 cls d s4 R4 l4 => k M4 H4 σ4 cls d (s02.trans s4) R4 l4
    · have ei : i = ds.length := by omega
      rw [ei, List.drop_length] at e1
      cases e1
      exact .inl ⟨stop ei, k M1 H σ (s0.trans s1) R1 l1⟩
end
section
variable {X : Cx} {W : WX} {J : List Nat} {pos : Pos} {tg iter elt : Expr} {ifs : List Expr} {scope : Scope} {fi : Ev → Option (List D)} {is kn : List Nat} {g : D → Ev → Option Ev} {t : Ev → Option Bool} {f : Ev → Option D}
theorem oLcH (own : List (Str × Nat)) (hc : HotC X) (hN : X.N.Nodup) (hi : PIH X tg iter (tI X.K kn fi)) (bo : BlkOk X.N X.env.scope scope own)
    (hg : Blks X scope fun Y => PG Y tg (tG X.K is g)) (ht : Blks X scope fun Y => PTs Y ifs (tT X.K t))
    (he : Blks X scope fun Y => PE Y elt (tP X.K f)) (ok : TgOk is g) (hv : ∀ i ∈ is, i ∈ own.map (·.2) := by decide) (hkn : ∀ ρ ds, fi ρ = some ds → ∀ k ∈ kn, k < ρ.length := by intro _ _ _ _ hk; cases hk) (hkv : ∀ k ∈ kn, k ∉ own.map (·.2) := by decide) (hs : ∀ x, foldedSetIterable iter X.env x = pure x := by intro _; rfl) :
    PE X (.ListComp elt [⟨tg, iter, ifs, 0⟩] scope pos) (tO X.K (lcO fi g t f (own.map (·.2)))) := PE.imp (pe_lcH hc hN hi bo hg ht he hs) fun _ _ _ h => lc_of ok hv hkn hkv h
theorem pLcH (own : List (Str × Nat)) (hc : HotC X) (hN : X.N.Nodup) (hi : PIH X tg iter (tI X.K kn fi)) (bo : BlkOk X.N X.env.scope scope own)
    (hg : Blks X scope fun Y => PG Y tg (tG X.K is g)) (ht : Blks X scope fun Y => PTs Y ifs (tT X.K t))
    (he : Blks X scope fun Y => PE Y elt (tP X.K f)) (ok : TgOk is g) (hv : ∀ i ∈ is, i ∈ own.map (·.2) := by decide) (hkn : ∀ ρ ds, fi ρ = some ds → ∀ k ∈ kn, k < ρ.length := by intro _ _ _ _ hk; cases hk) (hkv : ∀ k ∈ kn, k ∉ own.map (·.2) := by decide) (hs : ∀ x, foldedSetIterable iter X.env x = pure x := by intro _; rfl) :
    PE X (.ListComp elt [⟨tg, iter, ifs, 0⟩] scope pos) (tP X.K (lcD fi g t f (own.map (·.2)))) := by
  have h := pO (oLcH (pos := pos) own hc hN hi bo hg ht he ok hv hkn hkv hs)
  rw [show frz (lcO fi g t f (own.map (·.2))) = lcD fi g t f (own.map (·.2)) from funext fun ρ => lcD_eq ρ _] at h
  exact h
theorem sLcH {i : Nat} {y : Str} {py spos : Pos} (own : List (Str × Nat)) (hc : HotC X) (hN : X.N.Nodup) (hi : PIH X tg iter (tI X.K kn fi)) (bo : BlkOk X.N X.env.scope scope own)
    (hg : Blks X scope fun Y => PG Y tg (tG X.K is g)) (ht : Blks X scope fun Y => PTs Y ifs (tT X.K t))
    (he : Blks X scope fun Y => PE Y elt (tP X.K f)) (ok : TgOk is g) (hJ : i ∉ J := by decide) (hy : X.N[i]? = some y := by rfl) (hyl : X.env.scope.names.lookup y = some .local := by rfl)
    (hsw : swapsWith (.ListComp elt [⟨tg, iter, ifs, 0⟩] scope pos) (some (.Name y py)) spos.line X.env = pure true := by exact sw_true rfl rfl rfl (by decide +kernel)) (hv : ∀ i ∈ is, i ∈ own.map (·.2) := by decide) (hkn : ∀ ρ ds, fi ρ = some ds → ∀ k ∈ kn, k < ρ.length := by intro _ _ _ _ hk; cases hk) (hkv : ∀ k ∈ kn, k ∉ own.map (·.2) := by decide) (hs : ∀ x, foldedSetIterable iter X.env x = pure x := by intro _; rfl) :
    PS X (.Assign [.Name y py] (.ListComp elt [⟨tg, iter, ifs, 0⟩] scope pos) spos) (tS X.K W J (stO i (lcO fi g t f (own.map (·.2))))) :=
  sAsgO (PS.imp (ps_setLcH (i := i) hc hN hy hyl hsw hi bo hg ht he hs) fun E σ H h => lc_of ok hv hkn hkv h) hJ
theorem sLcDH {W : WX} {J : List Nat} {i : Nat} {y : Str} {py spos pos : Pos} {tg iter elt : Expr} {ifs : List Expr} {scope : Scope} {fi : Ev → Option (List D)} {is kn : List Nat} {g : D → Ev → Option Ev} {t : Ev → Option Bool} {f : Ev → Option D} (own : List (Str × Nat)) (hc : HotC X) (hN : X.N.Nodup) (hi : PIH X tg iter (tI X.K kn fi)) (bo : BlkOk X.N X.env.scope scope own)
    (hg : Blks X scope fun Y => PG Y tg (tG X.K is g)) (ht : Blks X scope fun Y => PTs Y ifs (tT X.K t))
    (he : Blks X scope fun Y => PE Y elt (tP X.K f)) (ok : TgOk is g) (hJ : i ∉ J := by decide) (hy : X.N[i]? = some y := by rfl) (hyl : X.env.scope.names.lookup y = some .local := by rfl)
    (hsw : swapsWith (.ListComp elt [⟨tg, iter, ifs, 0⟩] scope pos) (some (.Name y py)) spos.line X.env = pure true := by exact sw_true rfl rfl rfl (by decide +kernel)) (hv : ∀ i ∈ is, i ∈ own.map (·.2) := by decide) (hkn : ∀ ρ ds, fi ρ = some ds → ∀ k ∈ kn, k < ρ.length := by intro _ _ _ _ hk; cases hk) (hkv : ∀ k ∈ kn, k ∉ own.map (·.2) := by decide) (hs : ∀ x, foldedSetIterable iter X.env x = pure x := by intro _; rfl) :
    PS X (.Assign [.Name y py] (.ListComp elt [⟨tg, iter, ifs, 0⟩] scope pos) spos) (tS X.K W J (stV i (lcD fi g t f (own.map (·.2))))) := by
  have h := PS.imp (PS.imp (ps_setLcH (i := i) (py := py) (pos := pos) (spos := spos) hc hN hy hyl hsw hi bo hg ht he hs) fun E σ H h => lc_of (f := f) (Q := fun x H1 => gName i x σ H1 E.nx) ok hv hkn hkv h) fun E σ H (h : tS X.K W J (stV i (frz (lcO fi g t f (own.map (·.2))))) E σ H) => setD_of hJ h
  rw [show frz (lcO fi g t f (own.map (·.2))) = lcD fi g t f (own.map (·.2)) from funext fun ρ => lcD_eq ρ _] at h
  exact h
end
section
variable {X : Cx}
theorem cSumH (hc : HotC X) : CallR X (.builtin "sum") (rDs X.K sumD) := CallR.imp (cr_sumH hc) fun xs H Q ⟨M, fo, fv, ds, d, R, dv, e, k⟩ => by
  unfold sumD at e
  split at e
  · rename_i es
    cases q : intsD es with
    | none => rw [q] at e; cases e
    | some ns =>
      rw [q] at e; cases e
      cases dv with
      | cons d1 dn =>
        cases dn
        cases d1 with
        | lst hs hd =>
          have := intsD_vs q hd
          subst this
          exact ⟨_, ns, rfl, seqX R.same hs, k M H _ (Same.refl _) R (.int _)⟩
  · cases e
theorem cAllH (hc : HotC X) : CallR X (.builtin "all") (rDs X.K allD) := CallR.imp (cr_allH hc) fun xs H Q ⟨M, fo, fv, ds, d, R, dv, e, k⟩ => by
  unfold allD at e
  split at e
  · rename_i ds'
    obtain ⟨v, rfl, dw⟩ := one_of dv; clear dv
    cases q : bls ds' with
    | none => rw [q] at e; cases e
    | some bs =>
      rw [q] at e
      cases e
      have := bls_some q
      subst this
      cases dw with
      | lst h hs =>
        have := dvs_bls hs
        subst this
        exact ⟨_, bs, rfl, seqX R.same h, k M H _ (Same.refl _) R (.bl _)⟩
  · cases e
theorem cAnyH (hc : HotC X) : CallR X (.builtin "any") (rDs X.K anyD) := CallR.imp (cr_anyH hc) fun xs H Q ⟨M, fo, fv, ds, d, R, dv, e, k⟩ => by
  unfold anyD at e
  split at e
  · rename_i ds'
    obtain ⟨v, rfl, dw⟩ := one_of dv; clear dv
    cases q : bls ds' with
    | none => rw [q] at e; cases e
    | some bs =>
      rw [q] at e
      cases e
      have := bls_some q
      subst this
      cases dw with
      | lst h hs =>
        have := dvs_bls hs
        subst this
        exact ⟨_, bs, rfl, seqX R.same h, k M H _ (Same.refl _) R (.bl _)⟩
  · cases e
end
theorem _root_.L2H.RoomH.units {k : Nat} {A : Around} (r : RoomH k A) : A.units + 64 < cLine := by have := r.un; omega
/-- in the suite -/
theorem hotS {X : Cx} {a : Addr} {oe : Obj} {cls : Value} {d : Option Addr} {pn : List (Addr × Obj)} (hz : L2N.Zn cls d oe) (hf : ∃ vs, oe.data = .fields vs) : HotC (X.suite a ((a, oe) :: pn)) := by
  obtain ⟨vs, e⟩ := hf
  exact ⟨(a, oe), ⟨rfl, vs, e, hz.2.2 vs e⟩, List.mem_cons_self⟩
theorem roomS {k : Nat} {X : Cx} {a : Addr} {pn : List (Addr × Obj)} (r : Room k X.A) : RoomH k (X.suite a pn).A := ⟨r.dp, r.un⟩
section
variable {P : Program} {w : World} {K : PySem.W.Frag} {mg : Str → Option Value} {base : Heap} {x qual : Str} {st : Stmt} {f : Addr} {fd : FuncData} {N ps : List Str} {k : Nat} {b : Ev → Option Fl}
theorem fnOH (F : Fun K x qual st f fd) (S : FnScope N ps (defScope st))
    (hb : ∀ (cdv : Value) (A : Around) (outer : List Env) (s : Shared) (H : Hp) (E : XK) (p : Addr × Obj), RoomH k (A.deeper (envOfC qual (defScope st) s.heap.objs.size f cdv)) → HotC (cxH CX0 P w K mg base N qual (defScope st) f cdv A outer s H E p).nox →
      PSs (cxH CX0 P w K mg base N qual (defScope st) f cdv A outer s H E p).nox (defBody st) (tS K W0 [] b)) : FnH P w K mg base CX0 (k + 1) f fd ps (spO K ps.length (runO N.length b)) := by
  obtain ⟨oc, od, kV, doc, pm, an, cdv, ct, osl, rfl, lk, hcd⟩ := F.ex
  refine fn_ofH lk hcd S (fun vs H Q E h => h.1) fun A outer s H vs Q E p hot hr h => ⟨_, (hb cdv A outer s H E p hr ⟨p, hot, List.mem_cons_self⟩).nox, ?_⟩
  obtain ⟨hl, M, fo, fv, ds, o, R, dv, e, k⟩ := h
  obtain ⟨R1, l1⟩ := R.enter (N := N) dv
  unfold runO at e
  cases q : b (env0 N.length ds) with
  | none => rw [q] at e; cases e
  | some r =>
    rw [q, Option.bind_some] at e
    refine ⟨M, _, fo, fv, r, L2.start N vs, R1, ⟨l1, fun _ z => nomatch z⟩, q, ?_⟩
    cases r with
    | nx ρ =>
      cases e
      exact fun M1 H1 σ1 s1 R1 l1 => k M1 H1 _ s1 ((R1.push l1.1 .non).dropL l1.1)
    | rt o' ρ =>
      cases e
      exact fun M1 H1 σ1 v s1 R1 l1 => k M1 H1 v s1 (R1.dropL l1.1)
    | bk ρ => cases e
    | ct ρ => cases e
    | ex x ρ => cases e
theorem FnH.imp {sp sp' : Sp} {CX : CXT} (F : FnH P w K mg base CX k f fd ps sp) (h : ∀ vs H Q E, sp' vs H Q E → sp vs H Q E) : FnH P w K mg base CX k f fd ps sp' :=
  ⟨fun vs H Q E z => F.len vs H Q E (h _ _ _ _ z), fun A outer s H args us vs Q E p hr hot hp e0 hb r hsp => F.run A outer s H args us vs Q E p hr hot hp e0 hb r (h _ _ _ _ hsp)⟩
theorem fnPH (F : Fun K x qual st f fd) (S : FnScope N ps (defScope st))
    (hb : ∀ (cdv : Value) (A : Around) (outer : List Env) (s : Shared) (H : Hp) (E : XK) (p : Addr × Obj), RoomH k (A.deeper (envOfC qual (defScope st) s.heap.objs.size f cdv)) → HotC (cxH CX0 P w K mg base N qual (defScope st) f cdv A outer s H E p).nox →
      PSs (cxH CX0 P w K mg base N qual (defScope st) f cdv A outer s H E p).nox (defBody st) (tS K W0 [] b)) : FnH P w K mg base CX0 (k + 1) f fd ps (spP K ps.length (runP N.length b)) :=
  PD.FnH.imp (fnOH F S hb) fun vs H Q E h => spO_P h
end
section
variable {X : Cx} {pos p : Pos} {e : Expr} {es : List Expr} {ga : Ev → Option (List D)} {k : Nat} {f : Addr} {fd : FuncData} {ps : List Str} {x : Str} {n : Nat}
theorem takesN0 {X : Cx} : L2N.Takes X W0 := fun _ _ ⟨_, _, _, _, _, _, _, _, _, _, _, _, _, _, _, _, z⟩ => z.elim
theorem fnNoneH {P : Program} {w : World} {K : PySem.W.Frag} {mg : Str → Option Value} {base : Heap} {CX : CXT} {k n : Nat} {f : Addr} {fd : FuncData} {ps : List Str} (hn : n = ps.length := by rfl) : FnH P w K mg base CX k f fd ps (spP K n fun _ => none) :=
  ⟨fun vs H Q E h => hn ▸ h.1, fun A outer s H args us vs Q E p _ _ _ _ _ _ ⟨_, M, fo, fv, ds, d, _, _, e, _⟩ => by cases e⟩
theorem passH0 {σ : L2.St} : PassesAt CX0 X σ E0 := fun _ _ _ _ _ _ z => z.elim
theorem pCallH {m : List D → Option D} (F : FnH X.prog X.w X.K X.mg X.base CX0 k f fd ps (spP X.K n m)) (hr : RoomH k X.A) (hc : HotC X) (hm : X.mg x = some (.ref f)) (hk : PySem.W.keepIn X.K (.ref f) = true) (hb : Binds X.K fd ps []) (ha : PA X (e :: es) (tAr X.K ga)) (hg : Gl X x := by rfl)
    (hdb : (x == ("__debug__" : Str)) = false := by decide) (he : starEach (e :: es) X.env = (false, eval e X.env) :: starEach es X.env := by rfl) (hpl : (backTo pos (starEach es X.env)).any (·.1) = false := by rfl) : PE X (.Call (.Name x p) (e :: es) [] pos) (tP X.K (cB ga (len? n m))) :=
  PE.imp (pe_callH (E := fun _ => E0) F hr hc hg hm hk hb (fun σ => passH0) ha hdb he hpl) fun σ H Q h => by
    have h := tCall_P h
    unfold tCall at h
    simp only [List.append_nil] at h
    exact h
theorem oCallH {m : List D → Option O} (F : FnH X.prog X.w X.K X.mg X.base CX0 k f fd ps (spO X.K n m)) (hr : RoomH k X.A) (hc : HotC X) (hm : X.mg x = some (.ref f)) (hk : PySem.W.keepIn X.K (.ref f) = true) (hb : Binds X.K fd ps []) (ha : PA X (e :: es) (tAr X.K ga)) (hg : Gl X x := by rfl)
    (hdb : (x == ("__debug__" : Str)) = false := by decide) (he : starEach (e :: es) X.env = (false, eval e X.env) :: starEach es X.env := by rfl) (hpl : (backTo pos (starEach es X.env)).any (·.1) = false := by rfl) : PE X (.Call (.Name x p) (e :: es) [] pos) (tO X.K (cO' ga n m)) :=
  PE.imp (pe_callH (E := fun _ => E0) F hr hc hg hm hk hb (fun σ => passH0) ha hdb he hpl) fun σ H Q h => by
    have h := tCall_O h
    unfold tCall at h
    simp only [List.append_nil] at h
    exact h
end
end PD

namespace PD
open PySem PySem.Spec PyProof.Rows L2
/-! ### marks taken off -/
mutual
def unt : D → D
  | .tagM _ d => unt d
  | .tagP _ d => unt d
  | .lst ds => .lst (unts ds)
  | .tup ds => .tup (unts ds)
  | .dic ks ds => .dic ks (unts ds)
  | .obj C ks ds => .obj C ks (unts ds)
  | .non => .non
  | .bl b => .bl b
  | .int i => .int i
  | .str x => .str x
  | .exn a d c ks vs => .exn a d c ks vs
def unts : List D → List D
  | [] => []
  | d :: ds => unt d :: unts ds
end
section
variable {K : PySem.W.Frag} {M : Hp}
mutual
theorem Dv.unt : ∀ {v : V} {d : D}, Dv K M v d → Dv K M v (unt d)
  | _, _, .non => .non
  | _, _, .bl b => .bl b
  | _, _, .int i => .int i
  | _, _, .str x => .str x
  | _, _, .lst h hs => .lst h (Dvs.unt hs)
  | _, _, .tup h hs => .tup h (Dvs.unt hs)
  | _, _, .dic h e hs => .dic h e (Dvs.unt hs)
  | _, _, .obj h h2 e hs => .obj h h2 e (Dvs.unt hs)
  | _, _, .exn0 => .exn0
  | _, _, .exn1 h e hs => .exn1 h e hs
  | _, .tagM _ d, .tagM _ hs => Dv.unt (d := d) hs
  | _, .tagP _ d, .tagP _ hs => Dv.unt (d := d) hs
theorem Dvs.unt : ∀ {vs : List V} {ds : List D}, Dvs K M vs ds → Dvs K M vs (unts ds)
  | _, _, .nil => .nil
  | _, _, .cons h hs => .cons (Dv.unt h) (Dvs.unt hs)
end
end
def untV (f : Ev → Option D) (ρ : Ev) : Option D := (f ρ).map unt
theorem pUnt {X : Cx} {e : Expr} {f : Ev → Option D} (h : PE X e (tP X.K f)) : PE X e (tP X.K (untV f)) := PE.imp h fun σ H Q ⟨M, ρ, fo, fv, d, R, l, e, k⟩ => by
  unfold untV at e
  cases q : f ρ with
  | none => rw [q] at e; cases e
  | some d0 =>
    rw [q] at e
    cases e
    exact ⟨M, ρ, fo, fv, d0, R, l, q, fun M1 H1 v s1 R1 d1 => k M1 H1 v s1 R1 d1.unt⟩

/-! ### lists of ints that are new since M0 -/
def newL (M0 : Hp) (L : List Int) : Hp → V → Prop := fun M v => ∃ a, v = .ref a ∧ M0 a = none ∧ M a = some (.lst (L.map .int))
theorem newL_up {M0 M M' : Hp} {L : List Int} {v : V} (h : newL M0 L M v) (l : LSub M M') : newL M0 L M' v := by
  obtain ⟨a, e, n, m⟩ := h
  exact ⟨a, e, n, l _ _ m⟩
def intsO : O → Option (List Int)
  | .lst os => os.mapM fun o => match o with | .dat (.int i) => some i | _ => none
  | _ => none
abbrev inL (L : List Int) : O := O.lst ((L.map D.int).map .dat)
abbrev newD (M0 : Hp) (L : List Int) : D := .tagP (newL M0 L) (.lst (L.map .int))
/-- an own list of ints in slot i is frozen and told to be new; slot j knows since when -/
def fzT (j i : Nat) (g : Ev → Option Fl) (ρ : Ev) : Option Fl := match ρ[j]?, ρ[i]? with
  | some (.dat (.tagM M0 _)), some o => (intsO o).bind fun L => g (ρ.set i (.dat (newD M0 L)))
  | _, _ => none
theorem mapM_ints : ∀ {os : List O} {L : List Int}, (os.mapM fun o => match o with | .dat (.int i) => some i | _ => none) = some L → os = (L.map D.int).map .dat
  | [], L, h => by simp at h; subst h; rfl
  | o :: os, L, h => by
    rw [List.mapM_cons] at h
    cases o with
    | dat d =>
      cases d with
      | int i =>
        simp only [Option.bind_eq_bind, Option.bind_some] at h
        cases q : os.mapM (fun o => match o with | .dat (.int i) => some i | _ => none) with
        | none => rw [q] at h; cases h
        | some L' =>
          rw [q] at h
          cases h
          rw [mapM_ints q]; rfl
      | _ => cases h
    | _ => cases h
theorem intsO_some {o : O} {L : List Int} (h : intsO o = some L) : o = inL L := by
  cases o with
  | lst os => rw [mapM_ints (show _ = some L from h)]
  | _ => cases h
theorem mapM_intsO : ∀ {os : List O} {Ls : List (List Int)}, os.mapM intsO = some Ls → os = Ls.map inL
  | [], Ls, h => by simp at h; subst h; rfl
  | o :: os, Ls, h => by
    rw [List.mapM_cons] at h
    cases q : intsO o with
    | none => rw [q] at h; cases h
    | some L =>
      rw [q] at h
      simp only [Option.bind_eq_bind, Option.bind_some] at h
      cases q2 : os.mapM intsO with
      | none => rw [q2] at h; cases h
      | some Ls' =>
        rw [q2] at h
        cases h
        rw [mapM_intsO q2, intsO_some q]; rfl
section
variable {K : PySem.W.Frag} {M H : Hp}
theorem dvs_int : ∀ {L : List Int} {xs : List V}, Dvs K M xs (L.map .int) → xs = L.map .int
  | [], _, h => by cases h; rfl
  | i :: L, _, h => by
    rw [List.map_cons] at h
    cases h with
    | cons h hs =>
      have h : Dv K M _ (.int i) := h
      cases h
      rw [dvs_int hs]; rfl
theorem ows_ints : ∀ {L : List Int} {xs : List V} {fp : List Addr}, Ows K M H ((L.map D.int).map .dat) (xs.map some) fp → xs = L.map .int ∧ fp = []
  | [], [], _, h => by cases h; exact ⟨rfl, rfl⟩
  | i :: L, x :: xs, _, h => by
    rw [List.map_cons, List.map_cons, List.map_cons] at h
    cases h with
    | cons h hs =>
      cases h with
      | dat h =>
        have h : Dv K M x (.int i) := h
        cases h
        obtain ⟨e1, e2⟩ := ows_ints hs
        exact ⟨by rw [e1]; rfl, by rw [e2]; rfl⟩
  | [], _ :: _, _, h => nomatch h
  | _ :: _, [], _, h => nomatch h
/-- the items of an own list of own lists of ints -/
theorem ows_newI {M0 M' : Hp} : ∀ {Ls : List (List Int)} {xs : List V} {fp : List Addr}, Ows K M H (Ls.map inL) (xs.map some) fp → (∀ a ∈ fp, M0 a = none) → (∀ a ∈ fp, M' a = H a) → Dvs K M' xs (Ls.map (newD M0))
  | [], [], _, h, _, _ => by cases h; exact .nil
  | L :: Ls, x :: xs, _, h, hn, hm => by
    rw [List.map_cons, List.map_cons] at h
    cases h with
    | cons h hs =>
      have t := ows_newI hs (fun a ha => hn a (List.mem_append_right _ ha)) (fun a ha => hm a (List.mem_append_right _ ha))
      refine .cons ?_ t
      cases h with
      | @lst a ys _ fp ha ws =>
        obtain ⟨rfl, rfl⟩ := ows_ints ws
        have hM : M' a = some (.lst (L.map .int)) := (hm a (by simp)).trans ha
        refine .tagP (fun M2 l => ⟨a, rfl, hn a (by simp), l _ _ hM⟩) (.lst (.inl (.inl hM)) ?_)
        clear ha ws hM hn hm
        induction L with
        | nil => exact .nil
        | cons i L ih => exact .cons (.int i) ih
  | [], _ :: _, _, h, _, _ => nomatch h
  | _ :: _, [], _, h, _, _ => nomatch h
end
theorem tFzT_of {K : PySem.W.Frag} {W : WX} {J : List Nat} {j i : Nat} {g : Ev → Option Fl} {E : Ends} {σ : L2.St} {H : Hp} (h : tS K W J (fzT j i g) E σ H) : tS K W J g E σ H := by
  obtain ⟨M, ρ, fo, fv, r, σ0, R, l, e, k⟩ := h
  unfold fzT at e
  split at e
  · rename_i M0 d0 os ej ei
    cases q : intsO os with
    | none => rw [q] at e; cases e
    | some L =>
      rw [q, Option.bind_some] at e
      have eos := intsO_some q
      subst eos
      -- since when
      have hM0 : ∀ a, M a = none → M0 a = none := by
        obtain ⟨v, ev, dv⟩ := R.slot l.1 ej
        cases dv with
        | tagM h _ => exact h
      obtain ⟨hi, ei⟩ := List.getElem?_eq_some_iff.mp ei
      have hi' : i < σ.length := by rw [l.1]; exact hi
      have e1 : ρ = ρ.take i ++ inL L :: ρ.drop (i + 1) := by rw [← ei, ← List.drop_eq_getElem_cons hi, List.take_append_drop]
      have e2 : σ = σ.take i ++ σ[i] :: σ.drop (i + 1) := by rw [← List.drop_eq_getElem_cons hi', List.take_append_drop]
      have e3 : ∀ z, ρ.set i z = ρ.take i ++ z :: ρ.drop (i + 1) := fun z => by rw [List.set_eq_take_append_cons_drop, if_pos hi]
      have R0 := R
      rw [e1, e2] at R
      simp only [List.append_assoc, List.cons_append] at R
      have ll : (σ.take i).length = (ρ.take i).length := by simp [l.1]
      obtain ⟨fa, f, fb, w1, w2, w3, nd, nm⟩ := R.mid ll
      have hf : ∀ a ∈ f, M a = none := fun a ha => nm a (by simp [ha])
      generalize hz : σ[i] = z at *
      cases w2 with
      | @lst a xs _ fp ha ws =>
        have dv : ∀ M' : Hp, (∀ b ∈ a :: fp, M' b = H b) → Dv K M' (.ref a) (newD M0 L) := fun M' kk => by
          have t := ows_newI (M0 := M0) (M' := M') (Ls := [L]) (xs := [.ref a]) (fp := (a :: fp) ++ []) (.cons (.lst ha ws) .nil) (fun b hb => hM0 b (hf b (by simpa using hb))) fun b hb => kk b (by simpa using hb)
          cases t with
          | cons t _ => exact t
        have s1 : Same M (fun b => if b ∈ a :: fp then H b else M b) := fun b y q => by
          show (if b ∈ a :: fp then H b else M b) = some y
          rw [if_neg fun z => by rw [hf b z] at q; cases q]; exact q
        have disj : ∀ b ∈ fa ++ fb, b ∉ a :: fp := fun b hb z => by
          rw [List.nodup_append] at nd
          obtain ⟨n1, n2, n3⟩ := nd
          rcases List.mem_append.mp hb with hb | hb
          · exact n3 b hb b (List.mem_append_left _ z) rfl
          · rw [List.nodup_append] at n2
            exact n2.2.2 b z b hb rfl
        have R2 : Rep K (fun b => if b ∈ a :: fp then H b else M b) H (ρ.set i (.dat (newD M0 L)) ++ fo) (σ ++ fv) := by
          rw [e3, e2]
          simp only [List.append_assoc, List.cons_append]
          refine ⟨fun b y q => ?_, fa ++ ([] ++ fb), (w1.frame s1 fun _ _ => rfl).append (.cons (.dat (dv _ fun b hb => if_pos hb)) (w3.frame s1 fun _ _ => rfl)), ?_, fun b hb => ?_⟩
          · have q : (if b ∈ a :: fp then H b else M b) = some y := q
            split at q
            · exact q
            · exact R.1 b y q
          · refine List.Nodup.sublist ?_ nd
            exact List.Sublist.append (List.Sublist.refl _) (List.sublist_append_right _ _)
          · show (if b ∈ a :: fp then H b else M b) = none
            rw [if_neg (disj b (by simpa using hb))]
            exact nm b (by simp only [List.mem_append, List.not_mem_nil, false_or] at hb ⊢; rcases hb with hb | hb; exact .inl hb; exact .inr (.inr hb))
        exact ⟨_, _, fo, fv, r, σ0, R2, l.setR _, e, k.later s1⟩
  · cases e
theorem sFzT {X : Cx} {W : WX} {J : List Nat} {st : Stmt} {j i : Nat} {g : Ev → Option Fl} (h : PS X st (tS X.K W J g)) : PS X st (tS X.K W J (fzT j i g)) := PS.imp h fun _ _ _ h => tFzT_of h
end PD

namespace PD
open PySem PySem.Spec L2
/-! ### a comprehension with two clauses -/
def comp2 (g : D → Ev → Option Ev) (t : Ev → Option Bool) (fi1 : Ev → Option (List D)) (g1 : D → Ev → Option Ev) (t1 : Ev → Option Bool) (f : Ev → Option D) (vs1 : List Nat) (ρ : Ev) : List D → Option (List D)
  | [] => some []
  | d :: ds => (g d ρ).bind fun ρ2 => (t ρ2).bind fun b => if b = true then (fi1 ρ2).bind fun es => (comp g1 t1 f (wipeO ρ2 vs1) es).bind fun ys => (comp2 g t fi1 g1 t1 f vs1 ρ ds).map (ys ++ ·) else comp2 g t fi1 g1 t1 f vs1 ρ ds
def lcO2 (fi : Ev → Option (List D)) (g : D → Ev → Option Ev) (t : Ev → Option Bool) (fi1 : Ev → Option (List D)) (g1 : D → Ev → Option Ev) (t1 : Ev → Option Bool) (f : Ev → Option D) (vs vs1 : List Nat) (ρ : Ev) : Option O := if okW ρ vs = true then
  (fi ρ).bind fun ds => (comp2 g t fi1 g1 t1 f vs1 (wipeO ρ vs) ds).bind fun ys => if ys.length ≤ sizeLine then some (.lst (ys.map .dat)) else none else none
def lcD2 (fi : Ev → Option (List D)) (g : D → Ev → Option Ev) (t : Ev → Option Bool) (fi1 : Ev → Option (List D)) (g1 : D → Ev → Option Ev) (t1 : Ev → Option Bool) (f : Ev → Option D) (vs vs1 : List Nat) (ρ : Ev) : Option D := if okW ρ vs = true then
  (fi ρ).bind fun ds => (comp2 g t fi1 g1 t1 f vs1 (wipeO ρ vs) ds).bind fun ys => if ys.length ≤ sizeLine then some (.lst ys) else none else none
section
variable {fi fi1 : Ev → Option (List D)} {is is1 vs vs1 : List Nat} {g g1 : D → Ev → Option Ev} {t t1 : Ev → Option Bool} {f : Ev → Option D}
theorem lcD2_eq (ρ : Ev) : frz (lcO2 fi g t fi1 g1 t1 f vs vs1) ρ = lcD2 fi g t fi1 g1 t1 f vs vs1 ρ := by
  unfold frz lcO2 lcD2
  by_cases hw : okW ρ vs = true
  · rw [if_pos hw, if_pos hw]
    cases q : fi ρ with
    | none => rfl
    | some ds =>
      rw [Option.bind_some, Option.bind_some]
      cases q2 : comp2 g t fi1 g1 t1 f vs1 (wipeO ρ vs) ds with
      | none => rfl
      | some ys =>
        rw [Option.bind_some, Option.bind_some]
        by_cases hz : ys.length ≤ sizeLine
        · rw [if_pos hz, if_pos hz]
          show (O.toDs (ys.map .dat)).map D.lst = _
          rw [toDs_dat]
          rfl
        · rw [if_neg hz, if_neg hz]; rfl
  · rw [if_neg hw, if_neg hw]; rfl
theorem wipeO_sub {ρ : Ev} (h : ∀ i ∈ vs1, i ∈ vs) : wipeO (wipeO ρ vs1) vs = wipeO ρ vs := wipeO_ext (wipeO_length _ _) fun j hj => wipeO_out fun z => hj (h j z)
theorem wipe_sub {σ : L2.St} (h : ∀ i ∈ vs1, i ∈ vs) : L2.wipe (L2.wipe σ vs1) vs = L2.wipe σ vs := wipe_ext (wipe_length _ _) fun j hj => wipe_out fun z => hj (h j z)
theorem lc2_of {K : PySem.W.Frag} (ok : TgOk is g) (ok1 : TgOk is1 g1) (hv : ∀ i ∈ is, i ∈ vs) (hv1 : ∀ i ∈ is1, i ∈ vs1) (hvv : ∀ i ∈ vs1, i ∈ vs) {σ : L2.St} {H : Hp} {Q : VK} (h : tO K (lcO2 fi g t fi1 g1 t1 f vs vs1) σ H Q) : tLc2 (tI K [] fi) (tG K is g) (tT K t) (tI K [] fi1) (tG K is1 g1) (tT K t1) (tP K f) vs vs1 σ H Q := by
  obtain ⟨M, ρ, fo, fv, o, R, l, e, k⟩ := h
  unfold lcO2 at e
  by_cases hw : okW ρ vs = true
  · rw [if_pos hw] at e
    cases q : fi ρ with
    | none => rw [q] at e; cases e
    | some ds =>
      rw [q, Option.bind_some] at e
      cases q2 : comp2 g t fi1 g1 t1 f vs1 (wipeO ρ vs) ds with
      | none => rw [q2] at e; cases e
      | some ys =>
        rw [q2, Option.bind_some] at e
        by_cases hz : ys.length ≤ sizeLine
        · rw [if_pos hz] at e
          cases e
          refine ⟨M, ρ, fo, fv, ds, R, l, q, fun M0 H0 J s0 R0 y DD hD => ?_⟩
          have lw : (L2.wipe σ vs).length = (wipeO ρ vs).length := by rw [wipe_length, wipeO_length]; exact l
          refine ⟨fun i m H => m = ds.length - i ∧ i ≤ ds.length ∧ ∃ M1 acc rest, Same M0 M1 ∧ Rep K M1 H (wipeO ρ vs ++ .lst (acc.map .dat) :: fo) (L2.wipe σ vs ++ some (.ref DD) :: fv) ∧ comp2 g t fi1 g1 t1 f vs1 (wipeO ρ vs) (ds.drop i) = some rest ∧ ys = acc ++ rest,
            ⟨ds.length, by omega, Nat.zero_le _, M0, [], ys, Same.refl _, (R0.newL l hD .nil).wipe l vs, by simpa using q2, rfl⟩, ?_⟩
          rintro i m H ⟨rfl, hi, M1, acc, rest, s1, R1, e1, ey⟩
          obtain ⟨go, stop, yl⟩ := y i M1 H _ _ s1 R1 (fun r hr => nomatch hr)
          by_cases hlt : i < ds.length
          · have ed : ds.drop i = ds[i] :: ds.drop (i + 1) := List.drop_eq_getElem_cons hlt
            rw [ed] at e1
            unfold comp2 at e1
            cases q3 : g ds[i] (wipeO ρ vs) with
            | none => rw [q3] at e1; cases e1
            | some ρ2 =>
              rw [q3, Option.bind_some] at e1
              cases q4 : t ρ2 with
              | none => rw [q4] at e1; cases e1
              | some b =>
                rw [q4, Option.bind_some] at e1
                refine .inr ⟨go hlt, fun H' => ∃ M1 acc rest, Same M0 M1 ∧ Rep K M1 H' (wipeO ρ vs ++ .lst (acc.map .dat) :: fo) (L2.wipe σ vs ++ some (.ref DD) :: fv) ∧ comp2 g t fi1 g1 t1 f vs1 (wipeO ρ vs) (ds.drop (i + 1)) = some rest ∧ ys = acc ++ rest,
                  fun H' h => ⟨ds.length - (i + 1), by omega, rfl, hlt, h⟩, fun x H' hy => ?_⟩
                obtain ⟨M2, s2, R2, d2⟩ := yl ds[i] (List.getElem?_eq_getElem hlt) x H' hy
                refine ⟨M2, wipeO ρ vs, .lst (acc.map .dat) :: fo, some (.ref DD) :: fv, ds[i], ρ2, R2, lw, d2, q3, fun σ3 a3 l3 r3 R3 => ?_⟩
                have ew : L2.wipe σ3 vs = L2.wipe σ vs := by
                  refine wipe_ext (by rw [l3, wipe_length]) fun j hj => ?_
                  rw [a3 j fun z => hj (hv j z), wipe_out hj]
                have er : wipeO ρ2 vs = wipeO ρ vs := by
                  refine wipeO_ext (by rw [r3, wipeO_length]) fun j hj => ?_
                  rw [ok.out _ _ _ q3 j fun z => hj (hv j z), wipeO_out hj]
                have l23 : σ3.length = ρ2.length := by omega
                refine ⟨ew, M2, ρ2, .lst (acc.map .dat) :: fo, some (.ref DD) :: fv, b, R3, l23, q4, fun M4 H4 s4 R4 => ?_⟩
                cases b with
                | false =>
                  refine iteF ⟨M4, acc, rest, s1.trans (s2.trans s4), ?_, e1, ey⟩
                  have := R4.wipe l23 vs
                  rw [ew, er] at this
                  exact this
                | true =>
                  rw [if_pos rfl] at e1
                  cases q5 : fi1 ρ2 with
                  | none => rw [q5] at e1; cases e1
                  | some es =>
                    rw [q5, Option.bind_some] at e1
                    cases q6 : comp g1 t1 f (wipeO ρ2 vs1) es with
                    | none => rw [q6] at e1; cases e1
                    | some zs =>
                      rw [q6, Option.bind_some] at e1
                      cases q7 : comp2 g t fi1 g1 t1 f vs1 (wipeO ρ vs) (ds.drop (i + 1)) with
                      | none => rw [q7] at e1; cases e1
                      | some rest2 =>
                        rw [q7] at e1
                        cases e1
                        refine iteT ⟨M4, ρ2, .lst (acc.map .dat) :: fo, some (.ref DD) :: fv, es, R4, l23, q5, fun M5 H5 J1 s5 R5 y1 => ?_⟩
                        have lw1 : (L2.wipe σ3 vs1).length = (wipeO ρ2 vs1).length := by rw [wipe_length, wipeO_length]; exact l23
                        refine ⟨fun j kk H => kk = es.length - j ∧ j ≤ es.length ∧ ∃ M6 acc1 rest1, Same M5 M6 ∧ Rep K M6 H (wipeO ρ2 vs1 ++ .lst (acc1.map .dat) :: fo) (L2.wipe σ3 vs1 ++ some (.ref DD) :: fv) ∧ comp g1 t1 f (wipeO ρ2 vs1) (es.drop j) = some rest1 ∧ acc ++ zs = acc1 ++ rest1,
                          ⟨es.length, by omega, Nat.zero_le _, M5, acc, zs, Same.refl _, R5.wipe l23 vs1, by simpa using q6, rfl⟩, ?_⟩
                        rintro j kk H ⟨rfl, hj, M6, acc1, rest1, s6, R6, e6, ey6⟩
                        obtain ⟨go1, stop1, yl1⟩ := y1 j M6 H _ _ s6 R6 (fun r hr => nomatch hr)
                        by_cases hlt1 : j < es.length
                        · have ed1 : es.drop j = es[j] :: es.drop (j + 1) := List.drop_eq_getElem_cons hlt1
                          rw [ed1] at e6
                          unfold comp at e6
                          cases p3 : g1 es[j] (wipeO ρ2 vs1) with
                          | none => rw [p3] at e6; cases e6
                          | some ρ3 =>
                            rw [p3, Option.bind_some] at e6
                            cases p4 : t1 ρ3 with
                            | none => rw [p4] at e6; cases e6
                            | some b1 =>
                              rw [p4, Option.bind_some] at e6
                              refine .inr ⟨go1 hlt1, fun H' => ∃ M6 acc1 rest1, Same M5 M6 ∧ Rep K M6 H' (wipeO ρ2 vs1 ++ .lst (acc1.map .dat) :: fo) (L2.wipe σ3 vs1 ++ some (.ref DD) :: fv) ∧ comp g1 t1 f (wipeO ρ2 vs1) (es.drop (j + 1)) = some rest1 ∧ acc ++ zs = acc1 ++ rest1,
                                fun H' h => ⟨es.length - (j + 1), by omega, rfl, hlt1, h⟩, fun x1 H7 hy1 => ?_⟩
                              obtain ⟨M7, s7, R7, d7⟩ := yl1 es[j] (List.getElem?_eq_getElem hlt1) x1 H7 hy1
                              refine ⟨M7, wipeO ρ2 vs1, .lst (acc1.map .dat) :: fo, some (.ref DD) :: fv, es[j], ρ3, R7, lw1, d7, p3, fun σ8 a8 l8 r8 R8 => ?_⟩
                              have ew1 : L2.wipe σ8 vs1 = L2.wipe σ3 vs1 := by
                                refine wipe_ext (by rw [l8, wipe_length]) fun i' hi' => ?_
                                rw [a8 i' fun z => hi' (hv1 i' z), wipe_out hi']
                              have er1 : wipeO ρ3 vs1 = wipeO ρ2 vs1 := by
                                refine wipeO_ext (by rw [r8, wipeO_length]) fun i' hi' => ?_
                                rw [ok1.out _ _ _ p3 i' fun z => hi' (hv1 i' z), wipeO_out hi']
                              have l83 : σ8.length = ρ3.length := by omega
                              refine ⟨ew1, M7, ρ3, .lst (acc1.map .dat) :: fo, some (.ref DD) :: fv, b1, R8, l83, p4, fun M9 H9 s9 R9 => ?_⟩
                              cases b1 with
                              | false =>
                                refine iteF ⟨M9, acc1, rest1, s6.trans (s7.trans s9), ?_, e6, ey6⟩
                                have := R9.wipe l83 vs1
                                rw [ew1, er1] at this
                                exact this
                              | true =>
                                rw [if_pos rfl] at e6
                                cases p5 : f ρ3 with
                                | none => rw [p5] at e6; cases e6
                                | some z =>
                                  rw [p5, Option.bind_some] at e6
                                  cases p6 : comp g1 t1 f (wipeO ρ2 vs1) (es.drop (j + 1)) with
                                  | none => rw [p6] at e6; cases e6
                                  | some rest3 =>
                                    rw [p6] at e6
                                    cases e6
                                    refine iteT ⟨M9, ρ3, .lst (acc1.map .dat) :: fo, some (.ref DD) :: fv, z, R9, l83, p5, fun Ma Ha va sa Ra da => ?_⟩
                                    have Ra' : Rep K Ma Ha ((ρ3 ++ [.lst (acc1.map .dat)]) ++ fo) ((σ8 ++ [some (.ref DD)]) ++ fv) := by simpa using Ra
                                    obtain ⟨a, xs, ea, ha, hl, up⟩ := Ra'.ownL (by simp [l83]) (i := ρ3.length) (os := acc1.map .dat) (by simp)
                                    have : a = DD := by rw [List.getElem?_append_right (by omega)] at ea; simp [l83] at ea; exact ea.symm
                                    subst this
                                    have hsz : acc1.length < sizeLine := by
                                      have h1 := congrArg List.length ey
                                      have h2 := congrArg List.length ey6
                                      simp only [List.length_append, List.length_cons] at h1 h2
                                      omega
                                    refine ⟨xs, ha, by rw [hl, List.length_map]; exact hsz, Ma, acc1 ++ [z], rest3, s6.trans (s7.trans (s9.trans sa)), ?_, rfl, by rw [ey6]; simp⟩
                                    have Rb := up va z da
                                    rw [List.set_append_right _ _ (by omega)] at Rb
                                    simp only [Nat.sub_self, List.set_cons_zero, List.append_assoc, List.cons_append, List.nil_append] at Rb
                                    have Rc := Rb.wipe l83 vs1
                                    rw [ew1, er1] at Rc
                                    simpa using Rc
                        · have ej : j = es.length := by omega
                          rw [ej, List.drop_length] at e6
                          cases e6
                          rw [List.append_nil] at ey6
                          refine .inl ⟨stop1 ej, M6, acc1, rest2, s1.trans (s2.trans (s4.trans (s5.trans s6))), ?_, rfl, by rw [ey, ← ey6, List.append_assoc]⟩
                          have := R6.wipe lw1 vs
                          rw [wipe_sub hvv, wipeO_sub hvv, ew, er] at this
                          exact this
          · have ei : i = ds.length := by omega
            rw [ei, List.drop_length] at e1
            cases e1
            rw [List.append_nil] at ey
            subst ey
            exact .inl ⟨stop ei, k M1 H _ (s0.trans s1) (R0.unwipe l hw s1 R1)⟩
        · rw [if_neg hz] at e; cases e
  · rw [if_neg hw] at e; cases e
end
/-- what is told of a block's parts -/
abbrev BlkT (X : Cx) (scope : Scope) (T : Cx → Prop) : Prop := ∀ (s : Shared) (H : Hp) (C : Addr) (cl : List (Str × Addr)) (fp : List Addr), T (X.blk s H scope (compEnvC scope cl C X.env) fp)
section
variable {X : Cx} {W : WX} {J : List Nat} {pos spos py : Pos} {tg iter tg1 iter1 elt : Expr} {ifs ifs1 : List Expr} {scope : Scope} {fi fi1 : Ev → Option (List D)} {is is1 : List Nat} {g g1 : D → Ev → Option Ev} {t t1 : Ev → Option Bool} {f : Ev → Option D}
theorem oLc2 (own : List (Str × Nat)) (vs1 : List Nat) (hc : X.calm = true) (hN : X.N.Nodup) (hi : PI X tg iter (tI X.K [] fi)) (bo : BlkOk X.N X.env.scope scope own)
    (hg : BlkT X scope fun Y => PG Y tg (tG X.K is g)) (ht : BlkT X scope fun Y => PTs Y ifs (tT X.K t)) (hi1 : BlkT X scope fun Y => PI Y tg1 iter1 (tI X.K [] fi1)) (hg1 : BlkT X scope fun Y => PG Y tg1 (tG X.K is1 g1)) (ht1 : BlkT X scope fun Y => PTs Y ifs1 (tT X.K t1))
    (he : BlkT X scope fun Y => PE Y elt (tP X.K f)) (ok : TgOk is g) (ok1 : TgOk is1 g1) (hv : ∀ i ∈ is, i ∈ own.map (·.2) := by decide) (hv1 : ∀ i ∈ is1, i ∈ vs1 := by decide) (hvv : ∀ i ∈ vs1, i ∈ own.map (·.2) := by decide)
    (hs : ∀ x, foldedSetIterable iter X.env x = pure x := by intro _; rfl) (hs1 : ∀ env x, foldedSetIterable iter1 env x = pure x := by intro _ _; rfl) :
    PE X (.ListComp elt [⟨tg, iter, ifs, 0⟩, ⟨tg1, iter1, ifs1, 0⟩] scope pos) (tO X.K (lcO2 fi g t fi1 g1 t1 f (own.map (·.2)) vs1)) := PE.imp (pe_lc2 hc hN hi bo hvv hg ht hi1 hg1 ht1 he hs hs1) fun _ _ _ h => lc2_of ok ok1 hv hv1 hvv h
theorem pLc2 (own : List (Str × Nat)) (vs1 : List Nat) (hc : X.calm = true) (hN : X.N.Nodup) (hi : PI X tg iter (tI X.K [] fi)) (bo : BlkOk X.N X.env.scope scope own)
    (hg : BlkT X scope fun Y => PG Y tg (tG X.K is g)) (ht : BlkT X scope fun Y => PTs Y ifs (tT X.K t)) (hi1 : BlkT X scope fun Y => PI Y tg1 iter1 (tI X.K [] fi1)) (hg1 : BlkT X scope fun Y => PG Y tg1 (tG X.K is1 g1)) (ht1 : BlkT X scope fun Y => PTs Y ifs1 (tT X.K t1))
    (he : BlkT X scope fun Y => PE Y elt (tP X.K f)) (ok : TgOk is g) (ok1 : TgOk is1 g1) (hv : ∀ i ∈ is, i ∈ own.map (·.2) := by decide) (hv1 : ∀ i ∈ is1, i ∈ vs1 := by decide) (hvv : ∀ i ∈ vs1, i ∈ own.map (·.2) := by decide)
    (hs : ∀ x, foldedSetIterable iter X.env x = pure x := by intro _; rfl) (hs1 : ∀ env x, foldedSetIterable iter1 env x = pure x := by intro _ _; rfl) :
    PE X (.ListComp elt [⟨tg, iter, ifs, 0⟩, ⟨tg1, iter1, ifs1, 0⟩] scope pos) (tP X.K (lcD2 fi g t fi1 g1 t1 f (own.map (·.2)) vs1)) := by
  have h := pO (oLc2 (pos := pos) own vs1 hc hN hi bo hg ht hi1 hg1 ht1 he ok ok1 hv hv1 hvv hs hs1)
  rw [show frz (lcO2 fi g t fi1 g1 t1 f (own.map (·.2)) vs1) = lcD2 fi g t fi1 g1 t1 f (own.map (·.2)) vs1 from funext fun ρ => lcD2_eq ρ] at h
  exact h
theorem sLc2 {i : Nat} {y : Str} (own : List (Str × Nat)) (vs1 : List Nat) (hc : X.calm = true) (hN : X.N.Nodup) (hi : PI X tg iter (tI X.K [] fi)) (bo : BlkOk X.N X.env.scope scope own)
    (hg : BlkT X scope fun Y => PG Y tg (tG X.K is g)) (ht : BlkT X scope fun Y => PTs Y ifs (tT X.K t)) (hi1 : BlkT X scope fun Y => PI Y tg1 iter1 (tI X.K [] fi1)) (hg1 : BlkT X scope fun Y => PG Y tg1 (tG X.K is1 g1)) (ht1 : BlkT X scope fun Y => PTs Y ifs1 (tT X.K t1))
    (he : BlkT X scope fun Y => PE Y elt (tP X.K f)) (ok : TgOk is g) (ok1 : TgOk is1 g1) (hJ : i ∉ J := by decide) (hy : X.N[i]? = some y := by rfl) (hyl : X.env.scope.names.lookup y = some .local := by rfl)
    (hsw : swapsWith (.ListComp elt [⟨tg, iter, ifs, 0⟩, ⟨tg1, iter1, ifs1, 0⟩] scope pos) (some (.Name y py)) spos.line X.env = pure true := by exact sw_true rfl rfl rfl (by decide +kernel))
    (hv : ∀ i ∈ is, i ∈ own.map (·.2) := by decide) (hv1 : ∀ i ∈ is1, i ∈ vs1 := by decide) (hvv : ∀ i ∈ vs1, i ∈ own.map (·.2) := by decide)
    (hs : ∀ x, foldedSetIterable iter X.env x = pure x := by intro _; rfl) (hs1 : ∀ env x, foldedSetIterable iter1 env x = pure x := by intro _ _; rfl) :
    PS X (.Assign [.Name y py] (.ListComp elt [⟨tg, iter, ifs, 0⟩, ⟨tg1, iter1, ifs1, 0⟩] scope pos) spos) (tS X.K W J (stO i (lcO2 fi g t fi1 g1 t1 f (own.map (·.2)) vs1))) :=
  sAsgO (PS.imp (ps_setLc2 (i := i) hc hN hy hyl hsw hi bo hvv hg ht hi1 hg1 ht1 he hs hs1) fun E σ H h => lc2_of ok ok1 hv hv1 hvv h) hJ
theorem sLc2D {i : Nat} {y : Str} (own : List (Str × Nat)) (vs1 : List Nat) (hc : X.calm = true) (hN : X.N.Nodup) (hi : PI X tg iter (tI X.K [] fi)) (bo : BlkOk X.N X.env.scope scope own)
    (hg : BlkT X scope fun Y => PG Y tg (tG X.K is g)) (ht : BlkT X scope fun Y => PTs Y ifs (tT X.K t)) (hi1 : BlkT X scope fun Y => PI Y tg1 iter1 (tI X.K [] fi1)) (hg1 : BlkT X scope fun Y => PG Y tg1 (tG X.K is1 g1)) (ht1 : BlkT X scope fun Y => PTs Y ifs1 (tT X.K t1))
    (he : BlkT X scope fun Y => PE Y elt (tP X.K f)) (ok : TgOk is g) (ok1 : TgOk is1 g1) (hJ : i ∉ J := by decide) (hy : X.N[i]? = some y := by rfl) (hyl : X.env.scope.names.lookup y = some .local := by rfl)
    (hsw : swapsWith (.ListComp elt [⟨tg, iter, ifs, 0⟩, ⟨tg1, iter1, ifs1, 0⟩] scope pos) (some (.Name y py)) spos.line X.env = pure true := by exact sw_true rfl rfl rfl (by decide +kernel))
    (hv : ∀ i ∈ is, i ∈ own.map (·.2) := by decide) (hv1 : ∀ i ∈ is1, i ∈ vs1 := by decide) (hvv : ∀ i ∈ vs1, i ∈ own.map (·.2) := by decide)
    (hs : ∀ x, foldedSetIterable iter X.env x = pure x := by intro _; rfl) (hs1 : ∀ env x, foldedSetIterable iter1 env x = pure x := by intro _ _; rfl) :
    PS X (.Assign [.Name y py] (.ListComp elt [⟨tg, iter, ifs, 0⟩, ⟨tg1, iter1, ifs1, 0⟩] scope pos) spos) (tS X.K W J (stV i (lcD2 fi g t fi1 g1 t1 f (own.map (·.2)) vs1))) := by
  have h := PS.imp (PS.imp (ps_setLc2 (i := i) (py := py) (pos := pos) (spos := spos) hc hN hy hyl hsw hi bo hvv hg ht hi1 hg1 ht1 he hs hs1) fun E σ H h => lc2_of (f := f) (Q := fun x H1 => gName i x σ H1 E.nx) ok ok1 hv hv1 hvv h) fun E σ H (h : tS X.K W J (stV i (frz (lcO2 fi g t fi1 g1 t1 f (own.map (·.2)) vs1))) E σ H) => setD_of hJ h
  rw [show frz (lcO2 fi g t fi1 g1 t1 f (own.map (·.2)) vs1) = lcD2 fi g t fi1 g1 t1 f (own.map (·.2)) vs1 from funext fun ρ => lcD2_eq ρ] at h
  exact h
/-! ### the truth of data -/
def truB (f : Ev → Option D) (ρ : Ev) : Option Bool := match f ρ with
  | some .non => some false
  | some (.bl b) => some b
  | some (.int i) => some (i != 0)
  | some (.lst ds) => some (!ds.isEmpty)
  | some (.tup ds) => some (!ds.isEmpty)
  | _ => none
theorem isEmpty_dvs {K : PySem.W.Frag} {M : Hp} {vs : List V} {ds : List D} (h : Dvs K M vs ds) : vs.isEmpty = ds.isEmpty := by cases h <;> rfl
theorem tTru {e : Expr} (h : PE X e (tP X.K f)) (he : ∀ whole, isTrue e X.env whole = (do let v ← whole; standAt e.pos; holding [v] (truthy v)) := by intro _; rfl) : PT X e (tT X.K (truB f)) := PT.imp (pt_truth h he) fun σ H Q ⟨M, ρ, fo, fv, b, R, l, e, k⟩ => by
  unfold truB at e
  split at e
  · rename_i q
    cases e
    exact ⟨M, ρ, fo, fv, _, R, l, q, fun M1 H1 v s1 R1 dv => by cases dv; exact ⟨false, rfl, k M1 H1 s1 R1⟩⟩
  · rename_i b' q
    cases e
    exact ⟨M, ρ, fo, fv, _, R, l, q, fun M1 H1 v s1 R1 dv => by cases dv; exact ⟨b, rfl, k M1 H1 s1 R1⟩⟩
  · rename_i i q
    cases e
    exact ⟨M, ρ, fo, fv, _, R, l, q, fun M1 H1 v s1 R1 dv => by cases dv; exact ⟨_, rfl, k M1 H1 s1 R1⟩⟩
  · rename_i ds q
    cases e
    exact ⟨M, ρ, fo, fv, _, R, l, q, fun M1 H1 v s1 R1 dv => by
      cases dv with
      | lst hs hd => exact ⟨_, .inl ⟨_, seqX R1.same hs, by rw [isEmpty_dvs hd]⟩, k M1 H1 s1 R1⟩⟩
  · rename_i ds q
    cases e
    exact ⟨M, ρ, fo, fv, _, R, l, q, fun M1 H1 v s1 R1 dv => by
      cases dv with
      | tup hs hd => exact ⟨_, .inr (.inl ⟨_, sqT_same R1.same hs, by rw [isEmpty_dvs hd]⟩), k M1 H1 s1 R1⟩⟩
  · cases e
end
end PD

namespace PD
open PySem PySem.Spec PyProof.Rows L2
/-! ### calls of a def whose first argument knows since when things are new -/
def tag0 (M0 : Hp) : List D → List D
  | d :: ds => .tagM M0 d :: ds
  | [] => []
abbrev newLs (M0 : Hp) (Ls : List (List Int)) : O := .lst (Ls.map fun L => .dat (newD M0 L))
/-- what the def gives, whatever is frozen: lists of ints, all new -/
def GivesNew (m : List D → Option O) (n : Nat) (ds : List D) (Ls : List (List Int)) : Prop := ds.length = n ∧ ∀ M0, m (tag0 M0 ds) = some (newLs M0 Ls)
open Classical in
noncomputable def cN (ga : Ev → Option (List D)) (n : Nat) (m : List D → Option O) (ρ : Ev) : Option O := (ga ρ).bind fun ds => if h : ∃ Ls, GivesNew m n ds Ls ∧ Ls.Nodup then some (.lst (h.choose.map inL)) else none
open Classical in
/-- the same, frozen -/
noncomputable def cNF (ga : Ev → Option (List D)) (n : Nat) (m : List D → Option O) (ρ : Ev) : Option D := (ga ρ).bind fun ds => if h : ∃ Ls, GivesNew m n ds Ls then some (.lst (h.choose.map fun L => .lst (L.map .int))) else none
theorem map_int_inj : ∀ {a b : List Int}, a.map D.int = b.map D.int → a = b
  | [], [], _ => rfl
  | x :: a, y :: b, h => by
    simp only [List.map_cons, List.cons.injEq] at h
    obtain ⟨h1, h2⟩ := h
    cases h1
    rw [map_int_inj h2]
  | [], _ :: _, h => nomatch h
  | _ :: _, [], h => nomatch h
theorem newLs_inj {M0 : Hp} : ∀ {Ls Ks : List (List Int)}, newLs M0 Ls = newLs M0 Ks → Ls = Ks := fun {Ls Ks} h => by
  have h := O.lst.inj h
  induction Ls generalizing Ks with
  | nil => cases Ks with
    | nil => rfl
    | cons _ _ => cases h
  | cons L Ls ih => cases Ks with
    | nil => cases h
    | cons K Ks =>
      simp only [List.map_cons, List.cons.injEq] at h
      obtain ⟨h1, h2⟩ := h
      have h3 := D.tagP.inj (O.dat.inj h1)
      rw [map_int_inj (D.lst.inj h3.2), ih (congrArg O.lst h2) h2]
theorem cN_of {ga : Ev → Option (List D)} {n : Nat} {m : List D → Option O} {ρ : Ev} {ds : List D} {Ls : List (List Int)} (e : ga ρ = some ds) (h : GivesNew m n ds Ls) (nd : Ls.Nodup) : cN ga n m ρ = some (.lst (Ls.map inL)) := by
  unfold cN
  rw [e, Option.bind_some]
  have hx : ∃ Ls, GivesNew m n ds Ls ∧ Ls.Nodup := ⟨Ls, h, nd⟩
  rw [dif_pos hx]
  have h2 := hx.choose_spec.1.2 (fun _ => none)
  rw [h.2 (fun _ => none)] at h2
  rw [← newLs_inj (Option.some.inj h2)]
theorem cNF_of {ga : Ev → Option (List D)} {n : Nat} {m : List D → Option O} {ρ : Ev} {ds : List D} {Ls : List (List Int)} (e : ga ρ = some ds) (h : GivesNew m n ds Ls) : cNF ga n m ρ = some (.lst (Ls.map fun L => .lst (L.map .int))) := by
  unfold cNF
  rw [e, Option.bind_some]
  have hx : ∃ Ls, GivesNew m n ds Ls := ⟨Ls, h⟩
  rw [dif_pos hx]
  have h2 := hx.choose_spec.2 (fun _ => none)
  rw [h.2 (fun _ => none)] at h2
  rw [← newLs_inj (Option.some.inj h2)]
theorem dvs_tag0 {K : PySem.W.Frag} {M : Hp} : ∀ {vs : List V} {ds : List D}, Dvs K M vs ds → Dvs K M vs (tag0 M ds)
  | _, _, .nil => .nil
  | _, _, .cons h hs => .cons (.tagM (fun _ e => e) h) hs
theorem tag0_len {M0 : Hp} : ∀ {ds : List D}, (tag0 M0 ds).length = ds.length
  | [] => rfl
  | _ :: _ => rfl
/-- what is one's own, told as it stands -/
def raws (H : Hp) (fp : List Addr) : List O := fp.map fun a => .raw ((H a).getD (.lst []))
def rawv (fp : List Addr) : List (Option V) := fp.map fun a => some (.ref a)
theorem ows_raws {K : PySem.W.Frag} {M H : Hp} : ∀ {fp : List Addr}, (∀ a ∈ fp, ∃ u, H a = some u ∧ MutO u) → Ows K M H (raws H fp) (rawv fp) fp
  | [], _ => .nil
  | a :: fp, h => by
    obtain ⟨u, e, m⟩ := h a List.mem_cons_self
    have t := ows_raws (K := K) (M := M) (fp := fp) fun b hb => h b (List.mem_cons_of_mem _ hb)
    have c : Ow K M H (.raw ((H a).getD (.lst []))) (some (.ref a)) [a] := by rw [e]; exact .raw e m
    exact .cons c t
theorem raws_back {K : PySem.W.Frag} {M M' H H' : Hp} : ∀ {fp g : List Addr}, (∀ a ∈ fp, ∃ u, H a = some u ∧ MutO u) → Ows K M' H' (raws H fp) (rawv fp) g → g = fp ∧ ∀ a ∈ fp, H' a = H a
  | [], _, _, .nil => ⟨rfl, fun _ h => nomatch h⟩
  | a :: fp, _, h, .cons c t => by
    obtain ⟨u, e, m⟩ := h a List.mem_cons_self
    obtain ⟨e1, e2⟩ := raws_back (K := K) (M := M) (M' := M') (fp := fp) (fun b hb => h b (List.mem_cons_of_mem _ hb)) t
    have c : Ow K M' H' (.raw ((H a).getD (.lst []))) (some (.ref a)) _ := c
    rw [e] at c
    cases c with
    | raw q _ =>
      subst e1
      refine ⟨rfl, fun b hb => ?_⟩
      rcases List.mem_cons.mp hb with rfl | hb
      · rw [q, e]; rfl
      · exact e2 b hb
/-- new lists of ints, owned -/
theorem own_new {K : PySem.W.Frag} {M1 M2 M H : Hp} (s2 : Same M2 H) : ∀ {Ls : List (List Int)} {xs : List V} {fp : List Addr}, Ows K M2 H (Ls.map fun L => .dat (newD M1 L)) (xs.map some) fp → Ls.Nodup →
    ∃ g, Ows K M H (Ls.map inL) (xs.map some) g ∧ g.Nodup ∧ ∀ a ∈ g, M1 a = none ∧ ∃ L ∈ Ls, M2 a = some (.lst (L.map .int))
  | [], [], _, _, _ => ⟨[], .nil, List.nodup_nil, fun _ h => nomatch h⟩
  | L :: Ls, x :: xs, _, h, nd => by
    rw [List.map_cons, List.map_cons] at h
    rw [List.nodup_cons] at nd
    cases h with
    | cons h hs =>
      obtain ⟨g, w, n1, n2⟩ := own_new s2 hs nd.2
      cases h with
      | dat hd =>
        have hd : Dv K M2 x (.tagP (newL M1 L) (.lst (L.map .int))) := hd
        cases hd with
        | tagP hP _ =>
          obtain ⟨a, rfl, ha, hM⟩ := hP M2 fun _ _ e => e
          have c : Ow K M H (inL L) (some (.ref a)) [a] := by
            have t : ∀ L : List Int, Ows K M H ((L.map D.int).map .dat) ((L.map V.int).map some) [] := fun L => by
              induction L with
              | nil => exact .nil
              | cons i L ih => exact .cons (f1 := []) (.dat (.int i)) ih
            exact .lst (s2 _ _ hM) (t L)
          refine ⟨a :: g, .cons c w, List.nodup_cons.mpr ⟨fun z => ?_, n1⟩, fun b hb => ?_⟩
          · obtain ⟨_, L', hL, e⟩ := n2 a z
            rw [hM] at e
            have e : L.map V.int = L'.map V.int := HO.lst.inj (Option.some.inj e)
            have : L = L' := by
              have inj : ∀ {a b : List Int}, a.map V.int = b.map V.int → a = b := fun {a} => by
                induction a with
                | nil => intro b h; cases b with
                  | nil => rfl
                  | cons _ _ => cases h
                | cons x a ih => intro b h; cases b with
                  | nil => cases h
                  | cons y b =>
                    simp only [List.map_cons, List.cons.injEq] at h
                    obtain ⟨h1, h2⟩ := h
                    cases h1
                    rw [ih h2]
              exact inj e
            exact nd.1 (this ▸ hL)
          · rcases List.mem_cons.mp hb with rfl | hb
            · exact ⟨ha, L, List.mem_cons_self, hM⟩
            · obtain ⟨h1, L', hL, e⟩ := n2 b hb
              exact ⟨h1, L', List.mem_cons_of_mem _ hL, e⟩
  | [], _ :: _, _, h, _ => nomatch h
  | _ :: _, [], _, h, _ => nomatch h
section
variable {X : Cx} {W : WX} {J : List Nat} {pos p : Pos} {e : Expr} {es : List Expr} {ga : Ev → Option (List D)} {k : Nat} {f : Addr} {fd : FuncData} {ps : List Str} {x : Str} {n : Nat}
/-- the promise of such a def, as what it gives -/
theorem sp_new {K : PySem.W.Frag} {m : List D → Option O} {n : Nat} {σ : L2.St} {H : Hp} {Q : VK} (h : tO K (cN ga n m) σ H Q) : tCall (spO K n m) [] E0 (tAr K ga) σ H Q := by
  obtain ⟨M, ρ, fo, fv, o, R, l, e, kk⟩ := h
  unfold cN at e
  cases q : ga ρ with
  | none => rw [q] at e; cases e
  | some ds =>
    rw [q, Option.bind_some] at e
    split at e
    · rename_i hx
      cases e
      obtain ⟨⟨hn, hm⟩, nd⟩ := hx.choose_spec
      generalize hx.choose = Ls at *
      refine ⟨M, ρ, fo, fv, ds, R, l, q, fun M1 H1 vs s1 R1 d1 => ?_⟩
      obtain ⟨sm, fp, w, nf, nm⟩ := R1
      have mu : ∀ a ∈ fp, ∃ u, H1 a = some u ∧ MutO u := w.muts
      have Rr : Rep K M1 H1 (raws H1 fp) (rawv fp) := ⟨sm, fp, ows_raws mu, nf, nm⟩
      refine ⟨by rw [List.append_nil, d1.length]; exact hn, M1, _, _, tag0 M1 ds, newLs M1 Ls, Rr, by rw [List.append_nil]; exact dvs_tag0 d1, hm M1, fun M2 H2 v s2 R2 => ?_⟩
      obtain ⟨sm2, fp2, w2, nf2, nm2⟩ := R2
      cases w2 with
      | @cons _ _ f1 _ _ f2 c t =>
        obtain ⟨ef2, hk⟩ := raws_back (M := M1) mu t
        have ef2 := ef2.symm
        subst ef2
        cases c with
        | @lst a xs _ fp3 ha ws =>
          obtain ⟨g, w3, ng, hg⟩ := own_new (M := M1) sm2 ws nd
          -- what is told of all addresses
          have gM2 : ∀ b ∈ g, M2 b ≠ none := fun b hb z => by
            obtain ⟨_, L, _, e⟩ := hg b hb
            rw [z] at e; cases e
          have f2M : ∀ b ∈ fp, M2 b = none := fun b hb => nm2 b (List.mem_append_right _ hb)
          have aM : M2 a = none := nm2 a (by simp)
          have an : a ∉ fp := fun z => by
            rw [List.nodup_append] at nf2
            exact nf2.2.2 a (by simp) a z rfl
          have ag : a ∉ g := fun z => gM2 a z aM
          have gf : ∀ b ∈ g, b ∉ fp := fun b hb z => gM2 b hb (f2M b z)
          have w' : Ows K M1 H2 (ρ ++ fo) (σ ++ fv) fp := w.frame (Same.refl _) hk
          obtain ⟨fa, fb, e1, wa, wb⟩ := w'.split l
          subst e1
          refine kk M1 H2 _ s1 ⟨fun b y q => sm2 b y (s2 b y q), fa ++ ((a :: g) ++ fb), wa.append (.cons (.lst ha w3) wb), ?_, fun b hb => ?_⟩
          · rw [List.nodup_append] at nf ⊢
            obtain ⟨n1, n2, n3⟩ := nf
            refine ⟨n1, ?_, fun b hb c hc => ?_⟩
            · rw [List.nodup_append]
              refine ⟨List.nodup_cons.mpr ⟨ag, ng⟩, n2, fun b hb c hc z => ?_⟩
              subst z
              rcases List.mem_cons.mp hb with rfl | hb
              · exact an (List.mem_append_right _ hc)
              · exact gf b hb (List.mem_append_right _ hc)
            · intro z
              subst z
              rcases List.mem_append.mp hc with hc | hc
              · rcases List.mem_cons.mp hc with rfl | hc
                · exact an (List.mem_append_left _ hb)
                · exact gf b hc (List.mem_append_left _ hb)
              · exact n3 b hb b hc rfl
          · rcases List.mem_append.mp hb with hb | hb
            · exact nm b (List.mem_append_left _ hb)
            · rcases List.mem_append.mp hb with hb | hb
              · rcases List.mem_cons.mp hb with rfl | hb
                · cases z : M1 b with
                  | none => rfl
                  | some y => rw [s2 _ _ z] at aM; cases aM
                · exact (hg b hb).1
              · exact nm b (List.mem_append_right _ hb)
    · cases e
theorem newLs_toDs {M0 : Hp} : ∀ Ls : List (List Int), O.toDs (Ls.map fun L => .dat (newD M0 L)) = some (Ls.map (newD M0))
  | [] => rfl
  | L :: Ls => by
    show (match O.toD (.dat (newD M0 L)), O.toDs (Ls.map fun L => .dat (newD M0 L)) with | some d, some ds => some (d :: ds) | _, _ => none) = _
    rw [newLs_toDs Ls]; rfl
theorem unt_int (L : List Int) : unts (L.map D.int) = L.map .int := by
  induction L with
  | nil => rfl
  | cons i L ih => show unt (.int i) :: unts (L.map D.int) = _; rw [ih]; rfl
theorem unts_new {M0 : Hp} : ∀ Ls : List (List Int), unts (Ls.map (newD M0)) = Ls.map fun L => .lst (L.map .int)
  | [] => rfl
  | L :: Ls => by
    show unt (newD M0 L) :: unts (Ls.map (newD M0)) = _
    rw [unts_new Ls]
    show D.lst (unts (L.map .int)) :: _ = _
    rw [unt_int]; rfl
theorem sp_newF {K : PySem.W.Frag} {m : List D → Option O} {n : Nat} {σ : L2.St} {H : Hp} {Q : VK} (h : tP K (cNF ga n m) σ H Q) : tCall (spO K n m) [] E0 (tAr K ga) σ H Q := by
  obtain ⟨M, ρ, fo, fv, o, R, l, e, kk⟩ := h
  unfold cNF at e
  cases q : ga ρ with
  | none => rw [q] at e; cases e
  | some ds =>
    rw [q, Option.bind_some] at e
    split at e
    · rename_i hx
      cases e
      obtain ⟨hn, hm⟩ := hx.choose_spec
      generalize hx.choose = Ls at *
      refine ⟨M, ρ, fo, fv, ds, R, l, q, fun M1 H1 vs s1 R1 d1 => ?_⟩
      refine ⟨by rw [List.append_nil, d1.length]; exact hn, M1, ρ ++ fo, σ ++ fv, tag0 M1 ds, newLs M1 Ls, R1, by rw [List.append_nil]; exact dvs_tag0 d1, hm M1, fun M2 H2 v s2 R2 => ?_⟩
      have ht : O.toD (newLs M1 Ls) = some (.lst (Ls.map (newD M1))) := by
        show (O.toDs (Ls.map fun L => .dat (newD M1 L))).map D.lst = _
        rw [newLs_toDs]; rfl
      obtain ⟨M3, s3, R3, d3⟩ := Rep.frz (l := []) (lv := []) R2 rfl rfl ht
      have d4 := d3.unt
      have e4 : unt (.lst (Ls.map (newD M1))) = .lst (Ls.map fun L => .lst (L.map .int)) := by
        show D.lst (unts _) = _
        rw [unts_new]
      rw [e4] at d4
      exact kk M3 H2 v (s1.trans (s2.trans s3)) (Rep.drop (l := []) (lv := []) R3 rfl) d4
    · cases e
theorem oCallN {m : List D → Option O} (F : FnOk X.prog X.w X.K X.mg X.base CX0 k f fd ps (spO X.K n m)) (hr : Room k X.A) (hm : X.mg x = some (.ref f)) (hk : PySem.W.keepIn X.K (.ref f) = true) (hb : Binds X.K fd ps []) (ha : PA X (e :: es) (tAr X.K ga)) (hg : Gl X x := by rfl)
    (hdb : (x == ("__debug__" : Str)) = false := by decide) (he : starEach (e :: es) X.env = (false, eval e X.env) :: starEach es X.env := by rfl) (hpl : (backTo pos (starEach es X.env)).any (·.1) = false := by rfl) : PE X (.Call (.Name x p) (e :: es) [] pos) (tO X.K (cN ga n m)) :=
  PE.imp (pe_call (E := E0) F hr hg hm hk hb .nil pass0 ha hdb he hpl) fun _ _ _ h => sp_new h
theorem pCallN {m : List D → Option O} (F : FnOk X.prog X.w X.K X.mg X.base CX0 k f fd ps (spO X.K n m)) (hr : Room k X.A) (hm : X.mg x = some (.ref f)) (hk : PySem.W.keepIn X.K (.ref f) = true) (hb : Binds X.K fd ps []) (ha : PA X (e :: es) (tAr X.K ga)) (hg : Gl X x := by rfl)
    (hdb : (x == ("__debug__" : Str)) = false := by decide) (he : starEach (e :: es) X.env = (false, eval e X.env) :: starEach es X.env := by rfl) (hpl : (backTo pos (starEach es X.env)).any (·.1) = false := by rfl) : PE X (.Call (.Name x p) (e :: es) [] pos) (tP X.K (cNF ga n m)) :=
  PE.imp (pe_call (E := E0) F hr hg hm hk hb .nil pass0 ha hdb he hpl) fun _ _ _ h => sp_newF h
theorem pCallNK {m : List D → Option O} {ks : List Str} {kws : List Keyword} {g : List Value → List Value → List Value} (F : FnOk X.prog X.w X.K X.mg X.base CX0 k f fd ps (spO X.K n m)) (hr : Room k X.A) (hm : X.mg x = some (.ref f)) (hk : PySem.W.keepIn X.K (.ref f) = true) (hb : KBn X.K fd ps 0 ks g (fun vs zs => vs ++ zs)) (hn : ks.length = n)
    (hkw : PK X kws (tAr X.K ga)) (hg : Gl X x := by rfl) (hall : (backToKw pos (keywordEach kws X.env)).all (·.1.isSome) = true := by rfl) (hks : (backToKw pos (keywordEach kws X.env)).filterMap (·.1) = ks := by rfl)
    (hdb : (x == ("__debug__" : Str)) = false := by decide)
    (hpl : ((backTo pos (starEach [] X.env)).any (·.1) || (backToKw pos (keywordEach kws X.env)).any (·.1.isNone)) = false := by rfl) :
    PE X (.Call (.Name x p) [] kws pos) (tP X.K (cNF ga n m)) := PE.imp (pe_callN0 F hr hg hm hk hb pass0 hkw hall hks hdb hpl) fun σ H Q h => by
  have hd : ∃ M ρ fo fv ds, Rep X.K M H (ρ ++ fo) (σ ++ fv) ∧ σ.length = ρ.length ∧ ga ρ = some ds ∧ ds.length = n := by
    obtain ⟨M, ρ, fo, fv, o, R, l, e, kk⟩ := h
    unfold cNF at e
    cases q : ga ρ with
    | none => rw [q] at e; cases e
    | some ds =>
      rw [q, Option.bind_some] at e
      split at e
      · rename_i hx
        exact ⟨M, ρ, fo, fv, ds, R, l, q, hx.choose_spec.1⟩
      · cases e
  have h := sp_newF h
  obtain ⟨M, ρ, fo, fv, ds, R, l, e, kk⟩ := h
  refine ⟨M, ρ, fo, fv, ds, R, l, e, fun M1 H1 vs s1 R1 d1 => ?_⟩
  have z := kk M1 H1 vs s1 R1 d1
  have z : spO X.K n m (vs ++ []) H1 Q E0 := z
  rw [List.append_nil] at z
  exact ⟨by rw [z.1, hn], z⟩
end
end PD

namespace PD
open PySem PySem.Spec PyProof.Rows L2
/-! ### for x in t: x.append(e) -- t an own list of own lists -/
def isLs : O → Bool
  | .lst os => decide (os.length < sizeLine)
  | _ => false
def appAll (j i : Nat) (y : O) (ρ : Ev) : Option Fl := match ρ[i]? with
  | some (.lst os) => if j < ρ.length ∧ os.all isLs = true then some (.nx ((ρ.set j .unk).set i (.lst (os.map (grow y))))) else none
  | _ => none
section
variable {X : Cx} {W : WX} {J : List Nat} {epos fpos apos cpos p0 pt px : Pos} {e : Expr} {i j : Nat} {f : Ev → Option O} {y : O}
theorem sForAppO {x t : Str} (hp : PassesOwn (model X.prog X.w) X.A X.env X.xe) (hc : X.calm = true) (hN : X.N.Nodup) (ht : PE X (.Name t pt) (tVar i)) (hv : PE X (.Name x px) (tVar j)) (he : PE X e (tO X.K f))
    (hf : ∀ ρ, f ρ = some y) (him : immO y = true)
    (hij : i ≠ j := by decide) (hJ : j ∉ J := by decide) (hi : X.N[j]? = some x := by rfl) (hx : Loc X.env.scope x := by first | exact Or.inl rfl | exact Or.inr rfl)
    (hfn : X.fn x = true ∨ X.env.scope.names.lookup x = some .local := by first | exact .inl rfl | exact .inr rfl)
    (hbase : attributeBase (.Name x px) "append" X.env (eval (.Name x px) X.env) = eval (.Name x px) X.env := by rfl)
    (hfew : ((backTo cpos (starEach [e] X.env)).all (fun x => !x.1) && (backToKw cpos (keywordEach [] X.env)).all (fun x => x.1.isSome)
      && decide ([e].length + ([] : List Keyword).length + (if ([] : List Keyword).isEmpty then 0 else 1) < 30)) = true := by rfl)
    (hline : (apos.endLine == cpos.line) = true := by rfl) (hs : starEach [e] X.env = (false, eval e X.env) :: starEach [] X.env := by rfl) (hplain : (backTo cpos (starEach [] X.env)).any (·.1) = false := by rfl)
    (hsw : swapsWith (.Call (.Attribute (.Name x px) "append" apos) [e] [] cpos) none epos.line X.env = pure false := by rfl)
    (hfs : ∀ z, foldedSetIterable (.Name t pt) X.env z = pure z := by intro _; rfl) :
    PS X (.For (.Name x p0) (.Name t pt) [.Expr (.Call (.Attribute (.Name x px) "append" apos) [e] [] cpos) epos] [] fpos) (tS X.K W J (appAll j i y)) :=
  PS.imp (ps_for hp hc (pi_list ht) (pg_name hN hi hx hfn) (pss_one (ps_expr (pe_bm PySem.F.plainAttrs_list PySem.F.slot_list_append PySem.F.type_list_append mt_append hv (pa_cons he pa_nil hs) hbase hfew hline hs hplain) hsw)) hfs) fun E σ H ⟨M, ρ, fo, fv, r, σ0, R, l, e, k⟩ => by
    unfold appAll at e
    have hset : σ.set j (σ.getD j none) = σ := by
      refine List.ext_getElem? fun n => ?_
      rw [List.getElem?_set]
      by_cases q : j = n
      · subst q
        by_cases hl : j < σ.length
        · rw [if_pos rfl, if_pos hl, List.getD_eq_getElem?_getD, List.getElem?_eq_getElem hl]; rfl
        · rw [if_pos rfl, if_neg hl, List.getElem?_eq_none (by omega)]
      · rw [if_neg q]
    split at e
    · rename_i os eo
      split at e
      · rename_i hcond
        obtain ⟨hj, hall⟩ := hcond
        cases e
        -- the list as it stands, from what is told of it
        have at_ : ∀ {M1 H1 : Hp} {ρ1 fo1 : List O} {σ1 fv1 : List (Option V)} {os1 : List O}, Rep X.K M1 H1 (ρ1 ++ fo1) (σ1 ++ fv1) → σ1.length = ρ1.length → ρ1[i]? = some (.lst os1) → ∃ a xs, σ1[i]? = some (some (.ref a)) ∧ H1 a = some (.lst xs) ∧ xs.length = os1.length := fun {M1 H1 ρ1 fo1 σ1 fv1 os1} R1 l1 e1 => by
          have R1' : Rep X.K M1 H1 (ρ1 ++ ([] ++ fo1)) (σ1 ++ ([] ++ fv1)) := R1
          obtain ⟨v, f1, ft, ev, h1, _, _, _, _⟩ := R1'.own l1 rfl e1
          cases h1 with
          | @lst a xs _ fp ha ws => exact ⟨a, xs, ev, ha, by simpa using ws.length⟩
        obtain ⟨a, xs0, ev, ha0, hl0⟩ := at_ R l.1 eo
        have hil : i < ρ.length := (List.getElem?_eq_some_iff.mp eo).1
        have hjl : j < σ.length := by rw [l.1]; exact hj
        refine ⟨.ref a, ev, a, rfl, ⟨xs0, .inl (.inl ha0)⟩, ?_⟩
        refine ⟨fun n m σ' H' => m = os.length - n ∧ n ≤ os.length ∧ ∃ M1, Same M M1 ∧ Rep X.K M1 H' ((ρ.set j .unk).set i (.lst (partG y os n)) ++ fo) (σ' ++ fv) ∧ Lk J σ0 σ' ((ρ.set j .unk).set i (.lst (partG y os n))) ∧ σ'[i]? = some (some (.ref a)), ⟨os.length, rfl, Nat.zero_le _, M, Same.refl _, ?_, ?_, ev⟩, ?_⟩
        · have R2 := R.setU (i := j) l.1 (σ.getD j none)
          rw [hset] at R2
          have e0 : (ρ.set j .unk).set i (.lst (partG y os 0)) = ρ.set j .unk := by
            refine List.ext_getElem? fun n => ?_
            rw [List.getElem?_set]
            by_cases q : i = n
            · subst q
              rw [if_pos rfl, if_pos (by simpa using hil), List.getElem?_set_ne (Ne.symm hij), eo]
              rfl
            · rw [if_neg q]
          rw [e0]; exact R2
        · exact (l.setR _).setR _
        rintro n m σ1 H1 ⟨rfl, hn, M1, s1, R1, l1, ei⟩
        have eoi : ∀ n, ((ρ.set j .unk).set i (.lst (partG y os n)))[i]? = some (.lst (partG y os n)) := fun n => List.getElem?_set_self (by simpa using hil)
        obtain ⟨a', xs, ev', ha, hl⟩ := at_ R1 l1.1 (eoi n)
        have : a' = a := by rw [ei] at ev'; cases ev'; rfl
        subst this
        rw [partG_len] at hl
        by_cases hlt : n < os.length
        · have hnx : n < xs.length := by omega
          refine .inr ⟨⟨xs, xs[n], .inl (.inl ha), List.getElem?_eq_getElem hnx⟩, fun σ' H' => ∃ M2, Same M M2 ∧ Rep X.K M2 H' ((ρ.set j .unk).set i (.lst (partG y os (n + 1))) ++ fo) (σ' ++ fv) ∧ Lk J σ0 σ' ((ρ.set j .unk).set i (.lst (partG y os (n + 1)))) ∧ σ'[i]? = some (some (.ref a')), fun σ' H' h => ⟨os.length - (n + 1), by omega, rfl, by omega, h⟩, ?_⟩
          rintro z H2 ⟨rfl, hz⟩
          have hz := hz xs (.inl (.inl ha))
          rw [List.getElem?_eq_getElem hnx] at hz
          cases hz
          have eρ : ((ρ.set j .unk).set i (.lst (partG y os n))).set j .unk = (ρ.set j .unk).set i (.lst (partG y os n)) := by
            rw [List.set_comm _ _ hij, List.set_set]
          have R2 := R1.setU (i := j) l1.1 (some xs[n])
          rw [eρ] at R2
          have l2 : Lk J σ0 (σ1.set j (some xs[n])) ((ρ.set j .unk).set i (.lst (partG y os n))) := by
            have := l1.set hJ (some xs[n]) .unk
            rwa [eρ] at this
          have hj1 : j < σ1.length := by rw [l1.1]; simpa using hj
          have ei2 : (σ1.set j (some xs[n]))[i]? = some (some (.ref a')) := by rw [List.getElem?_set_ne (Ne.symm hij)]; exact ei
          have ej2 : (σ1.set j (some xs[n]))[j]? = some (some xs[n]) := List.getElem?_set_self hj1
          have eo1 := eoi n
          have hup : ∀ o, ((ρ.set j .unk).set i (.lst (partG y os n))).set i o = (ρ.set j .unk).set i o := fun o => List.set_set ..
          generalize hρ1 : (ρ.set j .unk).set i (.lst (partG y os n)) = ρ1 at *
          have hok : isLs os[n] = true := List.all_eq_true.mp hall _ (List.getElem_mem hlt)
          have pset := partG_set (y := y) hlt
          have pat := partG_at (y := y) hlt
          have ev2 : atV H2 (.ref a') [n] = some xs[n] := by
            show (kidV H2 (.ref a') n).bind (fun u => some u) = _
            have : kidV H2 (.ref a') n = xs[n]? := by
              unfold kidV
              simp only [ha]
            rw [this, List.getElem?_eq_getElem hnx]; rfl
          cases q : os[n] with
          | lst ps =>
            rw [q] at hok pset pat
            have hps : ps.length < sizeLine := of_decide_eq_true hok
            have ep : (O.lst (partG y os n)).sub [n] = some (.lst ps) := by
              show ((partG y os n)[n]?).bind _ = _
              rw [pat]; rfl
            have R2' : Rep X.K M1 H2 (ρ1 ++ ([] ++ fo)) (σ1.set j (some xs[n]) ++ ([] ++ fv)) := R2
            obtain ⟨a1, xs1, _, _, ea1, hA1, _⟩ := R2'.putL l2.1 rfl eo1 ep ei2 ev2
            show tDrop (tBM X.K "list" rAppend (tVar j) (tCons (tO X.K f) tNil)) _ _ _
            obtain ⟨Ma, t1, Ra, _, back⟩ := R2.look2 l2.1 eo1 ep rfl ei2 ev2
            refine ⟨.ref a1, by rw [ej2, ea1], .inl ⟨rfl, _, .inl (.inl hA1)⟩, Ma, ρ1.map O.vw, [], [], y, Ra, by simpa using l2.1, hf _, fun M2 H3 u s2 R3 => ?_⟩
            obtain ⟨M3, s3, R4, ev3⟩ := back M2 H3 _ _ s2 R3 him
            have R4' : Rep X.K M3 H3 (ρ1 ++ ([y] ++ fo)) (σ1.set j (some xs[n]) ++ ([some u] ++ fv)) := R4
            obtain ⟨a2, xs2, g1, gt, ea, hA, vs, vt, n1, n2, mA, up⟩ := R4'.putL l2.1 rfl eo1 ep ei2 ev3
            rw [ea1] at ea
            cases ea
            have hl : xs2.length = ps.length := by simpa using vs.length
            refine ⟨a1, xs2, u, rfl, rfl, hA, by omega, ?_⟩
            have w1 := vs.frame (H' := upd H3 a1 (.lst (xs2 ++ [u]))) (Same.refl _) fun c hc => upd_ne fun z => n1 (z ▸ hc)
            have w2 := vt.frame (H' := upd H3 a1 (.lst (xs2 ++ [u]))) (Same.refl _) fun c hc => upd_ne fun z => n2 (z ▸ hc)
            have R5 := up (xs2 ++ [u]) (ps ++ [y]) (g1 ++ gt) (by simpa using w1.append w2) fun b => by rw [List.count_append]; exact Nat.le_refl _
            have eput : (O.lst (partG y os n)).put [n] (.lst (ps ++ [y])) = .lst (partG y os (n + 1)) := by
              show (match (partG y os n)[n]? with | some o1 => (O.lst (partG y os n)).setKid n (.lst (ps ++ [y])) | none => _) = _
              rw [pat]
              show O.lst ((partG y os n).set n (.lst (ps ++ [y]))) = _
              rw [← pset]; rfl
            rw [eput, hup] at R5
            exact ⟨M3, s1.trans s3, R5, by rw [← hup]; exact l2.setR _, ei2⟩
          | dat _ => rw [q] at hok; cases hok
          | unk => rw [q] at hok; cases hok
          | tup _ => rw [q] at hok; cases hok
          | dic _ _ => rw [q] at hok; cases hok
          | obj _ _ _ => rw [q] at hok; cases hok
          | raw _ => rw [q] at hok; cases hok
        · have en : n = os.length := by omega
          subst en
          refine .inl ⟨⟨xs, .inl (.inl ha), by omega⟩, ?_⟩
          have : partG y os os.length = os.map (grow y) := by unfold partG; simp
          rw [this] at R1 l1
          exact k M1 H1 σ1 s1 R1 l1
      · cases e
    · cases e
end
end PD

namespace LG
/-! ### leagues: who reaches whom, plain -/
section
variable (n : Nat) (w : Nat → Nat → Bool)
/-- from i to j over middles below m -/
def pb : Nat → Nat → Nat → Bool
  | 0, i, j => i == j || w i j
  | m + 1, i, j => pb m i j || (pb m i m && pb m m j)
def lg (a : Nat) : List Nat := (List.range n).filter fun j => pb w n a j && pb w n j a
def heads : List (List Nat) := ((List.range n).filter fun a => (lg n w a).head? == some a).map (lg n w)
def unb (L : List Nat) (Ls : List (List Nat)) : Bool := Ls.all fun o => o == L || o.all fun i => L.all fun j => !w i j
def nxt (Ls : List (List Nat)) : List Nat := (Ls.filter fun L => unb w L Ls).headD []
def ord : Nat → List (List Nat) → List (List Nat)
  | 0, _ => []
  | k + 1, Ls => nxt w Ls :: ord k (Ls.filter fun L => L != nxt w Ls)
end
section
variable {n : Nat} {w : Nat → Nat → Bool}
theorem pb_up {m i j : Nat} (h : pb w m i j = true) : ∀ k, pb w (m + k) i j = true
  | 0 => h
  | k + 1 => by
    show (pb w (m + k) i j || _) = true
    rw [pb_up h k]; rfl
theorem pb_le {m k i j : Nat} (h : pb w m i j = true) (e : m ≤ k) : pb w k i j = true := by
  obtain ⟨d, rfl⟩ := Nat.exists_eq_add_of_le e
  exact pb_up h d
theorem pb_refl (m i : Nat) : pb w m i i = true := pb_le (m := 0) (by simp [pb]) (Nat.zero_le _)
theorem pb_edge (m : Nat) {i j : Nat} (h : w i j = true) : pb w m i j = true := pb_le (m := 0) (by simp [pb, h]) (Nat.zero_le _)
theorem pb_trans : ∀ (m : Nat) {i j k : Nat}, k < m → pb w m i k = true → pb w m k j = true → pb w m i j = true
  | 0, _, _, _, h, _, _ => absurd h (Nat.not_lt_zero _)
  | m + 1, i, j, k, h, h1, h2 => by
    have step : pb w m i m = true → pb w m m j = true → pb w (m + 1) i j = true := fun a b => by
      show (pb w m i j || (pb w m i m && pb w m m j)) = true
      rw [a, b]; simp
    have h1 : (pb w m i k || (pb w m i m && pb w m m k)) = true := h1
    have h2 : (pb w m k j || (pb w m k m && pb w m m j)) = true := h2
    simp only [Bool.or_eq_true, Bool.and_eq_true] at h1 h2
    by_cases e : k = m
    · subst e
      refine step ?_ ?_
      · rcases h1 with h1 | h1
        · exact h1
        · exact h1.1
      · rcases h2 with h2 | h2
        · exact h2
        · exact h2.2
    · have hk : k < m := by omega
      rcases h1 with h1 | ⟨h1, h1'⟩ <;> rcases h2 with h2 | ⟨h2, h2'⟩
      · exact pb_up (pb_trans m hk h1 h2) 1
      · exact step (pb_trans m hk h1 h2) h2'
      · exact step h1 (pb_trans m hk h1' h2)
      · exact step h1 h2'
/-- a set that is closed holds what is reached from it -/
theorem pb_closed {S : Nat → Prop} (h : ∀ i j, S i → w i j = true → j < n → S j) : ∀ (m : Nat), m ≤ n → ∀ {i j : Nat}, S i → j < n → pb w m i j = true → S j
  | 0, _, i, j, hi, hj, e => by
    have e : (i == j || w i j) = true := e
    simp only [Bool.or_eq_true, beq_iff_eq] at e
    rcases e with rfl | e
    · exact hi
    · exact h i j hi e hj
  | m + 1, hm, i, j, hi, hj, e => by
    have e : (pb w m i j || (pb w m i m && pb w m m j)) = true := e
    simp only [Bool.or_eq_true, Bool.and_eq_true] at e
    rcases e with e | ⟨e1, e2⟩
    · exact pb_closed h m (by omega) hi hj e
    · exact pb_closed h m (by omega) (pb_closed h m (by omega) hi (by omega) e1) hj e2
theorem mem_lg {a j : Nat} : j ∈ lg n w a ↔ j < n ∧ pb w n a j = true ∧ pb w n j a = true := by
  unfold lg
  simp [List.mem_filter]
theorem lg_eq {a b : Nat} (ha : a < n) (hb : b < n) (h1 : pb w n a b = true) (h2 : pb w n b a = true) : lg n w a = lg n w b := by
  unfold lg
  apply List.filter_congr
  intro j hj
  have hj : j < n := by simpa using hj
  rw [Bool.eq_iff_iff, Bool.and_eq_true, Bool.and_eq_true]
  exact ⟨fun ⟨x, y⟩ => ⟨pb_trans n ha h2 x, pb_trans n ha y h1⟩, fun ⟨x, y⟩ => ⟨pb_trans n hb h1 x, pb_trans n hb y h2⟩⟩
theorem lg_self {a : Nat} (ha : a < n) : a ∈ lg n w a := mem_lg.mpr ⟨ha, pb_refl n a, pb_refl n a⟩
/-- how many reach a -/
def cnt (n : Nat) (w : Nat → Nat → Bool) (a : Nat) : Nat := ((List.range n).filter fun i => pb w n i a).length
theorem filter_lt {p q : Nat → Bool} : ∀ {l : List Nat}, (∀ i ∈ l, p i = true → q i = true) → (∃ i ∈ l, q i = true ∧ p i = false) → (l.filter p).length < (l.filter q).length
  | [], _, ⟨_, h, _⟩ => nomatch h
  | x :: l, h, ⟨i, hi, e1, e2⟩ => by
    have le : (l.filter p).length ≤ (l.filter q).length := by
      have : ∀ {l : List Nat}, (∀ i ∈ l, p i = true → q i = true) → (l.filter p).length ≤ (l.filter q).length := fun {l} => by
        induction l with
        | nil => intro _; exact Nat.le_refl _
        | cons y l ih =>
          intro h
          have t := ih fun i hi => h i (List.mem_cons_of_mem _ hi)
          rw [List.filter_cons, List.filter_cons]
          by_cases py : p y = true
          · rw [if_pos py, if_pos (h y List.mem_cons_self py)]; simp; omega
          · rw [if_neg py]
            split
            · simp; omega
            · exact t
      exact this fun i hi => h i (List.mem_cons_of_mem _ hi)
    rw [List.filter_cons, List.filter_cons]
    rcases List.mem_cons.mp hi with rfl | hi
    · rw [if_pos e1, if_neg (by rw [e2]; simp)]
      simp; omega
    · have t := filter_lt (fun i hi => h i (List.mem_cons_of_mem _ hi)) ⟨i, hi, e1, e2⟩
      by_cases px : p x = true
      · rw [if_pos px, if_pos (h x List.mem_cons_self px)]; simp; omega
      · rw [if_neg px]
        split
        · simp; omega
        · exact t
/-- a list of leagues -/
def AllLg (n : Nat) (w : Nat → Nat → Bool) (Ls : List (List Nat)) : Prop := ∀ L ∈ Ls, ∃ a, a < n ∧ L = lg n w a
theorem exists_unb {Ls : List (List Nat)} (h : AllLg n w Ls) (hne : Ls ≠ []) : ∃ L ∈ Ls, unb w L Ls = true := by
  -- the least count
  have key : ∀ (k : Nat) (L : List Nat), L ∈ Ls → (∀ a, a < n → L = lg n w a → cnt n w a ≤ k) → ∃ L ∈ Ls, unb w L Ls = true := by
    intro k
    induction k with
    | zero =>
      intro L hL hk
      obtain ⟨a, ha, rfl⟩ := h L hL
      have := hk a ha rfl
      have : a ∈ (List.range n).filter fun i => pb w n i a := by simp [ha, pb_refl]
      have := List.length_pos_of_mem this
      unfold cnt at *
      omega
    | succ k ih =>
      intro L hL hk
      by_cases hu : unb w L Ls = true
      · exact ⟨L, hL, hu⟩
      · unfold unb at hu
        simp only [List.all_eq_true, Bool.or_eq_true, beq_iff_eq, Bool.not_eq_true'] at hu
        have hu : ∃ o ∈ Ls, o ≠ L ∧ ∃ i ∈ o, ∃ j ∈ L, w i j = true := by
          refine Classical.byContradiction fun hn => hu fun o ho => ?_
          by_cases e : o = L
          · exact .inl e
          · refine .inr fun i hi j hj => ?_
            cases q : w i j with
            | false => rfl
            | true => exact absurd ⟨o, ho, e, i, hi, j, hj, q⟩ hn
        obtain ⟨o, ho, hne, i, hi, j, hj, hw⟩ := hu
        refine ih o ho fun b hb e => ?_
        obtain ⟨a, ha, rfl⟩ := h L hL
        subst e
        obtain ⟨hin, i1, i2⟩ := mem_lg.mp hi
        obtain ⟨hjn, j1, j2⟩ := mem_lg.mp hj
        have up : pb w n b a = true := pb_trans n hjn (pb_trans n hin i1 (pb_edge n hw)) j2
        have hlt : cnt n w b < cnt n w a := filter_lt (fun x hx p => pb_trans n hb p up) ⟨a, by simpa using ha, pb_refl n a, by
          cases q : pb w n a b with
          | false => rfl
          | true => exact absurd (lg_eq hb ha up q) hne⟩
        have := hk a ha rfl
        omega
  obtain ⟨L, hL⟩ := List.exists_mem_of_ne_nil Ls hne
  exact key n L hL fun a ha _ => by
    unfold cnt
    have := List.length_filter_le (fun i => pb w n i a) (List.range n)
    simpa using this
theorem nxt_mem {Ls : List (List Nat)} (h : AllLg n w Ls) (hne : Ls ≠ []) : ∃ t, Ls.filter (fun L => unb w L Ls) = nxt w Ls :: t ∧ nxt w Ls ∈ Ls := by
  obtain ⟨L, hL, hu⟩ := exists_unb h hne
  have hm : L ∈ Ls.filter fun L => unb w L Ls := List.mem_filter.mpr ⟨hL, hu⟩
  unfold nxt
  cases q : Ls.filter fun L => unb w L Ls with
  | nil => rw [q] at hm; cases hm
  | cons x t =>
    refine ⟨t, rfl, ?_⟩
    have : x ∈ Ls.filter fun L => unb w L Ls := by rw [q]; exact List.mem_cons_self
    exact (List.mem_filter.mp this).1
theorem filter_ne_len {Ls : List (List Nat)} {x : List Nat} (nd : Ls.Nodup) (hx : x ∈ Ls) : (Ls.filter fun L => L != x).length + 1 = Ls.length := by
  induction Ls with
  | nil => cases hx
  | cons y Ls ih =>
    rw [List.nodup_cons] at nd
    rw [List.filter_cons]
    by_cases e : y = x
    · subst e
      rw [if_neg (by simp)]
      have : Ls.filter (fun L => L != y) = Ls := List.filter_eq_self.mpr fun L hL => by
        simp only [bne_iff_ne, ne_eq]
        intro z; exact nd.1 (z ▸ hL)
      rw [this]; rfl
    · rw [if_pos (by simpa using e)]
      rcases List.mem_cons.mp hx with rfl | hx
      · exact absurd rfl e
      · have := ih nd.2 hx
        simp only [List.length_cons]; omega
theorem heads_all : AllLg n w (heads n w) := fun L hL => by
  unfold heads at hL
  obtain ⟨a, ha, rfl⟩ := List.mem_map.mp hL
  have := (List.mem_filter.mp ha).1
  exact ⟨a, by simpa using this, rfl⟩
theorem heads_nodup : (heads n w).Nodup := by
  unfold heads
  have nd : ((List.range n).filter fun a => (lg n w a).head? == some a).Nodup := List.nodup_range.filter _
  rw [List.nodup_iff_pairwise_ne] at nd ⊢
  rw [List.pairwise_map]
  refine nd.imp_of_mem fun {a b} ha hb hab e => hab ?_
  have h1 := (List.mem_filter.mp ha).2
  have h2 := (List.mem_filter.mp hb).2
  rw [beq_iff_eq] at h1 h2
  rw [e, h2] at h1
  exact (Option.some.inj h1).symm
theorem heads_le : (heads n w).length ≤ n := by
  unfold heads
  rw [List.length_map]
  have := List.length_filter_le (fun a => (lg n w a).head? == some a) (List.range n)
  simpa using this
theorem lg_le (a : Nat) : (lg n w a).length ≤ n := by
  unfold lg
  have := List.length_filter_le (fun j => pb w n a j && pb w n j a) (List.range n)
  simpa using this
theorem all_filter {Ls : List (List Nat)} {p : List Nat → Bool} (h : AllLg n w Ls) : AllLg n w (Ls.filter p) := fun L hL => h L (List.mem_filter.mp hL).1
/-- what the loop gives -/
theorem ord_spec : ∀ (k : Nat) {Ls : List (List Nat)}, Ls.length = k → Ls.Nodup → AllLg n w Ls → (ord w k Ls).length = k ∧ (∀ L ∈ ord w k Ls, L ∈ Ls) ∧ (ord w k Ls).Nodup
  | 0, Ls, h, _, _ => ⟨rfl, fun _ h => (nomatch h), List.nodup_nil⟩
  | k + 1, Ls, h, nd, al => by
    have hne : Ls ≠ [] := fun z => by rw [z] at h; cases h
    obtain ⟨t, _, hm⟩ := nxt_mem al hne
    have hl := filter_ne_len nd hm
    obtain ⟨e1, e2, e3⟩ := ord_spec k (Ls := Ls.filter fun L => L != nxt w Ls) (by omega) (nd.filter _) (all_filter al)
    refine ⟨by show (ord w k _).length + 1 = k + 1; rw [e1], fun L hL => ?_, ?_⟩
    · rcases List.mem_cons.mp (show L ∈ nxt w Ls :: ord w k (Ls.filter fun L => L != nxt w Ls) from hL) with rfl | hL
      · exact hm
      · exact (List.mem_filter.mp (e2 L hL)).1
    · show (nxt w Ls :: ord w k (Ls.filter fun L => L != nxt w Ls)).Nodup
      refine List.nodup_cons.mpr ⟨fun z => ?_, e3⟩
      have := (List.mem_filter.mp (e2 _ z)).2
      simp at this
end
end LG

namespace Lg
open PySem PySem.Spec L2 PD
/-- is_unbeaten: 0 wins, 1 league, 2 left, 3 players, 4 other, 5 player, 6 rival -/
noncomputable abbrev bis_unbeaten : Ev → Option Fl :=
    (sq (stV 3 (lcD2 (iOf (gv 2)) (gN 4) (asB (b2 (gv 4) (gv 1) neD)) (iOf (gv 4)) (gN 5) yes (gv 5) [4, 5] [5]))
    (rtV (notV (cB (aCons (lcD2 (iOf (gv 3)) (gN 6) yes (iOf (gv 1)) (gN 5) yes (b2 (b2 (b2 (gv 0) (gv 6) ixD) (gv 5) ixD) (kI 0) gtI) [6, 5] [5]) aNil) anyD))))
noncomputable def mis_unbeaten : List D → Option D := runP 7 (bis_unbeaten)
/-- reach_table: 0 wins, 1 count, 2 table, 3 middle, 4 first, 5 second, 6 index, 7 row, 8 other, 9 amount -/
noncomputable abbrev breach_table : Ev → Option Fl :=
    (sq (stV 1 (cB (aCons (gv 0) aNil) lenD))
    (sq (stO 2 (lcOO (enuA (gv 0)) (gT 2 (gsC (gN 6) (gsC (gN 7) gsN))) yes (lcO (enuA (gv 7)) (gT 2 (gsC (gN 8) (gsC (gN 9) gsN))) yes (orV (b2 (gv 6) (gv 8) eqD) (b2 (gv 9) (kI 0) gtI)) [8, 9]) [6, 7]))
    (sq (forS (rng1 (gv 1)) (gN 3) (forS (rng1 (gv 1)) (gN 4) (forS (rng1 (gv 1)) (gN 5) (ifS (vwT (andT (asB (b2 (b2 (gv 2) (gv 4) ixD) (gv 3) ixD)) (asB (b2 (b2 (gv 2) (gv 3) ixD) (gv 5) ixD)))) (setP 2 (plI 2 plN (gv 4)) (gv 5) (thaw (kB true))) skip))))
    (fz 2 (rtV (gv 2))))))
noncomputable def mreach_table : List D → Option D := runP 10 (breach_table)
/-- leagues: 0 wins, 1 reaches, 2 left, 3 player, 4 league, 5 result, 6 following, 7 other -/
noncomputable abbrev bleagues : Ev → Option Fl :=
    (sq (stV 1 (cB (aCons (untV (gv 0)) aNil) (len? 1 (mreach_table))))
    (sq (stO 2 (mkLstO aNil))
    (sq (forS (rng1 (cB (aCons (untV (gv 0)) aNil) lenD)) (gN 3) (sq (stO 4 (lcO (rng1 (cB (aCons (untV (gv 0)) aNil) lenD)) (gN 7) (andT (asB (b2 (b2 (gv 1) (gv 3) ixD) (gv 7) ixD)) (asB (b2 (b2 (gv 1) (gv 7) ixD) (gv 3) ixD))) (gv 7) [7]))
    (fzT 0 4 (ifS (asB (b2 (b2 (untV (gv 4)) (kI 0) ixD) (gv 3) eqD)) (fz 4 (app 2 (gv 4))) skip))))
    (sq (stO 5 (mkLstO aNil))
    (sq (whileS (vwT (truB (untV (gv 2)))) (sq (fz 2 (fz 4 (stV 6 (b2 (lcD (iOf (gv 2)) (gN 4) (asB (cB (aCons (untV (gv 0)) (aCons (untV (gv 4)) (aCons (untV (gv 2)) aNil))) (len? 3 (mis_unbeaten)))) (gv 4) [4]) (kI 0) ixD))))
    (sq (app 5 (gv 6))
    (fz 2 (fz 4 (stO 2 (lcO (iOf (gv 2)) (gN 4) (asB (b2 (untV (gv 4)) (untV (gv 6)) neD)) (gv 4) [4])))))))
    (rtM (mv 5)))))))
noncomputable def mleagues : List D → Option O := runO 8 (bleagues)
/-- _law_is_unbeaten: 0 _law_table_here, 1 _law_league, 2 _law_rest, 3 _law_other, 4 _law_i, 5 _law_j -/
noncomputable abbrev b_law_is_unbeaten : Ev → Option Fl :=
    (sq (forS (iOf (gv 2)) (gN 3) (ifS (asB (b2 (gv 3) (gv 1) neD)) (forS (iOf (gv 3)) (gN 4) (forS (iOf (gv 1)) (gN 5) (ifS (asB (b2 (b2 (b2 (gv 0) (gv 4) ixD) (gv 5) ixD) (kI 0) gtI)) (rtV (kB false)) skip))) skip))
    (rtV (kB true)))
noncomputable def m_law_is_unbeaten : List D → Option D := runP 6 (b_law_is_unbeaten)
/-- _law_reached: 0 _law_table_here, 1 _law_start, 2 _law_found, 3 _law_at, 4 _law_j -/
noncomputable abbrev b_law_reached : Ev → Option Fl :=
    (sq (stO 2 (mkLstO (aCons (gv 1) aNil)))
    (sq (forS (rng1 (cB (aCons (gv 0) aNil) lenD)) (gN 3) (ifS (vwT (asB (b2 (gv 3) (cB (aCons (gv 2) aNil) lenD) ltI))) (forS (rng1 (cB (aCons (gv 0) aNil) lenD)) (gN 4) (ifS (vwT (andT (asB (b2 (b2 (b2 (gv 0) (b2 (gv 2) (gv 3) ixD) ixD) (gv 4) ixD) (kI 0) gtI)) (asB (b2 (gv 4) (gv 2) ninD)))) (app 2 (gv 4)) skip)) skip))
    (fz 2 (rtV (gv 2)))))
noncomputable def m_law_reached : List D → Option D := runP 5 (b_law_reached)
/-- _law_leagues: 0 _law_table_here, 1 _law_reached_here, 2 _law_rest, 3 _law_i, 4 _law_league, 5 _law_order, 6 _law_k, 7 _law_unbeaten, 8 _law_j -/
noncomputable abbrev b_law_leagues : Ev → Option Fl :=
    (sq (stV 1 (lcD (rng1 (cB (aCons (gv 0) aNil) lenD)) (gN 3) yes (cB (aCons (gv 0) (aCons (gv 3) aNil)) (len? 2 (m_law_reached))) [3]))
    (sq (stO 2 (mkLstO aNil))
    (sq (forS (rng1 (cB (aCons (gv 0) aNil) lenD)) (gN 3) (sq (stV 4 (lcD (rng1 (cB (aCons (gv 0) aNil) lenD)) (gN 8) (andT (asB (b2 (gv 8) (b2 (gv 1) (gv 3) ixD) inD)) (asB (b2 (gv 3) (b2 (gv 1) (gv 8) ixD) inD))) (gv 8) [8]))
    (ifS (asB (b2 (b2 (gv 4) (kI 0) ixD) (gv 3) eqD)) (app 2 (gv 4)) skip)))
    (sq (stO 5 (mkLstO aNil))
    (sq (fz 2 (forS (rng1 (cB (aCons (gv 2) aNil) lenD)) (gN 6) (sq (fz 2 (stV 7 (lcD (iOf (gv 2)) (gN 4) (asB (cB (aCons (gv 0) (aCons (gv 4) (aCons (gv 2) aNil))) (len? 3 (m_law_is_unbeaten)))) (gv 4) [4])))
    (sq (app 5 (b2 (gv 7) (kI 0) ixD))
    (fz 2 (stO 2 (lcO (iOf (gv 2)) (gN 4) (asB (b2 (gv 4) (b2 (gv 7) (kI 0) ixD) neD)) (gv 4) [4])))))))
    (fz 5 (rtV (gv 5))))))))
noncomputable def m_law_leagues : List D → Option D := runP 9 (b_law_leagues)
/-- _law_cell: 0 _law_script, 1 _law_k -/
noncomputable abbrev b_law_cell : Ev → Option Fl :=
    (rtV (ifV (asB (b2 (gv 1) (cB (aCons (gv 0) aNil) lenD) ltI)) (cB (aCons (b2 (gv 0) (gv 1) ixD) aNil) intD) (kI 0)))
noncomputable def m_law_cell : List D → Option D := runP 2 (b_law_cell)
/-- _law_row: 0 _law_cell_here, 1 _law_many, 2 _law_row_here, 3 _law_seed, 4 _law_rest, 5 _law_k, 6 _law_mixed -/
noncomputable abbrev b_law_row : Ev → Option Fl :=
    (sq (stO 2 (mkLstO aNil))
    (sq (stV 3 (b2 (cB (aCons (gv 0) aNil) intD) (kI 2147483629) modI))
    (sq (stV 4 (b2 (gv 0) (b2 (kI 10) (kI 18) powI) subI))
    (sq (forS (rng1 (gv 1)) (gN 5) (sq (stV 3 (b2 (cB (aCons (b2 (b2 (b2 (gv 3) (kI 48271) mulI) (b2 (kI 977) (gv 5) mulI) addA) (kI 12345) addA) aNil) intD) (kI 2147483647) modI))
    (sq (stV 6 (b2 (cB (aCons (b2 (b2 (b2 (gv 3) (kI 69621) mulI) (b2 (kI 31) (gv 5) mulI) addA) (kI 7) addA) aNil) intD) (kI 2147483629) modI))
    (sq (app 2 (ifV (asB (b2 (gv 0) (b2 (kI 10) (kI 18) powI) geI)) (b2 (cB (aCons (gv 4) aNil) intD) (kI 1000) modI) (b2 (cB (aCons (b2 (gv 6) (kI 4099) divI) aNil) intD) (kI 1000) modI)))
    (stV 4 (b2 (gv 4) (kI 1000) divI))))))
    (fz 2 (rtV (gv 2)))))))
noncomputable def m_law_row : List D → Option D := runP 7 (b_law_row)
/-- _law_table: 0 _law_script, 1 _law_head, 2 _law_many, 3 _law_chance, 4 _law_row_here, 5 _law_table_here, 6 _law_i, 7 _law_line, 8 _law_j, 9 _law_number, 10 _law_amount, 11 _law_lower -/
noncomputable abbrev b_law_table : Ev → Option Fl :=
    (sq (stV 1 (cB (aCons (cB (aCons (gv 0) (aCons (kI 0) aNil)) (len? 2 (m_law_cell))) (aCons (kI 4) aNil)) (len? 2 (m_law_row))))
    (sq (stV 2 (b2 (cB (aCons (b2 (gv 1) (kI 0) ixD) aNil) intD) (kI 7) modI))
    (sq (ifS (asB (b2 (b2 (cB (aCons (b2 (gv 1) (kI 1) ixD) aNil) intD) (kI 8) modI) (kI 1) eqD)) (stV 2 (b2 (cB (aCons (b2 (gv 1) (kI 0) ixD) aNil) intD) (kI 9) modI)) skip)
    (sq (stV 3 (b2 (cB (aCons (b2 (gv 1) (kI 2) ixD) aNil) intD) (kI 9) modI))
    (sq (stV 4 (cB (aCons (cB (aCons (gv 0) (aCons (kI 1) aNil)) (len? 2 (m_law_cell))) (aCons (kI 64) aNil)) (len? 2 (m_law_row))))
    (sq (stO 5 (mkLstO aNil))
    (sq (forS (rng1 (gv 2)) (gN 6) (sq (stO 7 (mkLstO aNil))
    (sq (forS (rng1 (gv 2)) (gN 8) (sq (stV 9 (b2 (gv 4) (b2 (b2 (kI 8) (gv 6) mulI) (gv 8) addA) ixD))
    (sq (stV 10 (kI 0))
    (sq (ifS (asB (b2 (b2 (cB (aCons (gv 9) aNil) intD) (kI 8) modI) (gv 3) ltI)) (sq (stV 10 (b2 (kI 1) (b2 (cB (aCons (b2 (gv 9) (kI 8) divI) aNil) intD) (kI 5) modI) addA))
    (ifS (asB (b2 (b2 (cB (aCons (b2 (gv 9) (kI 40) divI) aNil) intD) (kI 4) modI) (kI 0) eqD)) (sq (stV 11 (b2 (mkLst (aCons (kI 1) (aCons (b2 (kI 10) (kI 40) powI) aNil))) (b2 (b2 (b2 (kI 8) (gv 6) mulI) (gv 8) addA) (kI 61) divI) ixD))
    (stV 10 (b2 (cB (aCons (b2 (cB (aCons (gv 0) (aCons (b2 (kI 2) (b2 (cB (aCons (b2 (b2 (kI 8) (gv 6) mulI) (gv 8) addA) aNil) intD) (kI 61) modI) addA) aNil)) (len? 2 (m_law_cell))) (gv 11) divX) aNil) intD) (b2 (kI 10) (kI 40) powI) modI))) skip)) skip)
    (sq (ifS (andT (asB (b2 (gv 6) (gv 8) eqD)) (asB (b2 (b2 (cB (aCons (b2 (gv 1) (kI 3) ixD) aNil) intD) (kI 4) modI) (kI 1) neD))) (stV 10 (kI 0)) skip)
    (app 7 (gv 10)))))))
    (fz 7 (app 5 (gv 7))))))
    (fz 5 (rtV (gv 5))))))))))
noncomputable def m_law_table : List D → Option D := runP 12 (b_law_table)
end Lg

namespace PD
open PySem PySem.Spec L2
section
variable {ρ : Ev} {i : Nat} {Q : Fl → Prop}
/-- x[k][m] = y -/
theorem Rn.setP1 {fa fb : Ev → Option D} {fe : Ev → Option O} {oss os : List O} {k m : Nat} {y : O} (h0 : ρ[i]? = some (.lst oss)) (hf : fe ρ = some y) (ha : fa (ρ.map O.vw) = some (.int k)) (hb : fb (ρ.map O.vw) = some (.int m)) (hk : oss[k]? = some (.lst os)) (hm : m < os.length)
    (q : Q (.nx (ρ.set i (.lst (oss.set k (.lst (os.set m y))))))) : Rn (setP i (plI i plN fa) fb fe) ρ Q := by
  have hk' := (List.getElem?_eq_some_iff.mp hk).1
  have e1 : plI i plN fa ρ = some [k] := by
    unfold plI plN
    rw [Option.bind_some, ha]
    simp only [onSub, h0, Option.bind_some, O.sub, ixN_nat hk', List.getD_eq_getElem?_getD, hk, Option.getD_some]
    rfl
  refine ⟨_, ?_, q⟩
  unfold setP
  rw [hf, Option.bind_some, e1, Option.bind_some, hb]
  simp only [onSub, h0, Option.bind_some, O.sub, O.kid, hk, ixN_nat hm, Option.map_some, getD_of h0, O.put, O.setKid]
/-- a for over range(n), the last of its block -/
theorem Rn.forR {fi : Ev → Option (List D)} {gt : D → Ev → Option Ev} {b : Ev → Option Fl} {lo : Int} {n : Nat} (h : fi ρ = some (rangeD lo n)) (I : Nat → Ev → Prop) (h0 : I 0 ρ)
    (hs : ∀ (i : Nat) (hi : i < n) ρ, I i ρ → ∃ ρ1, gt (.int (lo + (i : Int))) ρ = some ρ1 ∧ Rn b ρ1 fun r => match r with | .nx ρ2 => I (i + 1) ρ2 | .ct ρ2 => I (i + 1) ρ2 | .bk ρ2 => Q (.nx ρ2) | r => Q r) (k : ∀ ρ', I n ρ' → Q (.nx ρ')) : Rn (forS fi gt b) ρ Q := by
  refine Rn.forT (xs := List.range n) (φ := fun i : Nat => .int (lo + (i : Int))) h I h0 (fun i hi ρ hI => ?_) (fun ρ' hI => k ρ' (by rw [List.length_range] at hI; exact hI))
  rw [List.getElem_range]
  exact hs i (by simpa using hi) ρ hI
end
theorem ix_map {α : Type} {xs : List α} {g : α → D} {k : Nat} {x : α} (h : xs[k]? = some x) : ixD (.lst (xs.map g)) (.int k) = some (g x) := by
  show atI (xs.map g) (k : Int) = _
  exact atI_nat (by rw [List.getElem?_map, h]; rfl)
theorem ix_rng {n : Nat} {g : Nat → D} {k : Nat} (h : k < n) : ixD (.lst ((List.range n).map g)) (.int k) = some (g k) := ix_map (List.getElem?_range h)
theorem ix_mapT {α : Type} {xs : List α} {g : α → D} {k : Nat} {x : α} (h : xs[k]? = some x) : ixD (.tup (xs.map g)) (.int k) = some (g x) := by
  show atI (xs.map g) (k : Int) = _
  exact atI_nat (by rw [List.getElem?_map, h]; rfl)
theorem rng_eq {f : Ev → Option D} {ρ : Ev} {n : Nat} (h : f ρ = some (.int n)) (hn : n < 1000000) : rng1 f ρ = some (rangeD 0 n) := by
  unfold rng1
  rw [h]
  simp only []
  rw [if_pos ⟨by omega, by omega⟩, Int.toNat_natCast]
end PD
namespace Lg
open PySem PySem.Spec L2 PD LG
/-! ### a table of wins, as data -/
def at2 (rs : List (List Int)) (i j : Nat) : Int := (rs.getD i []).getD j 0
def wn (rs : List (List Int)) (i j : Nat) : Bool := decide (0 < at2 rs i j)
abbrev Rw (d : D) (r : List Int) : Prop := d = .lst (r.map .int) ∨ d = .tup (r.map .int)
structure Tab (d : D) (n : Nat) (rs : List (List Int)) : Prop where
  hl : rs.length = n
  hr : ∀ r ∈ rs, r.length = n
  hd : ∃ psi : List Int → D, (∀ r, Rw (psi r) r) ∧ (d = .lst (rs.map psi) ∨ d = .tup (rs.map psi))
  hn : n ≤ 1000
theorem Tab.len {d : D} {n : Nat} {rs : List (List Int)} (T : Tab d n rs) : lenD [d] = some (.int n) := by
  obtain ⟨psi, _, rfl | rfl⟩ := T.hd
  · rw [ev_lenL, List.length_map, T.hl]
  · rw [ev_lenT, List.length_map, T.hl]
theorem Tab.get {d : D} {n : Nat} {rs : List (List Int)} (T : Tab d n rs) {i : Nat} (h : i < n) : rs[i]? = some (rs.getD i []) ∧ (rs.getD i []).length = n := by
  have hl := T.hl
  have e : rs[i]? = some (rs[i]'(by omega)) := List.getElem?_eq_getElem (by omega)
  have e2 : rs.getD i [] = rs[i]'(by omega) := by rw [List.getD_eq_getElem?_getD, e]; rfl
  rw [e2]
  exact ⟨e, T.hr _ (List.getElem_mem _)⟩
theorem Tab.row {d : D} {n : Nat} {rs : List (List Int)} (T : Tab d n rs) {i : Nat} (h : i < n) : ∃ x, ixD d (.int i) = some x ∧ Rw x (rs.getD i []) := by
  obtain ⟨psi, hp, rfl | rfl⟩ := T.hd
  · exact ⟨_, ix_map (T.get h).1, hp _⟩
  · exact ⟨_, ix_mapT (T.get h).1, hp _⟩
theorem rw_ix {d : D} {r : List Int} (h : Rw d r) {j : Nat} (hj : j < r.length) : ixD d (.int j) = some (.int (r.getD j 0)) := by
  have e : r[j]? = some (r.getD j 0) := by rw [List.getD_eq_getElem?_getD, List.getElem?_eq_getElem hj]; rfl
  rcases h with rfl | rfl
  · exact ix_map e
  · exact ix_mapT e
theorem Tab.cell {d : D} {n : Nat} {rs : List (List Int)} (T : Tab d n rs) {i j : Nat} (hi : i < n) (hj : j < n) : ∃ x, ixD d (.int i) = some x ∧ ixD x (.int j) = some (.int (at2 rs i j)) := by
  obtain ⟨x, e, hx⟩ := T.row hi
  exact ⟨x, e, rw_ix hx (by rw [(T.get hi).2]; exact hj)⟩
/-! ### Warshall's table -/
abbrev rowB (n : Nat) (f : Nat → Bool) : List D := (List.range n).map fun j => .bl (f j)
abbrev tabB (n : Nat) (f : Nat → Nat → Bool) : D := .lst ((List.range n).map fun i => .lst (rowB n (f i)))
abbrev ownB (n : Nat) (f : Nat → Nat → Bool) : O := .lst ((List.range n).map fun i => O.dats (rowB n (f i)))
theorem toDs_own (n : Nat) (f : Nat → Nat → Bool) : ∀ l : List Nat, O.toDs (l.map fun i => O.dats (rowB n (f i))) = some (l.map fun i => .lst (rowB n (f i)))
  | [] => rfl
  | i :: l => by
    show (match O.toD (O.dats (rowB n (f i))), O.toDs (l.map fun i => O.dats (rowB n (f i))) with | some d, some ds => some (d :: ds) | _, _ => none) = _
    rw [toDs_own n f l, toD_dats]; rfl
theorem ownB_toD (n : Nat) (f : Nat → Nat → Bool) : (ownB n f).toD = some (tabB n f) := by
  show (O.toDs _).map D.lst = _
  rw [toDs_own]; rfl
theorem ownB_vw (n : Nat) (f : Nat → Nat → Bool) : O.vw (ownB n f) = .dat (tabB n f) := by
  unfold O.vw
  rw [ownB_toD]
theorem ownB_set {n : Nat} {f : Nat → Nat → Bool} {i j : Nat} : O.lst (((List.range n).map fun i => O.dats (rowB n (f i))).set i (.lst (((rowB n (f i)).map .dat).set j (.dat (.bl true))))) = ownB n fun a b => if a = i ∧ b = j then true else f a b := by
  congr 1
  refine List.ext_getElem? fun a => ?_
  rw [List.getElem?_set]
  by_cases ha : a < n
  · rw [List.getElem?_map, List.getElem?_map, List.getElem?_range ha]
    by_cases e : i = a
    · subst e
      rw [if_pos rfl, if_pos (by simpa using ha)]
      simp only [Option.map_some]
      congr 1
      unfold O.dats
      congr 1
      refine List.ext_getElem? fun b => ?_
      rw [List.getElem?_set]
      by_cases hb : b < n
      · rw [List.getElem?_map, List.getElem?_map, List.getElem?_map, List.getElem?_map, List.getElem?_range hb]
        by_cases e2 : j = b
        · subst e2
          rw [if_pos rfl, if_pos (by simpa using hb)]
          simp
        · rw [if_neg e2]
          simp only [Option.map_some]
          rw [if_neg fun z => e2 z.2.symm]
      · rw [List.getElem?_eq_none (l := List.map _ _) (by simpa using hb)]
        by_cases e2 : j = b
        · subst e2
          rw [if_pos rfl, if_neg (by simpa using hb)]
          rw [List.getElem?_eq_none (by simpa using hb)]
        · rw [if_neg e2, List.getElem?_eq_none (by simpa using hb)]
    · rw [if_neg e]
      simp only [Option.map_some]
      congr 3
      funext b
      rw [if_neg fun z => e z.1.symm]
  · have e1 : ∀ (g : Nat → O), ((List.range n).map g)[a]? = none := fun g => List.getElem?_eq_none (by simpa using ha)
    rw [e1]
    by_cases e : i = a
    · subst e
      rw [if_pos rfl, if_neg (by simpa using ha), e1]
    · rw [if_neg e, e1]
end Lg

namespace Lg
open PySem PySem.Spec L2 PD LG
theorem tabB_row {n : Nat} {f : Nat → Nat → Bool} {i : Nat} (h : i < n) : ixD (tabB n f) (.int i) = some (.lst (rowB n (f i))) := ix_rng h
theorem rowB_ix {n : Nat} {f : Nat → Bool} {j : Nat} (h : j < n) : ixD (.lst (rowB n f)) (.int j) = some (.bl (f j)) := ix_rng h
theorem enu_rows {d : D} {n : Nat} {rs : List (List Int)} (T : Tab d n rs) : ∃ psi : List Int → D, (∀ r, Rw (psi r) r) ∧ ∀ (f : Ev → Option D) (ρ : Ev), f ρ = some d → enuA f ρ = some ((List.range n).map fun i : Nat => .tup [.int i, psi (rs.getD i [])]) := by
  have hl := T.hl
  obtain ⟨psi, hp, hd⟩ := T.hd
  refine ⟨psi, hp, fun f ρ e => ?_⟩
  have key : ((rs.map psi).zipIdx.map fun p => D.tup [.int (p.2 : Nat), p.1]) = (List.range n).map fun i : Nat => .tup [.int i, psi (rs.getD i [])] := by
    refine List.ext_getElem? fun i => ?_
    rw [List.getElem?_map, List.getElem?_zipIdx, List.getElem?_map, List.getElem?_map]
    by_cases h : i < n
    · rw [(T.get h).1, List.getElem?_range h]
      simp
    · rw [List.getElem?_eq_none (l := rs) (by omega), List.getElem?_eq_none (l := List.range n) (by simpa using h)]; rfl
  unfold enuA
  rw [e]
  rcases hd with rfl | rfl
  · exact congrArg some key
  · exact congrArg some key
theorem enu_row {x : D} {r : List Int} (h : Rw x r) (f : Ev → Option D) (ρ : Ev) (e : f ρ = some x) : enuA f ρ = some ((List.range r.length).map fun j : Nat => .tup [.int j, .int (r.getD j 0)]) := by
  have key : ((r.map D.int).zipIdx.map fun p => D.tup [.int (p.2 : Nat), p.1]) = (List.range r.length).map fun j : Nat => .tup [.int j, .int (r.getD j 0)] := by
    refine List.ext_getElem? fun i => ?_
    rw [List.getElem?_map, List.getElem?_zipIdx, List.getElem?_map, List.getElem?_map]
    by_cases h : i < r.length
    · have eg : r.getD i 0 = r[i] := by rw [List.getD_eq_getElem?_getD, List.getElem?_eq_getElem h]; rfl
      rw [List.getElem?_eq_getElem h, List.getElem?_range h]
      simp only [Option.map_some, eg, Nat.zero_add]
    · rw [List.getElem?_eq_none (l := r) (by omega), List.getElem?_eq_none (l := List.range r.length) (by simpa using h)]; rfl
  unfold enuA
  rw [e]
  rcases h with rfl | rfl
  · exact congrArg some key
  · exact congrArg some key
/-- what holds in the loops: f is sound, and full over middles below m -/
structure Wi (n : Nat) (w : Nat → Nat → Bool) (m : Nat) (f : Nat → Nat → Bool) : Prop where
  snd : ∀ i j, i < n → j < n → f i j = true → pb w n i j = true
  ful : ∀ i j, i < n → j < n → pb w m i j = true → f i j = true
theorem Wi.up {n : Nat} {w : Nat → Nat → Bool} {m : Nat} {f : Nat → Nat → Bool} (h : Wi n w m f) {i j : Nat} (hm : m < n) (hi : i < n) (hj : j < n) (h1 : f i m = true) (h2 : f m j = true) : Wi n w m fun a b => if a = i ∧ b = j then true else f a b := by
  refine ⟨fun a b ha hb e => ?_, fun a b ha hb e => ?_⟩
  · by_cases c : a = i ∧ b = j
    · rw [c.1, c.2]
      exact pb_trans n hm (h.snd i m hi hm h1) (h.snd m j hm hj h2)
    · rw [if_neg c] at e
      exact h.snd a b ha hb e
  · by_cases c : a = i ∧ b = j
    · rw [if_pos c]
    · rw [if_neg c]; exact h.ful a b ha hb e
theorem Wi.eq {n : Nat} {w : Nat → Nat → Bool} {f : Nat → Nat → Bool} (h : Wi n w n f) {i j : Nat} (hi : i < n) (hj : j < n) : f i j = pb w n i j := by
  rw [Bool.eq_iff_iff]
  exact ⟨h.snd i j hi hj, h.ful i j hi hj⟩
theorem tabB_congr {n : Nat} {f g : Nat → Nat → Bool} (h : ∀ i j, i < n → j < n → f i j = g i j) : tabB n f = tabB n g := by
  unfold tabB
  congr 1
  apply List.map_congr_left
  intro i hi
  congr 1
  apply List.map_congr_left
  intro j hj
  rw [h i j (by simpa using hi) (by simpa using hj)]
theorem reach_run {d : D} {n : Nat} {rs : List (List Int)} (T : Tab d n rs) : mreach_table [d] = some (tabB n (pb (wn rs) n)) := by
  have hn := T.hn
  have hl := T.len
  obtain ⟨psi, hp, he⟩ := enu_rows T
  refine runP_eq ?_
  unfold breach_table
  show Rn _ [.dat d, .unk, .unk, .unk, .unk, .unk, .unk, .unk, .unk, .unk] _
  refine Rn.sqst (d := .int n) (by (simp (disch := first | assumption | omega) only [hl, MV, MW])) ?_
  have tb : lcOO (enuA (gv 0)) (gT 2 (gsC (gN 6) (gsC (gN 7) gsN))) yes (lcO (enuA (gv 7)) (gT 2 (gsC (gN 8) (gsC (gN 9) gsN))) yes (orV (b2 (gv 6) (gv 8) eqD) (b2 (gv 9) (kI 0) gtI)) [8, 9]) [6, 7] [.dat d, .dat (.int n), .unk, .unk, .unk, .unk, .unk, .unk, .unk, .unk] = some (ownB n (pb (wn rs) 0)) := by
    refine lcOO_map (xs := List.range n) (φ := fun i : Nat => .tup [.int i, psi (rs.getD i [])]) (fun i => O.dats (rowB n (pb (wn rs) 0 i))) rfl (he _ _ rfl) (by simp; omega) fun i hi => ⟨_, rfl, ?_⟩
    have hi : i < n := by simpa using hi
    have hrl := (T.get hi).2
    have er := enu_row (hp (rs.getD i []))
    rw [hrl] at er
    refine lcO_map (xs := List.range n) (φ := fun j : Nat => .tup [.int j, .int ((rs.getD i []).getD j 0)]) (fun j => .bl (pb (wn rs) 0 i j)) rfl (er _ _ rfl) (by simp; omega) fun j hj => ⟨_, rfl, ?_⟩
    show orV _ _ [_, _, _, _, _, _, .dat (.int i), _, .dat (.int j), .dat (.int ((rs.getD i []).getD j 0))] = _
    have ep : pb (wn rs) 0 i j = (decide ((i : Int) = (j : Int)) || decide (0 < (rs.getD i []).getD j 0)) := by
      show (i == j || decide (0 < (rs.getD i []).getD j 0)) = _
      congr 1
      rw [Bool.eq_iff_iff]
      simp
      omega
    rw [ep]
    generalize (rs.getD i []).getD j 0 = x
    unfold orV
    have e1 : PD.b2 (gv 6) (gv 8) eqD [.dat d, .dat (.int n), .unk, .unk, .unk, .unk, .dat (.int i), .dat (psi (rs.getD i [])), .dat (.int j), .dat (.int x)] = some (.bl (decide ((i : Int) = (j : Int)))) := by (simp (disch := first | assumption | omega) only [MV, MW])
    have e2 : PD.b2 (gv 9) (kI 0) gtI [.dat d, .dat (.int n), .unk, .unk, .unk, .unk, .dat (.int i), .dat (psi (rs.getD i [])), .dat (.int j), .dat (.int x)] = some (.bl (decide (0 < x))) := by (simp (disch := first | assumption | omega) only [MV, MW])
    show (match PD.b2 (gv 6) (gv 8) eqD [.dat d, .dat (.int n), .unk, .unk, .unk, .unk, .dat (.int i), .dat (psi (rs.getD i [])), .dat (.int j), .dat (.int x)] with
      | some (D.bl true) => some (D.bl true)
      | some (D.bl false) => PD.b2 (gv 9) (kI 0) gtI [.dat d, .dat (.int n), .unk, .unk, .unk, .unk, .dat (.int i), .dat (psi (rs.getD i [])), .dat (.int j), .dat (.int x)]
      | _ => none) = _
    rw [e1, e2]
    cases decide ((i : Int) = (j : Int)) <;> rfl
  refine Rn.sqstO tb ?_
  refine Rn.sqforR (lo := 0) (n := n) (rng_eq rfl (by omega)) (fun m ρ => ∃ f x3 x4 x5, Wi n (wn rs) m f ∧ ρ = [.dat d, .dat (.int n), ownB n f, x3, x4, x5, .unk, .unk, .unk, .unk]) ⟨_, _, _, _, ⟨fun i j _ _ e => pb_le e (Nat.zero_le _), fun i j _ _ e => e⟩, rfl⟩ (fun m hm ρ hI => ?_) (fun ρ hI => ?_)
  · obtain ⟨f, x3, x4, x5, hW, rfl⟩ := hI
    refine ⟨_, rfl, ?_⟩
    rw [Int.zero_add]
    refine Rn.forR (lo := 0) (n := n) (rng_eq rfl (by omega)) (fun i ρ => ∃ f x4 x5, Wi n (wn rs) m f ∧ (∀ a b, a < i → b < n → pb (wn rs) (m + 1) a b = true → f a b = true) ∧ ρ = [.dat d, .dat (.int n), ownB n f, .dat (.int m), x4, x5, .unk, .unk, .unk, .unk]) ⟨f, x4, x5, hW, fun a b h => absurd h (Nat.not_lt_zero _), rfl⟩ (fun i hi ρ hI => ?_) (fun ρ hI => ?_)
    · obtain ⟨f, x4, x5, hW, hU, rfl⟩ := hI
      refine ⟨_, rfl, ?_⟩
      rw [Int.zero_add]
      refine Rn.forR (lo := 0) (n := n) (rng_eq rfl (by omega)) (fun j ρ => ∃ f x5, Wi n (wn rs) m f ∧ (∀ a b, a < i → b < n → pb (wn rs) (m + 1) a b = true → f a b = true) ∧ (∀ b, b < j → pb (wn rs) (m + 1) i b = true → f i b = true) ∧ ρ = [.dat d, .dat (.int n), ownB n f, .dat (.int m), .dat (.int i), x5, .unk, .unk, .unk, .unk]) ⟨f, x5, hW, hU, fun b h => absurd h (Nat.not_lt_zero _), rfl⟩ (fun j hj ρ hI => ?_) (fun ρ hI => ?_)
      · obtain ⟨f, x5, hW, hU, hV, rfl⟩ := hI
        refine ⟨_, rfl, ?_⟩
        rw [Int.zero_add]
        have hv := ownB_vw n f
        have t1 := tabB_row (f := f) hi
        have t2 := tabB_row (f := f) hm
        have t3 := rowB_ix (f := f i) hm
        have t4 := rowB_ix (f := f m) hj
        have tst : vwT (andT (asB (PD.b2 (PD.b2 (gv 2) (gv 4) ixD) (gv 3) ixD)) (asB (PD.b2 (PD.b2 (gv 2) (gv 3) ixD) (gv 5) ixD))) [.dat d, .dat (.int n), ownB n f, .dat (.int m), .dat (.int i), .dat (.int j), .unk, .unk, .unk, .unk] = some (f i m && f m j) := by
          show andT _ _ [_, _, O.vw (ownB n f), .dat (.int m), .dat (.int i), .dat (.int j), _, _, _, _] = _
          rw [hv]
          generalize tabB n f = TB at *
          generalize D.lst (rowB n (f i)) = R1 at *
          generalize D.lst (rowB n (f m)) = R2 at *
          have a1 : asB (PD.b2 (PD.b2 (gv 2) (gv 4) ixD) (gv 3) ixD) [.dat d, .dat (.int n), .dat TB, .dat (.int m), .dat (.int i), .dat (.int j), .unk, .unk, .unk, .unk] = some (f i m) := by (simp (disch := first | assumption | omega) only [t1, t3, MV, MW])
          have a2 : asB (PD.b2 (PD.b2 (gv 2) (gv 3) ixD) (gv 5) ixD) [.dat d, .dat (.int n), .dat TB, .dat (.int m), .dat (.int i), .dat (.int j), .unk, .unk, .unk, .unk] = some (f m j) := by (simp (disch := first | assumption | omega) only [t2, t4, MV, MW])
          show (match asB (PD.b2 (PD.b2 (gv 2) (gv 4) ixD) (gv 3) ixD) [.dat d, .dat (.int n), .dat TB, .dat (.int m), .dat (.int i), .dat (.int j), .unk, .unk, .unk, .unk] with
            | some true => asB (PD.b2 (PD.b2 (gv 2) (gv 3) ixD) (gv 5) ixD) [.dat d, .dat (.int n), .dat TB, .dat (.int m), .dat (.int i), .dat (.int j), .unk, .unk, .unk, .unk]
            | some false => some false
            | none => none) = _
          rw [a1, a2]
          cases f i m <;> rfl
        refine Rn.ite tst (fun ht => ?_) fun hf => ?_
        · rw [Bool.and_eq_true] at ht
          refine Rn.setP1 (oss := (List.range n).map fun i => O.dats (rowB n (f i))) (os := (rowB n (f i)).map .dat) (k := i) (m := j) (y := .dat (.bl true)) rfl rfl rfl rfl (by rw [List.getElem?_map, List.getElem?_range hi]; rfl) (by simpa using hj) ?_
          refine ⟨_, .dat (.int j), hW.up hm hi hj ht.1 ht.2, fun a b ha hb e => ?_, fun b hb e => ?_, ?_⟩
          · by_cases c : a = i ∧ b = j
            · rw [if_pos c]
            · rw [if_neg c]; exact hU a b ha hb e
          · by_cases c : b = j
            · rw [if_pos ⟨rfl, c⟩]
            · rw [if_neg fun z => c z.2]; exact hV b (by omega) e
          · show [.dat d, .dat (.int n), O.lst _, .dat (.int m), .dat (.int i), .dat (.int j), .unk, .unk, .unk, .unk] = _
            rw [ownB_set]
        · refine Rn.skip ⟨f, _, hW, hU, fun b hb e => ?_, rfl⟩
          by_cases c : b = j
          · subst c
            have e : (pb (wn rs) m i b || (pb (wn rs) m i m && pb (wn rs) m m b)) = true := e
            simp only [Bool.or_eq_true, Bool.and_eq_true] at e
            rcases e with e | ⟨e1, e2⟩
            · exact hW.ful i b hi hj e
            · rw [hW.ful i m hi hm e1, hW.ful m b hm hj e2] at hf
              cases hf
          · exact hV b (by omega) e
      · obtain ⟨f, x5, hW, hU, hV, rfl⟩ := hI
        refine ⟨f, _, x5, hW, fun a b ha hb e => ?_, rfl⟩
        by_cases c : a = i
        · subst c; exact hV b hb e
        · exact hU a b (by omega) hb e
    · obtain ⟨f, x4, x5, hW, hU, rfl⟩ := hI
      exact ⟨f, _, x4, x5, ⟨hW.snd, fun a b ha hb e => hU a b ha hb e⟩, rfl⟩
  · obtain ⟨f, x3, x4, x5, hW, rfl⟩ := hI
    refine Rn.fz (o := ownB n f) rfl (ownB_toD n f) ?_
    rw [tabB_congr fun i j hi hj => hW.eq hi hj]
    exact Rn.ret (d := tabB n (pb (wn rs) n)) rfl ⟨_, rfl, rfl⟩
end Lg

namespace PD
open PySem PySem.Spec L2
section
variable {ρ : Ev} {fi fi1 : Ev → Option (List D)} {g g1 : D → Ev → Option Ev} {t : Ev → Option Bool} {f : Ev → Option D} {vs vs1 : List Nat}
/-- two clauses over typed lists -/
theorem comp2_run {α β : Type} {φ : α → D} {χ : β → D} (p : α → Bool) (inn : α → List β) (ψ : α → β → D) {ρw : Ev} : ∀ (xs : List α), (∀ x ∈ xs, ∃ ρ2, g (φ x) ρw = some ρ2 ∧ t ρ2 = some (p x) ∧ (p x = true → fi1 ρ2 = some ((inn x).map χ) ∧ ∀ y ∈ inn x, ∃ ρ3, g1 (χ y) (wipeO ρ2 vs1) = some ρ3 ∧ f ρ3 = some (ψ x y))) →
    comp2 g t fi1 g1 yes f vs1 ρw (xs.map φ) = some ((xs.filter p).flatMap fun x => (inn x).map (ψ x))
  | [], _ => rfl
  | x :: xs, h => by
    have ih := comp2_run p inn ψ xs fun y hy => h y (List.mem_cons_of_mem _ hy)
    obtain ⟨ρ2, e1, e2, e3⟩ := h x List.mem_cons_self
    rw [List.map_cons]
    unfold comp2
    rw [e1, Option.bind_some, e2, Option.bind_some, List.filter_cons]
    cases q : p x with
    | false => rw [if_neg (by simp), if_neg (by simp)]; exact ih
    | true =>
      obtain ⟨e4, e5⟩ := e3 q
      rw [if_pos rfl, if_pos rfl, e4, Option.bind_some, comp_mapT e5, Option.bind_some, ih]
      rfl
theorem lcD2_run {α β : Type} {φ : α → D} {χ : β → D} (p : α → Bool) (inn : α → List β) (ψ : α → β → D) {xs : List α} (hw : okW ρ vs = true) (hi : fi ρ = some (xs.map φ)) (hl : ((xs.filter p).flatMap fun x => (inn x).map (ψ x)).length ≤ 1000000)
    (h : ∀ x ∈ xs, ∃ ρ2, g (φ x) (wipeO ρ vs) = some ρ2 ∧ t ρ2 = some (p x) ∧ (p x = true → fi1 ρ2 = some ((inn x).map χ) ∧ ∀ y ∈ inn x, ∃ ρ3, g1 (χ y) (wipeO ρ2 vs1) = some ρ3 ∧ f ρ3 = some (ψ x y))) :
    lcD2 fi g t fi1 g1 yes f vs vs1 ρ = some (.lst ((xs.filter p).flatMap fun x => (inn x).map (ψ x))) := by
  unfold lcD2
  rw [if_pos hw, hi, Option.bind_some, comp2_run p inn ψ xs h, Option.bind_some, if_pos (by rw [sizeLine_eq]; omega)]
end
theorem filter_tt {α : Type} : ∀ xs : List α, xs.filter (fun _ => true) = xs
  | [] => rfl
  | x :: xs => by rw [List.filter_cons, if_pos rfl, filter_tt xs]
theorem any_bls (bs : List Bool) : anyD [.lst (bs.map .bl)] = some (.bl (bs.any id)) := by
  show (bls (bs.map .bl)).map (fun bs => D.bl (bs.any id)) = _
  rw [bls_map]; rfl
end PD
namespace Lg
open PySem PySem.Spec L2 PD LG
/-! ### lists of players as data -/
abbrev il (L : List Nat) : List Int := L.map fun i : Nat => (i : Int)
abbrev lD (L : List Nat) : D := .lst ((il L).map .int)
abbrev lsD (Ls : List (List Nat)) : D := .lst (Ls.map lD)
theorem lD_eq (L : List Nat) : lD L = .lst (L.map fun i : Nat => .int (i : Int)) := by
  unfold lD il
  rw [List.map_map]; rfl
theorem nat_inj : ∀ {a b : List Nat}, (a.map fun i : Nat => D.int (i : Int)) = (b.map fun i : Nat => D.int (i : Int)) → a = b
  | [], [], _ => rfl
  | x :: a, y :: b, h => by
    simp only [List.map_cons, List.cons.injEq] at h
    obtain ⟨h1, h2⟩ := h
    have h1 : (x : Int) = (y : Int) := D.int.inj h1
    rw [nat_inj h2, show x = y by omega]
  | [], _ :: _, h => nomatch h
  | _ :: _, [], h => nomatch h
theorem lD_inj {a b : List Nat} (h : lD a = lD b) : a = b := by
  rw [lD_eq, lD_eq] at h
  exact nat_inj (D.lst.inj h)
theorem iOf_lD {f : Ev → Option D} {ρ : Ev} {L : List Nat} (h : f ρ = some (lD L)) : iOf f ρ = some (L.map fun i : Nat => .int (i : Int)) := by
  unfold iOf
  rw [h, lD_eq]; rfl
theorem pl_ints (ns : List Int) : (D.lst (ns.map .int)).plain 60 = true ∧ (D.lst (ns.map .int)).deep ≤ 1 := plain_lst 0 (by decide) fun d hd => by
  obtain ⟨k, _, rfl⟩ := List.mem_map.mp hd
  exact ⟨rfl, Nat.le_refl _⟩
theorem ne_lD (a b : List Nat) : neD (lD a) (lD b) = some (.bl (a != b)) := by
  by_cases e : a = b
  · subst e
    rw [ne_self (pl_ints _).1]; simp
  · have h := eq_not (pl_ints (il a)).1 (pl_ints (il b)).1 fun z => e (lD_inj z)
    unfold neD
    unfold eqD at h
    cases q : eqB (lD a) (lD b) with
    | none => rw [q] at h; cases h
    | some c =>
      rw [q] at h
      cases h
      have : (a != b) = true := by simpa using e
      rw [this]; rfl
theorem ix_head {L : List Nat} {a : Nat} {t : List Nat} (h : L = a :: t) : ixD (lD L) (.int 0) = some (.int a) := by
  subst h
  rw [lD_eq]
  exact ix_map (xs := a :: t) (g := fun i : Nat => D.int (i : Int)) (k := 0) (x := a) rfl
/-- the program's test -/
theorem unb_run {d : D} {n : Nat} {rs : List (List Int)} (T : Tab d n rs) {L : List Nat} {Ls : List (List Nat)} (hL : ∀ i ∈ L, i < n) (hLs : ∀ o ∈ Ls, ∀ i ∈ o, i < n) (hn : n ≤ 8) (hl : L.length ≤ n) (hls : Ls.length ≤ n) (hol : ∀ o ∈ Ls, o.length ≤ n) :
    mis_unbeaten [d, lD L, lsD Ls] = some (.bl (unb (wn rs) L Ls)) := by
  have fl : ∀ (xs : List (List Nat)), (∀ o ∈ xs, o.length ≤ n) → (xs.flatMap fun o => o).length ≤ xs.length * n := fun xs => by
    induction xs with
    | nil => intro _; simp
    | cons x xs ih =>
      intro h
      have := ih fun o ho => h o (List.mem_cons_of_mem _ ho)
      have := h x List.mem_cons_self
      simp only [List.flatMap_cons, List.length_append, List.length_cons]
      rw [Nat.add_mul, Nat.one_mul]; omega
  have hpl : ((Ls.filter fun o => o != L).flatMap fun o => o).length ≤ 64 := by
    have h1 := fl (Ls.filter fun o => o != L) fun o ho => hol o (List.mem_filter.mp ho).1
    have h2 := List.length_filter_le (fun o => o != L) Ls
    have h3 : (Ls.filter fun o => o != L).length * n ≤ 8 * 8 := Nat.mul_le_mul (by omega) hn
    omega
  have hpm : ∀ i ∈ (Ls.filter fun o => o != L).flatMap fun o => o, i < n := fun i hi => by
    obtain ⟨o, ho, hi⟩ := List.mem_flatMap.mp hi
    exact hLs o (List.mem_filter.mp ho).1 i hi
  have heq : unb (wn rs) L Ls = !(((Ls.filter fun o => o != L).flatMap fun o => o).flatMap fun i => L.map fun j => wn rs i j).any id := by
    unfold unb
    rw [Bool.eq_iff_iff]
    simp only [List.all_eq_true, Bool.or_eq_true, beq_iff_eq, Bool.not_eq_true', List.any_eq_false, List.mem_flatMap, List.mem_map, List.mem_filter, bne_iff_ne, ne_eq, id]
    constructor
    · rintro h b ⟨i, ⟨o, ⟨ho, hne⟩, hi⟩, j, hj, rfl⟩
      rcases h o ho with e | e
      · exact absurd e hne
      · rw [e i hi j hj]; simp
    · intro h o ho
      by_cases e : o = L
      · exact .inl e
      · refine .inr fun i hi j hj => ?_
        have := h (wn rs i j) ⟨i, ⟨o, ⟨ho, e⟩, hi⟩, j, hj, rfl⟩
        simpa using this
  rw [heq]
  generalize hP : ((Ls.filter fun o => o != L).flatMap fun o => o) = P at *
  refine runP_eq ?_
  unfold bis_unbeaten
  show Rn _ [.dat d, .dat (lD L), .dat (lsD Ls), .unk, .unk, .unk, .unk] _
  have e1 : lcD2 (iOf (gv 2)) (gN 4) (asB (PD.b2 (gv 4) (gv 1) neD)) (iOf (gv 4)) (gN 5) yes (gv 5) [4, 5] [5] [.dat d, .dat (lD L), .dat (lsD Ls), .unk, .unk, .unk, .unk] = some (lD P) := by
    have := lcD2_run (fi := iOf (gv 2)) (g := gN 4) (t := asB (PD.b2 (gv 4) (gv 1) neD)) (fi1 := iOf (gv 4)) (g1 := gN 5) (f := gv 5) (vs := [4, 5]) (vs1 := [5]) (ρ := [.dat d, .dat (lD L), .dat (lsD Ls), .unk, .unk, .unk, .unk]) (φ := lD) (χ := fun i : Nat => .int (i : Int)) (fun o => o != L) (fun o => o) (fun _ (i : Nat) => .int (i : Int)) (xs := Ls) rfl rfl
      (by rw [show ((Ls.filter fun o => o != L).flatMap fun o => o.map fun (i : Nat) => D.int (i : Int)) = P.map fun (i : Nat) => D.int (i : Int) by rw [← hP, List.map_flatMap]]; rw [List.length_map]; omega)
      fun o ho => ⟨_, rfl, by
        show asB (PD.b2 _ _ _) [_, .dat (lD L), _, _, .dat (lD o), _, _] = _
        have := ne_lD o L
        generalize lD o = A at *
        generalize lD L = B at *
        (simp (disch := first | assumption | omega) only [this, MV, MW]), fun _ => ⟨iOf_lD rfl, fun i hi => ⟨_, rfl, rfl⟩⟩⟩
    rw [this, lD_eq, ← hP, List.map_flatMap]
  refine Rn.sqst e1 ?_
  refine Rn.ret (d := .bl (!(P.flatMap fun i => L.map fun j => wn rs i j).any id)) ?_ ⟨_, rfl, rfl⟩
  have e2 : lcD2 (iOf (gv 3)) (gN 6) yes (iOf (gv 1)) (gN 5) yes (PD.b2 (PD.b2 (PD.b2 (gv 0) (gv 6) ixD) (gv 5) ixD) (kI 0) gtI) [6, 5] [5] [.dat d, .dat (lD L), .dat (lsD Ls), .dat (lD P), .unk, .unk, .unk] = some (.lst ((P.flatMap fun i => L.map fun j => wn rs i j).map .bl)) := by
    have hsz : (P.flatMap fun i => L.map fun j => D.bl (wn rs i j)).length ≤ 64 * 8 := by
      have : ∀ xs : List Nat, (xs.flatMap fun i => L.map fun j => D.bl (wn rs i j)).length = xs.length * L.length := fun xs => by
        induction xs with
        | nil => simp
        | cons x xs ih => simp only [List.flatMap_cons, List.length_append, List.length_map, List.length_cons, ih]; rw [Nat.add_mul, Nat.one_mul]; omega
      rw [this]
      exact Nat.mul_le_mul hpl (by omega)
    have := lcD2_run (fi := iOf (gv 3)) (g := gN 6) (t := yes) (fi1 := iOf (gv 1)) (g1 := gN 5) (f := PD.b2 (PD.b2 (PD.b2 (gv 0) (gv 6) ixD) (gv 5) ixD) (kI 0) gtI) (vs := [6, 5]) (vs1 := [5]) (ρ := [.dat d, .dat (lD L), .dat (lsD Ls), .dat (lD P), .unk, .unk, .unk]) (φ := fun i : Nat => .int (i : Int)) (χ := fun i : Nat => .int (i : Int)) (fun _ => true) (fun _ => L) (fun i j => .bl (wn rs i j)) (xs := P) rfl
      (iOf_lD rfl)
      (by rw [filter_tt]; omega)
      fun i hi => ⟨_, rfl, rfl, fun _ => ⟨iOf_lD rfl, fun j hj => ⟨_, rfl, by
        obtain ⟨x, q1, q2⟩ := T.cell (hpm i hi) (hL j hj)
        show PD.b2 _ _ _ [.dat d, _, _, _, _, .dat (.int (j : Nat)), .dat (.int (i : Nat))] = _
        have ew : wn rs i j = decide (0 < at2 rs i j) := rfl
        rw [ew]
        generalize at2 rs i j = y at *
        (simp (disch := first | assumption | omega) only [q1, q2, MV, MW])⟩⟩⟩
    rw [this, filter_tt]
    congr 2
    rw [List.map_flatMap]
    congr 1
    funext i
    rw [List.map_map]; rfl
  have e3 := any_bls (P.flatMap fun i => L.map fun j => wn rs i j)
  generalize D.lst ((P.flatMap fun i => L.map fun j => wn rs i j).map .bl) = X at *
  generalize (P.flatMap fun i => L.map fun j => wn rs i j).any id = b at *
  have e4 : cB (aCons (lcD2 (iOf (gv 3)) (gN 6) yes (iOf (gv 1)) (gN 5) yes (PD.b2 (PD.b2 (PD.b2 (gv 0) (gv 6) ixD) (gv 5) ixD) (kI 0) gtI) [6, 5] [5]) aNil) anyD [.dat d, .dat (lD L), .dat (lsD Ls), .dat (lD P), .unk, .unk, .unk] = some (.bl b) := by
    unfold cB aCons aNil
    rw [e2, Option.bind_some, Option.bind_some, Option.bind_some]
    exact e3
  show notV _ [.dat d, .dat (lD L), .dat (lsD Ls), .dat (lD P), .unk, .unk, .unk] = _
  unfold notV
  rw [e4]
/-- the law's test -/
theorem lunb_run {d : D} {n : Nat} {rs : List (List Int)} (T : Tab d n rs) {L : List Nat} {Ls : List (List Nat)} (hL : ∀ i ∈ L, i < n) (hLs : ∀ o ∈ Ls, ∀ i ∈ o, i < n) :
    m_law_is_unbeaten [d, lD L, lsD Ls] = some (.bl (unb (wn rs) L Ls)) := by
  refine runP_eq ?_
  unfold b_law_is_unbeaten
  show Rn _ [.dat d, .dat (lD L), .dat (lsD Ls), .unk, .unk, .unk] _
  by_cases hu : unb (wn rs) L Ls = true
  · rw [hu]
    unfold unb at hu
    simp only [List.all_eq_true, Bool.or_eq_true, beq_iff_eq, Bool.not_eq_true'] at hu
    refine Rn.sqfor (xs := Ls) (φ := lD) rfl (fun k ρ => ∃ x3 x4 x5, ρ = [.dat d, .dat (lD L), .dat (lsD Ls), x3, x4, x5]) ⟨_, _, _, rfl⟩ (fun k hk ρ hI => ?_) (fun ρ hI => ?_)
    · obtain ⟨x3, x4, x5, rfl⟩ := hI
      refine ⟨_, rfl, ?_⟩
      have ho := List.getElem_mem hk
      generalize Ls[k] = o at *
      refine Rn.ite (t := o != L) (by
        show asB (PD.b2 _ _ _) [_, .dat (lD L), _, .dat (lD o), _, _] = _
        have := ne_lD o L
        generalize lD o = A at *
        generalize lD L = B at *
        (simp (disch := first | assumption | omega) only [this, MV, MW])) (fun hne => ?_) fun _ => Rn.skip ⟨_, _, _, rfl⟩
      have hne : o ≠ L := by simpa using hne
      rcases hu o ho with e | e
      · exact absurd e hne
      refine Rn.forT (xs := o) (φ := fun i : Nat => .int (i : Int)) (iOf_lD rfl) (fun k ρ => ∃ x4 x5, ρ = [.dat d, .dat (lD L), .dat (lsD Ls), .dat (lD o), x4, x5]) ⟨_, _, rfl⟩ (fun i hi ρ hI => ?_) (fun ρ hI => ?_)
      · obtain ⟨x4, x5, rfl⟩ := hI
        refine ⟨_, rfl, ?_⟩
        have hm := List.getElem_mem hi
        generalize o[i] = a at *
        refine Rn.forT (xs := L) (φ := fun i : Nat => .int (i : Int)) (iOf_lD rfl) (fun k ρ => ∃ x5, ρ = [.dat d, .dat (lD L), .dat (lsD Ls), .dat (lD o), .dat (.int (a : Nat)), x5]) ⟨_, rfl⟩ (fun j hj ρ hI => ?_) (fun ρ hI => ?_)
        · obtain ⟨x5, rfl⟩ := hI
          refine ⟨_, rfl, ?_⟩
          have hmj := List.getElem_mem hj
          generalize L[j] = b at *
          obtain ⟨x, q1, q2⟩ := T.cell (hLs o ho a hm) (hL b hmj)
          have hw : decide (0 < at2 rs a b) = false := e a hm b hmj
          refine Rn.ite (t := false) (by
            show asB (PD.b2 _ _ _) [.dat d, _, _, _, .dat (.int (a : Nat)), .dat (.int (b : Nat))] = _
            generalize at2 rs a b = y at *
            (simp (disch := first | assumption | omega) only [q1, q2, hw, MV, MW])) (fun z => nomatch z) fun _ => Rn.skip ⟨_, rfl⟩
        · obtain ⟨x5, rfl⟩ := hI
          exact ⟨_, _, rfl⟩
      · obtain ⟨x4, x5, rfl⟩ := hI
        exact ⟨_, _, _, rfl⟩
    · obtain ⟨x3, x4, x5, rfl⟩ := hI
      exact Rn.ret (d := .bl true) rfl ⟨_, rfl, rfl⟩
  · have hu' : unb (wn rs) L Ls = false := by simpa using hu
    rw [hu']
    unfold unb at hu
    simp only [List.all_eq_true, Bool.or_eq_true, beq_iff_eq, Bool.not_eq_true'] at hu
    -- a witness is found
    have hex : ∃ o ∈ Ls, o ≠ L ∧ ∃ i ∈ o, ∃ j ∈ L, wn rs i j = true := by
      refine Classical.byContradiction fun hn => hu fun o ho => ?_
      by_cases e : o = L
      · exact .inl e
      · refine .inr fun i hi j hj => ?_
        cases q : wn rs i j with
        | false => rfl
        | true => exact absurd ⟨o, ho, e, i, hi, j, hj, q⟩ hn
    obtain ⟨o0, ho0, hne0, i0, hi0, j0, hj0, hw0⟩ := hex
    obtain ⟨k0, hk0, ek0⟩ := List.getElem_of_mem ho0
    refine Rn.sqfor (xs := Ls) (φ := lD) rfl (fun k ρ => k ≤ k0 ∧ ∃ x3 x4 x5, ρ = [.dat d, .dat (lD L), .dat (lsD Ls), x3, x4, x5]) ⟨Nat.zero_le _, _, _, _, rfl⟩ (fun k hk ρ hI => ?_) (fun ρ hI => absurd hI.1 (by omega))
    obtain ⟨hkk, x3, x4, x5, rfl⟩ := hI
    refine ⟨_, rfl, ?_⟩
    have ho := List.getElem_mem hk
    have hok : k = k0 → Ls[k] = o0 := fun z => by subst z; exact ek0
    generalize Ls[k] = o at *
    refine Rn.ite (t := o != L) (by
      show asB (PD.b2 _ _ _) [_, .dat (lD L), _, .dat (lD o), _, _] = _
      have := ne_lD o L
      generalize lD o = A at *
      generalize lD L = B at *
      (simp (disch := first | assumption | omega) only [this, MV, MW])) (fun hne => ?_) fun hf => Rn.skip ⟨?_, _, _, _, rfl⟩
    · -- the loop over o either returns or goes through without a witness
      refine Rn.forT (xs := o) (φ := fun i : Nat => .int (i : Int)) (iOf_lD rfl) (fun i ρ => (∀ a ∈ o.take i, ∀ b ∈ L, wn rs a b = false) ∧ ∃ x4 x5, ρ = [.dat d, .dat (lD L), .dat (lsD Ls), .dat (lD o), x4, x5]) ⟨by simp, _, _, rfl⟩ (fun i hi ρ hI => ?_) (fun ρ hI => ?_)
      · obtain ⟨hp, x4, x5, rfl⟩ := hI
        refine ⟨_, rfl, ?_⟩
        have hm := List.getElem_mem hi
        have htk : o.take (i + 1) = o.take i ++ [o[i]] := List.take_succ_eq_append_getElem hi
        generalize o[i] = a at *
        refine Rn.forT (xs := L) (φ := fun i : Nat => .int (i : Int)) (iOf_lD rfl) (fun j ρ => (∀ b ∈ L.take j, wn rs a b = false) ∧ ∃ x5, ρ = [.dat d, .dat (lD L), .dat (lsD Ls), .dat (lD o), .dat (.int (a : Nat)), x5]) ⟨by simp, _, rfl⟩ (fun j hj ρ hI => ?_) (fun ρ hI => ?_)
        · obtain ⟨hq, x5, rfl⟩ := hI
          refine ⟨_, rfl, ?_⟩
          have hmj := List.getElem_mem hj
          have htj : L.take (j + 1) = L.take j ++ [L[j]] := List.take_succ_eq_append_getElem hj
          generalize L[j] = b at *
          obtain ⟨x, q1, q2⟩ := T.cell (hLs o ho a hm) (hL b hmj)
          refine Rn.ite (t := wn rs a b) (by
            show asB (PD.b2 _ _ _) [.dat d, _, _, _, .dat (.int (a : Nat)), .dat (.int (b : Nat))] = _
            have ew : wn rs a b = decide (0 < at2 rs a b) := rfl
            rw [ew]
            generalize at2 rs a b = y at *
            (simp (disch := first | assumption | omega) only [q1, q2, MV, MW])) (fun _ => Rn.ret (d := .bl false) rfl ⟨_, rfl, rfl⟩) fun hf => Rn.skip ⟨fun c hc => ?_, _, rfl⟩
          rw [htj] at hc
          rcases List.mem_append.mp hc with hc | hc
          · exact hq c hc
          · rw [List.mem_singleton.mp hc]; exact hf
        · obtain ⟨hq, x5, rfl⟩ := hI
          refine ⟨fun c hc => ?_, _, _, rfl⟩
          rw [htk] at hc
          rw [List.take_length] at hq
          rcases List.mem_append.mp hc with hc | hc
          · exact hp c hc
          · rw [List.mem_singleton.mp hc]; exact hq
      · obtain ⟨hp, x4, x5, rfl⟩ := hI
        rw [List.take_length] at hp
        refine ⟨?_, _, _, _, rfl⟩
        refine Nat.lt_of_le_of_ne hkk fun z => ?_
        have := hok z
        subst this
        rw [hp i0 hi0 j0 hj0] at hw0
        cases hw0
    · refine Nat.lt_of_le_of_ne hkk fun z => ?_
      have := hok z
      subst this
      have : o = L := by simpa using hf
      exact hne0 this
end Lg

namespace Lg
open PySem PySem.Spec L2 PD LG
theorem nodup_le : ∀ (n : Nat) {F : List Nat}, F.Nodup → (∀ x ∈ F, x < n) → F.length ≤ n
  | 0, F, _, h => by
    cases F with
    | nil => exact Nat.le_refl _
    | cons x _ => exact absurd (h x List.mem_cons_self) (Nat.not_lt_zero _)
  | n + 1, F, nd, h => by
    by_cases hm : n ∈ F
    · have := nodup_le n (F := F.erase n) (nd.erase n) fun x hx => by
        have := (nd.mem_erase_iff).mp hx
        have := h x this.2
        omega
      rw [List.length_erase_of_mem hm] at this
      omega
    · have := nodup_le n nd fun x hx => by
        have := h x hx
        have : x ≠ n := fun z => hm (z ▸ hx)
        omega
      omega
theorem in_lD (j : Nat) (F : List Nat) : inD (.int j) (lD F) = some (.bl (decide (j ∈ F))) := by
  unfold inD
  rw [in_ints]
  show some (D.bl _) = _
  congr 2
  rw [decide_eq_decide]
  simp only [List.mem_map]
  constructor
  · rintro ⟨a, ha, e⟩
    have : a = j := by omega
    exact this ▸ ha
  · exact fun h => ⟨j, h, rfl⟩
theorem nin_lD (j : Nat) (F : List Nat) : ninD (.int j) (lD F) = some (.bl (!decide (j ∈ F))) := by
  have h := in_lD j F
  unfold inD at h
  unfold ninD
  cases q : inB (.int j) (lD F) with
  | none => rw [q] at h; cases h
  | some b =>
    rw [q] at h
    cases h
    rfl
/-- what the search has found -/
structure Fo (n : Nat) (w : Nat → Nat → Bool) (s : Nat) (F : List Nat) : Prop where
  st : s ∈ F
  lt : ∀ x ∈ F, x < n
  rc : ∀ x ∈ F, pb w n s x = true
  nd : F.Nodup
theorem dats_nat (F : List Nat) (j : Nat) : O.dats ((F.map fun i : Nat => D.int (i : Int)) ++ [.int (j : Nat)]) = O.dats ((F ++ [j]).map fun i : Nat => D.int (i : Int)) := by rw [List.map_append]; rfl
theorem vw_dats (ds : List D) : O.vw (O.dats ds) = .dat (.lst ds) := by
  unfold O.vw
  rw [toD_dats]
theorem reached_run {d : D} {n : Nat} {rs : List (List Int)} (T : Tab d n rs) {s : Nat} (hs : s < n) : ∃ F, m_law_reached [d, .int s] = some (lD F) ∧ ∀ j, j < n → (j ∈ F ↔ pb (wn rs) n s j = true) := by
  have hn := T.hn
  have hl := T.len
  obtain ⟨D0, e0, F, rfl, hF⟩ : ∃ D0, m_law_reached [d, .int s] = some D0 ∧ ∃ F, D0 = lD F ∧ ∀ j, j < n → (j ∈ F ↔ pb (wn rs) n s j = true) := by
    refine runP_of ?_
    unfold b_law_reached
    show Rn _ [.dat d, .dat (.int s), .unk, .unk, .unk] _
    refine Rn.sqstO (o := O.dats ([s].map fun i : Nat => .int (i : Int))) rfl ?_
    refine Rn.sqforR (lo := 0) (n := n) (rng_eq (by show cB _ _ [.dat d, _, _, _, _] = _; (simp (disch := first | assumption | omega) only [hl, MV, MW])) (by omega)) (fun a ρ => ∃ F x3 x4, Fo n (wn rs) s F ∧ (∀ i (hi : i < F.length), i < a → ∀ j, j < n → wn rs F[i] j = true → j ∈ F) ∧ ρ = [.dat d, .dat (.int s), O.dats (F.map fun i : Nat => .int (i : Int)), x3, x4])
      ⟨[s], _, _, ⟨List.mem_singleton.mpr rfl, fun x hx => by rw [List.mem_singleton.mp hx]; exact hs, fun x hx => by rw [List.mem_singleton.mp hx]; exact pb_refl n s, by simp⟩, fun i _ h => absurd h (Nat.not_lt_zero _), rfl⟩ (fun a ha ρ hI => ?_) (fun ρ hI => ?_)
    · obtain ⟨F, x3, x4, hF, hC, rfl⟩ := hI
      refine ⟨_, rfl, ?_⟩
      rw [Int.zero_add]
      have hv := vw_dats (F.map fun i : Nat => D.int (i : Int))
      have hle := nodup_le n hF.nd hF.lt
      refine Rn.ite (t := decide (a < F.length)) (by
        show asB _ [_, _, O.vw (O.dats _), .dat (.int (a : Nat)), O.vw _] = _
        rw [hv]
        have e1 : lenD [D.lst (F.map fun i : Nat => D.int (i : Int))] = some (.int F.length) := by rw [ev_lenL, List.length_map]
        have e2 : decide ((a : Int) < (F.length : Int)) = decide (a < F.length) := by rw [decide_eq_decide]; omega
        generalize (F.map fun i : Nat => D.int (i : Int)) = FD at *
        (simp (disch := first | assumption | omega) only [e1, e2, MV, MW])) (fun ht => ?_) fun hf => ?_
      · have hlt : a < F.length := of_decide_eq_true ht
        have hFa : F[a] < n := hF.lt _ (List.getElem_mem hlt)
        refine Rn.forR (lo := 0) (n := n) (rng_eq (by show cB _ _ [.dat d, _, _, _, _] = _; (simp (disch := first | assumption | omega) only [hl, MV, MW])) (by omega)) (fun j ρ => ∃ G x4, Fo n (wn rs) s (F ++ G) ∧ (∀ k, k < j → wn rs F[a] k = true → k ∈ F ++ G) ∧ ρ = [.dat d, .dat (.int s), O.dats ((F ++ G).map fun i : Nat => .int (i : Int)), .dat (.int (a : Nat)), x4])
          ⟨[], _, by rw [List.append_nil]; exact hF, fun k h => absurd h (Nat.not_lt_zero _), by rw [List.append_nil]; rfl⟩ (fun j hj ρ hI => ?_) (fun ρ hI => ?_)
        · obtain ⟨G, x4, hG, hK, rfl⟩ := hI
          refine ⟨_, rfl, ?_⟩
          rw [Int.zero_add]
          have hv2 := vw_dats ((F ++ G).map fun i : Nat => D.int (i : Int))
          have hle2 := nodup_le n hG.nd hG.lt
          have ix : ixD (.lst ((F ++ G).map fun i : Nat => D.int (i : Int))) (.int a) = some (.int (F[a] : Nat)) := ix_map (g := fun i : Nat => D.int (i : Int)) (by rw [List.getElem?_append_left hlt, List.getElem?_eq_getElem hlt])
          have ni := nin_lD j (F ++ G)
          rw [lD_eq] at ni
          obtain ⟨x, q1, q2⟩ := T.cell hFa hj
          have tst : vwT (andT (asB (PD.b2 (PD.b2 (PD.b2 (gv 0) (PD.b2 (gv 2) (gv 3) ixD) ixD) (gv 4) ixD) (kI 0) gtI)) (asB (PD.b2 (gv 4) (gv 2) ninD))) [.dat d, .dat (.int s), O.dats ((F ++ G).map fun i : Nat => .int (i : Int)), .dat (.int (a : Nat)), .dat (.int (j : Nat))] = some (wn rs F[a] j && !decide (j ∈ F ++ G)) := by
            show andT _ _ [_, _, O.vw (O.dats _), .dat (.int (a : Nat)), .dat (.int (j : Nat))] = _
            rw [hv2]
            have ew : wn rs F[a] j = decide (0 < at2 rs F[a] j) := rfl
            rw [ew]
            generalize decide (j ∈ F ++ G) = bb at *
            generalize at2 rs F[a] j = y at *
            generalize ((F ++ G).map fun i : Nat => D.int (i : Int)) = FD at *
            generalize ((F[a] : Nat) : Int) = fa at *
            have a1 : asB (PD.b2 (PD.b2 (PD.b2 (gv 0) (PD.b2 (gv 2) (gv 3) ixD) ixD) (gv 4) ixD) (kI 0) gtI) [.dat d, .dat (.int s), .dat (.lst FD), .dat (.int (a : Nat)), .dat (.int (j : Nat))] = some (decide (0 < y)) := by (simp (disch := first | assumption | omega) only [ix, q1, q2, MV, MW])
            have a2 : asB (PD.b2 (gv 4) (gv 2) ninD) [.dat d, .dat (.int s), .dat (.lst FD), .dat (.int (a : Nat)), .dat (.int (j : Nat))] = some (!bb) := by (simp (disch := first | assumption | omega) only [ni, MV, MW])
            show (match asB (PD.b2 (PD.b2 (PD.b2 (gv 0) (PD.b2 (gv 2) (gv 3) ixD) ixD) (gv 4) ixD) (kI 0) gtI) [.dat d, .dat (.int s), .dat (.lst FD), .dat (.int (a : Nat)), .dat (.int (j : Nat))] with
              | some true => asB (PD.b2 (gv 4) (gv 2) ninD) [.dat d, .dat (.int s), .dat (.lst FD), .dat (.int (a : Nat)), .dat (.int (j : Nat))]
              | some false => some false
              | none => none) = _
            rw [a1, a2]
            cases decide (0 < y) <;> rfl
          refine Rn.ite tst (fun ht2 => ?_) fun hf => ?_
          · rw [Bool.and_eq_true, Bool.not_eq_true', decide_eq_false_iff_not] at ht2
            refine Rn.appD (d := .int (j : Nat)) (ds := (F ++ G).map fun i : Nat => .int (i : Int)) rfl rfl (by rw [List.length_map]; omega) ?_
            refine ⟨G ++ [j], .dat (.int (j : Nat)), ⟨?_, fun x hx => ?_, fun x hx => ?_, ?_⟩, fun k hk hw => ?_, ?_⟩
            · rw [← List.append_assoc]; exact List.mem_append_left _ hG.st
            · rw [← List.append_assoc] at hx
              rcases List.mem_append.mp hx with hx | hx
              · exact hG.lt x hx
              · rw [List.mem_singleton.mp hx]; exact hj
            · rw [← List.append_assoc] at hx
              rcases List.mem_append.mp hx with hx | hx
              · exact hG.rc x hx
              · rw [List.mem_singleton.mp hx]
                exact pb_trans n hFa (hF.rc _ (List.getElem_mem hlt)) (pb_edge n ht2.1)
            · rw [← List.append_assoc, List.nodup_append]
              exact ⟨hG.nd, by simp, fun x hx y hy z => ht2.2 (by rw [List.mem_singleton.mp hy] at z; exact z ▸ hx)⟩
            · rw [← List.append_assoc]
              by_cases c : k = j
              · subst c; exact List.mem_append_right _ (List.mem_singleton.mpr rfl)
              · exact List.mem_append_left _ (hK k (by omega) hw)
            · rw [← List.append_assoc]
              show [.dat d, .dat (.int s), O.dats _, .dat (.int (a : Nat)), .dat (.int (j : Nat))] = _
              rw [dats_nat]
          · refine Rn.skip ⟨G, _, hG, fun k hk hw => ?_, rfl⟩
            by_cases c : k = j
            · subst c
              rw [hw, Bool.true_and, Bool.not_eq_false', decide_eq_true_eq] at hf
              exact hf
            · exact hK k (by omega) hw
        · obtain ⟨G, x4, hG, hK, rfl⟩ := hI
          refine ⟨F ++ G, _, _, hG, fun i hi hia j hj hw => ?_, rfl⟩
          by_cases c : i = a
          · subst c
            rw [List.getElem_append_left hlt] at hw
            exact hK j hj hw
          · have hil : i < F.length := by omega
            rw [List.getElem_append_left hil] at hw
            exact List.mem_append_left _ (hC i hil (by omega) j hj hw)
      · refine Rn.skip ⟨F, _, _, hF, fun i hi hia j hj hw => ?_, rfl⟩
        have : ¬ a < F.length := fun z => by rw [decide_eq_true z] at hf; cases hf
        exact hC i hi (by omega) j hj hw
    · obtain ⟨F, x3, x4, hF, hC, rfl⟩ := hI
      have hle := nodup_le n hF.nd hF.lt
      refine Rn.fzD (ds := F.map fun i : Nat => .int (i : Int)) rfl ?_
      refine Rn.ret (d := .lst (F.map fun i : Nat => .int (i : Int))) rfl ⟨_, _, rfl, rfl, F, (lD_eq F).symm, fun j hj => ⟨hF.rc j, fun hp => ?_⟩⟩
      refine pb_closed (n := n) (S := fun x => x ∈ F) (fun i j hi hw hj => ?_) n (Nat.le_refl _) hF.st hj hp
      obtain ⟨k, hk, rfl⟩ := List.getElem_of_mem hi
      exact hC k hk (by omega) j hj hw
  exact ⟨F, e0, hF⟩
end Lg

namespace Lg
open PySem PySem.Spec L2 PD LG
theorem ok_lt {n : Nat} {w : Nat → Nat → Bool} {Ls : List (List Nat)} (h : AllLg n w Ls) : (∀ o ∈ Ls, ∀ i ∈ o, i < n) ∧ ∀ o ∈ Ls, o.length ≤ n := by
  refine ⟨fun o ho i hi => ?_, fun o ho => ?_⟩
  · obtain ⟨a, _, rfl⟩ := h o ho
    exact (mem_lg.mp hi).1
  · obtain ⟨a, _, rfl⟩ := h o ho
    exact lg_le a
theorem lg_cons {n : Nat} {w : Nat → Nat → Bool} {a : Nat} (h : a < n) : ∃ b t, lg n w a = b :: t := by
  have := lg_self (w := w) h
  cases q : lg n w a with
  | nil => rw [q] at this; cases this
  | cons b t => exact ⟨b, t, rfl⟩
theorem head_dec {n : Nat} {w : Nat → Nat → Bool} {a b : Nat} {t : List Nat} (h : lg n w a = b :: t) : ((lg n w a).head? == some a) = decide ((b : Int) = (a : Int)) := by
  rw [h, Bool.eq_iff_iff]
  simp
  omega
/-- what the loops over the heads give, so far -/
def hd (n : Nat) (w : Nat → Nat → Bool) (k : Nat) : List (List Nat) := ((List.range k).filter fun a => (lg n w a).head? == some a).map (lg n w)
theorem hd_succ {n : Nat} {w : Nat → Nat → Bool} {k : Nat} : hd n w (k + 1) = if ((lg n w k).head? == some k) = true then hd n w k ++ [lg n w k] else hd n w k := by
  unfold hd
  rw [List.range_succ, List.filter_append, List.map_append]
  by_cases h : ((lg n w k).head? == some k) = true
  · rw [if_pos h, List.filter_cons, if_pos h]; rfl
  · rw [if_neg h, List.filter_cons, if_neg h]; simp
theorem hd_le {n : Nat} {w : Nat → Nat → Bool} (k : Nat) : (hd n w k).length ≤ k := by
  unfold hd
  rw [List.length_map]
  have := List.length_filter_le (fun a => (lg n w a).head? == some a) (List.range k)
  simpa using this
theorem dats_lD (Ls : List (List Nat)) (L : List Nat) : O.dats (Ls.map lD ++ [lD L]) = O.dats ((Ls ++ [L]).map lD) := by rw [List.map_append]; rfl
theorem ord_step {w : Nat → Nat → Bool} {k : Nat} {Ls : List (List Nat)} : ord w (k + 1) Ls = nxt w Ls :: ord w k (Ls.filter fun L => L != nxt w Ls) := rfl
/-- the law's leagues -/
theorem lleagues_run {d : D} {n : Nat} {rs : List (List Int)} (T : Tab d n rs) : m_law_leagues [d] = some (lsD (ord (wn rs) (heads n (wn rs)).length (heads n (wn rs)))) := by
  have hn := T.hn
  have hl := T.len
  refine runP_eq ?_
  unfold b_law_leagues
  show Rn _ [.dat d, .unk, .unk, .unk, .unk, .unk, .unk, .unk, .unk] _
  -- what each one reaches
  have hF : ∀ s : Nat, ∃ F, s < n → m_law_reached [d, .int s] = some (lD F) ∧ ∀ j, j < n → (j ∈ F ↔ pb (wn rs) n s j = true) := fun s => by
    by_cases hs : s < n
    · obtain ⟨F, h1, h2⟩ := reached_run T hs
      exact ⟨F, fun _ => ⟨h1, h2⟩⟩
    · exact ⟨[], fun h => absurd h hs⟩
  obtain ⟨F, hF⟩ : ∃ F : Nat → List Nat, ∀ s, s < n → m_law_reached [d, .int s] = some (lD (F s)) ∧ ∀ j, j < n → (j ∈ F s ↔ pb (wn rs) n s j = true) := ⟨fun s => (hF s).choose, fun s => (hF s).choose_spec⟩
  refine Rn.sqst (d := .lst ((List.range n).map fun s => lD (F s))) ?_ ?_
  · refine lc_map (xs := List.range n) (φ := fun i : Nat => .int (0 + (i : Int))) (fun s => lD (F s)) rfl (by
      show rng1 _ [.dat d, _, _, _, _, _, _, _, _] = _
      rw [rng_eq (n := n) (by (simp (disch := first | assumption | omega) only [hl, MV, MW])) (by omega)]; rfl) (by simp; omega) fun s hs => ⟨_, rfl, ?_⟩
    have hs : s < n := by simpa using hs
    have e := (hF s hs).1
    show cB _ _ [.dat d, _, _, .dat (.int (0 + (s : Int))), _, _, _, _, _] = _
    rw [Int.zero_add]
    generalize lD (F s) = X at *
    (simp (disch := first | assumption | omega) only [e, MV, MW])
  have ixF : ∀ s, s < n → ixD (.lst ((List.range n).map fun s => lD (F s))) (.int s) = some (lD (F s)) := fun s hs => ix_rng hs
  have inF : ∀ s j, s < n → j < n → inD (.int j) (lD (F s)) = some (.bl (pb (wn rs) n s j)) := fun s j hs hj => by
    rw [in_lD]
    congr 2
    have := (hF s hs).2 j hj
    rw [Bool.eq_iff_iff, decide_eq_true_eq]
    exact this
  generalize D.lst ((List.range n).map fun s => lD (F s)) = RC at *
  refine Rn.sqstO (o := O.dats []) rfl ?_
  refine Rn.sqforR (lo := 0) (n := n) (rng_eq (by show cB _ _ [.dat d, _, _, _, _, _, _, _, _] = _; (simp (disch := first | assumption | omega) only [hl, MV, MW])) (by omega)) (fun k ρ => ∃ x3 x4, ρ = [.dat d, .dat RC, O.dats ((hd n (wn rs) k).map lD), x3, .dat x4, .unk, .unk, .unk, .unk] ∨ k = 0 ∧ ρ = [.dat d, .dat RC, O.dats [], x3, .unk, .unk, .unk, .unk, .unk]) ⟨.unk, .non, .inr ⟨rfl, rfl⟩⟩ (fun k hk ρ hI => ?_) (fun ρ hI => ?_)
  · obtain ⟨x3, x4, hI⟩ := hI
    obtain ⟨y4, rfl, hy⟩ : ∃ y4, ρ = [.dat d, .dat RC, O.dats ((hd n (wn rs) k).map lD), x3, y4, .unk, .unk, .unk, .unk] ∧ (y4 = .unk ∨ ∃ z, y4 = .dat z) := by
      rcases hI with rfl | ⟨rfl, rfl⟩
      · exact ⟨_, rfl, .inr ⟨_, rfl⟩⟩
      · exact ⟨_, rfl, .inl rfl⟩
    refine ⟨_, rfl, ?_⟩
    rw [Int.zero_add]
    have el : lcD (rng1 (cB (aCons (gv 0) aNil) lenD)) (gN 8) (andT (asB (PD.b2 (gv 8) (PD.b2 (gv 1) (gv 3) ixD) inD)) (asB (PD.b2 (gv 3) (PD.b2 (gv 1) (gv 8) ixD) inD))) (gv 8) [8] [.dat d, .dat RC, O.dats ((hd n (wn rs) k).map lD), .dat (.int (k : Nat)), y4, .unk, .unk, .unk, .unk] = some (lD (lg n (wn rs) k)) := by
      have := lc_fil (fi := rng1 (cB (aCons (gv 0) aNil) lenD)) (gt := gN 8) (t := andT (asB (PD.b2 (gv 8) (PD.b2 (gv 1) (gv 3) ixD) inD)) (asB (PD.b2 (gv 3) (PD.b2 (gv 1) (gv 8) ixD) inD))) (f := gv 8) (vs := [8]) (ρ := [.dat d, .dat RC, O.dats ((hd n (wn rs) k).map lD), .dat (.int (k : Nat)), y4, .unk, .unk, .unk, .unk]) (φ := fun i : Nat => .int (0 + (i : Int))) (fun i : Nat => .int (i : Int)) (fun j => pb (wn rs) n k j && pb (wn rs) n j k) (xs := List.range n) rfl (by
        show rng1 _ [.dat d, _, _, _, _, _, _, _, _] = _
        rw [rng_eq (n := n) (by (simp (disch := first | assumption | omega) only [hl, MV, MW])) (by omega)]; rfl) (by simp; omega) fun j hj => ⟨_, rfl, ?_, fun _ => ?_⟩
      · rw [this, lD_eq]; rfl
      · have hj : j < n := by simpa using hj
        have q1 := ixF k hk
        have q2 := ixF j hj
        have q3 := inF k j hk hj
        have q4 := inF j k hj hk
        rw [show (0 : Int) + (j : Int) = (j : Int) by omega]
        generalize lD (F k) = X at *
        generalize lD (F j) = Y at *
        generalize pb (wn rs) n k j = b1 at *
        generalize pb (wn rs) n j k = b2 at *
        generalize O.dats ((hd n (wn rs) k).map lD) = SL
        have a1 : asB (PD.b2 (gv 8) (PD.b2 (gv 1) (gv 3) ixD) inD) [.dat d, .dat RC, SL, .dat (.int (k : Nat)), y4, .unk, .unk, .unk, .dat (.int (j : Nat))] = some b1 := by (simp (disch := first | assumption | omega) only [q1, q3, MV, MW])
        have a2 : asB (PD.b2 (gv 3) (PD.b2 (gv 1) (gv 8) ixD) inD) [.dat d, .dat RC, SL, .dat (.int (k : Nat)), y4, .unk, .unk, .unk, .dat (.int (j : Nat))] = some b2 := by (simp (disch := first | assumption | omega) only [q2, q4, MV, MW])
        show (match asB (PD.b2 (gv 8) (PD.b2 (gv 1) (gv 3) ixD) inD) [.dat d, .dat RC, SL, .dat (.int (k : Nat)), y4, .unk, .unk, .unk, .dat (.int (j : Nat))] with
          | some true => asB (PD.b2 (gv 3) (PD.b2 (gv 1) (gv 8) ixD) inD) [.dat d, .dat RC, SL, .dat (.int (k : Nat)), y4, .unk, .unk, .unk, .dat (.int (j : Nat))]
          | some false => some false
          | none => none) = _
        rw [a1, a2]
        cases b1 <;> rfl
      · show gv 8 [_, _, _, _, _, _, _, _, .dat (.int (0 + (j : Int)))] = _
        rw [Int.zero_add]; rfl
    refine Rn.sqst el ?_
    obtain ⟨b, t, hbt⟩ := lg_cons (w := wn rs) hk
    have hh := ix_head hbt
    have hd1 := head_dec hbt
    have hs := hd_succ (n := n) (w := wn rs) (k := k)
    refine Rn.ite (t := (lg n (wn rs) k).head? == some k) (by
      rw [hd1]
      show asB (PD.b2 _ _ _) [_, _, _, .dat (.int (k : Nat)), .dat (lD (lg n (wn rs) k)), _, _, _, _] = _
      generalize lD (lg n (wn rs) k) = X at *
      (simp (disch := first | assumption | omega) only [hh, MV, MW])) (fun ht => ?_) fun hf => ?_
    · rw [if_pos ht] at hs
      have := hd_le (n := n) (w := wn rs) k
      refine Rn.appD (d := lD (lg n (wn rs) k)) (ds := (hd n (wn rs) k).map lD) rfl rfl (by rw [List.length_map]; omega) ?_
      refine ⟨.dat (.int (k : Nat)), lD (lg n (wn rs) k), .inl ?_⟩
      rw [hs]
      show [.dat d, .dat RC, O.dats _, .dat (.int (k : Nat)), .dat _, .unk, .unk, .unk, .unk] = _
      rw [dats_lD]
    · rw [if_neg (by rw [hf]; simp)] at hs
      refine Rn.skip ⟨.dat (.int (k : Nat)), lD (lg n (wn rs) k), .inl ?_⟩
      rw [hs]; rfl
  · obtain ⟨x3, x4, hI⟩ := hI
    obtain ⟨y4, rfl, hy⟩ : ∃ y4, ρ = [.dat d, .dat RC, O.dats ((heads n (wn rs)).map lD), x3, y4, .unk, .unk, .unk, .unk] ∧ (y4 = .unk ∨ ∃ z, y4 = .dat z) := by
      rcases hI with rfl | ⟨e, rfl⟩
      · exact ⟨_, rfl, .inr ⟨_, rfl⟩⟩
      · subst e; exact ⟨_, rfl, .inl rfl⟩
    have hal := heads_all (n := n) (w := wn rs)
    have hnd := heads_nodup (n := n) (w := wn rs)
    have hle := heads_le (n := n) (w := wn rs)
    generalize heads n (wn rs) = H0 at *
    refine Rn.sqstO (o := O.dats []) rfl ?_
    refine Rn.sq ?_
    refine Rn.fzD (ds := H0.map lD) rfl ?_
    refine Rn.forR (lo := 0) (n := H0.length) (rng_eq (by
      have e : lenD [lsD H0] = some (.int H0.length) := by rw [ev_lenL, List.length_map]
      show cB _ _ [_, _, .dat (lsD H0), _, _, _, _, _, _] = _
      generalize lsD H0 = X at *
      (simp (disch := first | assumption | omega) only [e, MV, MW])) (by omega)) (fun k ρ => ∃ Ls acc x2 x6 x7, Ls.length + k = H0.length ∧ Ls.Nodup ∧ AllLg n (wn rs) Ls ∧ acc ++ ord (wn rs) Ls.length Ls = ord (wn rs) H0.length H0 ∧ acc.length = k ∧ (x2 = .dat (lsD Ls) ∨ x2 = O.dats (Ls.map lD)) ∧ ρ = [.dat d, .dat RC, x2, x3, y4, O.dats (acc.map lD), x6, x7, .unk])
      ⟨H0, [], _, _, _, rfl, hnd, hal, rfl, rfl, .inl rfl, rfl⟩ (fun k hk ρ hI => ?_) (fun ρ hI => ?_)
    · obtain ⟨Ls, acc, x2, x6, x7, h1, h2, h3, h4, h5, h6, rfl⟩ := hI
      refine ⟨_, rfl, ?_⟩
      rw [Int.zero_add]
      have hok := ok_lt h3
      have hne : Ls ≠ [] := fun z => by rw [z] at h1; simp at h1; omega
      obtain ⟨t, ht, hm⟩ := nxt_mem h3 hne
      refine Rn.sq ?_
      refine Rn.fz (o := x2) (d := lsD Ls) rfl (by
        rcases h6 with rfl | rfl
        · rfl
        · exact toD_dats _) ?_
      have e7 : ∀ x2, lcD (iOf (gv 2)) (gN 4) (asB (cB (aCons (gv 0) (aCons (gv 4) (aCons (gv 2) aNil))) (len? 3 m_law_is_unbeaten))) (gv 4) [4] [.dat d, .dat RC, .dat (lsD Ls), x3, y4, O.dats (acc.map lD), .dat (.int (k : Nat)), x2, .unk] = some (lsD (nxt (wn rs) Ls :: t)) := fun x2 => by
        rw [← ht]
        refine lc_fil (fi := iOf (gv 2)) (φ := lD) lD (fun L => unb (wn rs) L Ls) (xs := Ls) (by rcases hy with rfl | ⟨z, rfl⟩ <;> rfl) rfl (by omega) fun L hL => ⟨_, rfl, ?_, fun _ => rfl⟩
        have := lunb_run T (hok.1 L hL) hok.1
        show asB (cB _ _) [.dat d, _, .dat (lsD Ls), _, .dat (lD L), _, _, _, _] = _
        generalize unb (wn rs) L Ls = bb at *
        generalize lD L = A at *
        generalize lsD Ls = B at *
        (simp (disch := first | assumption | omega) only [this, MV, MW])
      refine Rn.st (d := lsD (nxt (wn rs) Ls :: t)) (e7 _) ?_
      have i0 : ixD (lsD (nxt (wn rs) Ls :: t)) (.int 0) = some (lD (nxt (wn rs) Ls)) := ix_map (xs := nxt (wn rs) Ls :: t) (k := 0) rfl
      generalize lsD (nxt (wn rs) Ls :: t) = UB at *
      show Rn _ [.dat d, .dat RC, .dat (lsD Ls), x3, y4, O.dats (acc.map lD), .dat (.int (k : Nat)), .dat UB, .unk] _
      refine Rn.sqapp (d := lD (nxt (wn rs) Ls)) (ds := acc.map lD) (by
        show PD.b2 _ _ _ [_, _, _, _, _, _, _, .dat UB, _] = _
        generalize lD (nxt (wn rs) Ls) = A at *
        (simp (disch := first | assumption | omega) only [i0, MV, MW])) rfl (by rw [List.length_map]; omega) ?_
      rw [dats_lD]
      refine Rn.fz (o := .dat (lsD Ls)) (d := lsD Ls) rfl rfl ?_
      have e8 : lcO (iOf (gv 2)) (gN 4) (asB (PD.b2 (gv 4) (PD.b2 (gv 7) (kI 0) ixD) neD)) (gv 4) [4] [.dat d, .dat RC, .dat (lsD Ls), x3, y4, O.dats ((acc ++ [nxt (wn rs) Ls]).map lD), .dat (.int (k : Nat)), .dat UB, .unk] = some (O.dats ((Ls.filter fun L => L != nxt (wn rs) Ls).map lD)) := by
        refine lcO_fil (fi := iOf (gv 2)) (φ := lD) lD (fun L => L != nxt (wn rs) Ls) (xs := Ls) (by rcases hy with rfl | ⟨z, rfl⟩ <;> rfl) rfl (by omega) fun L hL => ⟨_, rfl, ?_, fun _ => rfl⟩
        have := ne_lD L (nxt (wn rs) Ls)
        show asB (PD.b2 _ _ _) [_, _, _, _, .dat (lD L), _, _, .dat UB, _] = _
        generalize (L != nxt (wn rs) Ls) = bb at *
        generalize lD L = A at *
        generalize lD (nxt (wn rs) Ls) = B at *
        (simp (disch := first | assumption | omega) only [i0, this, MV, MW])
      refine Rn.stO e8 ?_
      have hfl := filter_ne_len h2 hm
      refine ⟨_, acc ++ [nxt (wn rs) Ls], _, _, _, ?_, h2.filter _, all_filter h3, ?_, by simp [h5], .inr rfl, rfl⟩
      · omega
      · rw [← h4, ← hfl, ord_step, List.append_assoc]; rfl
    · obtain ⟨Ls, acc, x2, x6, x7, h1, h2, h3, h4, h5, h6, rfl⟩ := hI
      have : Ls = [] := List.eq_nil_of_length_eq_zero (by omega)
      subst this
      have h4 : acc = ord (wn rs) H0.length H0 := by rw [← h4]; exact (List.append_nil _).symm
      subst h4
      refine Rn.fzD (ds := (ord (wn rs) H0.length H0).map lD) rfl ?_
      exact Rn.ret (d := lsD (ord (wn rs) H0.length H0)) rfl ⟨_, rfl, rfl⟩
end Lg

namespace Lg
open PySem PySem.Spec L2 PD LG
abbrev tD (M0 : Hp) (L : List Nat) : D := newD M0 (il L)
theorem unt_tD (M0 : Hp) (L : List Nat) : unt (tD M0 L) = lD L := by
  show D.lst (unts ((il L).map .int)) = _
  rw [unt_int]
theorem unts_tD (M0 : Hp) : ∀ Ls : List (List Nat), unts (Ls.map (tD M0)) = Ls.map lD
  | [] => rfl
  | L :: Ls => by
    show unt (tD M0 L) :: unts (Ls.map (tD M0)) = _
    rw [unts_tD M0 Ls, unt_tD]; rfl
theorem unt_row {x : D} {r : List Int} (h : Rw x r) : unt x = x := by
  rcases h with rfl | rfl
  · show D.lst (unts _) = _
    rw [unt_int]
  · show D.tup (unts _) = _
    rw [unt_int]
theorem Tab.unt {d : D} {n : Nat} {rs : List (List Int)} (T : Tab d n rs) : PD.unt d = d := by
  obtain ⟨psi, hp, hd⟩ := T.hd
  have key : ∀ rs : List (List Int), unts (rs.map psi) = rs.map psi := fun rs => by
    induction rs with
    | nil => rfl
    | cons r rs ih =>
      show PD.unt (psi r) :: unts (rs.map psi) = _
      rw [ih, unt_row (hp r)]; rfl
  rcases hd with rfl | rfl
  · show D.lst (unts _) = _
    rw [key]
  · show D.tup (unts _) = _
    rw [key]
theorem intsO_dats (L : List Int) : intsO (O.dats (L.map .int)) = some L := by
  have : ∀ L : List Int, ((L.map D.int).map O.dat).mapM (fun o => match o with | .dat (.int i) => some i | _ => none) = some L := fun L => by
    induction L with
    | nil => rfl
    | cons i L ih =>
      rw [List.map_cons, List.map_cons, List.mapM_cons, ih]; rfl
  exact this L
theorem dats_tD (M0 : Hp) (Ls : List (List Nat)) (L : List Nat) : O.dats (Ls.map (tD M0) ++ [tD M0 L]) = O.dats ((Ls ++ [L]).map (tD M0)) := by rw [List.map_append]; rfl
/-- the program's leagues: each list new -/
theorem leagues_run {d : D} {n : Nat} {rs : List (List Int)} (T : Tab d n rs) (hn8 : n ≤ 8) (M0 : Hp) : mleagues [.tagM M0 d] = some (newLs M0 ((ord (wn rs) (heads n (wn rs)).length (heads n (wn rs))).map il)) := by
  have hn := T.hn
  have hl := T.len
  have hre := reach_run T
  have hu : PD.unt (.tagM M0 d) = d := T.unt
  obtain ⟨o, e, rfl⟩ : ∃ o, mleagues [.tagM M0 d] = some o ∧ o = newLs M0 ((ord (wn rs) (heads n (wn rs)).length (heads n (wn rs))).map il) := by
    refine runO_of ?_
    unfold bleagues
    generalize hd0 : D.tagM M0 d = d0 at *
    show Rn _ [.dat d0, .unk, .unk, .unk, .unk, .unk, .unk, .unk] _
    have u0 : ∀ l, untV (gv 0) (.dat d0 :: l) = some d := fun l => by
      show some (PD.unt d0) = _
      rw [hu]
    refine Rn.sqst (d := tabB n (pb (wn rs) n)) (by
      show cB _ _ (.dat d0 :: _) = _
      unfold cB aCons aNil
      rw [u0, Option.bind_some, Option.bind_some, Option.bind_some]
      exact hre) ?_
    have t1 : ∀ i, i < n → ixD (tabB n (pb (wn rs) n)) (.int i) = some (.lst (rowB n (pb (wn rs) n i))) := fun i hi => tabB_row hi
    have t2 : ∀ i j, j < n → ixD (.lst (rowB n (pb (wn rs) n i))) (.int j) = some (.bl (pb (wn rs) n i j)) := fun i j hj => rowB_ix hj
    generalize tabB n (pb (wn rs) n) = RC at *
    refine Rn.sqstO (o := O.dats []) rfl ?_
    have rg : ∀ l, rng1 (cB (aCons (untV (gv 0)) aNil) lenD) (.dat d0 :: l) = some (rangeD 0 n) := fun l => rng_eq (by
      unfold cB aCons aNil
      rw [u0, Option.bind_some, Option.bind_some, Option.bind_some]
      exact hl) (by omega)
    refine Rn.sqforR (lo := 0) (n := n) (rg _) (fun k ρ => ∃ x3 y4, ρ = [.dat d0, .dat RC, O.dats ((hd n (wn rs) k).map (tD M0)), x3, y4, .unk, .unk, .unk] ∧ ((∃ z, y4 = .dat z) ∨ k = 0 ∧ y4 = .unk)) ⟨_, _, rfl, .inr ⟨rfl, rfl⟩⟩ (fun k hk ρ hI => ?_) (fun ρ hI => ?_)
    · obtain ⟨x3, y4, rfl, hy⟩ := hI
      refine ⟨_, rfl, ?_⟩
      rw [Int.zero_add]
      have el : lcO (rng1 (cB (aCons (untV (gv 0)) aNil) lenD)) (gN 7) (andT (asB (PD.b2 (PD.b2 (gv 1) (gv 3) ixD) (gv 7) ixD)) (asB (PD.b2 (PD.b2 (gv 1) (gv 7) ixD) (gv 3) ixD))) (gv 7) [7] [.dat d0, .dat RC, O.dats ((hd n (wn rs) k).map (tD M0)), .dat (.int (k : Nat)), y4, .unk, .unk, .unk] = some (O.dats ((il (lg n (wn rs) k)).map .int)) := by
        have := lcO_fil (fi := rng1 (cB (aCons (untV (gv 0)) aNil) lenD)) (gt := gN 7) (t := andT (asB (PD.b2 (PD.b2 (gv 1) (gv 3) ixD) (gv 7) ixD)) (asB (PD.b2 (PD.b2 (gv 1) (gv 7) ixD) (gv 3) ixD))) (f := gv 7) (vs := [7]) (ρ := [.dat d0, .dat RC, O.dats ((hd n (wn rs) k).map (tD M0)), .dat (.int (k : Nat)), y4, .unk, .unk, .unk]) (φ := fun i : Nat => .int (0 + (i : Int))) (fun i : Nat => .int (i : Int)) (fun j => pb (wn rs) n k j && pb (wn rs) n j k) (xs := List.range n) rfl (rg _) (by simp; omega) fun j hj => ⟨_, rfl, ?_, fun _ => ?_⟩
        · rw [this]
          show some (O.dats ((lg n (wn rs) k).map _)) = some (O.dats ((il _).map _))
          unfold il
          rw [List.map_map]; rfl
        · have hj : j < n := by simpa using hj
          have q1 := t1 k hk
          have q2 := t1 j hj
          have q3 := t2 k j hj
          have q4 := t2 j k hk
          rw [show (0 : Int) + (j : Int) = (j : Int) by omega]
          generalize D.lst (rowB n (pb (wn rs) n k)) = X at *
          generalize D.lst (rowB n (pb (wn rs) n j)) = Y at *
          generalize pb (wn rs) n k j = b1 at *
          generalize pb (wn rs) n j k = b2 at *
          generalize O.dats ((hd n (wn rs) k).map (tD M0)) = SL
          have a1 : asB (PD.b2 (PD.b2 (gv 1) (gv 3) ixD) (gv 7) ixD) [.dat d0, .dat RC, SL, .dat (.int (k : Nat)), y4, .unk, .unk, .dat (.int (j : Nat))] = some b1 := by (simp (disch := first | assumption | omega) only [q1, q3, MV, MW])
          have a2 : asB (PD.b2 (PD.b2 (gv 1) (gv 7) ixD) (gv 3) ixD) [.dat d0, .dat RC, SL, .dat (.int (k : Nat)), y4, .unk, .unk, .dat (.int (j : Nat))] = some b2 := by (simp (disch := first | assumption | omega) only [q2, q4, MV, MW])
          show (match asB (PD.b2 (PD.b2 (gv 1) (gv 3) ixD) (gv 7) ixD) [.dat d0, .dat RC, SL, .dat (.int (k : Nat)), y4, .unk, .unk, .dat (.int (j : Nat))] with
            | some true => asB (PD.b2 (PD.b2 (gv 1) (gv 7) ixD) (gv 3) ixD) [.dat d0, .dat RC, SL, .dat (.int (k : Nat)), y4, .unk, .unk, .dat (.int (j : Nat))]
            | some false => some false
            | none => none) = _
          rw [a1, a2]
          cases b1 <;> rfl
        · show gv 7 [_, _, _, _, _, _, _, .dat (.int (0 + (j : Int)))] = _
          rw [Int.zero_add]; rfl
      refine Rn.sqstO el ?_
      show Rn _ [.dat d0, .dat RC, O.dats ((hd n (wn rs) k).map (tD M0)), .dat (.int (k : Nat)), O.dats ((il (lg n (wn rs) k)).map .int), .unk, .unk, .unk] _
      obtain ⟨b, t, hbt⟩ := lg_cons (w := wn rs) hk
      have hh := ix_head hbt
      have hd1 := head_dec hbt
      have hs := hd_succ (n := n) (w := wn rs) (k := k)
      have hfz : ∀ (g : Ev → Option Fl) (Q : Fl → Prop), Rn g [.dat d0, .dat RC, O.dats ((hd n (wn rs) k).map (tD M0)), .dat (.int (k : Nat)), .dat (tD M0 (lg n (wn rs) k)), .unk, .unk, .unk] Q → Rn (fzT 0 4 g) [.dat d0, .dat RC, O.dats ((hd n (wn rs) k).map (tD M0)), .dat (.int (k : Nat)), O.dats ((il (lg n (wn rs) k)).map .int), .unk, .unk, .unk] Q := fun g Q ⟨r, e, q⟩ => ⟨r, by
        subst hd0
        show (intsO (O.dats ((il (lg n (wn rs) k)).map .int))).bind _ = _
        rw [intsO_dats, Option.bind_some]
        exact e, q⟩
      refine hfz _ _ ?_
      have u4 := unt_tD M0 (lg n (wn rs) k)
      refine Rn.ite (t := (lg n (wn rs) k).head? == some k) (by
        rw [hd1]
        have e4 : untV (gv 4) [.dat d0, .dat RC, O.dats ((hd n (wn rs) k).map (tD M0)), .dat (.int (k : Nat)), .dat (tD M0 (lg n (wn rs) k)), .unk, .unk, .unk] = some (lD (lg n (wn rs) k)) := by
          show some (PD.unt (tD M0 (lg n (wn rs) k))) = _
          rw [u4]
        have e5 : asB (PD.b2 (PD.b2 (fun _ => some (lD (lg n (wn rs) k))) (kI 0) ixD) (gv 3) eqD) [.dat d0, .dat RC, O.dats ((hd n (wn rs) k).map (tD M0)), .dat (.int (k : Nat)), .dat (tD M0 (lg n (wn rs) k)), .unk, .unk, .unk] = some (decide ((b : Int) = (k : Int))) := by
          generalize lD (lg n (wn rs) k) = X at *
          generalize tD M0 (lg n (wn rs) k) = Y at *
          generalize O.dats ((hd n (wn rs) k).map (tD M0)) = SL
          (simp (disch := first | assumption | omega) only [hh, MV, MW])
        rw [← e5]
        unfold asB PD.b2
        rw [e4]) (fun ht => ?_) fun hf => ?_
      · rw [if_pos ht] at hs
        have := hd_le (n := n) (w := wn rs) k
        refine Rn.fz (o := .dat (tD M0 (lg n (wn rs) k))) (d := tD M0 (lg n (wn rs) k)) rfl rfl ?_
        refine Rn.appD (d := tD M0 (lg n (wn rs) k)) (ds := (hd n (wn rs) k).map (tD M0)) rfl rfl (by rw [List.length_map]; omega) ?_
        refine ⟨.dat (.int (k : Nat)), .dat (tD M0 (lg n (wn rs) k)), ?_, .inl ⟨_, rfl⟩⟩
        rw [hs]
        show [.dat d0, .dat RC, O.dats _, .dat (.int (k : Nat)), .dat _, .unk, .unk, .unk] = _
        rw [dats_tD]
      · rw [if_neg (by rw [hf]; simp)] at hs
        refine Rn.skip ⟨.dat (.int (k : Nat)), .dat (tD M0 (lg n (wn rs) k)), ?_, .inl ⟨_, rfl⟩⟩
        rw [hs]
    · obtain ⟨x3, y4, rfl, hy⟩ := hI
      have hal := heads_all (n := n) (w := wn rs)
      have hnd := heads_nodup (n := n) (w := wn rs)
      have hle := heads_le (n := n) (w := wn rs)
      show Rn _ [.dat d0, .dat RC, O.dats ((heads n (wn rs)).map (tD M0)), x3, y4, .unk, .unk, .unk] _
      generalize heads n (wn rs) = H0 at *
      have hy : H0 ≠ [] → ∃ z, y4 = .dat z := fun hne => by
        rcases hy with h | ⟨e, _⟩
        · exact h
        · exfalso
          apply hne
          exact List.eq_nil_of_length_eq_zero (by omega)
      refine Rn.sqstO (o := O.dats []) rfl ?_
      refine Rn.sq (Rn.whileG (α := List (List Nat) × List (List Nat)) (fun p => p.1.length) (fun p ρ => p.1.length + p.2.length = H0.length ∧ p.1.Nodup ∧ AllLg n (wn rs) p.1 ∧ p.2 ++ ord (wn rs) p.1.length p.1 = ord (wn rs) H0.length H0 ∧ ∃ x6, ρ = [.dat d0, .dat RC, O.dats (p.1.map (tD M0)), x3, y4, O.dats (p.2.map (tD M0)), x6, .unk])
        (a0 := (H0, [])) ⟨by simp, hnd, hal, rfl, _, rfl⟩ ?_)
      rintro ⟨Ls, acc⟩ ρ ⟨h1, h2, h3, h4, x6, rfl⟩
      simp only at h1 h2 h3 h4
      refine ⟨!Ls.isEmpty, ?_, fun ht => ?_, fun hf => ?_⟩
      · show truB (untV (gv 2)) [_, _, O.vw (O.dats _), _, _, _, _, _] = _
        rw [vw_dats]
        show truB (fun _ => some (PD.unt (.lst (Ls.map (tD M0))))) [] = _
        rw [show PD.unt (.lst (Ls.map (tD M0))) = .lst (unts (Ls.map (tD M0))) from rfl, unts_tD]
        show some (!(Ls.map lD).isEmpty) = _
        cases Ls <;> rfl
      · have hok := ok_lt h3
        have hne : Ls ≠ [] := fun z => by rw [z] at ht; cases ht
        obtain ⟨t, ht2, hm⟩ := nxt_mem h3 hne
        obtain ⟨z4, rfl⟩ := hy fun z => by
          rw [z] at h1
          have := List.length_pos_iff.mpr hne
          rw [List.length_nil] at h1; omega
        have hlL : Ls.length ≤ n := by omega
        refine Rn.sq ?_
        refine Rn.fzD (ds := Ls.map (tD M0)) rfl ?_
        refine Rn.fz (o := .dat z4) (d := z4) rfl rfl ?_
        have e7 : lcD (iOf (gv 2)) (gN 4) (asB (cB (aCons (untV (gv 0)) (aCons (untV (gv 4)) (aCons (untV (gv 2)) aNil))) (len? 3 mis_unbeaten))) (gv 4) [4] [.dat d0, .dat RC, .dat (.lst (Ls.map (tD M0))), x3, .dat z4, O.dats (acc.map (tD M0)), x6, .unk] = some (.lst ((nxt (wn rs) Ls :: t).map (tD M0))) := by
          rw [← ht2]
          refine lc_fil (fi := iOf (gv 2)) (φ := tD M0) (tD M0) (fun L => unb (wn rs) L Ls) (xs := Ls) rfl rfl (by omega) fun L hL => ⟨_, rfl, ?_, fun _ => rfl⟩
          have hlL' := hok.2 L hL
          have := unb_run T (hok.1 L hL) hok.1 hn8 hlL' hlL hok.2
          show asB (cB _ _) [.dat d0, _, .dat (.lst (Ls.map (tD M0))), _, .dat (tD M0 L), _, _, _] = _
          have e4 : ∀ l1 l2 l3 l4 l5 l6 l7, untV (gv 4) [l1, l2, l3, l4, .dat (tD M0 L), l5, l6, l7] = some (lD L) := fun _ _ _ _ _ _ _ => by
            show some (PD.unt (tD M0 L)) = _
            rw [unt_tD]
          have e2 : ∀ l1 l2 l4 l5 l6 l7 l8, untV (gv 2) [l1, l2, .dat (.lst (Ls.map (tD M0))), l4, l5, l6, l7, l8] = some (lsD Ls) := fun _ _ _ _ _ _ _ => by
            show some (D.lst (unts _)) = _
            rw [unts_tD]
          unfold asB cB aCons aNil
          rw [u0, e4, e2]
          simp only [Option.bind_some]
          rw [show len? 3 mis_unbeaten [d, lD L, lsD Ls] = mis_unbeaten [d, lD L, lsD Ls] from rfl, this]
        have i0 : ixD (.lst ((nxt (wn rs) Ls :: t).map (tD M0))) (.int 0) = some (tD M0 (nxt (wn rs) Ls)) := ix_map (xs := nxt (wn rs) Ls :: t) (k := 0) rfl
        show Rn _ [.dat d0, .dat RC, .dat (.lst (Ls.map (tD M0))), x3, .dat z4, O.dats (acc.map (tD M0)), x6, .unk] _
        refine Rn.st (d := tD M0 (nxt (wn rs) Ls)) (by
          show PD.b2 (lcD _ _ _ _ _) _ _ _ = _
          unfold PD.b2
          rw [e7, Option.bind_some]
          exact i0) ?_
        show Rn _ [.dat d0, .dat RC, .dat (.lst (Ls.map (tD M0))), x3, .dat z4, O.dats (acc.map (tD M0)), .dat (tD M0 (nxt (wn rs) Ls)), .unk] _
        have hfl := filter_ne_len h2 hm
        refine Rn.sqapp (d := tD M0 (nxt (wn rs) Ls)) (ds := acc.map (tD M0)) rfl rfl (by rw [List.length_map]; omega) ?_
        rw [dats_tD]
        refine Rn.fz (o := .dat (.lst (Ls.map (tD M0)))) (d := .lst (Ls.map (tD M0))) rfl rfl ?_
        refine Rn.fz (o := .dat z4) (d := z4) rfl rfl ?_
        have e8 : lcO (iOf (gv 2)) (gN 4) (asB (PD.b2 (untV (gv 4)) (untV (gv 6)) neD)) (gv 4) [4] [.dat d0, .dat RC, .dat (.lst (Ls.map (tD M0))), x3, .dat z4, O.dats ((acc ++ [nxt (wn rs) Ls]).map (tD M0)), .dat (tD M0 (nxt (wn rs) Ls)), .unk] = some (O.dats ((Ls.filter fun L => L != nxt (wn rs) Ls).map (tD M0))) := by
          refine lcO_fil (fi := iOf (gv 2)) (φ := tD M0) (tD M0) (fun L => L != nxt (wn rs) Ls) (xs := Ls) rfl rfl (by omega) fun L hL => ⟨_, rfl, ?_, fun _ => rfl⟩
          have := ne_lD L (nxt (wn rs) Ls)
          have e4 : ∀ l1 l2 l3 l4 l5 l6 l7, untV (gv 4) [l1, l2, l3, l4, .dat (tD M0 L), l5, l6, l7] = some (lD L) := fun _ _ _ _ _ _ _ => by
            show some (PD.unt (tD M0 L)) = _
            rw [unt_tD]
          have e6 : ∀ l1 l2 l3 l4 l5 l6 l7, untV (gv 6) [l1, l2, l3, l4, l5, l6, .dat (tD M0 (nxt (wn rs) Ls)), l7] = some (lD (nxt (wn rs) Ls)) := fun _ _ _ _ _ _ _ => by
            show some (PD.unt (tD M0 _)) = _
            rw [unt_tD]
          show asB (PD.b2 _ _ _) [_, _, _, _, .dat (tD M0 L), _, .dat (tD M0 (nxt (wn rs) Ls)), _] = _
          unfold asB PD.b2
          rw [e4, e6]
          simp only [Option.bind_some, this]
        refine Rn.stO e8 ?_
        refine ⟨(Ls.filter fun L => L != nxt (wn rs) Ls, acc ++ [nxt (wn rs) Ls]), ⟨?_, h2.filter _, all_filter h3, ?_, _, rfl⟩, ?_⟩
        · simp only [List.length_append, List.length_cons, List.length_nil]; omega
        · simp only
          rw [← h4, ← hfl, ord_step, List.append_assoc]; rfl
        · simp only; omega
      · have : Ls = [] := by
          cases Ls with
          | nil => rfl
          | cons _ _ => cases hf
        subst this
        have h4 : acc = ord (wn rs) H0.length H0 := by rw [← h4]; exact (List.append_nil _).symm
        subst h4
        refine Rn.rtM (o := O.dats ((ord (wn rs) H0.length H0).map (tD M0))) rfl ⟨_, rfl, ?_⟩
        show O.lst _ = O.lst _
        rw [List.map_map, List.map_map]; rfl
  exact e
theorem il_inj {a b : List Nat} (h : il a = il b) : a = b := lD_inj (by unfold lD; rw [h])
theorem leagues_new {d : D} {n : Nat} {rs : List (List Int)} (T : Tab d n rs) (hn8 : n ≤ 8) : GivesNew mleagues 1 [d] ((ord (wn rs) (heads n (wn rs)).length (heads n (wn rs))).map il) ∧ ((ord (wn rs) (heads n (wn rs)).length (heads n (wn rs))).map il).Nodup := by
  refine ⟨⟨rfl, fun M0 => leagues_run T hn8 M0⟩, ?_⟩
  have := (ord_spec (n := n) (w := wn rs) _ rfl heads_nodup heads_all).2.2
  rw [List.nodup_iff_pairwise_ne] at this ⊢
  rw [List.pairwise_map]
  exact this.imp fun h e => h (il_inj e)
end Lg

namespace K52
open PySem PySem.Spec L2 L2H PD
def topS (i : Nat) : Stmt := PySem.Challenge.pw_playhall_k52_leagues_in_order.main.body.getD i (.Pass ⟨0, 0, 0, 0⟩)
abbrev s_law_is_integer : Stmt := topS 11
theorem sc_law_is_integer : FnScope ["_law_value"] ["_law_value"] (defScope s_law_is_integer) := ⟨rfl, rfl, rfl, by decide +kernel, rfl, by decide +kernel, by decide +kernel⟩
abbrev s_law_are_leagues : Stmt := topS 12
theorem sc_law_are_leagues : FnScope ["_law_told", "_law_due", "_law_k", "_law_i"] ["_law_told", "_law_due"] (defScope s_law_are_leagues) := ⟨rfl, rfl, rfl, by decide +kernel, rfl, by decide +kernel, by decide +kernel⟩
abbrev sis_unbeaten : Stmt := topS 2
theorem scis_unbeaten : FnScope ["wins", "league", "left", "players", "other", "player", "rival"] ["wins", "league", "left"] (defScope sis_unbeaten) := ⟨rfl, rfl, rfl, by decide +kernel, rfl, by decide +kernel, by decide +kernel⟩
abbrev sreach_table : Stmt := topS 1
theorem screach_table : FnScope ["wins", "count", "table", "middle", "first", "second", "index", "row", "other", "amount"] ["wins"] (defScope sreach_table) := ⟨rfl, rfl, rfl, by decide +kernel, rfl, by decide +kernel, by decide +kernel⟩
abbrev sleagues : Stmt := topS 3
theorem scleagues : FnScope ["wins", "reaches", "left", "player", "league", "result", "following", "other"] ["wins"] (defScope sleagues) := ⟨rfl, rfl, rfl, by decide +kernel, rfl, by decide +kernel, by decide +kernel⟩
abbrev s_law_is_unbeaten : Stmt := topS 9
theorem sc_law_is_unbeaten : FnScope ["_law_table_here", "_law_league", "_law_rest", "_law_other", "_law_i", "_law_j"] ["_law_table_here", "_law_league", "_law_rest"] (defScope s_law_is_unbeaten) := ⟨rfl, rfl, rfl, by decide +kernel, rfl, by decide +kernel, by decide +kernel⟩
abbrev s_law_reached : Stmt := topS 8
theorem sc_law_reached : FnScope ["_law_table_here", "_law_start", "_law_found", "_law_at", "_law_j"] ["_law_table_here", "_law_start"] (defScope s_law_reached) := ⟨rfl, rfl, rfl, by decide +kernel, rfl, by decide +kernel, by decide +kernel⟩
abbrev s_law_leagues : Stmt := topS 10
theorem sc_law_leagues : FnScope ["_law_table_here", "_law_reached_here", "_law_rest", "_law_i", "_law_league", "_law_order", "_law_k", "_law_unbeaten", "_law_j"] ["_law_table_here"] (defScope s_law_leagues) := ⟨rfl, rfl, rfl, by decide +kernel, rfl, by decide +kernel, by decide +kernel⟩
abbrev s_law_cell : Stmt := topS 5
theorem sc_law_cell : FnScope ["_law_script", "_law_k"] ["_law_script", "_law_k"] (defScope s_law_cell) := ⟨rfl, rfl, rfl, by decide +kernel, rfl, by decide +kernel, by decide +kernel⟩
abbrev s_law_row : Stmt := topS 6
theorem sc_law_row : FnScope ["_law_cell_here", "_law_many", "_law_row_here", "_law_seed", "_law_rest", "_law_k", "_law_mixed"] ["_law_cell_here", "_law_many"] (defScope s_law_row) := ⟨rfl, rfl, rfl, by decide +kernel, rfl, by decide +kernel, by decide +kernel⟩
abbrev s_law_table : Stmt := topS 7
theorem sc_law_table : FnScope ["_law_script", "_law_head", "_law_many", "_law_chance", "_law_row_here", "_law_table_here", "_law_i", "_law_line", "_law_j", "_law_number", "_law_amount", "_law_lower"] ["_law_script"] (defScope s_law_table) := ⟨rfl, rfl, rfl, by decide +kernel, rfl, by decide +kernel, by decide +kernel⟩
abbrev slaw : Stmt := topS 13
theorem sclaw : FnScope ["_law_script", "_law_table_here", "_law_due", "_law_handed", "_law_told", "_law_league", "_law_exchanged", "_law_line", "_law_k"] ["_law_script"] (defScope slaw) := ⟨rfl, rfl, rfl, by decide +kernel, rfl, by decide +kernel, by decide +kernel⟩
/-- _law_is_integer: 0 _law_value -/
noncomputable abbrev b_law_is_integer : Ev → Option Fl :=
    (rtV (andV (b1 (gv 0) (isiD "int")) (notV (b1 (gv 0) (isiD "bool")))))
noncomputable def m_law_is_integer : List D → Option D := runP 1 (b_law_is_integer)
/-- _law_are_leagues: 0 _law_told, 1 _law_due, 2 _law_k, 3 _law_i -/
noncomputable abbrev b_law_are_leagues : Ev → Option Fl :=
    (sq (ifS (orT (notT (asB (b1 (gv 0) (isiD "list")))) (asB (b2 (cB (aCons (gv 0) aNil) lenD) (cB (aCons (gv 1) aNil) lenD) neD))) (rtV (kB false)) skip)
    (sq (forS (rng1 (cB (aCons (gv 1) aNil) lenD)) (gN 2) (sq (ifS (orT (notT (asB (b1 (b2 (gv 0) (gv 2) ixD) (isiD "list")))) (asB (b2 (cB (aCons (b2 (gv 0) (gv 2) ixD) aNil) lenD) (cB (aCons (b2 (gv 1) (gv 2) ixD) aNil) lenD) neD))) (rtV (kB false)) skip)
    (forS (rng1 (cB (aCons (b2 (gv 1) (gv 2) ixD) aNil) lenD)) (gN 3) (ifS (orT (notT (asB (cB (aCons (b2 (b2 (gv 0) (gv 2) ixD) (gv 3) ixD) aNil) (len? 1 (m_law_is_integer))))) (asB (b2 (b2 (b2 (gv 0) (gv 2) ixD) (gv 3) ixD) (b2 (b2 (gv 1) (gv 2) ixD) (gv 3) ixD) neD))) (rtV (kB false)) skip))))
    (rtV (kB true))))
noncomputable def m_law_are_leagues : List D → Option D := runP 4 (b_law_are_leagues)
/-- is_unbeaten: 0 wins, 1 league, 2 left, 3 players, 4 other, 5 player, 6 rival -/
noncomputable abbrev bis_unbeaten : Ev → Option Fl :=
    (sq (stV 3 (lcD2 (iOf (gv 2)) (gN 4) (asB (b2 (gv 4) (gv 1) neD)) (iOf (gv 4)) (gN 5) yes (gv 5) [4, 5] [5]))
    (rtV (notV (cB (aCons (lcD2 (iOf (gv 3)) (gN 6) yes (iOf (gv 1)) (gN 5) yes (b2 (b2 (b2 (gv 0) (gv 6) ixD) (gv 5) ixD) (kI 0) gtI) [6, 5] [5]) aNil) anyD))))
noncomputable def mis_unbeaten : List D → Option D := runP 7 (bis_unbeaten)
/-- reach_table: 0 wins, 1 count, 2 table, 3 middle, 4 first, 5 second, 6 index, 7 row, 8 other, 9 amount -/
noncomputable abbrev breach_table : Ev → Option Fl :=
    (sq (stV 1 (cB (aCons (gv 0) aNil) lenD))
    (sq (stO 2 (lcOO (enuA (gv 0)) (gT 2 (gsC (gN 6) (gsC (gN 7) gsN))) yes (lcO (enuA (gv 7)) (gT 2 (gsC (gN 8) (gsC (gN 9) gsN))) yes (orV (b2 (gv 6) (gv 8) eqD) (b2 (gv 9) (kI 0) gtI)) [8, 9]) [6, 7]))
    (sq (forS (rng1 (gv 1)) (gN 3) (forS (rng1 (gv 1)) (gN 4) (forS (rng1 (gv 1)) (gN 5) (ifS (vwT (andT (asB (b2 (b2 (gv 2) (gv 4) ixD) (gv 3) ixD)) (asB (b2 (b2 (gv 2) (gv 3) ixD) (gv 5) ixD)))) (setP 2 (plI 2 plN (gv 4)) (gv 5) (thaw (kB true))) skip))))
    (fz 2 (rtV (gv 2))))))
noncomputable def mreach_table : List D → Option D := runP 10 (breach_table)
/-- leagues: 0 wins, 1 reaches, 2 left, 3 player, 4 league, 5 result, 6 following, 7 other -/
noncomputable abbrev bleagues : Ev → Option Fl :=
    (sq (stV 1 (cB (aCons (untV (gv 0)) aNil) (len? 1 (mreach_table))))
    (sq (stO 2 (mkLstO aNil))
    (sq (forS (rng1 (cB (aCons (untV (gv 0)) aNil) lenD)) (gN 3) (sq (stO 4 (lcO (rng1 (cB (aCons (untV (gv 0)) aNil) lenD)) (gN 7) (andT (asB (b2 (b2 (gv 1) (gv 3) ixD) (gv 7) ixD)) (asB (b2 (b2 (gv 1) (gv 7) ixD) (gv 3) ixD))) (gv 7) [7]))
    (fzT 0 4 (ifS (asB (b2 (b2 (untV (gv 4)) (kI 0) ixD) (gv 3) eqD)) (fz 4 (app 2 (gv 4))) skip))))
    (sq (stO 5 (mkLstO aNil))
    (sq (whileS (vwT (truB (untV (gv 2)))) (sq (fz 2 (fz 4 (stV 6 (b2 (lcD (iOf (gv 2)) (gN 4) (asB (cB (aCons (untV (gv 0)) (aCons (untV (gv 4)) (aCons (untV (gv 2)) aNil))) (len? 3 (mis_unbeaten)))) (gv 4) [4]) (kI 0) ixD))))
    (sq (app 5 (gv 6))
    (fz 2 (fz 4 (stO 2 (lcO (iOf (gv 2)) (gN 4) (asB (b2 (untV (gv 4)) (untV (gv 6)) neD)) (gv 4) [4])))))))
    (rtM (mv 5)))))))
noncomputable def mleagues : List D → Option O := runO 8 (bleagues)
/-- _law_is_unbeaten: 0 _law_table_here, 1 _law_league, 2 _law_rest, 3 _law_other, 4 _law_i, 5 _law_j -/
noncomputable abbrev b_law_is_unbeaten : Ev → Option Fl :=
    (sq (forS (iOf (gv 2)) (gN 3) (ifS (asB (b2 (gv 3) (gv 1) neD)) (forS (iOf (gv 3)) (gN 4) (forS (iOf (gv 1)) (gN 5) (ifS (asB (b2 (b2 (b2 (gv 0) (gv 4) ixD) (gv 5) ixD) (kI 0) gtI)) (rtV (kB false)) skip))) skip))
    (rtV (kB true)))
noncomputable def m_law_is_unbeaten : List D → Option D := runP 6 (b_law_is_unbeaten)
/-- _law_reached: 0 _law_table_here, 1 _law_start, 2 _law_found, 3 _law_at, 4 _law_j -/
noncomputable abbrev b_law_reached : Ev → Option Fl :=
    (sq (stO 2 (mkLstO (aCons (gv 1) aNil)))
    (sq (forS (rng1 (cB (aCons (gv 0) aNil) lenD)) (gN 3) (ifS (vwT (asB (b2 (gv 3) (cB (aCons (gv 2) aNil) lenD) ltI))) (forS (rng1 (cB (aCons (gv 0) aNil) lenD)) (gN 4) (ifS (vwT (andT (asB (b2 (b2 (b2 (gv 0) (b2 (gv 2) (gv 3) ixD) ixD) (gv 4) ixD) (kI 0) gtI)) (asB (b2 (gv 4) (gv 2) ninD)))) (app 2 (gv 4)) skip)) skip))
    (fz 2 (rtV (gv 2)))))
noncomputable def m_law_reached : List D → Option D := runP 5 (b_law_reached)
/-- _law_leagues: 0 _law_table_here, 1 _law_reached_here, 2 _law_rest, 3 _law_i, 4 _law_league, 5 _law_order, 6 _law_k, 7 _law_unbeaten, 8 _law_j -/
noncomputable abbrev b_law_leagues : Ev → Option Fl :=
    (sq (stV 1 (lcD (rng1 (cB (aCons (gv 0) aNil) lenD)) (gN 3) yes (cB (aCons (gv 0) (aCons (gv 3) aNil)) (len? 2 (m_law_reached))) [3]))
    (sq (stO 2 (mkLstO aNil))
    (sq (forS (rng1 (cB (aCons (gv 0) aNil) lenD)) (gN 3) (sq (stV 4 (lcD (rng1 (cB (aCons (gv 0) aNil) lenD)) (gN 8) (andT (asB (b2 (gv 8) (b2 (gv 1) (gv 3) ixD) inD)) (asB (b2 (gv 3) (b2 (gv 1) (gv 8) ixD) inD))) (gv 8) [8]))
    (ifS (asB (b2 (b2 (gv 4) (kI 0) ixD) (gv 3) eqD)) (app 2 (gv 4)) skip)))
    (sq (stO 5 (mkLstO aNil))
    (sq (fz 2 (forS (rng1 (cB (aCons (gv 2) aNil) lenD)) (gN 6) (sq (fz 2 (stV 7 (lcD (iOf (gv 2)) (gN 4) (asB (cB (aCons (gv 0) (aCons (gv 4) (aCons (gv 2) aNil))) (len? 3 (m_law_is_unbeaten)))) (gv 4) [4])))
    (sq (app 5 (b2 (gv 7) (kI 0) ixD))
    (fz 2 (stO 2 (lcO (iOf (gv 2)) (gN 4) (asB (b2 (gv 4) (b2 (gv 7) (kI 0) ixD) neD)) (gv 4) [4])))))))
    (fz 5 (rtV (gv 5))))))))
noncomputable def m_law_leagues : List D → Option D := runP 9 (b_law_leagues)
/-- _law_cell: 0 _law_script, 1 _law_k -/
noncomputable abbrev b_law_cell : Ev → Option Fl :=
    (rtV (ifV (asB (b2 (gv 1) (cB (aCons (gv 0) aNil) lenD) ltI)) (cB (aCons (b2 (gv 0) (gv 1) ixD) aNil) intD) (kI 0)))
noncomputable def m_law_cell : List D → Option D := runP 2 (b_law_cell)
/-- _law_row: 0 _law_cell_here, 1 _law_many, 2 _law_row_here, 3 _law_seed, 4 _law_rest, 5 _law_k, 6 _law_mixed -/
noncomputable abbrev b_law_row : Ev → Option Fl :=
    (sq (stO 2 (mkLstO aNil))
    (sq (stV 3 (b2 (cB (aCons (gv 0) aNil) intD) (kI 2147483629) modI))
    (sq (stV 4 (b2 (gv 0) (b2 (kI 10) (kI 18) powI) subI))
    (sq (forS (rng1 (gv 1)) (gN 5) (sq (stV 3 (b2 (cB (aCons (b2 (b2 (b2 (gv 3) (kI 48271) mulI) (b2 (kI 977) (gv 5) mulI) addA) (kI 12345) addA) aNil) intD) (kI 2147483647) modI))
    (sq (stV 6 (b2 (cB (aCons (b2 (b2 (b2 (gv 3) (kI 69621) mulI) (b2 (kI 31) (gv 5) mulI) addA) (kI 7) addA) aNil) intD) (kI 2147483629) modI))
    (sq (app 2 (ifV (asB (b2 (gv 0) (b2 (kI 10) (kI 18) powI) geI)) (b2 (cB (aCons (gv 4) aNil) intD) (kI 1000) modI) (b2 (cB (aCons (b2 (gv 6) (kI 4099) divI) aNil) intD) (kI 1000) modI)))
    (stV 4 (b2 (gv 4) (kI 1000) divI))))))
    (fz 2 (rtV (gv 2)))))))
noncomputable def m_law_row : List D → Option D := runP 7 (b_law_row)
/-- _law_table: 0 _law_script, 1 _law_head, 2 _law_many, 3 _law_chance, 4 _law_row_here, 5 _law_table_here, 6 _law_i, 7 _law_line, 8 _law_j, 9 _law_number, 10 _law_amount, 11 _law_lower -/
noncomputable abbrev b_law_table : Ev → Option Fl :=
    (sq (stV 1 (cB (aCons (cB (aCons (gv 0) (aCons (kI 0) aNil)) (len? 2 (m_law_cell))) (aCons (kI 4) aNil)) (len? 2 (m_law_row))))
    (sq (stV 2 (b2 (cB (aCons (b2 (gv 1) (kI 0) ixD) aNil) intD) (kI 7) modI))
    (sq (ifS (asB (b2 (b2 (cB (aCons (b2 (gv 1) (kI 1) ixD) aNil) intD) (kI 8) modI) (kI 1) eqD)) (stV 2 (b2 (cB (aCons (b2 (gv 1) (kI 0) ixD) aNil) intD) (kI 9) modI)) skip)
    (sq (stV 3 (b2 (cB (aCons (b2 (gv 1) (kI 2) ixD) aNil) intD) (kI 9) modI))
    (sq (stV 4 (cB (aCons (cB (aCons (gv 0) (aCons (kI 1) aNil)) (len? 2 (m_law_cell))) (aCons (kI 64) aNil)) (len? 2 (m_law_row))))
    (sq (stO 5 (mkLstO aNil))
    (sq (forS (rng1 (gv 2)) (gN 6) (sq (stO 7 (mkLstO aNil))
    (sq (forS (rng1 (gv 2)) (gN 8) (sq (stV 9 (b2 (gv 4) (b2 (b2 (kI 8) (gv 6) mulI) (gv 8) addA) ixD))
    (sq (stV 10 (kI 0))
    (sq (ifS (asB (b2 (b2 (cB (aCons (gv 9) aNil) intD) (kI 8) modI) (gv 3) ltI)) (sq (stV 10 (b2 (kI 1) (b2 (cB (aCons (b2 (gv 9) (kI 8) divI) aNil) intD) (kI 5) modI) addA))
    (ifS (asB (b2 (b2 (cB (aCons (b2 (gv 9) (kI 40) divI) aNil) intD) (kI 4) modI) (kI 0) eqD)) (sq (stV 11 (b2 (mkLst (aCons (kI 1) (aCons (b2 (kI 10) (kI 40) powI) aNil))) (b2 (b2 (b2 (kI 8) (gv 6) mulI) (gv 8) addA) (kI 61) divI) ixD))
    (stV 10 (b2 (cB (aCons (b2 (cB (aCons (gv 0) (aCons (b2 (kI 2) (b2 (cB (aCons (b2 (b2 (kI 8) (gv 6) mulI) (gv 8) addA) aNil) intD) (kI 61) modI) addA) aNil)) (len? 2 (m_law_cell))) (gv 11) divX) aNil) intD) (b2 (kI 10) (kI 40) powI) modI))) skip)) skip)
    (sq (ifS (andT (asB (b2 (gv 6) (gv 8) eqD)) (asB (b2 (b2 (cB (aCons (b2 (gv 1) (kI 3) ixD) aNil) intD) (kI 4) modI) (kI 1) neD))) (stV 10 (kI 0)) skip)
    (app 7 (gv 10)))))))
    (fz 7 (app 5 (gv 7))))))
    (fz 5 (rtV (gv 5))))))))))
noncomputable def m_law_table : List D → Option D := runP 12 (b_law_table)
/-- law: 0 _law_script, 1 _law_table_here, 2 _law_due, 3 _law_handed, 4 _law_told, 5 _law_league, 6 _law_exchanged, 7 _law_line, 8 _law_k -/
noncomputable abbrev blaw : Ev → Option Fl :=
    (sq (stV 1 (cB (aCons (gv 0) aNil) (len? 1 (m_law_table))))
    (sq (stV 2 (cB (aCons (gv 1) aNil) (len? 1 (m_law_leagues))))
    (sq (stV 3 (lcD (iOf (gv 1)) (gN 7) yes (frz (cO (aCons (gv 7) aNil) listO)) [7]))
    (sq (stO 4 (cN (aCons (gv 3) aNil) 1 (mleagues)))
    (sq (ifS (vwT (orT (asB (b2 (gv 3) (gv 1) neD)) (notT (asB (cB (aCons (gv 4) (aCons (gv 2) aNil)) (len? 2 (m_law_are_leagues))))))) (rtV (kB false)) skip)
    (sq (appAll 5 4 (.dat (.int 8)))
    (sq (appP 4 plN (mkLstO (aCons (kI 8) aNil)))
    (sq (ifS (notT (asB (cB (aCons (cNF (aCons (cB (aCons (lcD (iOf (gv 1)) (gN 7) yes (cB (aCons (gv 7) aNil) tupD) [7]) aNil) tupD) aNil) 1 (mleagues)) (aCons (gv 2) aNil)) (len? 2 (m_law_are_leagues))))) (rtV (kB false)) skip)
    (sq (stV 6 (lcD (rng1 (cB (aCons (gv 1) aNil) lenD)) (gN 8) yes (lcD (iOf (gv 1)) (gN 7) yes (b2 (gv 7) (gv 8) ixD) [7]) [8]))
    (sq (ifS (notT (asB (cB (aCons (cNF (aCons (gv 6) aNil) 1 (mleagues)) (aCons (cB (aCons (gv 6) aNil) (len? 1 (m_law_leagues))) aNil)) (len? 2 (m_law_are_leagues))))) (rtV (kB false)) skip)
    (rtV (cB (aCons (cNF (aCons (gv 3) aNil) 1 (mleagues)) (aCons (gv 2) aNil)) (len? 2 (m_law_are_leagues))))))))))))))
noncomputable def mlaw : List D → Option D := runP 9 (blaw)
section
variable {P : Program} {w : World} {K : PySem.W.Frag} {mg : Str → Option Value} {base : Heap}
/-- what the top has written -/
structure Tx (K : PySem.W.Frag) (mg : Str → Option Value) where
  n_any : mg "any" = none
  n_bool : mg "bool" = none
  n_enumerate : mg "enumerate" = none
  n_int : mg "int" = none
  n_isinstance : mg "isinstance" = none
  n_len : mg "len" = none
  n_list : mg "list" = none
  n_range : mg "range" = none
  n_tuple : mg "tuple" = none
  f_law_is_integer : Addr
  fd_law_is_integer : FuncData
  F_law_is_integer : Fun K "_law_is_integer" "_law_is_integer" s_law_is_integer f_law_is_integer fd_law_is_integer
  g_law_is_integer : mg "_law_is_integer" = some (.ref f_law_is_integer)
  b_law_is_integer : Binds K fd_law_is_integer ["_law_value"] []
  f_law_are_leagues : Addr
  fd_law_are_leagues : FuncData
  F_law_are_leagues : Fun K "_law_are_leagues" "_law_are_leagues" s_law_are_leagues f_law_are_leagues fd_law_are_leagues
  g_law_are_leagues : mg "_law_are_leagues" = some (.ref f_law_are_leagues)
  b_law_are_leagues : Binds K fd_law_are_leagues ["_law_told", "_law_due"] []
  fis_unbeaten : Addr
  fdis_unbeaten : FuncData
  Fis_unbeaten : Fun K "is_unbeaten" "is_unbeaten" sis_unbeaten fis_unbeaten fdis_unbeaten
  gis_unbeaten : mg "is_unbeaten" = some (.ref fis_unbeaten)
  bis_unbeaten : Binds K fdis_unbeaten ["wins", "league", "left"] []
  freach_table : Addr
  fdreach_table : FuncData
  Freach_table : Fun K "reach_table" "reach_table" sreach_table freach_table fdreach_table
  greach_table : mg "reach_table" = some (.ref freach_table)
  breach_table : Binds K fdreach_table ["wins"] []
  fleagues : Addr
  fdleagues : FuncData
  Fleagues : Fun K "leagues" "leagues" sleagues fleagues fdleagues
  gleagues : mg "leagues" = some (.ref fleagues)
  bleagues : Binds K fdleagues ["wins"] []
  kleagues : KBn K fdleagues ["wins"] 0 ["wins"] (fun us ws => us ++ ws) (fun vs zs => vs ++ zs)
  f_law_is_unbeaten : Addr
  fd_law_is_unbeaten : FuncData
  F_law_is_unbeaten : Fun K "_law_is_unbeaten" "_law_is_unbeaten" s_law_is_unbeaten f_law_is_unbeaten fd_law_is_unbeaten
  g_law_is_unbeaten : mg "_law_is_unbeaten" = some (.ref f_law_is_unbeaten)
  b_law_is_unbeaten : Binds K fd_law_is_unbeaten ["_law_table_here", "_law_league", "_law_rest"] []
  f_law_reached : Addr
  fd_law_reached : FuncData
  F_law_reached : Fun K "_law_reached" "_law_reached" s_law_reached f_law_reached fd_law_reached
  g_law_reached : mg "_law_reached" = some (.ref f_law_reached)
  b_law_reached : Binds K fd_law_reached ["_law_table_here", "_law_start"] []
  f_law_leagues : Addr
  fd_law_leagues : FuncData
  F_law_leagues : Fun K "_law_leagues" "_law_leagues" s_law_leagues f_law_leagues fd_law_leagues
  g_law_leagues : mg "_law_leagues" = some (.ref f_law_leagues)
  b_law_leagues : Binds K fd_law_leagues ["_law_table_here"] []
  f_law_cell : Addr
  fd_law_cell : FuncData
  F_law_cell : Fun K "_law_cell" "_law_cell" s_law_cell f_law_cell fd_law_cell
  g_law_cell : mg "_law_cell" = some (.ref f_law_cell)
  b_law_cell : Binds K fd_law_cell ["_law_script", "_law_k"] []
  f_law_row : Addr
  fd_law_row : FuncData
  F_law_row : Fun K "_law_row" "_law_row" s_law_row f_law_row fd_law_row
  g_law_row : mg "_law_row" = some (.ref f_law_row)
  b_law_row : Binds K fd_law_row ["_law_cell_here", "_law_many"] []
  f_law_table : Addr
  fd_law_table : FuncData
  F_law_table : Fun K "_law_table" "_law_table" s_law_table f_law_table fd_law_table
  g_law_table : mg "_law_table" = some (.ref f_law_table)
  b_law_table : Binds K fd_law_table ["_law_script"] []
  flaw : Addr
  fdlaw : FuncData
  Flaw : Fun K "law" "law" slaw flaw fdlaw
  glaw : mg "law" = some (.ref flaw)
  blaw : Binds K fdlaw ["_law_script"] []
theorem Tx.ok_law_is_integer (T : Tx K mg) : FnOk P w K mg base CX0 1 T.f_law_is_integer T.fd_law_is_integer ["_law_value"] (spP K 1 (m_law_is_integer)) :=
  fnP T.F_law_is_integer sc_law_is_integer fun cdv A outer s H E hr =>
    (sOne (sRet (pAnd (pIsi (pVar 0) T.n_isinstance T.n_int) (pOne (pNot (pIsi (pVar 0) T.n_isinstance T.n_bool))))))
theorem Tx.ok_law_are_leagues (T : Tx K mg) : FnOk P w K mg base CX0 2 T.f_law_are_leagues T.fd_law_are_leagues ["_law_told", "_law_due"] (spP K 2 (m_law_are_leagues)) :=
  fnP T.F_law_are_leagues sc_law_are_leagues fun cdv A outer s H E hr =>
    (sCons (sIf (tW (tOrW (tNotT (tVal (pIsi (pVar 0) T.n_isinstance T.n_list))) (tOr1 (tCmp (oNe hr.units) (pCallB cLen T.n_len (by decide +kernel) (qCons (pVar 0) qNil)) (pCallB cLen T.n_len (by decide +kernel) (qCons (pVar 1) qNil)))))) (sOne (sRet pBl)) sNil)
      (sCons (sFor PassesOwn.never rfl (iRange1 (pCallB cLen T.n_len (by decide +kernel) (qCons (pVar 1) qNil)) T.n_range) (gName' (i := 2) sc_law_are_leagues.nd) (sCons (sIf (tW (tOrW (tNotT (tVal (pIsi (pIx oIx (pVar 0) (pVar 2)) T.n_isinstance T.n_list))) (tOr1 (tCmp (oNe hr.units) (pCallB cLen T.n_len (by decide +kernel) (qCons (pIx oIx (pVar 0) (pVar 2)) qNil)) (pCallB cLen T.n_len (by decide +kernel) (qCons (pIx oIx (pVar 1) (pVar 2)) qNil)))))) (sOne (sRet pBl)) sNil)
      (sOne (sFor PassesOwn.never rfl (iRange1 (pCallB cLen T.n_len (by decide +kernel) (qCons (pIx oIx (pVar 1) (pVar 2)) qNil)) T.n_range) (gName' (i := 3) sc_law_are_leagues.nd) (sOne (sIf (tW (tOrW (tNotT (tVal (pCall T.ok_law_is_integer (hr.mono (by first | decide | exact Nat.le_refl _ | omega)) T.g_law_is_integer T.F_law_is_integer.kp T.b_law_is_integer (qCons (pIx oIx (pIx oIx (pVar 0) (pVar 2)) (pVar 3)) qNil)))) (tOr1 (tCmp (oNe hr.units) (pIx oIx (pIx oIx (pVar 0) (pVar 2)) (pVar 3)) (pIx oIx (pIx oIx (pVar 1) (pVar 2)) (pVar 3)))))) (sOne (sRet pBl)) sNil))))))
      (sOne (sRet pBl))))
theorem Tx.okis_unbeaten (T : Tx K mg) : FnOk P w K mg base CX0 1 T.fis_unbeaten T.fdis_unbeaten ["wins", "league", "left"] (spP K 3 (mis_unbeaten)) :=
  fnP T.Fis_unbeaten scis_unbeaten fun cdv A outer s H E hr =>
    (sCons (sLc2D (i := 3) [("other", 4), ("player", 5)] [5] rfl scis_unbeaten.nd (iSeq (pVar 2)) (blkOk_by (N := ["wins", "league", "left", "players", "other", "player", "rival"]) (sc := defScope sis_unbeaten) (by decide +kernel)) (fun _ _ _ _ _ => (gName' (i := 4) scis_unbeaten.nd)) (fun _ _ _ _ _ => (ptsOne (tCmp (oNe hr.units) (pVar 4) (pVar 1)))) (fun _ _ _ _ _ => (iSeq (pVar 4))) (fun _ _ _ _ _ => (gName' (i := 5) scis_unbeaten.nd)) (fun _ _ _ _ _ => ptsNil) (fun _ _ _ _ _ => (pVar 5)) (gN_ok 4) (gN_ok 5))
      (sOne (sRet (pNot (pCallB (cAny rfl) T.n_any (by decide +kernel) (qCons (pLc2 [("rival", 6), ("player", 5)] [5] rfl scis_unbeaten.nd (iSeq (pVar 3)) (blkOk_by (N := ["wins", "league", "left", "players", "other", "player", "rival"]) (sc := defScope sis_unbeaten) (by decide +kernel)) (fun _ _ _ _ _ => (gName' (i := 6) scis_unbeaten.nd)) (fun _ _ _ _ _ => ptsNil) (fun _ _ _ _ _ => (iSeq (pVar 1))) (fun _ _ _ _ _ => (gName' (i := 5) scis_unbeaten.nd)) (fun _ _ _ _ _ => ptsNil) (fun _ _ _ _ _ => (pCmp oGt (pIx oIx (pIx oIx (pVar 0) (pVar 6)) (pVar 5)) pInt)) (gN_ok 6) (gN_ok 5)) qNil))))))
theorem Tx.okreach_table (T : Tx K mg) : FnOk P w K mg base CX0 1 T.freach_table T.fdreach_table ["wins"] (spP K 1 (mreach_table)) :=
  fnP T.Freach_table screach_table fun cdv A outer s H E hr =>
    (sCons (sSet (i := 1) screach_table.nd (pCallB cLen T.n_len (by decide +kernel) (qCons (pVar 0) qNil)))
      (sCons (sLcO (i := 2) [("index", 6), ("row", 7)] rfl screach_table.nd (iEnumA (pVar 0) T.n_enumerate) (blkOk_by (N := ["wins", "count", "table", "middle", "first", "second", "index", "row", "other", "amount"]) (sc := defScope sreach_table) (by decide +kernel)) (fun _ _ _ _ _ => (gTup' rfl (gsCons' (gName' (i := 6) screach_table.nd) (gsCons' (gName' (i := 7) screach_table.nd) gsNil')))) (fun _ _ _ _ _ => ptsNil) (fun _ _ _ _ _ => (oLc [("other", 8), ("amount", 9)] rfl screach_table.nd (iEnumA (pVar 7) T.n_enumerate) (blkOk_by (by rfl)) (fun _ _ _ _ _ => (gTup' rfl (gsCons' (gName' (i := 8) screach_table.nd) (gsCons' (gName' (i := 9) screach_table.nd) gsNil')))) (fun _ _ _ _ _ => ptsNil) (fun _ _ _ _ _ => (pOr (pCmp (oEq hr.units) (pVar 6) (pVar 8)) (pOne (pCmp oGt (pVar 9) pInt)))) (gT_ok (gsC_ok (gN_ok 8) (gsC_ok (gN_ok 9) gsN_ok))))) (gT_ok (gsC_ok (gN_ok 6) (gsC_ok (gN_ok 7) gsN_ok))))
      (sCons (sFor PassesOwn.never rfl (iRange1 (pVar 1) T.n_range) (gName' (i := 3) screach_table.nd) (sOne (sFor PassesOwn.never rfl (iRange1 (pVar 1) T.n_range) (gName' (i := 4) screach_table.nd) (sOne (sFor PassesOwn.never rfl (iRange1 (pVar 1) T.n_range) (gName' (i := 5) screach_table.nd) (sOne (sIf (tVw (tW (tAndW (tVal (pIx oIx (pIx oIx (pVar 2) (pVar 4)) (pVar 3))) (tAnd1 (tVal (pIx oIx (pIx oIx (pVar 2) (pVar 3)) (pVar 5))))))) (sOne (sSetP (oP pBl) (plIx (plName (pv 2)) (pVar 4)) (pVar 5))) sNil)))))))
      (sOne (sFz (i := 2) (sRet (pVar 2)))))))
theorem Tx.okleagues (T : Tx K mg) : FnOk P w K mg base CX0 2 T.fleagues T.fdleagues ["wins"] (spO K 1 (mleagues)) :=
  fnO T.Fleagues scleagues fun cdv A outer s H E hr =>
    (sCons (sSet (i := 1) scleagues.nd (pCall T.okreach_table (hr.mono (by first | decide | exact Nat.le_refl _ | omega)) T.greach_table T.Freach_table.kp T.breach_table (qCons (pUnt (pVar 0)) qNil)))
      (sCons (sSetO (i := 2) scleagues.nd (oLst qNil))
      (sCons (sFor PassesOwn.never rfl (iRange1 (pCallB cLen T.n_len (by decide +kernel) (qCons (pUnt (pVar 0)) qNil)) T.n_range) (gName' (i := 3) scleagues.nd) (sCons (sLc (i := 4) [("other", 7)] rfl scleagues.nd (iRange1 (pCallB cLen T.n_len (by decide +kernel) (qCons (pUnt (pVar 0)) qNil)) T.n_range) (blkOk_by (N := ["wins", "reaches", "left", "player", "league", "result", "following", "other"]) (sc := defScope sleagues) (by decide +kernel)) (fun _ _ _ _ _ => (gName' (i := 7) scleagues.nd)) (fun _ _ _ _ _ => (ptsOne (tW (tAndW (tVal (pIx oIx (pIx oIx (pVar 1) (pVar 3)) (pVar 7))) (tAnd1 (tVal (pIx oIx (pIx oIx (pVar 1) (pVar 7)) (pVar 3)))))))) (fun _ _ _ _ _ => (pVar 7)) (gN_ok 7))
      (sOne (sFzT (j := 0) (i := 4) (sIf (tCmp (oEq hr.units) (pIx oIx (pUnt (pVar 4)) pInt) (pVar 3)) (sOne (sFz (i := 4) (sApp (i := 2) (pv 2) (pVar 4)))) sNil)))))
      (sCons (sSetO (i := 5) scleagues.nd (oLst qNil))
      (sCons (sWhile PassesOwn.never (tVw (tTru (pUnt (pVar 2)))) (sCons (sFz (i := 2) (sFz (i := 4) (sSet (i := 6) scleagues.nd (pIx oIx (pLc [("league", 4)] rfl scleagues.nd (iSeq (pVar 2)) (blkOk_by (N := ["wins", "reaches", "left", "player", "league", "result", "following", "other"]) (sc := defScope sleagues) (by decide +kernel)) (fun _ _ _ _ _ => (gName' (i := 4) scleagues.nd)) (fun _ _ _ _ _ => (ptsOne (tVal (pCall T.okis_unbeaten (hr.mono (by first | decide | exact Nat.le_refl _ | omega)) T.gis_unbeaten T.Fis_unbeaten.kp T.bis_unbeaten (qCons (pUnt (pVar 0)) (qCons (pUnt (pVar 4)) (qCons (pUnt (pVar 2)) qNil))))))) (fun _ _ _ _ _ => (pVar 4)) (gN_ok 4)) pInt))))
      (sCons (sApp (i := 5) (pv 5) (pVar 6))
      (sOne (sFz (i := 2) (sFz (i := 4) (sSetO (i := 2) scleagues.nd (oLc [("league", 4)] rfl scleagues.nd (iSeq (pVar 2)) (blkOk_by (N := ["wins", "reaches", "left", "player", "league", "result", "following", "other"]) (sc := defScope sleagues) (by decide +kernel)) (fun _ _ _ _ _ => (gName' (i := 4) scleagues.nd)) (fun _ _ _ _ _ => (ptsOne (tCmp (oNe hr.units) (pUnt (pVar 4)) (pUnt (pVar 6))))) (fun _ _ _ _ _ => (pVar 4)) (gN_ok 4)))))))))
      (sOne (sRetM (mName (pv 5)))))))))
theorem Tx.ok_law_is_unbeaten (T : Tx K mg) : FnOk P w K mg base CX0 1 T.f_law_is_unbeaten T.fd_law_is_unbeaten ["_law_table_here", "_law_league", "_law_rest"] (spP K 3 (m_law_is_unbeaten)) :=
  fnP T.F_law_is_unbeaten sc_law_is_unbeaten fun cdv A outer s H E hr =>
    (sCons (sFor PassesOwn.never rfl (iSeq (pVar 2)) (gName' (i := 3) sc_law_is_unbeaten.nd) (sOne (sIf (tCmp (oNe hr.units) (pVar 3) (pVar 1)) (sOne (sFor PassesOwn.never rfl (iSeq (pVar 3)) (gName' (i := 4) sc_law_is_unbeaten.nd) (sOne (sFor PassesOwn.never rfl (iSeq (pVar 1)) (gName' (i := 5) sc_law_is_unbeaten.nd) (sOne (sIf (tCmp oGt (pIx oIx (pIx oIx (pVar 0) (pVar 4)) (pVar 5)) pInt) (sOne (sRet pBl)) sNil)))))) sNil)))
      (sOne (sRet pBl)))
theorem Tx.ok_law_reached (T : Tx K mg) : FnOk P w K mg base CX0 1 T.f_law_reached T.fd_law_reached ["_law_table_here", "_law_start"] (spP K 2 (m_law_reached)) :=
  fnP T.F_law_reached sc_law_reached fun cdv A outer s H E hr =>
    (sCons (sSetO (i := 2) sc_law_reached.nd (oLst (qCons (pVar 1) qNil)))
      (sCons (sFor PassesOwn.never rfl (iRange1 (pCallB cLen T.n_len (by decide +kernel) (qCons (pVar 0) qNil)) T.n_range) (gName' (i := 3) sc_law_reached.nd) (sOne (sIf (tVw (tCmp oLt (pVar 3) (pCallB cLen T.n_len (by decide +kernel) (qCons (pVar 2) qNil)))) (sOne (sFor PassesOwn.never rfl (iRange1 (pCallB cLen T.n_len (by decide +kernel) (qCons (pVar 0) qNil)) T.n_range) (gName' (i := 4) sc_law_reached.nd) (sOne (sIf (tVw (tW (tAndW (tCmp oGt (pIx oIx (pIx oIx (pVar 0) (pIx oIx (pVar 2) (pVar 3))) (pVar 4)) pInt) (tAnd1 (tCmp oNotIn (pVar 4) (pVar 2)))))) (sOne (sApp (i := 2) (pv 2) (pVar 4))) sNil)))) sNil)))
      (sOne (sFz (i := 2) (sRet (pVar 2))))))
theorem Tx.ok_law_leagues (T : Tx K mg) : FnOk P w K mg base CX0 2 T.f_law_leagues T.fd_law_leagues ["_law_table_here"] (spP K 1 (m_law_leagues)) :=
  fnP T.F_law_leagues sc_law_leagues fun cdv A outer s H E hr =>
    (sCons (sSet (i := 1) sc_law_leagues.nd (pLc [("_law_i", 3)] rfl sc_law_leagues.nd (iRange1 (pCallB cLen T.n_len (by decide +kernel) (qCons (pVar 0) qNil)) T.n_range) (blkOk_by (N := ["_law_table_here", "_law_reached_here", "_law_rest", "_law_i", "_law_league", "_law_order", "_law_k", "_law_unbeaten", "_law_j"]) (sc := defScope s_law_leagues) (by decide +kernel)) (fun _ _ _ _ _ => (gName' (i := 3) sc_law_leagues.nd)) (fun _ _ _ _ _ => ptsNil) (fun _ _ _ _ _ => (pCall T.ok_law_reached (hr.mono (by first | decide | exact Nat.le_refl _ | omega)) T.g_law_reached T.F_law_reached.kp T.b_law_reached (qCons (pVar 0) (qCons (pVar 3) qNil)))) (gN_ok 3)))
      (sCons (sSetO (i := 2) sc_law_leagues.nd (oLst qNil))
      (sCons (sFor PassesOwn.never rfl (iRange1 (pCallB cLen T.n_len (by decide +kernel) (qCons (pVar 0) qNil)) T.n_range) (gName' (i := 3) sc_law_leagues.nd) (sCons (sLcD (i := 4) [("_law_j", 8)] rfl sc_law_leagues.nd (iRange1 (pCallB cLen T.n_len (by decide +kernel) (qCons (pVar 0) qNil)) T.n_range) (blkOk_by (N := ["_law_table_here", "_law_reached_here", "_law_rest", "_law_i", "_law_league", "_law_order", "_law_k", "_law_unbeaten", "_law_j"]) (sc := defScope s_law_leagues) (by decide +kernel)) (fun _ _ _ _ _ => (gName' (i := 8) sc_law_leagues.nd)) (fun _ _ _ _ _ => (ptsOne (tW (tAndW (tCmp oIn (pVar 8) (pIx oIx (pVar 1) (pVar 3))) (tAnd1 (tCmp oIn (pVar 3) (pIx oIx (pVar 1) (pVar 8)))))))) (fun _ _ _ _ _ => (pVar 8)) (gN_ok 8))
      (sOne (sIf (tCmp (oEq hr.units) (pIx oIx (pVar 4) pInt) (pVar 3)) (sOne (sApp (i := 2) (pv 2) (pVar 4))) sNil))))
      (sCons (sSetO (i := 5) sc_law_leagues.nd (oLst qNil))
      (sCons (sFz (i := 2) (sFor PassesOwn.never rfl (iRange1 (pCallB cLen T.n_len (by decide +kernel) (qCons (pVar 2) qNil)) T.n_range) (gName' (i := 6) sc_law_leagues.nd) (sCons (sFz (i := 2) (sSet (i := 7) sc_law_leagues.nd (pLc [("_law_league", 4)] rfl sc_law_leagues.nd (iSeq (pVar 2)) (blkOk_by (N := ["_law_table_here", "_law_reached_here", "_law_rest", "_law_i", "_law_league", "_law_order", "_law_k", "_law_unbeaten", "_law_j"]) (sc := defScope s_law_leagues) (by decide +kernel)) (fun _ _ _ _ _ => (gName' (i := 4) sc_law_leagues.nd)) (fun _ _ _ _ _ => (ptsOne (tVal (pCall T.ok_law_is_unbeaten (hr.mono (by first | decide | exact Nat.le_refl _ | omega)) T.g_law_is_unbeaten T.F_law_is_unbeaten.kp T.b_law_is_unbeaten (qCons (pVar 0) (qCons (pVar 4) (qCons (pVar 2) qNil))))))) (fun _ _ _ _ _ => (pVar 4)) (gN_ok 4))))
      (sCons (sApp (i := 5) (pv 5) (pIx oIx (pVar 7) pInt))
      (sOne (sFz (i := 2) (sSetO (i := 2) sc_law_leagues.nd (oLc [("_law_league", 4)] rfl sc_law_leagues.nd (iSeq (pVar 2)) (blkOk_by (N := ["_law_table_here", "_law_reached_here", "_law_rest", "_law_i", "_law_league", "_law_order", "_law_k", "_law_unbeaten", "_law_j"]) (sc := defScope s_law_leagues) (by decide +kernel)) (fun _ _ _ _ _ => (gName' (i := 4) sc_law_leagues.nd)) (fun _ _ _ _ _ => (ptsOne (tCmp (oNe hr.units) (pVar 4) (pIx oIx (pVar 7) pInt)))) (fun _ _ _ _ _ => (pVar 4)) (gN_ok 4)))))))))
      (sOne (sFz (i := 5) (sRet (pVar 5)))))))))
theorem Tx.ok_law_cell (T : Tx K mg) : FnOk P w K mg base CX0 1 T.f_law_cell T.fd_law_cell ["_law_script", "_law_k"] (spP K 2 (m_law_cell)) :=
  fnP T.F_law_cell sc_law_cell fun cdv A outer s H E hr =>
    (sOne (sRet (pIf (tCmp oLt (pVar 1) (pCallB cLen T.n_len (by decide +kernel) (qCons (pVar 0) qNil))) (pCallT cInt T.n_int (by decide +kernel) (qCons (pIx oIx (pVar 0) (pVar 1)) qNil)) pInt)))
theorem Tx.ok_law_row (T : Tx K mg) : FnOk P w K mg base CX0 1 T.f_law_row T.fd_law_row ["_law_cell_here", "_law_many"] (spP K 2 (m_law_row)) :=
  fnP T.F_law_row sc_law_row fun cdv A outer s H E hr =>
    (sCons (sSetO (i := 2) sc_law_row.nd (oLst qNil))
      (sCons (sSet (i := 3) sc_law_row.nd (pOp oMod (pCallT cInt T.n_int (by decide +kernel) (qCons (pVar 0) qNil)) pInt))
      (sCons (sSet (i := 4) sc_law_row.nd (pOp oSub (pVar 0) (pOp oPow pInt pInt)))
      (sCons (sFor PassesOwn.never rfl (iRange1 (pVar 1) T.n_range) (gName' (i := 5) sc_law_row.nd) (sCons (sSet (i := 3) sc_law_row.nd (pOp oMod (pCallT cInt T.n_int (by decide +kernel) (qCons (pOp oAddA (pOp oAddA (pOp oMul (pVar 3) pInt) (pOp oMul pInt (pVar 5))) pInt) qNil)) pInt))
      (sCons (sSet (i := 6) sc_law_row.nd (pOp oMod (pCallT cInt T.n_int (by decide +kernel) (qCons (pOp oAddA (pOp oAddA (pOp oMul (pVar 3) pInt) (pOp oMul pInt (pVar 5))) pInt) qNil)) pInt))
      (sCons (sApp (i := 2) (pv 2) (pIf (tCmp oGe (pVar 0) (pOp oPow pInt pInt)) (pOp oMod (pCallT cInt T.n_int (by decide +kernel) (qCons (pVar 4) qNil)) pInt) (pOp oMod (pCallT cInt T.n_int (by decide +kernel) (qCons (pOp oDiv (pVar 6) pInt) qNil)) pInt)))
      (sOne (sSet (i := 4) sc_law_row.nd (pOp oDiv (pVar 4) pInt)))))))
      (sOne (sFz (i := 2) (sRet (pVar 2))))))))
theorem Tx.ok_law_table (T : Tx K mg) : FnOk P w K mg base CX0 2 T.f_law_table T.fd_law_table ["_law_script"] (spP K 1 (m_law_table)) :=
  fnP T.F_law_table sc_law_table fun cdv A outer s H E hr =>
    (sCons (sSet (i := 1) sc_law_table.nd (pCall T.ok_law_row (hr.mono (by first | decide | exact Nat.le_refl _ | omega)) T.g_law_row T.F_law_row.kp T.b_law_row (qCons (pCall T.ok_law_cell (hr.mono (by first | decide | exact Nat.le_refl _ | omega)) T.g_law_cell T.F_law_cell.kp T.b_law_cell (qCons (pVar 0) (qCons pInt qNil))) (qCons pInt qNil))))
      (sCons (sSet (i := 2) sc_law_table.nd (pOp oMod (pCallT cInt T.n_int (by decide +kernel) (qCons (pIx oIx (pVar 1) pInt) qNil)) pInt))
      (sCons (sIf (tCmp (oEq hr.units) (pOp oMod (pCallT cInt T.n_int (by decide +kernel) (qCons (pIx oIx (pVar 1) pInt) qNil)) pInt) pInt) (sOne (sSet (i := 2) sc_law_table.nd (pOp oMod (pCallT cInt T.n_int (by decide +kernel) (qCons (pIx oIx (pVar 1) pInt) qNil)) pInt))) sNil)
      (sCons (sSet (i := 3) sc_law_table.nd (pOp oMod (pCallT cInt T.n_int (by decide +kernel) (qCons (pIx oIx (pVar 1) pInt) qNil)) pInt))
      (sCons (sSet (i := 4) sc_law_table.nd (pCall T.ok_law_row (hr.mono (by first | decide | exact Nat.le_refl _ | omega)) T.g_law_row T.F_law_row.kp T.b_law_row (qCons (pCall T.ok_law_cell (hr.mono (by first | decide | exact Nat.le_refl _ | omega)) T.g_law_cell T.F_law_cell.kp T.b_law_cell (qCons (pVar 0) (qCons pInt qNil))) (qCons pInt qNil))))
      (sCons (sSetO (i := 5) sc_law_table.nd (oLst qNil))
      (sCons (sFor PassesOwn.never rfl (iRange1 (pVar 2) T.n_range) (gName' (i := 6) sc_law_table.nd) (sCons (sSetO (i := 7) sc_law_table.nd (oLst qNil))
      (sCons (sFor PassesOwn.never rfl (iRange1 (pVar 2) T.n_range) (gName' (i := 8) sc_law_table.nd) (sCons (sSet (i := 9) sc_law_table.nd (pIx oIx (pVar 4) (pOp oAddA (pOp oMul pInt (pVar 6)) (pVar 8))))
      (sCons (sSet (i := 10) sc_law_table.nd pInt)
      (sCons (sIf (tCmp oLt (pOp oMod (pCallT cInt T.n_int (by decide +kernel) (qCons (pVar 9) qNil)) pInt) (pVar 3)) (sCons (sSet (i := 10) sc_law_table.nd (pOp oAddA pInt (pOp oMod (pCallT cInt T.n_int (by decide +kernel) (qCons (pOp oDiv (pVar 9) pInt) qNil)) pInt)))
      (sOne (sIf (tCmp (oEq hr.units) (pOp oMod (pCallT cInt T.n_int (by decide +kernel) (qCons (pOp oDiv (pVar 9) pInt) qNil)) pInt) pInt) (sCons (sSet (i := 11) sc_law_table.nd (pIx oIx (pLst (qCons pInt (qCons (pOp oPow pInt pInt) qNil))) (pOp oDiv (pOp oAddA (pOp oMul pInt (pVar 6)) (pVar 8)) pInt)))
      (sOne (sSet (i := 10) sc_law_table.nd (pOp oMod (pCallT cInt T.n_int (by decide +kernel) (qCons (pOp oDivX (pCall T.ok_law_cell (hr.mono (by first | decide | exact Nat.le_refl _ | omega)) T.g_law_cell T.F_law_cell.kp T.b_law_cell (qCons (pVar 0) (qCons (pOp oAddA pInt (pOp oMod (pCallT cInt T.n_int (by decide +kernel) (qCons (pOp oAddA (pOp oMul pInt (pVar 6)) (pVar 8)) qNil)) pInt)) qNil))) (pVar 11)) qNil)) (pOp oPow pInt pInt))))) sNil))) sNil)
      (sCons (sIf (tW (tAndW (tCmp (oEq hr.units) (pVar 6) (pVar 8)) (tAnd1 (tCmp (oNe hr.units) (pOp oMod (pCallT cInt T.n_int (by decide +kernel) (qCons (pIx oIx (pVar 1) pInt) qNil)) pInt) pInt)))) (sOne (sSet (i := 10) sc_law_table.nd pInt)) sNil)
      (sOne (sApp (i := 7) (pv 7) (pVar 10))))))))
      (sOne (sFz (i := 7) (sApp (i := 5) (pv 5) (pVar 7)))))))
      (sOne (sFz (i := 5) (sRet (pVar 5)))))))))))
theorem Tx.oklaw (T : Tx K mg) : FnOk P w K mg base CX0 3 T.flaw T.fdlaw ["_law_script"] (spP K 1 (mlaw)) :=
  fnP T.Flaw sclaw fun cdv A outer s H E hr =>
    (sCons (sSet (i := 1) sclaw.nd (pCall T.ok_law_table (hr.mono (by first | decide | exact Nat.le_refl _ | omega)) T.g_law_table T.F_law_table.kp T.b_law_table (qCons (pVar 0) qNil)))
      (sCons (sSet (i := 2) sclaw.nd (pCall T.ok_law_leagues (hr.mono (by first | decide | exact Nat.le_refl _ | omega)) T.g_law_leagues T.F_law_leagues.kp T.b_law_leagues (qCons (pVar 1) qNil)))
      (sCons (sLcD (i := 3) [("_law_line", 7)] rfl sclaw.nd (iSeq (pVar 1)) (blkOk_by (N := ["_law_script", "_law_table_here", "_law_due", "_law_handed", "_law_told", "_law_league", "_law_exchanged", "_law_line", "_law_k"]) (sc := defScope slaw) (by decide +kernel)) (fun _ _ _ _ _ => (gName' (i := 7) sclaw.nd)) (fun _ _ _ _ _ => ptsNil) (fun _ _ _ _ _ => (pO (oCallT cList T.n_list (by decide +kernel) (qCons (pVar 7) qNil)))) (gN_ok 7))
      (sCons (sSetO (i := 4) sclaw.nd (oCallN T.okleagues (hr.mono (by first | decide | exact Nat.le_refl _ | omega)) T.gleagues T.Fleagues.kp T.bleagues (qCons (pVar 3) qNil)))
      (sCons (sIf (tVw (tW (tOrW (tCmp (oNe hr.units) (pVar 3) (pVar 1)) (tOr1 (tNotT (tVal (pCall T.ok_law_are_leagues (hr.mono (by first | decide | exact Nat.le_refl _ | omega)) T.g_law_are_leagues T.F_law_are_leagues.kp T.b_law_are_leagues (qCons (pVar 4) (qCons (pVar 2) qNil))))))))) (sOne (sRet pBl)) sNil)
      (sCons (sForAppO PassesOwn.never rfl sclaw.nd (pv 4) (pv 5) (oP pInt) (fun _ => rfl) rfl)
      (sCons (sAppP (plName (pv 4)) (oLst (qCons pInt qNil)))
      (sCons (sIf (tNotT (tVal (pCall T.ok_law_are_leagues (hr.mono (by first | decide | exact Nat.le_refl _ | omega)) T.g_law_are_leagues T.F_law_are_leagues.kp T.b_law_are_leagues (qCons (pCallNK T.okleagues (hr.mono (by first | decide | exact Nat.le_refl _ | omega)) T.gleagues T.Fleagues.kp T.kleagues rfl (kCons (pCallT cTup T.n_tuple (by decide +kernel) (qCons (pLc [("_law_line", 7)] rfl sclaw.nd (iSeq (pVar 1)) (blkOk_by (N := ["_law_script", "_law_table_here", "_law_due", "_law_handed", "_law_told", "_law_league", "_law_exchanged", "_law_line", "_law_k"]) (sc := defScope slaw) (by decide +kernel)) (fun _ _ _ _ _ => (gName' (i := 7) sclaw.nd)) (fun _ _ _ _ _ => ptsNil) (fun _ _ _ _ _ => (pCallT cTup T.n_tuple (by decide +kernel) (qCons (pVar 7) qNil))) (gN_ok 7)) qNil)) kNil)) (qCons (pVar 2) qNil))))) (sOne (sRet pBl)) sNil)
      (sCons (sLcD (i := 6) [("_law_k", 8)] rfl sclaw.nd (iRange1 (pCallB cLen T.n_len (by decide +kernel) (qCons (pVar 1) qNil)) T.n_range) (blkOk_by (N := ["_law_script", "_law_table_here", "_law_due", "_law_handed", "_law_told", "_law_league", "_law_exchanged", "_law_line", "_law_k"]) (sc := defScope slaw) (by decide +kernel)) (fun _ _ _ _ _ => (gName' (i := 8) sclaw.nd)) (fun _ _ _ _ _ => ptsNil) (fun _ _ _ _ _ => (pLc [("_law_line", 7)] rfl sclaw.nd (iSeq (pVar 1)) (blkOk_by (by rfl)) (fun _ _ _ _ _ => (gName' (i := 7) sclaw.nd)) (fun _ _ _ _ _ => ptsNil) (fun _ _ _ _ _ => (pIx oIx (pVar 7) (pVar 8))) (gN_ok 7))) (gN_ok 8))
      (sCons (sIf (tNotT (tVal (pCall T.ok_law_are_leagues (hr.mono (by first | decide | exact Nat.le_refl _ | omega)) T.g_law_are_leagues T.F_law_are_leagues.kp T.b_law_are_leagues (qCons (pCallN T.okleagues (hr.mono (by first | decide | exact Nat.le_refl _ | omega)) T.gleagues T.Fleagues.kp T.bleagues (qCons (pVar 6) qNil)) (qCons (pCall T.ok_law_leagues (hr.mono (by first | decide | exact Nat.le_refl _ | omega)) T.g_law_leagues T.F_law_leagues.kp T.b_law_leagues (qCons (pVar 6) qNil)) qNil))))) (sOne (sRet pBl)) sNil)
      (sOne (sRet (pCall T.ok_law_are_leagues (hr.mono (by first | decide | exact Nat.le_refl _ | omega)) T.g_law_are_leagues T.F_law_are_leagues.kp T.b_law_are_leagues (qCons (pCallN T.okleagues (hr.mono (by first | decide | exact Nat.le_refl _ | omega)) T.gleagues T.Fleagues.kp T.bleagues (qCons (pVar 3) qNil)) (qCons (pVar 2) qNil)))))))))))))))
end
theorem tx_mk {K : PySem.W.Frag} {h : Heap} {mg : Str → Option Value} (X : K.In h) (G : h.Ns mainGlobals mg)
    (z0 : PySem.W.nsIn K mainGlobals "any" = some none)
    (z1 : PySem.W.nsIn K mainGlobals "bool" = some none)
    (z2 : PySem.W.nsIn K mainGlobals "enumerate" = some none)
    (z3 : PySem.W.nsIn K mainGlobals "int" = some none)
    (z4 : PySem.W.nsIn K mainGlobals "isinstance" = some none)
    (z5 : PySem.W.nsIn K mainGlobals "len" = some none)
    (z6 : PySem.W.nsIn K mainGlobals "list" = some none)
    (z7 : PySem.W.nsIn K mainGlobals "range" = some none)
    (z8 : PySem.W.nsIn K mainGlobals "tuple" = some none)
    {f0 : Addr} {oc0 kV0 dc0 pm0 cd0 ct0 : Value} {od0 an0 : Option Addr} {sl0 : Array (Option Value)}
    (a0 : PySem.W.nsIn K mainGlobals "_law_is_integer" = some (some (.ref f0)))
    (l0 : K.lookup f0 = some ⟨oc0, od0, .func (PySem.W.fnOf "_law_is_integer" "_law_is_integer" (defArgs s_law_is_integer) (defBody s_law_is_integer) (defScope s_law_is_integer) .none kV0 dc0 pm0 an0 cd0 ct0), sl0⟩)
    (c0 : PySem.W.codeIn K cd0 "_law_is_integer" = true)
    (k0 : PySem.W.keepIn K (.ref f0) = true)
    {f1 : Addr} {oc1 kV1 dc1 pm1 cd1 ct1 : Value} {od1 an1 : Option Addr} {sl1 : Array (Option Value)}
    (a1 : PySem.W.nsIn K mainGlobals "_law_are_leagues" = some (some (.ref f1)))
    (l1 : K.lookup f1 = some ⟨oc1, od1, .func (PySem.W.fnOf "_law_are_leagues" "_law_are_leagues" (defArgs s_law_are_leagues) (defBody s_law_are_leagues) (defScope s_law_are_leagues) .none kV1 dc1 pm1 an1 cd1 ct1), sl1⟩)
    (c1 : PySem.W.codeIn K cd1 "_law_are_leagues" = true)
    (k1 : PySem.W.keepIn K (.ref f1) = true)
    {f2 : Addr} {oc2 kV2 dc2 pm2 cd2 ct2 : Value} {od2 an2 : Option Addr} {sl2 : Array (Option Value)}
    (a2 : PySem.W.nsIn K mainGlobals "is_unbeaten" = some (some (.ref f2)))
    (l2 : K.lookup f2 = some ⟨oc2, od2, .func (PySem.W.fnOf "is_unbeaten" "is_unbeaten" (defArgs sis_unbeaten) (defBody sis_unbeaten) (defScope sis_unbeaten) .none kV2 dc2 pm2 an2 cd2 ct2), sl2⟩)
    (c2 : PySem.W.codeIn K cd2 "is_unbeaten" = true)
    (k2 : PySem.W.keepIn K (.ref f2) = true)
    {f3 : Addr} {oc3 kV3 dc3 pm3 cd3 ct3 : Value} {od3 an3 : Option Addr} {sl3 : Array (Option Value)}
    (a3 : PySem.W.nsIn K mainGlobals "reach_table" = some (some (.ref f3)))
    (l3 : K.lookup f3 = some ⟨oc3, od3, .func (PySem.W.fnOf "reach_table" "reach_table" (defArgs sreach_table) (defBody sreach_table) (defScope sreach_table) .none kV3 dc3 pm3 an3 cd3 ct3), sl3⟩)
    (c3 : PySem.W.codeIn K cd3 "reach_table" = true)
    (k3 : PySem.W.keepIn K (.ref f3) = true)
    {f4 : Addr} {oc4 kV4 dc4 pm4 cd4 ct4 : Value} {od4 an4 : Option Addr} {sl4 : Array (Option Value)}
    (a4 : PySem.W.nsIn K mainGlobals "leagues" = some (some (.ref f4)))
    (l4 : K.lookup f4 = some ⟨oc4, od4, .func (PySem.W.fnOf "leagues" "leagues" (defArgs sleagues) (defBody sleagues) (defScope sleagues) .none kV4 dc4 pm4 an4 cd4 ct4), sl4⟩)
    (c4 : PySem.W.codeIn K cd4 "leagues" = true)
    (k4 : PySem.W.keepIn K (.ref f4) = true)
    {f5 : Addr} {oc5 kV5 dc5 pm5 cd5 ct5 : Value} {od5 an5 : Option Addr} {sl5 : Array (Option Value)}
    (a5 : PySem.W.nsIn K mainGlobals "_law_is_unbeaten" = some (some (.ref f5)))
    (l5 : K.lookup f5 = some ⟨oc5, od5, .func (PySem.W.fnOf "_law_is_unbeaten" "_law_is_unbeaten" (defArgs s_law_is_unbeaten) (defBody s_law_is_unbeaten) (defScope s_law_is_unbeaten) .none kV5 dc5 pm5 an5 cd5 ct5), sl5⟩)
    (c5 : PySem.W.codeIn K cd5 "_law_is_unbeaten" = true)
    (k5 : PySem.W.keepIn K (.ref f5) = true)
    {f6 : Addr} {oc6 kV6 dc6 pm6 cd6 ct6 : Value} {od6 an6 : Option Addr} {sl6 : Array (Option Value)}
    (a6 : PySem.W.nsIn K mainGlobals "_law_reached" = some (some (.ref f6)))
    (l6 : K.lookup f6 = some ⟨oc6, od6, .func (PySem.W.fnOf "_law_reached" "_law_reached" (defArgs s_law_reached) (defBody s_law_reached) (defScope s_law_reached) .none kV6 dc6 pm6 an6 cd6 ct6), sl6⟩)
    (c6 : PySem.W.codeIn K cd6 "_law_reached" = true)
    (k6 : PySem.W.keepIn K (.ref f6) = true)
    {f7 : Addr} {oc7 kV7 dc7 pm7 cd7 ct7 : Value} {od7 an7 : Option Addr} {sl7 : Array (Option Value)}
    (a7 : PySem.W.nsIn K mainGlobals "_law_leagues" = some (some (.ref f7)))
    (l7 : K.lookup f7 = some ⟨oc7, od7, .func (PySem.W.fnOf "_law_leagues" "_law_leagues" (defArgs s_law_leagues) (defBody s_law_leagues) (defScope s_law_leagues) .none kV7 dc7 pm7 an7 cd7 ct7), sl7⟩)
    (c7 : PySem.W.codeIn K cd7 "_law_leagues" = true)
    (k7 : PySem.W.keepIn K (.ref f7) = true)
    {f8 : Addr} {oc8 kV8 dc8 pm8 cd8 ct8 : Value} {od8 an8 : Option Addr} {sl8 : Array (Option Value)}
    (a8 : PySem.W.nsIn K mainGlobals "_law_cell" = some (some (.ref f8)))
    (l8 : K.lookup f8 = some ⟨oc8, od8, .func (PySem.W.fnOf "_law_cell" "_law_cell" (defArgs s_law_cell) (defBody s_law_cell) (defScope s_law_cell) .none kV8 dc8 pm8 an8 cd8 ct8), sl8⟩)
    (c8 : PySem.W.codeIn K cd8 "_law_cell" = true)
    (k8 : PySem.W.keepIn K (.ref f8) = true)
    {f9 : Addr} {oc9 kV9 dc9 pm9 cd9 ct9 : Value} {od9 an9 : Option Addr} {sl9 : Array (Option Value)}
    (a9 : PySem.W.nsIn K mainGlobals "_law_row" = some (some (.ref f9)))
    (l9 : K.lookup f9 = some ⟨oc9, od9, .func (PySem.W.fnOf "_law_row" "_law_row" (defArgs s_law_row) (defBody s_law_row) (defScope s_law_row) .none kV9 dc9 pm9 an9 cd9 ct9), sl9⟩)
    (c9 : PySem.W.codeIn K cd9 "_law_row" = true)
    (k9 : PySem.W.keepIn K (.ref f9) = true)
    {f10 : Addr} {oc10 kV10 dc10 pm10 cd10 ct10 : Value} {od10 an10 : Option Addr} {sl10 : Array (Option Value)}
    (a10 : PySem.W.nsIn K mainGlobals "_law_table" = some (some (.ref f10)))
    (l10 : K.lookup f10 = some ⟨oc10, od10, .func (PySem.W.fnOf "_law_table" "_law_table" (defArgs s_law_table) (defBody s_law_table) (defScope s_law_table) .none kV10 dc10 pm10 an10 cd10 ct10), sl10⟩)
    (c10 : PySem.W.codeIn K cd10 "_law_table" = true)
    (k10 : PySem.W.keepIn K (.ref f10) = true)
    {f11 : Addr} {oc11 kV11 dc11 pm11 cd11 ct11 : Value} {od11 an11 : Option Addr} {sl11 : Array (Option Value)}
    (a11 : PySem.W.nsIn K mainGlobals "law" = some (some (.ref f11)))
    (l11 : K.lookup f11 = some ⟨oc11, od11, .func (PySem.W.fnOf "law" "law" (defArgs slaw) (defBody slaw) (defScope slaw) .none kV11 dc11 pm11 an11 cd11 ct11), sl11⟩)
    (c11 : PySem.W.codeIn K cd11 "law" = true)
    (k11 : PySem.W.keepIn K (.ref f11) = true)
    : ∃ T : Tx K mg, ∀ (s : Shared) (v : Value), BindsTo s T.fdlaw ⟨[v], []⟩ [("_law_script", v)] := by
  have F0 := fun_mk (st := s_law_is_integer) l0 c0 k0
  have b0 := F0.binds (ps := ["_law_value"]) fun _ _ _ _ _ _ us hl => match us, hl with | [_], _ => rfl
  have F1 := fun_mk (st := s_law_are_leagues) l1 c1 k1
  have b1 := F1.binds (ps := ["_law_told", "_law_due"]) fun _ _ _ _ _ _ us hl => match us, hl with | [_, _], _ => rfl
  have F2 := fun_mk (st := sis_unbeaten) l2 c2 k2
  have b2 := F2.binds (ps := ["wins", "league", "left"]) fun _ _ _ _ _ _ us hl => match us, hl with | [_, _, _], _ => rfl
  have F3 := fun_mk (st := sreach_table) l3 c3 k3
  have b3 := F3.binds (ps := ["wins"]) fun _ _ _ _ _ _ us hl => match us, hl with | [_], _ => rfl
  have F4 := fun_mk (st := sleagues) l4 c4 k4
  have b4 := F4.binds (ps := ["wins"]) fun _ _ _ _ _ _ us hl => match us, hl with | [_], _ => rfl
  have q4 := kbn_of (ps := ["wins"]) F4 fun _ _ _ _ _ _ ws hl => match ws, hl with | [_], _ => rfl
  have F5 := fun_mk (st := s_law_is_unbeaten) l5 c5 k5
  have b5 := F5.binds (ps := ["_law_table_here", "_law_league", "_law_rest"]) fun _ _ _ _ _ _ us hl => match us, hl with | [_, _, _], _ => rfl
  have F6 := fun_mk (st := s_law_reached) l6 c6 k6
  have b6 := F6.binds (ps := ["_law_table_here", "_law_start"]) fun _ _ _ _ _ _ us hl => match us, hl with | [_, _], _ => rfl
  have F7 := fun_mk (st := s_law_leagues) l7 c7 k7
  have b7 := F7.binds (ps := ["_law_table_here"]) fun _ _ _ _ _ _ us hl => match us, hl with | [_], _ => rfl
  have F8 := fun_mk (st := s_law_cell) l8 c8 k8
  have b8 := F8.binds (ps := ["_law_script", "_law_k"]) fun _ _ _ _ _ _ us hl => match us, hl with | [_, _], _ => rfl
  have F9 := fun_mk (st := s_law_row) l9 c9 k9
  have b9 := F9.binds (ps := ["_law_cell_here", "_law_many"]) fun _ _ _ _ _ _ us hl => match us, hl with | [_, _], _ => rfl
  have F10 := fun_mk (st := s_law_table) l10 c10 k10
  have b10 := F10.binds (ps := ["_law_script"]) fun _ _ _ _ _ _ us hl => match us, hl with | [_], _ => rfl
  have F11 := fun_mk (st := slaw) l11 c11 k11
  have b11 := F11.binds (ps := ["_law_script"]) fun _ _ _ _ _ _ us hl => match us, hl with | [_], _ => rfl
  exact ⟨{ n_any := PySem.W.mg_none_of X G z0, n_bool := PySem.W.mg_none_of X G z1, n_enumerate := PySem.W.mg_none_of X G z2, n_int := PySem.W.mg_none_of X G z3, n_isinstance := PySem.W.mg_none_of X G z4, n_len := PySem.W.mg_none_of X G z5, n_list := PySem.W.mg_none_of X G z6, n_range := PySem.W.mg_none_of X G z7, n_tuple := PySem.W.mg_none_of X G z8, f_law_is_integer := f0, fd_law_is_integer := _, F_law_is_integer := F0, b_law_is_integer := b0, g_law_is_integer := PySem.W.mg_of X G a0, f_law_are_leagues := f1, fd_law_are_leagues := _, F_law_are_leagues := F1, b_law_are_leagues := b1, g_law_are_leagues := PySem.W.mg_of X G a1, fis_unbeaten := f2, fdis_unbeaten := _, Fis_unbeaten := F2, bis_unbeaten := b2, gis_unbeaten := PySem.W.mg_of X G a2, freach_table := f3, fdreach_table := _, Freach_table := F3, breach_table := b3, greach_table := PySem.W.mg_of X G a3, fleagues := f4, fdleagues := _, Fleagues := F4, bleagues := b4, gleagues := PySem.W.mg_of X G a4, kleagues := q4, f_law_is_unbeaten := f5, fd_law_is_unbeaten := _, F_law_is_unbeaten := F5, b_law_is_unbeaten := b5, g_law_is_unbeaten := PySem.W.mg_of X G a5, f_law_reached := f6, fd_law_reached := _, F_law_reached := F6, b_law_reached := b6, g_law_reached := PySem.W.mg_of X G a6, f_law_leagues := f7, fd_law_leagues := _, F_law_leagues := F7, b_law_leagues := b7, g_law_leagues := PySem.W.mg_of X G a7, f_law_cell := f8, fd_law_cell := _, F_law_cell := F8, b_law_cell := b8, g_law_cell := PySem.W.mg_of X G a8, f_law_row := f9, fd_law_row := _, F_law_row := F9, b_law_row := b9, g_law_row := PySem.W.mg_of X G a9, f_law_table := f10, fd_law_table := _, F_law_table := F10, b_law_table := b10, g_law_table := PySem.W.mg_of X G a10, flaw := f11, fdlaw := _, Flaw := F11, blaw := b11, glaw := PySem.W.mg_of X G a11 }, fun s v => .of_eq rfl⟩
end K52

namespace K52
open PySem PySem.Spec L2 PD
theorem law_cell (ns : List Int) (k : Nat) : m_law_cell [.lst (ns.map .int), .int k] = some (.int (ns.getD k 0)) := cell_eq ns k
theorem law_row (c : Int) (n : Nat) (hn : n ≤ 1000) : ∃ rs : List Int, m_law_row [.int c, .int n] = some (.lst (rs.map .int)) ∧ rs.length = n ∧ ∀ r ∈ rs, 0 ≤ r ∧ r < 1000 := row_ex c n hn
theorem p40 : powI (.int 10) (.int 40) = some (.int 10000000000000000000000000000000000000000) := rfl
theorem lower_ex (q : Int) (h0 : 0 ≤ q) (h3 : q ≤ 1) : ∃ lw, ixD (.lst [.int 1, .int 10000000000000000000000000000000000000000]) (.int q) = some (.int lw) ∧ 0 < lw ∧ lw.natAbs.log2 < 9000 := by
  have : q = 0 ∨ q = 1 := by omega
  rcases this with rfl | rfl
  · exact ⟨1, rfl, by decide, by decide +kernel⟩
  · exact ⟨_, rfl, by decide, by decide +kernel⟩
abbrev rowD (r : List Int) : D := .lst (r.map .int)
abbrev tabD (rs : List (List Int)) : D := .lst (rs.map rowD)
theorem table_ex (ns : List Int) : ∃ (n : Nat) (rs : List (List Int)), m_law_table [.lst (ns.map .int)] = some (tabD rs) ∧ rs.length = n ∧ (∀ r ∈ rs, r.length = n) ∧ n ≤ 8 := by
  obtain ⟨r, e, n, rs, rfl, h⟩ : ∃ r, m_law_table [.lst (ns.map .int)] = some r ∧ ∃ (n : Nat) (rs : List (List Int)), r = tabD rs ∧ rs.length = n ∧ (∀ r ∈ rs, r.length = n) ∧ n ≤ 8 := by
    refine runP_of ?_
    unfold b_law_table
    show Rn _ [.dat (.lst (ns.map .int)), .unk, .unk, .unk, .unk, .unk, .unk, .unk, .unk, .unk, .unk, .unk] _
    obtain ⟨hs, eh, lh, rh⟩ := law_row (ns.getD 0 0) 4 (by omega)
    have c0 : m_law_cell [.lst (ns.map .int), .int 0] = some (.int (ns.getD 0 0)) := law_cell ns 0
    have eh : m_law_row [.int (ns.getD 0 0), .int 4] = some (.lst (hs.map .int)) := eh
    refine Rn.sqst (d := .lst (hs.map .int)) (by (simp (disch := first | assumption | omega) only [c0, eh, MV, MW])) ?_
    have g := nth_rng rh
    have g0 := g 0
    have g1 := g 1
    have g2 := g 2
    have g3 := g 3
    refine Rn.sqst (d := .int (nth hs 0 % 7)) (by (simp (disch := first | assumption | omega) only [MV, MW])) ?_
    refine Rn.join (P := fun ρ => ∃ n : Nat, ρ = [.dat (.lst (ns.map .int)), .dat (.lst (hs.map .int)), .dat (.int n), .unk, .unk, .unk, .unk, .unk, .unk, .unk, .unk, .unk] ∧ n ≤ 8) ?_ ?_
    · refine Rn.iteP (p := nth hs 1 % 8 = 1) (by (simp (disch := first | assumption | omega) only [MV, MW])) (fun _ => ?_) (fun _ => ?_)
      · refine Rn.st (d := .int (nth hs 0 % 9)) (by (simp (disch := first | assumption | omega) only [MV, MW])) ?_
        obtain ⟨a, ha⟩ := Int.eq_ofNat_of_zero_le (show 0 ≤ nth hs 0 % 9 by omega)
        exact ⟨a, by rw [ha]; rfl, by omega⟩
      · obtain ⟨a, ha⟩ := Int.eq_ofNat_of_zero_le (show 0 ≤ nth hs 0 % 7 by omega)
        exact Rn.skip ⟨a, by rw [ha]; rfl, by omega⟩
    rintro ρ ⟨n, rfl, hn⟩
    refine Rn.sqst (d := .int (nth hs 2 % 9)) (by show PD.b2 _ _ _ [.dat (.lst (ns.map .int)), .dat (.lst (hs.map .int)), .dat (.int n), .unk, .unk, .unk, .unk, .unk, .unk, .unk, .unk, .unk] = _; (simp (disch := first | assumption | omega) only [MV, MW])) ?_
    obtain ⟨rs, er, lr, rr⟩ := law_row (ns.getD 1 0) 64 (by omega)
    have er : m_law_row [.int (ns.getD 1 0), .int 64] = some (.lst (rs.map .int)) := er
    have c1 : m_law_cell [.lst (ns.map .int), .int 1] = some (.int (ns.getD 1 0)) := law_cell ns 1
    refine Rn.sqst (d := .lst (rs.map .int)) (by show cB _ _ [.dat (.lst (ns.map .int)), .dat (.lst (hs.map .int)), .dat (.int n), .dat _, .unk, .unk, .unk, .unk, .unk, .unk, .unk, .unk] = _; (simp (disch := first | assumption | omega) only [c1, er, MV, MW])) ?_
    refine Rn.sqstO (o := O.dats []) rfl ?_
    have gr := nth_rng rr
    generalize hch : nth hs 2 % 9 = ch
    refine Rn.sqforR (lo := 0) (n := n) (by show rng1 _ [_, _, .dat (.int n), _, _, _, _, _, _, _, _, _] = _; (simp (disch := first | assumption | omega) only [MV, MW]); rfl) (fun i ρ => ∃ (T : List (List Int)) (x6 x7 x8 x9 x10 x11 : O), ρ = [.dat (.lst (ns.map .int)), .dat (.lst (hs.map .int)), .dat (.int n), .dat (.int ch), .dat (.lst (rs.map .int)), O.dats (T.map rowD), x6, x7, x8, x9, x10, x11] ∧ T.length = i ∧ ∀ r ∈ T, r.length = n)
      ⟨[], _, _, _, _, _, _, rfl, rfl, by simp⟩ (fun i hi ρ hI => ?_) (fun ρ hI => ?_)
    · obtain ⟨T, x6, x7, x8, x9, x10, x11, rfl, lT, hT⟩ := hI
      refine ⟨_, rfl, ?_⟩
      rw [Int.zero_add]
      refine Rn.sqstO (o := O.dats []) rfl ?_
      refine Rn.sqforR (lo := 0) (n := n) (by show rng1 _ [_, _, .dat (.int n), _, _, _, _, _, _, _, _, _] = _; (simp (disch := first | assumption | omega) only [MV, MW]); rfl) (fun j ρ => ∃ (L : List Int) (x8 x9 x10 x11 : O), ρ = [.dat (.lst (ns.map .int)), .dat (.lst (hs.map .int)), .dat (.int n), .dat (.int ch), .dat (.lst (rs.map .int)), O.dats (T.map rowD), .dat (.int i), O.dats (L.map .int), x8, x9, x10, x11] ∧ L.length = j)
        ⟨[], _, _, _, _, rfl, rfl⟩ (fun j hj ρ hI => ?_) (fun ρ hI => ?_)
      · obtain ⟨L, x8, x9, x10, x11, rfl, lL⟩ := hI
        refine ⟨_, rfl, ?_⟩
        rw [Int.zero_add]
        refine Rn.sqst (d := .int (nth rs (8 * i + j))) (by show PD.b2 _ _ _ [_, _, _, _, .dat (.lst (rs.map .int)), _, .dat (.int i), _, .dat (.int j), _, _, _] = _; (simp (disch := first | assumption | omega) only [MV, MW])) ?_
        have gq := gr (8 * i + j)
        generalize nth rs (8 * i + j) = q at gq
        refine Rn.sqst (d := .int 0) rfl ?_
        refine Rn.join (P := fun ρ => ∃ (c : Int) (y : O), ρ = [.dat (.lst (ns.map .int)), .dat (.lst (hs.map .int)), .dat (.int n), .dat (.int ch), .dat (.lst (rs.map .int)), O.dats (T.map rowD), .dat (.int i), O.dats (L.map .int), .dat (.int j), .dat (.int q), .dat (.int c), y]) ?_ ?_
        · refine Rn.iteP (p := q % 8 < ch) (by show asB _ [_, _, _, .dat (.int ch), _, _, _, _, _, .dat (.int q), _, _] = _; (simp (disch := first | assumption | omega) only [MV, MW])) (fun _ => ?_) (fun _ => ?_)
          · refine Rn.sqst (d := .int (1 + q / 8 % 5)) (by show PD.b2 _ _ _ [_, _, _, _, _, _, _, _, _, .dat (.int q), _, _] = _; (simp (disch := first | assumption | omega) only [MV, MW])) ?_
            refine Rn.iteP (p := q / 40 % 4 = 0) (by show asB _ [_, _, _, _, _, _, _, _, _, .dat (.int q), _, _] = _; (simp (disch := first | assumption | omega) only [MV, MW])) (fun _ => ?_) (fun _ => ?_)
            · obtain ⟨lw, el, l1, l2⟩ := lower_ex ((8 * (i : Int) + j) / 61) (by omega) (by omega)
              refine Rn.sqst (d := .int lw) (by show PD.b2 _ _ _ [_, _, _, _, _, _, .dat (.int i), _, .dat (.int j), _, _, _] = _; (simp (disch := first | assumption | omega) only [p40, MV, MW]); exact el) ?_
              have ec : (2 : Int) + (8 * (i : Int) + j) % 61 = ((2 + (8 * i + j) % 61 : Nat) : Int) := by omega
              have c2 := law_cell ns (2 + (8 * i + j) % 61)
              have ed : divX (.int (ns.getD (2 + (8 * i + j) % 61) 0)) (.int lw) = some (.int (ns.getD (2 + (8 * i + j) % 61) 0 / lw)) := by
                rw [ew_divX (by omega) l2, Int.fdiv_eq_ediv_of_nonneg _ (by omega)]
              refine Rn.st (d := .int (ns.getD (2 + (8 * i + j) % 61) 0 / lw % 10000000000000000000000000000000000000000)) (by show PD.b2 _ _ _ [.dat (.lst (ns.map .int)), _, _, _, _, _, .dat (.int i), _, .dat (.int j), _, _, .dat (.int lw)] = _; (simp (disch := first | assumption | omega) only [p40, ec, c2, ed, MV, MW])) ?_
              exact ⟨_, .dat (.int lw), rfl⟩
            · exact Rn.skip ⟨_, x11, rfl⟩
          · exact Rn.skip ⟨_, x11, rfl⟩
        · rintro ρ ⟨c, y, rfl⟩
          refine Rn.join (P := fun ρ => ∃ (c : Int), ρ = [.dat (.lst (ns.map .int)), .dat (.lst (hs.map .int)), .dat (.int n), .dat (.int ch), .dat (.lst (rs.map .int)), O.dats (T.map rowD), .dat (.int i), O.dats (L.map .int), .dat (.int j), .dat (.int q), .dat (.int c), y]) ?_ ?_
          · have h1 : asB (PD.b2 (gv 6) (gv 8) eqD) [.dat (.lst (ns.map .int)), .dat (.lst (hs.map .int)), .dat (.int n), .dat (.int ch), .dat (.lst (rs.map .int)), O.dats (T.map rowD), .dat (.int i), O.dats (L.map .int), .dat (.int j), .dat (.int q), .dat (.int c), y] = some (decide ((i : Int) = j)) := by (simp (disch := first | assumption | omega) only [MV, MW])
            have h2 : asB (PD.b2 (PD.b2 (cB (aCons (PD.b2 (gv 1) (kI 3) ixD) aNil) intD) (kI 4) modI) (kI 1) neD) [.dat (.lst (ns.map .int)), .dat (.lst (hs.map .int)), .dat (.int n), .dat (.int ch), .dat (.lst (rs.map .int)), O.dats (T.map rowD), .dat (.int i), O.dats (L.map .int), .dat (.int j), .dat (.int q), .dat (.int c), y] = some (decide (nth hs 3 % 4 ≠ 1)) := by (simp (disch := first | assumption | omega) only [MV, MW])
            refine Rn.ite (by exact andT_of h1 fun _ => h2) (fun _ => ?_) (fun _ => ?_)
            · exact Rn.st (d := .int 0) rfl ⟨_, rfl⟩
            · exact Rn.skip ⟨_, rfl⟩
          · rintro ρ ⟨c, rfl⟩
            refine Rn.appD (d := .int c) (ds := L.map .int) (by (simp (disch := first | assumption | omega) only [MV, MW])) rfl (by simp; omega) ?_
            refine ⟨L ++ [c], .dat (.int j), .dat (.int q), .dat (.int c), y, by rw [List.map_append]; rfl, by simp [lL]⟩
      · obtain ⟨L, x8, x9, x10, x11, rfl, lL⟩ := hI
        refine Rn.fzD rfl ?_
        refine Rn.appD (d := rowD L) (ds := T.map rowD) rfl rfl (by simp; omega) ?_
        refine ⟨T ++ [L], .dat (.int i), .dat (rowD L), x8, x9, x10, x11, by rw [List.map_append]; rfl, by simp [lT], fun r hr => ?_⟩
        rcases List.mem_append.mp hr with hr | hr
        · exact hT r hr
        · have : r = L := by simpa using hr
          rw [this]; exact lL
    · obtain ⟨T, x6, x7, x8, x9, x10, x11, rfl, lT, hT⟩ := hI
      refine Rn.fzD rfl ?_
      refine Rn.ret (d := tabD T) rfl ?_
      exact ⟨_, _, rfl, rfl, n, T, rfl, lT, hT, hn⟩
  exact ⟨n, rs, e, h⟩
end K52

namespace K52
open PySem PySem.Spec L2 PD
theorem ne_self_int (i : Int) : neD (.int i) (.int i) = some (.bl false) := by
  show some (D.bl (!decide (i = i))) = _
  simp
theorem are_true {Ls : List (List Int)} (h1 : Ls.length ≤ 1000) (h2 : ∀ L ∈ Ls, L.length ≤ 1000) : m_law_are_leagues [tabD Ls, tabD Ls] = some (.bl true) := by
  refine runP_eq ?_
  unfold b_law_are_leagues
  show Rn _ [.dat (tabD Ls), .dat (tabD Ls), .unk, .unk] _
  have hl : lenD [tabD Ls] = some (.int Ls.length) := by
    rw [ev_lenL, List.length_map]
  have ne0 : ∀ n : Nat, neD (.int n) (.int n) = some (.bl false) := fun n => ne_self_int _
  refine Rn.chk (by (simp (disch := first | assumption | omega) only [hl, ne0, MV, MW])) ?_
  refine Rn.sqforR (lo := 0) (n := Ls.length) (by (simp (disch := first | assumption | omega) only [hl, MV, MW]); rfl) (fun k ρ => ∃ (x2 x3 : O), ρ = [.dat (tabD Ls), .dat (tabD Ls), x2, x3]) ⟨_, _, rfl⟩ (fun k hk ρ hI => ?_) (fun ρ hI => ?_)
  · obtain ⟨x2, x3, rfl⟩ := hI
    refine ⟨_, rfl, ?_⟩
    rw [Int.zero_add]
    have hrow : ixD (tabD Ls) (.int k) = some (rowD Ls[k]) := ix_map (List.getElem?_eq_getElem hk)
    have hll : lenD [rowD Ls[k]] = some (.int Ls[k].length) := by
      rw [ev_lenL, List.length_map]
    have hL := h2 _ (List.getElem_mem hk)
    generalize Ls[k] = L at hrow hll hL
    refine Rn.chk (by show orT _ _ [.dat (tabD Ls), .dat (tabD Ls), .dat (.int k), x3] = _; (simp (disch := first | assumption | omega) only [hrow, hll, ne0, MV, MW])) ?_
    refine Rn.forR (lo := 0) (n := L.length) (by show rng1 _ [.dat (tabD Ls), .dat (tabD Ls), .dat (.int k), x3] = _; (simp (disch := first | assumption | omega) only [hrow, hll, MV, MW]); rfl) (fun i ρ => ∃ (x3 : O), ρ = [.dat (tabD Ls), .dat (tabD Ls), .dat (.int k), x3]) ⟨_, rfl⟩ (fun i hi ρ hI => ?_) (fun ρ hI => ?_)
    · obtain ⟨x3, rfl⟩ := hI
      refine ⟨_, rfl, ?_⟩
      rw [Int.zero_add]
      have hc : ixD (rowD L) (.int i) = some (.int L[i]) := ix_map (List.getElem?_eq_getElem hi)
      have hii : m_law_is_integer [.int L[i]] = some (.bl true) := rfl
      generalize L[i] = z at hc hii
      have hz := ne_self_int z
      refine Rn.ite (t := false) (by show orT _ _ [.dat (tabD Ls), .dat (tabD Ls), .dat (.int k), .dat (.int i)] = _; (simp (disch := first | assumption | omega) only [hrow, hc, hii, hz, MV, MW])) (fun h => nomatch h) fun _ => Rn.skip ?_
      exact ⟨_, rfl⟩
    · obtain ⟨x3, rfl⟩ := hI
      exact ⟨_, _, rfl⟩
  · obtain ⟨x2, x3, rfl⟩ := hI
    exact Rn.ret (d := .bl true) rfl ⟨_, rfl, rfl⟩
end K52

namespace K52
open PySem PySem.Spec L2 PD LG Lg
noncomputable def Rk (n : Nat) (rs : List (List Int)) : List (List Int) := (ord (wn rs) (heads n (wn rs)).length (heads n (wn rs))).map il
theorem lead {d : D} {n : Nat} {rs : List (List Int)} (T : Tab d n rs) (hn8 : n ≤ 8) : m_law_leagues [d] = some (tabD (Rk n rs)) ∧ GivesNew mleagues 1 [d] (Rk n rs) ∧ (Rk n rs).Nodup ∧ (Rk n rs).length ≤ 8 ∧ ∀ L ∈ Rk n rs, L.length ≤ 8 := by
  have h := leagues_new T hn8
  have hr := lleagues_run T
  have sp := ord_spec (n := n) (w := wn rs) _ rfl heads_nodup heads_all
  have hle := heads_le (n := n) (w := wn rs)
  have ok := ok_lt (n := n) (w := wn rs) (Ls := ord (wn rs) (heads n (wn rs)).length (heads n (wn rs))) fun L hL => heads_all L (sp.2.1 L hL)
  unfold Rk
  generalize ord (wn rs) (heads n (wn rs)).length (heads n (wn rs)) = R at *
  refine ⟨?_, h.1, h.2, by rw [List.length_map]; omega, fun L hL => ?_⟩
  · have e : m_law_leagues [d] = Lg.m_law_leagues [d] := rfl
    rw [e, hr]
    show some (D.lst _) = some (D.lst _)
    rw [List.map_map]; rfl
  · obtain ⟨x, hx, rfl⟩ := List.mem_map.mp hL
    have := ok.2 x hx
    rw [List.length_map]; omega
theorem pl_tab {rs : List (List Int)} : (tabD rs).plain 60 = true := (plain_lst 1 (by decide) fun d hd => by
  obtain ⟨a, _, rfl⟩ := List.mem_map.mp hd
  exact pl_ints a).1
theorem tab_of {n : Nat} {rs : List (List Int)} (h1 : rs.length = n) (h2 : ∀ r ∈ rs, r.length = n) (hn : n ≤ 1000) : Tab (tabD rs) n rs := ⟨h1, h2, ⟨rowD, fun r => .inl rfl, .inl rfl⟩, hn⟩
theorem tupTab_of {n : Nat} {rs : List (List Int)} (h1 : rs.length = n) (h2 : ∀ r ∈ rs, r.length = n) (hn : n ≤ 1000) : Tab (.tup (rs.map fun r => .tup (r.map .int))) n rs := ⟨h1, h2, ⟨fun r => .tup (r.map .int), fun r => .inr rfl, .inr rfl⟩, hn⟩
end K52

namespace K52
open PySem PySem.Spec L2 PD LG Lg
theorem toDs_in : ∀ Ls : List (List Int), O.toDs (Ls.map inL) = some (Ls.map rowD)
  | [] => rfl
  | L :: Ls => by
    show (match O.toD (O.dats (L.map .int)), O.toDs (Ls.map inL) with | some d, some ds => some (d :: ds) | _, _ => none) = _
    rw [toD_dats, toDs_in Ls]; rfl
theorem vw_in (Ls : List (List Int)) : O.vw (.lst (Ls.map inL)) = .dat (tabD Ls) := by
  have : O.toD (.lst (Ls.map inL)) = some (tabD Ls) := by
    show (O.toDs (Ls.map inL)).map D.lst = _
    rw [toDs_in]; rfl
  unfold O.vw
  rw [this]
theorem aC1 {f : Ev → Option D} {ρ : Ev} {d : D} (h : f ρ = some d) : aCons f aNil ρ = some [d] := by
  unfold aCons
  rw [h]; rfl
theorem aC2 {f g : Ev → Option D} {ρ : Ev} {d e : D} (h : f ρ = some d) (h2 : g ρ = some e) : aCons f (aCons g aNil) ρ = some [d, e] := by
  unfold aCons
  rw [h, h2]; rfl
theorem cB_of {g : Ev → Option (List D)} {f : List D → Option D} {ρ : Ev} {ds : List D} {d : D} (h : g ρ = some ds) (h2 : f ds = some d) : cB g f ρ = some d := by
  unfold cB
  rw [h]; exact h2
theorem asB_of {f : Ev → Option D} {ρ : Ev} {b : Bool} (h : f ρ = some (.bl b)) : asB f ρ = some b := by
  unfold asB
  rw [h]
theorem notT_of {f : Ev → Option Bool} {ρ : Ev} {b : Bool} (h : f ρ = some b) : notT f ρ = some (!b) := by
  unfold notT
  rw [h]; rfl
theorem law_true : ∀ ns : List Int, ns.length ≤ 63 → mlaw [.lst (ns.map .int)] = some (.bl true) := by
  intro ns _
  refine runP_eq ?_
  unfold blaw
  show Rn _ [.dat (.lst (ns.map .int)), .unk, .unk, .unk, .unk, .unk, .unk, .unk, .unk] _
  obtain ⟨n, rs, et, l1, l2, hn⟩ := table_ex ns
  have T := tab_of l1 l2 (by omega)
  obtain ⟨el, gn, nd, m1, m2⟩ := lead T hn
  obtain ⟨el2, gn2, nd2, m12, m22⟩ := lead (tupTab_of l1 l2 (by omega)) hn
  generalize Rk n rs = Ls at *
  have are := are_true (Ls := Ls) (by omega) (fun L hL => by have := m2 L hL; omega)
  refine Rn.sqst (d := tabD rs) (by (simp (disch := first | assumption | omega) only [et, MV, MW])) ?_
  refine Rn.sqst (d := tabD Ls) (by show cB _ _ [_, .dat (tabD rs), _, _, _, _, _, _, _] = _; (simp (disch := first | assumption | omega) only [el, MV, MW])) ?_
  refine Rn.sqst (d := tabD rs) (lc_map (φ := rowD) rowD (xs := rs) rfl rfl (by omega) fun x _ => ⟨_, rfl, by
    show (O.dats (x.map .int)).toD = _
    exact toD_dats _⟩) ?_
  show Rn _ [.dat (.lst (ns.map .int)), .dat (tabD rs), .dat (tabD Ls), .dat (tabD rs), .unk, .unk, .unk, .unk, .unk] _
  refine Rn.sqstO (o := .lst (Ls.map inL)) (cN_of rfl gn nd) ?_
  have hne : asB (PD.b2 (gv 3) (gv 1) neD) [.dat (.lst (ns.map .int)), .dat (tabD rs), .dat (tabD Ls), .dat (tabD rs), .dat (tabD Ls), .unk, .unk, .unk, .unk] = some false := by
    (simp (disch := first | assumption | omega) only [ne_self (pl_tab (rs := rs)), MV, MW])
  refine Rn.chk (by
    show orT _ _ [.dat (.lst (ns.map .int)), .dat (tabD rs), .dat (tabD Ls), .dat (tabD rs), O.vw (.lst (Ls.map inL)), .unk, .unk, .unk, .unk] = _
    rw [vw_in]
    exact orT_of (a := false) (b := false) hne fun _ => by (simp (disch := first | assumption | omega) only [are, MV, MW])) ?_
  have ag : (Ls.map inL).all isLs = true := by
    refine List.all_eq_true.mpr fun o ho => ?_
    obtain ⟨L, hL, rfl⟩ := List.mem_map.mp ho
    have := m2 L hL
    show decide (((L.map D.int).map O.dat).length < sizeLine) = true
    rw [List.length_map, List.length_map]
    exact decide_eq_true (Nat.lt_of_le_of_lt this (by decide))
  have e1 : ∃ os, appAll 5 4 (.dat (.int 8)) [.dat (.lst (ns.map .int)), .dat (tabD rs), .dat (tabD Ls), .dat (tabD rs), .lst (Ls.map inL), .unk, .unk, .unk, .unk] = some (.nx [.dat (.lst (ns.map .int)), .dat (tabD rs), .dat (tabD Ls), .dat (tabD rs), .lst os, .unk, .unk, .unk, .unk]) ∧ os.length ≤ 8 := by
    refine ⟨(Ls.map inL).map (grow (.dat (.int 8))), ?_, by rw [List.length_map, List.length_map]; omega⟩
    show (if 5 < 9 ∧ (Ls.map inL).all isLs = true then _ else none) = _
    rw [if_pos ⟨by decide, ag⟩]
    rfl
  obtain ⟨os, e1, hos⟩ := e1
  refine Rn.sq ⟨_, e1, ?_⟩
  have e2 : appP 4 plN (mkLstO (aCons (kI 8) aNil)) [.dat (.lst (ns.map .int)), .dat (tabD rs), .dat (tabD Ls), .dat (tabD rs), .lst os, .unk, .unk, .unk, .unk] = some (.nx [.dat (.lst (ns.map .int)), .dat (tabD rs), .dat (tabD Ls), .dat (tabD rs), .lst (os ++ [.lst [.dat (.int 8)]]), .unk, .unk, .unk, .unk]) := by
    show (if os.length < sizeLine then _ else none) = _
    rw [if_pos (Nat.lt_of_le_of_lt hos (by decide))]
    rfl
  refine Rn.sq ⟨_, e2, ?_⟩
  show Rn _ [.dat (.lst (ns.map .int)), .dat (tabD rs), .dat (tabD Ls), .dat (tabD rs), .lst (os ++ [.lst [.dat (.int 8)]]), .unk, .unk, .unk, .unk] _
  generalize O.lst (os ++ [.lst [.dat (.int 8)]]) = y4
  have hcell : ∀ r ∈ rs, ∀ k, k < n → ixD (rowD r) (.int (k : Nat)) = some (.int (r.getD k 0)) := fun r hr k hk => rw_ix (.inl rfl) (by rw [l2 r hr]; exact hk)
  have etu : lcD (iOf (gv 1)) (gN 7) yes (cB (aCons (gv 7) aNil) tupD) [7] [.dat (.lst (ns.map .int)), .dat (tabD rs), .dat (tabD Ls), .dat (tabD rs), y4, .unk, .unk, .unk, .unk] = some (.lst (rs.map fun r => .tup (r.map .int))) := lc_map (φ := rowD) (fun r => .tup (r.map .int)) (xs := rs) rfl rfl (by omega) fun x _ => ⟨_, rfl, rfl⟩
  have ea := aC1 (cB_of (f := tupD) (aC1 etu) rfl)
  have ec := cNF_of ea gn2
  refine Rn.chk (notT_of (b := true) (asB_of (cB_of (f := len? 2 m_law_are_leagues) (aC2 ec rfl) are))) ?_
  let rs2 : List (List Int) := (List.range n).map fun k => rs.map fun r => r.getD k 0
  have p1 : rs2.length = n := by rw [List.length_map, List.length_range]
  have p2 : ∀ r ∈ rs2, r.length = n := fun r hr => by
    obtain ⟨k, _, rfl⟩ := List.mem_map.mp hr
    rw [List.length_map, l1]
  obtain ⟨el3, gn3, _, m13, m23⟩ := lead (tab_of p1 p2 (by omega)) hn
  have are3 := are_true (Ls := Rk n rs2) (by omega) (fun L hL => by have := m23 L hL; omega)
  have hx : tabD rs2 = .lst ((List.range n).map fun k => rowD (rs.map fun r => r.getD k 0)) := by
    show D.lst (List.map _ (List.map _ _)) = _
    rw [List.map_map]; rfl
  refine Rn.sqst (d := tabD rs2) ?_ ?_
  · rw [hx]
    show lcD (rng1 (cB (aCons (gv 1) aNil) lenD)) (gN 8) yes _ [8] [.dat (.lst (ns.map .int)), .dat (tabD rs), .dat (tabD Ls), .dat (tabD rs), y4, .unk, .unk, .unk, .unk] = _
    have hr : rng1 (cB (aCons (gv 1) aNil) lenD) [.dat (.lst (ns.map .int)), .dat (tabD rs), .dat (tabD Ls), .dat (tabD rs), y4, .unk, .unk, .unk, .unk] = some ((List.range n).map fun k : Nat => .int k) := by
      rw [rng_eq (n := n) (cB_of (aC1 rfl) T.len) (by omega), rangeD_map]
      simp only [Int.zero_add]
    refine lc_map (gt := gN 8) (vs := [8]) (φ := fun k : Nat => .int k) (fun k => rowD (rs.map fun r => r.getD k 0)) (xs := List.range n) rfl hr (by rw [List.length_range]; omega) fun k hk => ⟨_, rfl, ?_⟩
    · show lcD _ _ _ _ _ [.dat (.lst (ns.map .int)), .dat (tabD rs), .dat (tabD Ls), .dat (tabD rs), y4, .unk, .unk, .unk, .dat (.int k)] = _
      have hk := List.mem_range.mp hk
      rw [show rowD (rs.map fun r => r.getD k 0) = .lst (rs.map fun r => .int (r.getD k 0)) by
        show D.lst (List.map _ (List.map _ _)) = _
        rw [List.map_map]; rfl]
      exact lc_map (φ := rowD) (fun r => .int (r.getD k 0)) (xs := rs) rfl rfl (by omega) fun r hr => ⟨_, rfl, hcell r hr k hk⟩
  show Rn _ [.dat (.lst (ns.map .int)), .dat (tabD rs), .dat (tabD Ls), .dat (tabD rs), y4, .unk, .dat (tabD rs2), .unk, .unk] _
  generalize rs2 = rs2 at *
  refine Rn.chk (notT_of (b := true) (asB_of (cB_of (f := len? 2 m_law_are_leagues) (aC2 (cNF_of (aC1 rfl) gn3) (cB_of (f := len? 1 m_law_leagues) (aC1 rfl) el3)) are3))) ?_
  exact Rn.ret (d := .bl true) (cB_of (f := len? 2 m_law_are_leagues) (aC2 (cNF_of (aC1 rfl) gn) rfl) are) ⟨_, rfl, rfl⟩
end K52

namespace K52
open PySem PySem.Spec L2 PD
theorem all_mk {lw : PySem.W.OpenLaw} {w : World} {fa : Addr} {K : PySem.W.Frag} {h : Heap} {mg : Str → Option Value} (X : K.In h) (G : h.Ns mainGlobals mg)
    (z0 : PySem.W.nsIn K mainGlobals "any" = some none)
    (z1 : PySem.W.nsIn K mainGlobals "bool" = some none)
    (z2 : PySem.W.nsIn K mainGlobals "enumerate" = some none)
    (z3 : PySem.W.nsIn K mainGlobals "int" = some none)
    (z4 : PySem.W.nsIn K mainGlobals "isinstance" = some none)
    (z5 : PySem.W.nsIn K mainGlobals "len" = some none)
    (z6 : PySem.W.nsIn K mainGlobals "list" = some none)
    (z7 : PySem.W.nsIn K mainGlobals "range" = some none)
    (z8 : PySem.W.nsIn K mainGlobals "tuple" = some none)
    {f0 : Addr} {oc0 kV0 dc0 pm0 cd0 ct0 : Value} {od0 an0 : Option Addr} {sl0 : Array (Option Value)}
    (a0 : PySem.W.nsIn K mainGlobals "_law_is_integer" = some (some (.ref f0)))
    (l0 : K.lookup f0 = some ⟨oc0, od0, .func (PySem.W.fnOf "_law_is_integer" "_law_is_integer" (defArgs s_law_is_integer) (defBody s_law_is_integer) (defScope s_law_is_integer) .none kV0 dc0 pm0 an0 cd0 ct0), sl0⟩)
    (c0 : PySem.W.codeIn K cd0 "_law_is_integer" = true)
    (k0 : PySem.W.keepIn K (.ref f0) = true)
    {f1 : Addr} {oc1 kV1 dc1 pm1 cd1 ct1 : Value} {od1 an1 : Option Addr} {sl1 : Array (Option Value)}
    (a1 : PySem.W.nsIn K mainGlobals "_law_are_leagues" = some (some (.ref f1)))
    (l1 : K.lookup f1 = some ⟨oc1, od1, .func (PySem.W.fnOf "_law_are_leagues" "_law_are_leagues" (defArgs s_law_are_leagues) (defBody s_law_are_leagues) (defScope s_law_are_leagues) .none kV1 dc1 pm1 an1 cd1 ct1), sl1⟩)
    (c1 : PySem.W.codeIn K cd1 "_law_are_leagues" = true)
    (k1 : PySem.W.keepIn K (.ref f1) = true)
    {f2 : Addr} {oc2 kV2 dc2 pm2 cd2 ct2 : Value} {od2 an2 : Option Addr} {sl2 : Array (Option Value)}
    (a2 : PySem.W.nsIn K mainGlobals "is_unbeaten" = some (some (.ref f2)))
    (l2 : K.lookup f2 = some ⟨oc2, od2, .func (PySem.W.fnOf "is_unbeaten" "is_unbeaten" (defArgs sis_unbeaten) (defBody sis_unbeaten) (defScope sis_unbeaten) .none kV2 dc2 pm2 an2 cd2 ct2), sl2⟩)
    (c2 : PySem.W.codeIn K cd2 "is_unbeaten" = true)
    (k2 : PySem.W.keepIn K (.ref f2) = true)
    {f3 : Addr} {oc3 kV3 dc3 pm3 cd3 ct3 : Value} {od3 an3 : Option Addr} {sl3 : Array (Option Value)}
    (a3 : PySem.W.nsIn K mainGlobals "reach_table" = some (some (.ref f3)))
    (l3 : K.lookup f3 = some ⟨oc3, od3, .func (PySem.W.fnOf "reach_table" "reach_table" (defArgs sreach_table) (defBody sreach_table) (defScope sreach_table) .none kV3 dc3 pm3 an3 cd3 ct3), sl3⟩)
    (c3 : PySem.W.codeIn K cd3 "reach_table" = true)
    (k3 : PySem.W.keepIn K (.ref f3) = true)
    {f4 : Addr} {oc4 kV4 dc4 pm4 cd4 ct4 : Value} {od4 an4 : Option Addr} {sl4 : Array (Option Value)}
    (a4 : PySem.W.nsIn K mainGlobals "leagues" = some (some (.ref f4)))
    (l4 : K.lookup f4 = some ⟨oc4, od4, .func (PySem.W.fnOf "leagues" "leagues" (defArgs sleagues) (defBody sleagues) (defScope sleagues) .none kV4 dc4 pm4 an4 cd4 ct4), sl4⟩)
    (c4 : PySem.W.codeIn K cd4 "leagues" = true)
    (k4 : PySem.W.keepIn K (.ref f4) = true)
    {f5 : Addr} {oc5 kV5 dc5 pm5 cd5 ct5 : Value} {od5 an5 : Option Addr} {sl5 : Array (Option Value)}
    (a5 : PySem.W.nsIn K mainGlobals "_law_is_unbeaten" = some (some (.ref f5)))
    (l5 : K.lookup f5 = some ⟨oc5, od5, .func (PySem.W.fnOf "_law_is_unbeaten" "_law_is_unbeaten" (defArgs s_law_is_unbeaten) (defBody s_law_is_unbeaten) (defScope s_law_is_unbeaten) .none kV5 dc5 pm5 an5 cd5 ct5), sl5⟩)
    (c5 : PySem.W.codeIn K cd5 "_law_is_unbeaten" = true)
    (k5 : PySem.W.keepIn K (.ref f5) = true)
    {f6 : Addr} {oc6 kV6 dc6 pm6 cd6 ct6 : Value} {od6 an6 : Option Addr} {sl6 : Array (Option Value)}
    (a6 : PySem.W.nsIn K mainGlobals "_law_reached" = some (some (.ref f6)))
    (l6 : K.lookup f6 = some ⟨oc6, od6, .func (PySem.W.fnOf "_law_reached" "_law_reached" (defArgs s_law_reached) (defBody s_law_reached) (defScope s_law_reached) .none kV6 dc6 pm6 an6 cd6 ct6), sl6⟩)
    (c6 : PySem.W.codeIn K cd6 "_law_reached" = true)
    (k6 : PySem.W.keepIn K (.ref f6) = true)
    {f7 : Addr} {oc7 kV7 dc7 pm7 cd7 ct7 : Value} {od7 an7 : Option Addr} {sl7 : Array (Option Value)}
    (a7 : PySem.W.nsIn K mainGlobals "_law_leagues" = some (some (.ref f7)))
    (l7 : K.lookup f7 = some ⟨oc7, od7, .func (PySem.W.fnOf "_law_leagues" "_law_leagues" (defArgs s_law_leagues) (defBody s_law_leagues) (defScope s_law_leagues) .none kV7 dc7 pm7 an7 cd7 ct7), sl7⟩)
    (c7 : PySem.W.codeIn K cd7 "_law_leagues" = true)
    (k7 : PySem.W.keepIn K (.ref f7) = true)
    {f8 : Addr} {oc8 kV8 dc8 pm8 cd8 ct8 : Value} {od8 an8 : Option Addr} {sl8 : Array (Option Value)}
    (a8 : PySem.W.nsIn K mainGlobals "_law_cell" = some (some (.ref f8)))
    (l8 : K.lookup f8 = some ⟨oc8, od8, .func (PySem.W.fnOf "_law_cell" "_law_cell" (defArgs s_law_cell) (defBody s_law_cell) (defScope s_law_cell) .none kV8 dc8 pm8 an8 cd8 ct8), sl8⟩)
    (c8 : PySem.W.codeIn K cd8 "_law_cell" = true)
    (k8 : PySem.W.keepIn K (.ref f8) = true)
    {f9 : Addr} {oc9 kV9 dc9 pm9 cd9 ct9 : Value} {od9 an9 : Option Addr} {sl9 : Array (Option Value)}
    (a9 : PySem.W.nsIn K mainGlobals "_law_row" = some (some (.ref f9)))
    (l9 : K.lookup f9 = some ⟨oc9, od9, .func (PySem.W.fnOf "_law_row" "_law_row" (defArgs s_law_row) (defBody s_law_row) (defScope s_law_row) .none kV9 dc9 pm9 an9 cd9 ct9), sl9⟩)
    (c9 : PySem.W.codeIn K cd9 "_law_row" = true)
    (k9 : PySem.W.keepIn K (.ref f9) = true)
    {f10 : Addr} {oc10 kV10 dc10 pm10 cd10 ct10 : Value} {od10 an10 : Option Addr} {sl10 : Array (Option Value)}
    (a10 : PySem.W.nsIn K mainGlobals "_law_table" = some (some (.ref f10)))
    (l10 : K.lookup f10 = some ⟨oc10, od10, .func (PySem.W.fnOf "_law_table" "_law_table" (defArgs s_law_table) (defBody s_law_table) (defScope s_law_table) .none kV10 dc10 pm10 an10 cd10 ct10), sl10⟩)
    (c10 : PySem.W.codeIn K cd10 "_law_table" = true)
    (k10 : PySem.W.keepIn K (.ref f10) = true)
    {f11 : Addr} {oc11 kV11 dc11 pm11 cd11 ct11 : Value} {od11 an11 : Option Addr} {sl11 : Array (Option Value)}
    (a11 : PySem.W.nsIn K mainGlobals "law" = some (some (.ref f11)))
    (l11 : K.lookup f11 = some ⟨oc11, od11, .func (PySem.W.fnOf "law" "law" (defArgs slaw) (defBody slaw) (defScope slaw) .none kV11 dc11 pm11 an11 cd11 ct11), sl11⟩)
    (c11 : PySem.W.codeIn K cd11 "law" = true)
    (k11 : PySem.W.keepIn K (.ref f11) = true)
    (hfa : mg "law" = some (.ref fa)) :
    ∃ fd : FuncData, (∀ (s : Shared) (v : Value), BindsTo s fd ⟨[v], []⟩ [("_law_script", v)]) ∧ ∀ base : Heap, K.In base → base.Ns mainGlobals mg → FnOk lw.prog w K mg base CX0 3 fa fd ["_law_script"] (spT K) := by
  obtain ⟨T, hb⟩ := tx_mk X G z0 z1 z2 z3 z4 z5 z6 z7 z8 a0 l0 c0 k0 a1 l1 c1 k1 a2 l2 c2 k2 a3 l3 c3 k3 a4 l4 c4 k4 a5 l5 c5 k5 a6 l6 c6 k6 a7 l7 c7 k7 a8 l8 c8 k8 a9 l9 c9 k9 a10 l10 c10 k10 a11 l11 c11 k11
  have e : fa = T.flaw := by
    have := hfa.symm.trans T.glaw
    cases this
    rfl
  subst e
  exact ⟨T.fdlaw, hb, fun base _ _ => T.oklaw.imp fun vs H Q E h => spT_of (law_true) h⟩
end K52
open PySem PySem.W PyProof.Rows
set_option maxHeartbeats 0 in
theorem PySem.Challenge.cw_playhall_k52_leagues_in_order_holds : PySem.Challenge.rw_playhall_k52_leagues_in_order.Holds := by
  w_on; o_law; k_head; (case hw => w_witness2)
  k_fill
  refine PD.walk_ofD (l := PySem.Challenge.rw_playhall_k52_leagues_in_order) (n := 63) (k := 3) (x := "_law_script") (CX := fun _ => L2.CX0) rfl (by decide) rfl ⟨rfl, by decide, by decide⟩ (fun w h Y => PySem.W.kIn_of Y) ?F (fun _ _ _ _ _ h => h)
  case F =>
    intro w mg fa h KX G hmg
    refine' K52.all_mk KX G ?z0 ?z1 ?z2 ?z3 ?z4 ?z5 ?z6 ?z7 ?z8 ?a0 ?l0 ?c0 ?k0 ?a1 ?l1 ?c1 ?k1 ?a2 ?l2 ?c2 ?k2 ?a3 ?l3 ?c3 ?k3 ?a4 ?l4 ?c4 ?k4 ?a5 ?l5 ?c5 ?k5 ?a6 ?l6 ?c6 ?k6 ?a7 ?l7 ?c7 ?k7 ?a8 ?l8 ?c8 ?k8 ?a9 ?l9 ?c9 ?k9 ?a10 ?l10 ?c10 ?k10 ?a11 ?l11 ?c11 ?k11 hmg
    (case z0 => first | k_is | rfl); (case z1 => first | k_is | rfl); (case z2 => first | k_is | rfl); (case z3 => first | k_is | rfl); (case z4 => first | k_is | rfl); (case z5 => first | k_is | rfl); (case z6 => first | k_is | rfl); (case z7 => first | k_is | rfl); (case z8 => first | k_is | rfl); (case a0 => first | k_is | rfl); (case l0 => first | k_is | rfl); (case c0 => first | k_is | rfl); (case k0 => first | k_is | rfl); (case a1 => first | k_is | rfl); (case l1 => first | k_is | rfl); (case c1 => first | k_is | rfl); (case k1 => first | k_is | rfl); (case a2 => first | k_is | rfl); (case l2 => first | k_is | rfl); (case c2 => first | k_is | rfl); (case k2 => first | k_is | rfl); (case a3 => first | k_is | rfl); (case l3 => first | k_is | rfl); (case c3 => first | k_is | rfl); (case k3 => first | k_is | rfl); (case a4 => first | k_is | rfl); (case l4 => first | k_is | rfl); (case c4 => first | k_is | rfl); (case k4 => first | k_is | rfl); (case a5 => first | k_is | rfl); (case l5 => first | k_is | rfl); (case c5 => first | k_is | rfl); (case k5 => first | k_is | rfl); (case a6 => first | k_is | rfl); (case l6 => first | k_is | rfl); (case c6 => first | k_is | rfl); (case k6 => first | k_is | rfl); (case a7 => first | k_is | rfl); (case l7 => first | k_is | rfl); (case c7 => first | k_is | rfl); (case k7 => first | k_is | rfl); (case a8 => first | k_is | rfl); (case l8 => first | k_is | rfl); (case c8 => first | k_is | rfl); (case k8 => first | k_is | rfl); (case a9 => first | k_is | rfl); (case l9 => first | k_is | rfl); (case c9 => first | k_is | rfl); (case k9 => first | k_is | rfl); (case a10 => first | k_is | rfl); (case l10 => first | k_is | rfl); (case c10 => first | k_is | rfl); (case k10 => first | k_is | rfl); (case a11 => first | k_is | rfl); (case l11 => first | k_is | rfl); (case c11 => first | k_is | rfl); (case k11 => first | k_is | rfl)
#print axioms PySem.Challenge.cw_playhall_k52_leagues_in_order_holds

