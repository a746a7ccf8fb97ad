import PyProof.Rows.All
import Wide.All
import OpenK.AllK
import Wide.FinOn
import HandS.ForMost
import HandS.ForExc
import KE.KDictKeyed
import HandS.Walk
import HandS.Wide
import HandS.Defaults
import HandS.IsInst
import HandS.Flow
import HandS.Property
import HandS.MakeKw
import KE.KOpsOwn
import KE.SortData
import KE.KDictCopyH
import HandS.ListItems
import HandS.Conv
import HandS.TupAny
import HandS.Style
import HandS.EndBits
import HandS.ExcInit
import HandS.ExcCtx
import KE.KExcSuper
import HandS.WideBits
import HandS.TryOnly
import KE.GoesMore
import HandS.ExcOwn
import HandS.ExcField
import HandS.ExcIs
import KE.KExcIs
import HandS.Star
import HandS.Zip
import HandS.HotCalls
import HandS.WordsExc
import KE.KDictZip
import KE.DatumOrd
import HandS.SortKw
import KE.GoesZip
import HandS.DictComp
import HandS.TupLe
import HandS.CallSlots
import HandS.MakeKwOnly
import KE.KDictDisplayH
import HandS.Deep
import HandS.TupLen
import KE.SortCalls
import HandS.SetFor
import PyProof.ListRange
import HandS.ClsMeth
import HandS.TupMul
import KE.DataMinMax
import KE.OsRunLaw
import PySem.Challenge.RW_playhall_k02_whole_shift_algebra
set_option Elab.async false
set_option linter.all false
set_option maxRecDepth 100000
set_option maxHeartbeats 4000000
namespace PD
open PySem PySem.Spec PyProof.Rows L2

/-! ### data and owned things -/
inductive D where
  | non | bl (b : Bool) | int (i : Int) | str (x : Str) | lst (xs : List D) | tup (xs : List D)
  | dic (ks : List Key) (vs : List D) | obj (C : Addr) (fs : List Str) (vs : List D)
  /-- an exception in an except suite: the object a, its dict d, its class, its fields -/
  | exn (a : Addr) (d : Option Addr) (cls : Value) (ks : List Str) (vs : List D)
  /-- d, and M0 is a part of what is frozen -/
  | tagM (M0 : Hp) (d : D)
  /-- d, and the value itself has P, which what is done to the frozen part leaves -/
  | tagP (P : Hp → V → Prop) (d : D)
  /-- a dict whose keys are tuples of any depth -/
  | dicT (w : World) (ks : List NestedKey) (vs : List D)

inductive O where
  | unk | dat (d : D) | lst (xs : List O) | tup (xs : List O) | dic (ks : List Key) (vs : List O) | obj (C : Addr) (fs : List Str) (vs : List O) | raw (u : HO) | dicT (w : World) (ks : List NestedKey) (vs : List D)

mutual
def O.toD : O → Option D
  | .unk => none
  | .dat d => some d
  | .lst xs => (O.toDs xs).map .lst
  | .tup xs => (O.toDs xs).map .tup
  | .dic ks vs => (O.toDs vs).map (.dic ks)
  | .obj C fs vs => (O.toDs vs).map (.obj C fs)
  | .raw _ => none
  | .dicT w ks vs => some (.dicT w ks vs)
def O.toDs : List O → Option (List D)
  | [] => some []
  | o :: os => match O.toD o, O.toDs os with
    | some d, some ds => some (d :: ds)
    | _, _ => none
end

theorem Rd.up {M M' : Hp} {a : Addr} {u : HO} (s : ∀ b v, M b = some v → M' b = some v) (h : Rd M a u) : Rd M' a u := by
  rcases h with h | ⟨o, h⟩
  · exact .inl (s _ _ h)
  · exact .inr ⟨o, s _ _ h⟩
/-- a list that is looked at: tracked, or one of the written part -/
def SqX (K : PySem.W.Frag) (H : Hp) (a : Addr) (xs : List V) : Prop :=
  Rd H a (.lst xs) ∨ ∃ (its : Array Value) (n : Nat), K.lookup a = some ({ cls := .type "list", data := .seq its n } : Obj) ∧ its.size ≤ sizeLine ∧ Vals xs its.toList
theorem SqX.toL {K : PySem.W.Frag} {H : Hp} {a : Addr} {xs : List V} (h : SqX K H a xs) : SqL K H a xs := by
  rcases h with h | ⟨its, n, lk, hz, r⟩
  · exact .inl h
  · exact .inr ⟨_, its, n, lk, rfl, rfl, rfl, hz, r⟩
theorem sqX_same {K : PySem.W.Frag} {H H' : Hp} {a : Addr} {xs : List V} (e : Same H H') (h : SqX K H a xs) : SqX K H' a xs := by
  rcases h with (h | ⟨o, h⟩) | h
  · exact .inl (.inl (e _ _ h))
  · exact .inl (.inr ⟨o, e _ _ h⟩)
  · exact .inr h
theorem seqX {K : PySem.W.Frag} {H H' : Hp} {a : Addr} {xs : List V} (e : Same H H') (h : SqX K H a xs) : SqL K H' a xs := (sqX_same e h).toL
/-- the lists stand -/
def LSub (M M' : Hp) : Prop := ∀ a xs, M a = some (.lst xs) → M' a = some (.lst xs)
theorem sqT_same {K : PySem.W.Frag} {H H' : Hp} {a : Addr} {xs : List V} (e : Same H H') (h : SqT K H a xs) : SqT K H' a xs := by
  rcases h with (h | ⟨o, h⟩) | h
  · exact .inl (.inl (e _ _ h))
  · exact .inl (.inr ⟨o, e _ _ h⟩)
  · exact .inr h
/-! ### dicts whose keys are tuples -/
mutual
/-- the value is such a key -/
inductive NK (K : PySem.W.Frag) (M : Hp) : V → NestedKey → Prop
  | non : NK K M .non .none
  | bl (b : Bool) : NK K M (.bl b) (.num (if b then 1 else 0))
  | int (i : Int) : NK K M (.int i) (.num i)
  | str (x : Str) : NK K M (.str x) (.text x)
  | tup {a : Addr} {xs : List V} {ks : List NestedKey} : SqT K M a xs → NKs K M xs ks → NK K M (.ref a) (.tup ks)
inductive NKs (K : PySem.W.Frag) (M : Hp) : List V → List NestedKey → Prop
  | nil : NKs K M [] []
  | cons {v : V} {vs : List V} {k : NestedKey} {ks : List NestedKey} : NK K M v k → NKs K M vs ks → NKs K M (v :: vs) (k :: ks)
end
mutual
theorem NK.mono {K : PySem.W.Frag} {M M' : Hp} (s : Same M M') : ∀ {v : V} {k : NestedKey}, NK K M v k → NK K M' v k
  | _, _, .non => .non
  | _, _, .bl b => .bl b
  | _, _, .int i => .int i
  | _, _, .str x => .str x
  | _, _, .tup h hs => .tup (sqT_same s h) (NKs.mono s hs)
theorem NKs.mono {K : PySem.W.Frag} {M M' : Hp} (s : Same M M') : ∀ {vs : List V} {ks : List NestedKey}, NKs K M vs ks → NKs K M' vs ks
  | _, _, .nil => .nil
  | _, _, .cons h hs => .cons (NK.mono s h) (NKs.mono s hs)
end
abbrev TE3 := NestedKey × Addr × Value
/-- the dict object with these entries -/
def TDo (w : World) (a : Addr) (xs : List TE3) : HO := .ext fun h => ∃ o es ep, h.get? a = some o ∧ o.ExactDict ∧ o.data = .dict es ep ∧ es.toList = xs.map fun x => (⟨x.1.hash w, .ref x.2.1, x.2.2⟩ : DictEntry)
structure TDk (K : PySem.W.Frag) (M : Hp) (a : Addr) (xs : List TE3) (ks : List NestedKey) (vs : List V) : Prop where
  few : xs.length ≤ sizeLine
  nsys : (a == sysModules) = false
  nd : (xs.map (·.1)).Nodup
  eq : xs.map (·.1) = ks
  keys : ∀ x ∈ xs, NK K M (.ref x.2.1) x.1 ∧ x.1.depth ≤ 8
  vals : Vals vs (xs.map (·.2.2))
mutual
theorem NK.map {K : PySem.W.Frag} {M M' : Hp} (s : ∀ a xs, SqT K M a xs → SqT K M' a xs) : ∀ {v : V} {k : NestedKey}, NK K M v k → NK K M' v k
  | _, _, .non => .non
  | _, _, .bl b => .bl b
  | _, _, .int i => .int i
  | _, _, .str x => .str x
  | _, _, .tup h hs => .tup (s _ _ h) (NKs.map s hs)
theorem NKs.map {K : PySem.W.Frag} {M M' : Hp} (s : ∀ a xs, SqT K M a xs → SqT K M' a xs) : ∀ {vs : List V} {ks : List NestedKey}, NKs K M vs ks → NKs K M' vs ks
  | _, _, .nil => .nil
  | _, _, .cons h hs => .cons (NK.map s h) (NKs.map s hs)
end
theorem TDk.map {K : PySem.W.Frag} {M M' : Hp} {a : Addr} {xs : List TE3} {ks : List NestedKey} {vs : List V} (s : ∀ a xs, SqT K M a xs → SqT K M' a xs) (h : TDk K M a xs ks vs) : TDk K M' a xs ks vs :=
  ⟨h.few, h.nsys, h.nd, h.eq, fun x hx => ⟨(h.keys x hx).1.map s, (h.keys x hx).2⟩, h.vals⟩
theorem TDk.mono {K : PySem.W.Frag} {M M' : Hp} {a : Addr} {xs : List TE3} {ks : List NestedKey} {vs : List V} (s : Same M M') (h : TDk K M a xs ks vs) : TDk K M' a xs ks vs :=
  ⟨h.few, h.nsys, h.nd, h.eq, fun x hx => ⟨(h.keys x hx).1.mono s, (h.keys x hx).2⟩, h.vals⟩
mutual
inductive Dv (K : PySem.W.Frag) (M : Hp) : V → D → Prop
  | non : Dv K M .non .non
  | bl (b : Bool) : Dv K M (.bl b) (.bl b)
  | int (i : Int) : Dv K M (.int i) (.int i)
  | str (x : Str) : Dv K M (.str x) (.str x)
  | lst {a : Addr} {xs : List V} {ds : List D} : SqX K M a xs → Dvs K M xs ds → Dv K M (.ref a) (.lst ds)
  | tup {a : Addr} {xs : List V} {ds : List D} : SqT K M a xs → Dvs K M xs ds → Dv K M (.ref a) (.tup ds)
  | dic {a : Addr} {kvs : List (Key × V)} {ks : List Key} {ds : List D} : Rd M a (.dK kvs) → kvs.map (·.1) = ks → Dvs K M (kvs.map (·.2)) ds → Dv K M (.ref a) (.dic ks ds)
  | obj {a C dx : Addr} {fs : List (Str × V)} {ks : List Str} {ds : List D} : M a = some (.ins C dx fs) → M dx = some (.own a) → fs.map (·.1) = ks → Dvs K M (fs.map (·.2)) ds → Dv K M (.ref a) (.obj C ks ds)
  | exn0 {a : Addr} {cls : Value} : Dv K M (.ref a) (.exn a none cls [] [])
  | exn1 {a da : Addr} {cls : Value} {fs : List (Str × V)} {ks : List Str} {ds : List D} : M da = some (.xd fs) → fs.map (·.1) = ks → Dvs K M (fs.map (·.2)) ds → Dv K M (.ref a) (.exn a (some da) cls ks ds)
  | tagM {v : V} {M0 : Hp} {d : D} : (∀ a, M a = none → M0 a = none) → Dv K M v d → Dv K M v (.tagM M0 d)
  | tagP {v : V} {P : Hp → V → Prop} {d : D} : (∀ M', LSub M M' → P M' v) → Dv K M v d → Dv K M v (.tagP P d)
  | dicT {a : Addr} {w : World} {xs : List TE3} {ks : List NestedKey} {vs : List V} {ds : List D} : M a = some (TDo w a xs) → TDk K M a xs ks vs → Dvs K M vs ds → Dv K M (.ref a) (.dicT w ks ds)
inductive Dvs (K : PySem.W.Frag) (M : Hp) : List V → List D → Prop
  | nil : Dvs K M [] []
  | cons {v : V} {vs : List V} {d : D} {ds : List D} : Dv K M v d → Dvs K M vs ds → Dvs K M (v :: vs) (d :: ds)
end

section
variable {K : PySem.W.Frag} {M M' : Hp}
mutual
theorem Dv.mono (s : Same M M') : ∀ {v : V} {d : D}, Dv K M v d → Dv K M' v d
  | _, _, .non => .non
  | _, _, .bl b => .bl b
  | _, _, .int i => .int i
  | _, _, .str x => .str x
  | _, _, .lst h hs => .lst (sqX_same s h) (Dvs.mono s hs)
  | _, _, .tup h hs => .tup (sqT_same s h) (Dvs.mono s hs)
  | _, _, .dic h e hs => .dic (Rd.up s h) e (Dvs.mono s hs)
  | _, _, .obj h h2 e hs => .obj (s _ _ h) (s _ _ h2) e (Dvs.mono s hs)
  | _, _, .exn0 => .exn0
  | _, _, .exn1 h e hs => .exn1 (s _ _ h) e (Dvs.mono s hs)
  | _, _, .tagM h hs => .tagM (fun a e => h a (s.free e)) (Dv.mono s hs)
  | _, _, .tagP h hs => .tagP (fun M2 l => h M2 fun a xs e => l a xs (s _ _ e)) (Dv.mono s hs)
  | _, _, .dicT h t hs => .dicT (s _ _ h) (t.mono s) (Dvs.mono s hs)
theorem Dvs.mono (s : Same M M') : ∀ {vs : List V} {ds : List D}, Dvs K M vs ds → Dvs K M' vs ds
  | _, _, .nil => .nil
  | _, _, .cons h hs => .cons (Dv.mono s h) (Dvs.mono s hs)
end
theorem Dvs.length {vs : List V} {ds : List D} (h : Dvs K M vs ds) : vs.length = ds.length := by
  induction ds generalizing vs with
  | nil => cases h; rfl
  | cons d ds ih => cases h with | cons _ t => simp [ih t]
theorem Dvs.get : ∀ {vs : List V} {ds : List D} {i : Nat} {d : D}, Dvs K M vs ds → ds[i]? = some d → ∃ v, vs[i]? = some v ∧ Dv K M v d
  | _, _, 0, _, .cons h _, e => by simp at e; subst e; exact ⟨_, rfl, h⟩
  | _, _, i + 1, d, .cons _ t, e => by
    obtain ⟨v, e1, e2⟩ := Dvs.get (i := i) (d := d) t (by simpa using e)
    exact ⟨v, by simpa using e1, e2⟩
  | _, _, _, _, .nil, e => by simp at e
theorem Dvs.getV : ∀ {vs : List V} {ds : List D} {i : Nat} {v : V}, Dvs K M vs ds → vs[i]? = some v → ∃ d, ds[i]? = some d ∧ Dv K M v d
  | _, _, 0, _, .cons h _, e => by simp at e; subst e; exact ⟨_, rfl, h⟩
  | _, _, i + 1, d, .cons _ t, e => by
    obtain ⟨v, e1, e2⟩ := Dvs.getV (i := i) (v := d) t (by simpa using e)
    exact ⟨v, by simpa using e1, e2⟩
  | _, _, _, _, .nil, e => by simp at e
theorem Dvs.append : ∀ {vs ws : List V} {ds es : List D}, Dvs K M vs ds → Dvs K M ws es → Dvs K M (vs ++ ws) (ds ++ es)
  | _, _, _, _, .nil, s => s
  | _, _, _, _, .cons r t, s => .cons r (Dvs.append t s)
theorem Dvs.take : ∀ {vs : List V} {ds : List D} (n : Nat), Dvs K M vs ds → Dvs K M (vs.take n) (ds.take n)
  | _, _, 0, _ => .nil
  | _, _, _ + 1, .nil => .nil
  | _, _, n + 1, .cons r t => .cons r (Dvs.take n t)
theorem Dvs.drop : ∀ {vs : List V} {ds : List D} (n : Nat), Dvs K M vs ds → Dvs K M (vs.drop n) (ds.drop n)
  | _, _, 0, r => r
  | _, _, _ + 1, .nil => .nil
  | _, _, n + 1, .cons _ t => Dvs.drop n t
end

def MutO (u : HO) : Prop := (∃ xs, u = .lst xs) ∨ (∃ xs, u = .dK xs) ∨ (∃ C d fs, u = .ins C d fs) ∨ (∃ a, u = .own a) ∨ ∃ φ, u = .ext φ
mutual
inductive Ow (K : PySem.W.Frag) (M H : Hp) : O → Option V → List Addr → Prop
  | unk {v : Option V} : Ow K M H .unk v []
  | dat {v : V} {d : D} : Dv K M v d → Ow K M H (.dat d) (some v) []
  | lst {a : Addr} {xs : List V} {os : List O} {fp : List Addr} : H a = some (.lst xs) → Ows K M H os (xs.map some) fp → Ow K M H (.lst os) (some (.ref a)) (a :: fp)
  | tup {a : Addr} {xs : List V} {os : List O} {fp : List Addr} : M a = some (.tup xs) → Ows K M H os (xs.map some) fp → Ow K M H (.tup os) (some (.ref a)) fp
  | dic {a : Addr} {kvs : List (Key × V)} {ks : List Key} {os : List O} {fp : List Addr} : H a = some (.dK kvs) → kvs.map (·.1) = ks → Ows K M H os (kvs.map fun p => some p.2) fp → Ow K M H (.dic ks os) (some (.ref a)) (a :: fp)
  | obj {a C dx : Addr} {fs : List (Str × V)} {ks : List Str} {os : List O} {fp : List Addr} : H a = some (.ins C dx fs) → H dx = some (.own a) → fs.map (·.1) = ks → Ows K M H os (fs.map fun p => some p.2) fp →
      Ow K M H (.obj C ks os) (some (.ref a)) (a :: dx :: fp)
  | raw {a : Addr} {u : HO} : H a = some u → MutO u → Ow K M H (.raw u) (some (.ref a)) [a]
  | dicT {a : Addr} {w : World} {xs : List TE3} {ks : List NestedKey} {vs : List V} {ds : List D} : H a = some (TDo w a xs) → TDk K M a xs ks vs → Dvs K M vs ds → Ow K M H (.dicT w ks ds) (some (.ref a)) [a]
inductive Ows (K : PySem.W.Frag) (M H : Hp) : List O → List (Option V) → List Addr → Prop
  | nil : Ows K M H [] [] []
  | cons {o : O} {v : Option V} {f1 : List Addr} {os : List O} {vs : List (Option V)} {f2 : List Addr} : Ow K M H o v f1 → Ows K M H os vs f2 → Ows K M H (o :: os) (v :: vs) (f1 ++ f2)
end

section
variable {K : PySem.W.Frag} {M M' H H' : Hp}
mutual
theorem Ow.frame (s : Same M M') : ∀ {o : O} {v : Option V} {fp : List Addr}, Ow K M H o v fp → (∀ a ∈ fp, H' a = H a) → Ow K M' H' o v fp
  | _, _, _, .unk, _ => .unk
  | _, _, _, .dat h, _ => .dat (h.mono s)
  | _, _, _, .lst h hs, k => .lst ((k _ List.mem_cons_self).trans h) (Ows.frame s hs fun a ha => k a (List.mem_cons_of_mem _ ha))
  | _, _, _, .tup h hs, k => .tup (s _ _ h) (Ows.frame s hs k)
  | _, _, _, .dic h e hs, k => .dic ((k _ List.mem_cons_self).trans h) e (Ows.frame s hs fun a ha => k a (List.mem_cons_of_mem _ ha))
  | _, _, _, .obj h h2 e hs, k => .obj ((k _ List.mem_cons_self).trans h) ((k _ (List.mem_cons_of_mem _ List.mem_cons_self)).trans h2) e (Ows.frame s hs fun a ha => k a (List.mem_cons_of_mem _ (List.mem_cons_of_mem _ ha)))
  | _, _, _, .raw h m, k => .raw ((k _ List.mem_cons_self).trans h) m
  | _, _, _, .dicT h t hs, k => .dicT ((k _ List.mem_cons_self).trans h) (t.mono s) (hs.mono s)
theorem Ows.frame (s : Same M M') : ∀ {os : List O} {vs : List (Option V)} {fp : List Addr}, Ows K M H os vs fp → (∀ a ∈ fp, H' a = H a) → Ows K M' H' os vs fp
  | _, _, _, .nil, _ => .nil
  | _, _, _, .cons h hs, k => .cons (Ow.frame s h fun a ha => k a (List.mem_append_left _ ha)) (Ows.frame s hs fun a ha => k a (List.mem_append_right _ ha))
end
mutual
theorem Ow.dom : ∀ {o : O} {v : Option V} {fp : List Addr}, Ow K M H o v fp → ∀ a ∈ fp, H a ≠ none
  | _, _, _, .unk, _, h => nomatch h
  | _, _, _, .dat _, _, h => nomatch h
  | _, _, _, .lst h hs, a, ha => by
    rcases List.mem_cons.mp ha with rfl | ha
    · rw [h]; exact fun z => nomatch z
    · exact Ows.dom hs a ha
  | _, _, _, .tup _ hs, a, ha => Ows.dom hs a ha
  | _, _, _, .dic h _ hs, a, ha => by
    rcases List.mem_cons.mp ha with rfl | ha
    · rw [h]; exact fun z => nomatch z
    · exact Ows.dom hs a ha
  | _, _, _, .obj h h2 _ hs, a, ha => by
    rcases List.mem_cons.mp ha with rfl | ha
    · rw [h]; exact fun z => nomatch z
    · rcases List.mem_cons.mp ha with rfl | ha
      · rw [h2]; exact fun z => nomatch z
      · exact Ows.dom hs a ha
  | _, _, _, .raw h _, a, ha => by
    rw [List.mem_singleton.mp ha, h]; exact fun z => nomatch z
  | _, _, _, .dicT h _ _, a, ha => by
    rw [List.mem_singleton.mp ha, h]; exact fun z => nomatch z
theorem Ows.dom : ∀ {os : List O} {vs : List (Option V)} {fp : List Addr}, Ows K M H os vs fp → ∀ a ∈ fp, H a ≠ none
  | _, _, _, .nil, _, h => nomatch h
  | _, _, _, .cons h hs, a, ha => (List.mem_append.mp ha).elim (Ow.dom h a) (Ows.dom hs a)
end
theorem Ows.length : ∀ {os : List O} {vs : List (Option V)} {fp : List Addr}, Ows K M H os vs fp → vs.length = os.length
  | _, _, _, .nil => rfl
  | _, _, _, .cons _ hs => by simp [hs.length]
theorem Ows.append : ∀ {a b : List O} {va vb : List (Option V)} {fa fb : List Addr}, Ows K M H a va fa → Ows K M H b vb fb → Ows K M H (a ++ b) (va ++ vb) (fa ++ fb)
  | _, _, _, _, _, _, .nil, s => s
  | _, _, _, _, _, _, .cons r t, s => by
    rw [List.append_assoc]
    exact .cons r (Ows.append t s)
theorem Ows.split : ∀ {a b : List O} {va vb : List (Option V)} {fp : List Addr}, Ows K M H (a ++ b) (va ++ vb) fp → va.length = a.length → ∃ fa fb, fp = fa ++ fb ∧ Ows K M H a va fa ∧ Ows K M H b vb fb
  | [], _, [], _, fp, h, _ => ⟨[], fp, rfl, .nil, h⟩
  | o :: a, b, v :: va, vb, _, h, e => by
    cases h with
    | cons h hs =>
      obtain ⟨fa, fb, e1, h1, h2⟩ := Ows.split hs (by simpa using e)
      exact ⟨_ ++ fa, fb, by rw [e1, List.append_assoc], .cons h h1, h2⟩
  | [], _, _ :: _, _, _, _, e => by simp at e
  | _ :: _, _, [], _, _, _, e => by simp at e
end

/-- the state: M the frozen part, os the things known of the roots vs -/
def Rep (K : PySem.W.Frag) (M H : Hp) (os : List O) (vs : List (Option V)) : Prop :=
  Same M H ∧ ∃ fp, Ows K M H os vs fp ∧ fp.Nodup ∧ ∀ a ∈ fp, M a = none

section
variable {K : PySem.W.Frag} {M M' H H' : Hp} {os l r : List O} {vs lv rv : List (Option V)} {o : O} {v : Option V}
theorem Rep.same (h : Rep K M H os vs) : Same M H := h.1
theorem Rep.length (h : Rep K M H os vs) : vs.length = os.length := by obtain ⟨_, _, w, _⟩ := h; exact w.length
/-- a new object, not frozen -/
theorem Rep.grow (h : Rep K M H os vs) {p : Addr} {u : HO} (hp : H p = none) : Rep K M (upd H p u) os vs := by
  obtain ⟨s, fp, w, nd, nm⟩ := h
  refine ⟨fun b x e => ?_, fp, w.frame (Same.refl _) (fun a ha => upd_ne fun z => w.dom a ha (z ▸ hp)), nd, nm⟩
  rw [upd_ne (ne_of_none (s b x e) hp)]; exact s b x e
theorem same_updM {M : Hp} {p : Addr} (hp : M p = none) {u : HO} : Same M (upd M p u) := fun b x e => by
  rw [upd_ne (ne_of_none e hp)]; exact e
/-- a new frozen object -/
theorem Rep.growM (h : Rep K M H os vs) {p : Addr} {u : HO} (hp : H p = none) : Rep K (upd M p u) (upd H p u) os vs := by
  obtain ⟨s, fp, w, nd, nm⟩ := h
  have mp : M p = none := s.free hp
  refine ⟨fun b x e => ?_, fp, w.frame (same_updM mp) (fun a ha => upd_ne fun z => w.dom a ha (z ▸ hp)), nd, fun a ha => ?_⟩
  · by_cases hb : b = p
    · subst hb; rw [upd_same] at e ⊢; exact e
    · rw [upd_ne hb] at e ⊢; exact s b x e
  · rw [upd_ne (show a ≠ p from fun z => w.dom a ha (by rw [z]; exact hp))]; exact nm a ha
theorem Rep.mid (h : Rep K M H (l ++ o :: r) (lv ++ v :: rv)) (e : lv.length = l.length) : ∃ fa f fb, Ows K M H l lv fa ∧ Ow K M H o v f ∧ Ows K M H r rv fb ∧ (fa ++ (f ++ fb)).Nodup ∧ (∀ a ∈ fa ++ (f ++ fb), M a = none) := by
  obtain ⟨s, fp, w, nd, nm⟩ := h
  obtain ⟨fa, fb, e1, w1, w2⟩ := w.split e
  cases w2 with
  | cons h2 h3 =>
    subst e1
    exact ⟨_, _, _, w1, h2, h3, nd, nm⟩
theorem Rep.datAt (h : Rep K M H (l ++ o :: r) (lv ++ v :: rv)) (e : lv.length = l.length) {d : D} (ho : o = .dat d) : ∃ x, v = some x ∧ Dv K M x d := by
  obtain ⟨_, _, _, _, w, _⟩ := h.mid e
  subst ho
  cases w with | dat w => exact ⟨_, rfl, w⟩
/-- one root is dropped -/
theorem Rep.drop (h : Rep K M H (l ++ o :: r) (lv ++ v :: rv)) (e : lv.length = l.length) : Rep K M H (l ++ r) (lv ++ rv) := by
  obtain ⟨fa, f, fb, w1, w2, w3, nd, nm⟩ := h.mid e
  refine ⟨h.1, fa ++ fb, w1.append w3, ?_, fun a ha => nm a ?_⟩
  · refine List.Nodup.sublist ?_ nd
    exact List.Sublist.append (List.Sublist.refl _) (List.sublist_append_right _ _)
  · simp only [List.mem_append] at ha ⊢
    rcases ha with ha | ha
    · exact .inl ha
    · exact .inr (.inr ha)
/-- a frozen root is added -/
theorem Rep.push (h : Rep K M H (l ++ r) (lv ++ rv)) (e : lv.length = l.length) {x : V} {d : D} (hd : Dv K M x d) : Rep K M H (l ++ .dat d :: r) (lv ++ some x :: rv) := by
  obtain ⟨s, fp, w, nd, nm⟩ := h
  obtain ⟨fa, fb, e1, w1, w2⟩ := w.split e
  subst e1
  exact ⟨s, fa ++ ([] ++ fb), w1.append (.cons (.dat hd) w2), nd, nm⟩
theorem Rep.pushU (h : Rep K M H (l ++ r) (lv ++ rv)) (e : lv.length = l.length) (x : Option V) : Rep K M H (l ++ .unk :: r) (lv ++ x :: rv) := by
  obtain ⟨s, fp, w, nd, nm⟩ := h
  obtain ⟨fa, fb, e1, w1, w2⟩ := w.split e
  subst e1
  exact ⟨s, fa ++ ([] ++ fb), w1.append (.cons .unk w2), nd, nm⟩
theorem set_split {α : Type} (xs : List α) (i : Nat) (y : α) : (∃ a z b, xs = a ++ z :: b ∧ a.length = i ∧ xs.set i y = a ++ y :: b) ∨ (xs.length ≤ i ∧ xs.set i y = xs) := by
  by_cases h : i < xs.length
  · refine .inl ⟨xs.take i, xs[i], xs.drop (i + 1), ?_, by simp [Nat.le_of_lt h], ?_⟩
    · rw [← List.drop_eq_getElem_cons h, List.take_append_drop]
    · rw [List.set_eq_take_append_cons_drop, if_pos h]
  · exact .inr ⟨by omega, List.set_eq_of_length_le (by omega)⟩
/-- slot i becomes a frozen thing -/
theorem Rep.setD {i : Nat} (h : Rep K M H (l ++ r) (lv ++ rv)) (e : lv.length = l.length) {x : V} {d : D} (hd : Dv K M x d) : Rep K M H (l.set i (.dat d) ++ r) (lv.set i (some x) ++ rv) := by
  rcases set_split l i (O.dat d) with ⟨a, z, b, e1, e2, e3⟩ | ⟨e1, e2⟩
  · rcases set_split lv i (some x) with ⟨a', z', b', e1', e2', e3'⟩ | ⟨e1', e2'⟩
    · rw [e3, e3']
      have ll : a'.length = a.length := by omega
      subst e1; subst e1'
      simp only [List.append_assoc, List.cons_append] at h ⊢
      exact (h.drop ll).push ll hd
    · exfalso; rw [e1] at e; simp at e; omega
  · rw [e2, List.set_eq_of_length_le (by omega)]; exact h
theorem Rep.setU {i : Nat} (h : Rep K M H (l ++ r) (lv ++ rv)) (e : lv.length = l.length) (x : Option V) : Rep K M H (l.set i .unk ++ r) (lv.set i x ++ rv) := by
  rcases set_split l i O.unk with ⟨a, z, b, e1, e2, e3⟩ | ⟨e1, e2⟩
  · rcases set_split lv i x with ⟨a', z', b', e1', e2', e3'⟩ | ⟨e1', e2'⟩
    · rw [e3, e3']
      have ll : a'.length = a.length := by omega
      subst e1; subst e1'
      simp only [List.append_assoc, List.cons_append] at h ⊢
      exact (h.drop ll).pushU ll x
    · exfalso; rw [e1] at e; simp at e; omega
  · rw [e2, List.set_eq_of_length_le (by omega)]; exact h
/-- the temporary on top of the frame goes into slot i -/
theorem Rep.into {i : Nat} (h : Rep K M H (l ++ o :: r) (lv ++ v :: rv)) (e : lv.length = l.length) : Rep K M H (l.set i o ++ r) (lv.set i v ++ rv) := by
  rcases set_split l i o with ⟨a, z, b, e1, e2, e3⟩ | ⟨e1, e2⟩
  · rcases set_split lv i v with ⟨a', z', b', e1', e2', e3'⟩ | ⟨e1', e2'⟩
    · rw [e3, e3']
      have ll : a'.length = a.length := by omega
      have lb : b'.length = b.length := by rw [e1, e1'] at e; simp at e; omega
      subst e1; subst e1'
      simp only [List.append_assoc, List.cons_append] at h ⊢
      have h1 := h.drop ll
      obtain ⟨fa, fb, w1, w2, nd, nm⟩ : ∃ fa fb, Ows K M H a a' fa ∧ Ows K M H (b ++ o :: r) (b' ++ v :: rv) fb ∧ (fa ++ fb).Nodup ∧ ∀ c ∈ fa ++ fb, M c = none := by
        obtain ⟨s, fp, w, nd, nm⟩ := h1
        obtain ⟨fa, fb, e1, w1, w2⟩ := w.split ll
        subst e1
        exact ⟨fa, fb, w1, w2, nd, nm⟩
      obtain ⟨gb, gr, e5, w3, w4⟩ := w2.split lb
      cases w4 with
      | cons w5 w6 =>
        rename_i f1 f2
        subst e5
        have pm : (fa ++ (f1 ++ (gb ++ f2))).Perm (fa ++ (gb ++ (f1 ++ f2))) := by
          refine List.Perm.append_left fa ?_
          rw [← List.append_assoc, ← List.append_assoc]
          exact List.Perm.append_right f2 List.perm_append_comm
        exact ⟨h.1, fa ++ (f1 ++ (gb ++ f2)), w1.append (.cons w5 (w3.append w6)), pm.nodup_iff.mpr nd, fun c hc => nm c (pm.mem_iff.mp hc)⟩
    · exfalso; rw [e1] at e; simp at e; omega
  · rw [e2, List.set_eq_of_length_le (by omega)]; exact h.drop e

/-! ### freezing -/
mutual
theorem Ow.frz (s : Same M M') : ∀ {o : O} {v : V} {fp : List Addr} {d : D}, Ow K M H o (some v) fp → (∀ a ∈ fp, M' a = H a) → o.toD = some d → Dv K M' v d
  | _, _, _, d, .dat h, _, e => by
    have := Option.some.inj (show some _ = some d from e)
    subst this
    exact h.mono s
  | .lst os, _, _, d, .lst h hs, k, e => by
    unfold O.toD at e
    cases q : O.toDs os with
    | none => rw [q] at e; cases e
    | some ds =>
      rw [q] at e
      have e' := Option.some.inj (show some (D.lst ds) = some d from e)
      subst e'
      exact .lst (.inl (.inl ((k _ List.mem_cons_self).trans h))) (Ows.frz s hs (fun a ha => k a (List.mem_cons_of_mem _ ha)) q)
  | .tup os, _, _, d, .tup h hs, k, e => by
    unfold O.toD at e
    cases q : O.toDs os with
    | none => rw [q] at e; cases e
    | some ds =>
      rw [q] at e
      have e' := Option.some.inj (show some (D.tup ds) = some d from e)
      subst e'
      exact .tup (.inl (.inl (s _ _ h))) (Ows.frz s hs k q)
  | .dic ks os, _, _, d, .dic (kvs := kvs) (fp := fp0) h hk hs, k, e => by
    unfold O.toD at e
    cases q : O.toDs os with
    | none => rw [q] at e; cases e
    | some ds =>
      rw [q] at e
      have e' := Option.some.inj (show some (D.dic ks ds) = some d from e)
      subst e'
      have hs' : Ows K M H os ((kvs.map (·.2)).map some) fp0 := by rw [List.map_map]; exact hs
      exact .dic (.inl ((k _ List.mem_cons_self).trans h)) hk (Ows.frz s hs' (fun a ha => k a (List.mem_cons_of_mem _ ha)) q)
  | .obj C ks os, _, _, d, .obj (fs := kvs) (fp := fp0) h h2 hk hs, k, e => by
    unfold O.toD at e
    cases q : O.toDs os with
    | none => rw [q] at e; cases e
    | some ds =>
      rw [q] at e
      have e' := Option.some.inj (show some (D.obj C ks ds) = some d from e)
      subst e'
      have hs' : Ows K M H os ((kvs.map (·.2)).map some) fp0 := by rw [List.map_map]; exact hs
      exact .obj ((k _ List.mem_cons_self).trans h) ((k _ (List.mem_cons_of_mem _ List.mem_cons_self)).trans h2) hk (Ows.frz s hs' (fun a ha => k a (List.mem_cons_of_mem _ (List.mem_cons_of_mem _ ha))) q)
  | .raw u, _, _, d, .raw h _, k, e => nomatch (show (none : Option D) = some d from e)
  | .dicT w ks ds, _, _, d, .dicT h t hs, k, e => by
    have e' := Option.some.inj (show some (D.dicT w ks ds) = some d from e)
    subst e'
    exact .dicT ((k _ List.mem_cons_self).trans h) (t.mono s) (hs.mono s)
theorem Ows.frz (s : Same M M') : ∀ {os : List O} {vs : List V} {fp : List Addr} {ds : List D}, Ows K M H os (vs.map some) fp → (∀ a ∈ fp, M' a = H a) → O.toDs os = some ds → Dvs K M' vs ds
  | [], [], _, ds, .nil, _, e => by
    have e' := Option.some.inj (show some [] = some ds from e)
    subst e'
    exact .nil
  | o :: os, v :: vs, _, ds, .cons h hs, k, e => by
    unfold O.toDs at e
    cases q : O.toD o with
    | none => rw [q] at e; cases e
    | some d =>
      cases q2 : O.toDs os with
      | none => rw [q, q2] at e; cases e
      | some ds' =>
        rw [q, q2] at e
        have e' := Option.some.inj (show some (d :: ds') = some ds from e)
        subst e'
        exact .cons (Ow.frz s h (fun a ha => k a (List.mem_append_left _ ha)) q) (Ows.frz s hs (fun a ha => k a (List.mem_append_right _ ha)) q2)
end
theorem Rep.frz (h : Rep K M H (l ++ o :: r) (lv ++ v :: rv)) (e : lv.length = l.length) {d : D} {x : V} (hv : v = some x) (ho : o.toD = some d) :
    ∃ M', Same M M' ∧ Rep K M' H (l ++ .dat d :: r) (lv ++ v :: rv) ∧ Dv K M' x d := by
  obtain ⟨fa, f, fb, w1, w2, w3, nd, nm⟩ := h.mid e
  subst hv
  have s1 : Same M (fun a => if a ∈ f then H a else M a) := fun b y q => by
    have : b ∉ f := fun z => by
      have := nm b (by simp [z])
      rw [this] at q; cases q
    show (if b ∈ f then H b else M b) = some y
    rw [if_neg this]; exact q
  have kf : ∀ a ∈ f, (if a ∈ f then H a else M a) = H a := fun a ha => if_pos ha
  have dv := Ow.frz (H := H) s1 w2 kf ho
  have disj : ∀ a ∈ fa ++ fb, a ∉ f := fun a ha z => by
    rw [List.nodup_append] at nd
    obtain ⟨n1, n2, n3⟩ := nd
    rw [List.nodup_append] at n2
    rcases List.mem_append.mp ha with ha | ha
    · exact n3 a ha a (List.mem_append_left _ z) rfl
    · exact n2.2.2 a z a ha rfl
  refine ⟨_, s1, ⟨fun b y q => ?_, fa ++ ([] ++ fb), (w1.frame s1 fun _ _ => rfl).append (.cons (.dat dv) (w3.frame s1 fun _ _ => rfl)), ?_, fun a ha => ?_⟩, dv⟩
  · have q : (if b ∈ f then H b else M b) = some y := q
    split at q
    · exact q
    · exact h.1 b y q
  · refine List.Nodup.sublist ?_ nd
    exact List.Sublist.append (List.Sublist.refl _) (List.sublist_append_right _ _)
  · show (if a ∈ f then H a else M a) = none
    rw [if_neg (disj a (by simpa using ha))]
    refine nm a ?_
    rcases List.mem_append.mp ha with ha | ha
    · exact List.mem_append_left _ ha
    · exact List.mem_append_right _ (List.mem_append_right _ ha)
end
end PD

namespace PD
open PySem PySem.Spec PyProof.Rows L2

abbrev Ev := List O
/-- an error, as data -/
structure Exn where
  cls : Value
  fs : Option (List Str × List D)
def ExR (K : PySem.W.Frag) (M : Hp) (x : Exn) (cls : Value) (d : Option Addr) : Prop :=
  cls = x.cls ∧ ((x.fs = none ∧ d = none) ∨ ∃ ks ds da fvs, x.fs = some (ks, ds) ∧ d = some da ∧ M da = some (.xd fvs) ∧ fvs.map (·.1) = ks ∧ Dvs K M (fvs.map (·.2)) ds)

/-! ### readings by data -/
/-- a pure expression -/
def tP (K : PySem.W.Frag) (f : Ev → Option D) : TE := fun σ H Q => ∃ M ρ fo fv d, Rep K M H (ρ ++ fo) (σ ++ fv) ∧ σ.length = ρ.length ∧ f ρ = some d ∧
  ∀ M' H' v, Same M M' → Rep K M' H' (ρ ++ fo) (σ ++ fv) → Dv K M' v d → Q v H'
/-- an expression that may give a new thing of its own -/
def tO (K : PySem.W.Frag) (f : Ev → Option O) : TE := fun σ H Q => ∃ M ρ fo fv o, Rep K M H (ρ ++ fo) (σ ++ fv) ∧ σ.length = ρ.length ∧ f ρ = some o ∧
  ∀ M' H' v, Same M M' → Rep K M' H' (ρ ++ o :: fo) (σ ++ some v :: fv) → Q v H'
def tT (K : PySem.W.Frag) (f : Ev → Option Bool) : TT := fun σ H Q => ∃ M ρ fo fv b, Rep K M H (ρ ++ fo) (σ ++ fv) ∧ σ.length = ρ.length ∧ f ρ = some b ∧
  ∀ M' H', Same M M' → Rep K M' H' (ρ ++ fo) (σ ++ fv) → Q b H'
def tAr (K : PySem.W.Frag) (f : Ev → Option (List D)) : TA := fun σ H Q => ∃ M ρ fo fv ds, Rep K M H (ρ ++ fo) (σ ++ fv) ∧ σ.length = ρ.length ∧ f ρ = some ds ∧
  ∀ M' H' vs, Same M M' → Rep K M' H' (ρ ++ fo) (σ ++ fv) → Dvs K M' vs ds → Q vs H'

/-- how a statement ends -/
inductive Fl where
  | nx (ρ : Ev) | rt (o : O) (ρ : Ev) | bk (ρ : Ev) | ct (ρ : Ev) | ex (x : Exn) (ρ : Ev)
/-- the slots and what is known of them go together; the slots J hold what they held at first -/
def Lk (J : List Nat) (σ0 σ : L2.St) (ρ : Ev) : Prop := σ.length = ρ.length ∧ ∀ j ∈ J, σ[j]? = σ0[j]?
theorem Lk.set {J : List Nat} {σ0 σ : L2.St} {ρ : Ev} (h : Lk J σ0 σ ρ) {i : Nat} (hi : i ∉ J) (v : Option V) (o : O) : Lk J σ0 (σ.set i v) (ρ.set i o) := ⟨by simp [h.1], fun j hj => by
  have hne : i ≠ j := fun z => by subst z; exact hi hj
  rw [List.getElem?_set_ne hne]; exact h.2 j hj⟩
theorem Lk.setR {J : List Nat} {σ0 σ : L2.St} {ρ : Ev} (h : Lk J σ0 σ ρ) {i : Nat} (o : O) : Lk J σ0 σ (ρ.set i o) := ⟨by simp [h.1], h.2⟩
def ends (K : PySem.W.Frag) (W : WX) (J : List Nat) (σ0 : L2.St) (M : Hp) (fo : List O) (fv : List (Option V)) (E : Ends) : Fl → Prop
  | .nx ρ => ∀ M' H' σ', Same M M' → Rep K M' H' (ρ ++ fo) (σ' ++ fv) → Lk J σ0 σ' ρ → E.nx σ' H'
  | .bk ρ => ∀ M' H' σ', Same M M' → Rep K M' H' (ρ ++ fo) (σ' ++ fv) → Lk J σ0 σ' ρ → E.bk σ' H'
  | .ct ρ => ∀ M' H' σ', Same M M' → Rep K M' H' (ρ ++ fo) (σ' ++ fv) → Lk J σ0 σ' ρ → E.ct σ' H'
  | .rt o ρ => ∀ M' H' σ' v, Same M M' → Rep K M' H' (ρ ++ o :: fo) (σ' ++ some v :: fv) → Lk J σ0 σ' ρ → E.rt v H'
  | .ex x ρ => ∀ M' H' σ' cls d, Same M M' → Rep K M' H' (ρ ++ fo) (σ' ++ fv) → Lk J σ0 σ' ρ → ExR K M' x cls d → W cls d σ' H'
def tS (K : PySem.W.Frag) (W : WX) (J : List Nat) (g : Ev → Option Fl) : TS := fun E σ H => ∃ M ρ fo fv r σ0, Rep K M H (ρ ++ fo) (σ ++ fv) ∧ Lk J σ0 σ ρ ∧ g ρ = some r ∧ ends K W J σ0 M fo fv E r
theorem ends.later {K : PySem.W.Frag} {W : WX} {J : List Nat} {σ0 : L2.St} {M M1 : Hp} {fo : List O} {fv : List (Option V)} {E : Ends} {r : Fl} (h : ends K W J σ0 M fo fv E r) (s : Same M M1) : ends K W J σ0 M1 fo fv E r := by
  cases r with
  | nx ρ => exact fun M' H' σ' s' => h M' H' σ' (s.trans s')
  | bk ρ => exact fun M' H' σ' s' => h M' H' σ' (s.trans s')
  | ct ρ => exact fun M' H' σ' s' => h M' H' σ' (s.trans s')
  | rt o ρ => exact fun M' H' σ' v s' => h M' H' σ' v (s.trans s')
  | ex x ρ => exact fun M' H' σ' c d s' => h M' H' σ' c d (s.trans s')

section
variable {X : Cx}
theorem PE.imp {e : Expr} {t t' : TE} (h : PE X e t) (i : ∀ σ H Q, t' σ H Q → t σ H Q) : PE X e t' := ⟨fun p s σ H Q I w => h.run p s σ H Q I (i σ H Q w)⟩
theorem PT.imp {e : Expr} {t t' : TT} (h : PT X e t) (i : ∀ σ H Q, t' σ H Q → t σ H Q) : PT X e t' := ⟨fun p s σ H Q I w => h.run p s σ H Q I (i σ H Q w)⟩
theorem PW.imp {e : Expr} {t t' : TT} (h : PW X e t) (i : ∀ σ H Q, t' σ H Q → t σ H Q) : PW X e t' := ⟨fun wh p s σ H Q I w => h.run wh p s σ H Q I (i σ H Q w)⟩
theorem PA.imp {e : List Expr} {t t' : TA} (h : PA X e t) (i : ∀ σ H Q, t' σ H Q → t σ H Q) : PA X e t' := ⟨fun c p s σ H Q I w => h.run c p s σ H Q I (i σ H Q w)⟩
theorem PS.imp {e : Stmt} {t t' : TS} (h : PS X e t) (i : ∀ D σ H, t' D σ H → t D σ H) : PS X e t' := ⟨fun p s σ H D I w => h.run p s σ H D I (i D σ H w)⟩
theorem PSs.imp {e : List Stmt} {t t' : TS} (h : PSs X e t) (i : ∀ D σ H, t' D σ H → t D σ H) : PSs X e t' := ⟨fun p s σ H D I w => h.run p s σ H D I (i D σ H w)⟩
theorem PI.imp {tg e : Expr} {t t' : TI} (h : PI X tg e t) (i : ∀ σ H R, t' σ H R → t σ H R) : PI X tg e t' := ⟨fun p s σ H R I w => h.run p s σ H R I (i σ H R w)⟩
theorem PI.or {tg e : Expr} {t t' : TI} (h : PI X tg e t) (h' : PI X tg e t') : PI X tg e (fun σ H R => t σ H R ∨ t' σ H R) := ⟨fun p s σ H R I w => w.elim (h.run p s σ H R I) (h'.run p s σ H R I)⟩
theorem PE.or {e : Expr} {t t' : TE} (h : PE X e t) (h' : PE X e t') : PE X e (fun σ H R => t σ H R ∨ t' σ H R) := ⟨fun p s σ H R I w => w.elim (h.run p s σ H R I) (h'.run p s σ H R I)⟩
end

/-! ### lists by place -/
theorem Rep.slot {K : PySem.W.Frag} {M H : Hp} {ρ fo : List O} {σ fv : List (Option V)} (R : Rep K M H (ρ ++ fo) (σ ++ fv)) (l : σ.length = ρ.length) {i : Nat} {d : D} (e : ρ[i]? = some (.dat d)) : ∃ v, σ[i]? = some (some v) ∧ Dv K M v d := by
  obtain ⟨hi, e⟩ := List.getElem?_eq_some_iff.mp e
  have hi' : i < σ.length := by omega
  have e1 : ρ = ρ.take i ++ O.dat d :: ρ.drop (i + 1) := by rw [← e, ← List.drop_eq_getElem_cons hi, List.take_append_drop]
  have e2 : σ = σ.take i ++ σ[i] :: σ.drop (i + 1) := by rw [← List.drop_eq_getElem_cons hi', List.take_append_drop]
  rw [e1, e2] at R
  simp only [List.append_assoc, List.cons_append] at R
  obtain ⟨x, ex, dx⟩ := R.datAt (by simp; omega) rfl
  exact ⟨x, by rw [List.getElem?_eq_getElem hi', ex], dx⟩

/-- what slot i holds, frozen -/
def gv (i : Nat) (ρ : Ev) : Option D := match ρ[i]? with
  | some (.dat d) => some d
  | _ => none

section
variable {X : Cx}
/-! ### names and constants -/
theorem pVar (i : Nat) {x : Str} {pos : Pos} (hN : X.N[i]? = some x := by rfl) (hv : Vis X.env.scope x := by first | exact Or.inl rfl | exact Or.inr (Or.inl rfl) | exact Or.inr (Or.inr rfl)) (hd : (x == ("__debug__" : Str)) = false := by decide)
    (hcd : (x == ("__classdict__" : Str)) = false := by decide) : PE X (.Name x pos) (tP X.K (gv i)) :=
  PE.imp (pe_var hN hv hd hcd) fun σ H Q ⟨M, ρ, fo, fv, d, R, l, e, k⟩ => by
    unfold gv at e
    split at e
    · cases e
      rename_i d' e'
      obtain ⟨v, ev, dv⟩ := R.slot l e'
      exact ⟨v, ev, k M H v (Same.refl _) R dv⟩
    · cases e
theorem pC {e : Expr} {v : V} {d : D} (h : PE X e (tC v)) (hd : ∀ M, Dv X.K M v d) : PE X e (tP X.K fun _ => some d) :=
  PE.imp h fun σ H Q ⟨M, ρ, fo, fv, d', R, l, e, k⟩ => by
    cases e
    exact k M H v (Same.refl _) R (hd M)
theorem pInt {i j pos} : PE X (.Constant (.int i) j pos) (tP X.K fun _ => some (.int i)) := pC pe_int fun _ => .int _
theorem pBl {b j pos} : PE X (.Constant (.bool b) j pos) (tP X.K fun _ => some (.bl b)) := pC pe_bl fun _ => .bl _
theorem pNon {j pos} : PE X (.Constant .none j pos) (tP X.K fun _ => some .non) := pC pe_non fun _ => .non
theorem pStr {x j pos} : PE X (.Constant (.str x) j pos) (tP X.K fun _ => some (.str x)) := pC pe_str fun _ => .str _
/-! ### two expressions in a row -/
def b2 (fa fb : Ev → Option D) (g : D → D → Option D) (ρ : Ev) : Option D := (fa ρ).bind fun x => (fb ρ).bind fun y => g x y
def b1 (fa : Ev → Option D) (g : D → Option D) (ρ : Ev) : Option D := (fa ρ).bind g
theorem b2_some {fa fb : Ev → Option D} {g : D → D → Option D} {ρ : Ev} {d : D} (h : b2 fa fb g ρ = some d) : ∃ x y, fa ρ = some x ∧ fb ρ = some y ∧ g x y = some d := by
  unfold b2 at h
  cases e1 : fa ρ with
  | none => rw [e1] at h; cases h
  | some x =>
    rw [e1] at h
    cases e2 : fb ρ with
    | none => rw [Option.bind_some, e2] at h; cases h
    | some y => rw [Option.bind_some, e2] at h; exact ⟨x, y, rfl, rfl, h⟩
theorem b1_some {fa : Ev → Option D} {g : D → Option D} {ρ : Ev} {d : D} (h : b1 fa g ρ = some d) : ∃ x, fa ρ = some x ∧ g x = some d := by
  unfold b1 at h
  cases e1 : fa ρ with
  | none => rw [e1] at h; cases h
  | some x => rw [e1] at h; exact ⟨x, rfl, h⟩
/-- an operation upon data: what it asks of the values -/
def rD (K : PySem.W.Frag) (g : D → D → Option D) : R2 := fun x y H Q => ∃ M fo fv dx dy d, Rep K M H fo fv ∧ Dv K M x dx ∧ Dv K M y dy ∧ g dx dy = some d ∧
  ∀ M' H' v, Same M M' → Rep K M' H' fo fv → Dv K M' v d → Q v H'
def rD1 (K : PySem.W.Frag) (g : D → Option D) : V → Hp → VK → Prop := fun x H Q => ∃ M fo fv dx d, Rep K M H fo fv ∧ Dv K M x dx ∧ g dx = some d ∧
  ∀ M' H' v, Same M M' → Rep K M' H' fo fv → Dv K M' v d → Q v H'
def rDs (K : PySem.W.Frag) (g : List D → Option D) : List V → Hp → VK → Prop := fun xs H Q => ∃ M fo fv ds d, Rep K M H fo fv ∧ Dvs K M xs ds ∧ g ds = some d ∧
  ∀ M' H' v, Same M M' → Rep K M' H' fo fv → Dv K M' v d → Q v H'
/-- .. that gives a new thing of its own -/
def rOs (K : PySem.W.Frag) (g : List D → Option O) : List V → Hp → VK → Prop := fun xs H Q => ∃ M fo fv ds o, Rep K M H fo fv ∧ Dvs K M xs ds ∧ g ds = some o ∧
  ∀ M' H' v, Same M M' → Rep K M' H' (o :: fo) (some v :: fv) → Q v H'
theorem seq2 {K : PySem.W.Frag} {fa fb : Ev → Option D} {g : D → D → Option D} {σ : L2.St} {H : Hp} {Q : VK} (h : tP K (b2 fa fb g) σ H Q) : tOp (rD K g) (tP K fa) (tP K fb) σ H Q := by
  obtain ⟨M, ρ, fo, fv, d, R, l, e, k⟩ := h
  obtain ⟨x, y, ea, eb, eg⟩ := b2_some e
  exact ⟨M, ρ, fo, fv, x, R, l, ea, fun M1 H1 v1 s1 R1 d1 => ⟨M1, ρ, fo, fv, y, R1, l, eb, fun M2 H2 v2 s2 R2 d2 => ⟨M2, ρ ++ fo, σ ++ fv, x, y, d, R2, d1.mono s2, d2, eg, fun M3 H3 v s3 R3 d3 => k M3 H3 v (s1.trans (s2.trans s3)) R3 d3⟩⟩⟩
variable {a b c : Expr} {pos : Pos} {fa fb fc : Ev → Option D} {g : D → D → Option D}
theorem pOp {op : Operator} (ho : OpR X (binaryOp op) (rD X.K g)) (ha : PE X a (tP X.K fa)) (hb : PE X b (tP X.K fb)) : PE X (.BinOp a op b pos) (tP X.K (b2 fa fb g)) := PE.imp (pe_op ho ha hb) fun _ _ _ h => seq2 h
theorem pCmp {op : CmpOp} (ho : OpR X (compareOp op) (rD X.K g)) (ha : PE X a (tP X.K fa)) (hb : PE X b (tP X.K fb)) (hm : behindInMarks op b = false := by first | exact nomark _ | rfl) : PE X (.Compare a [op] [b] pos) (tP X.K (b2 fa fb g)) := PE.imp (pe_cmpR ho ha hb hm) fun _ _ _ h => seq2 h
theorem pUn {op : UnaryOp} {g : D → Option D} (ho : UnR X (unaryOp op) (rD1 X.K g)) (ha : PE X a (tP X.K fa)) : PE X (.UnaryOp op a pos) (tP X.K (b1 fa g)) := PE.imp (pe_un ho ha) fun σ H Q ⟨M, ρ, fo, fv, d, R, l, e, k⟩ => by
  obtain ⟨x, ea, eg⟩ := b1_some e
  exact ⟨M, ρ, fo, fv, x, R, l, ea, fun M1 H1 v1 s1 R1 d1 => ⟨M1, ρ ++ fo, σ ++ fv, x, d, R1, d1, eg, fun M3 H3 v s3 R3 d3 => k M3 H3 v (s1.trans s3) R3 d3⟩⟩
theorem pIx (ho : IxR X (rD X.K g)) (ha : PE X a (tP X.K fa)) (hb : PE X b (tP X.K fb)) (hs : PlainIx b := by exact fun _ _ => rfl) : PE X (.Subscript a b pos) (tP X.K (b2 fa fb g)) := PE.imp (pe_ix ho ha hb hs) fun _ _ _ h => seq2 h

/-! ### tests -/
/-- a pure expression that gives a bool, as a test -/
def asB (f : Ev → Option D) (ρ : Ev) : Option Bool := match f ρ with
  | some (.bl b) => some b
  | _ => none
theorem asB_some {f : Ev → Option D} {ρ : Ev} {b : Bool} (h : asB f ρ = some b) : f ρ = some (.bl b) := by
  unfold asB at h
  split at h
  · cases h; assumption
  · cases h
theorem tB_of {K : PySem.W.Frag} {f : Ev → Option D} {σ : L2.St} {H : Hp} {Q : Bool → Hp → Prop} (h : tT K (asB f) σ H Q) : tB (tP K f) σ H Q := by
  obtain ⟨M, ρ, fo, fv, b, R, l, e, k⟩ := h
  exact ⟨M, ρ, fo, fv, .bl b, R, l, asB_some e, fun M' H' v s R' dv => by cases dv; exact ⟨b, rfl, k M' H' s R'⟩⟩
theorem tVal {e : Expr} {f : Ev → Option D} (h : PE X e (tP X.K f)) (he : ∀ whole, isTrue e X.env whole = (do let v ← whole; standAt e.pos; holding [v] (truthy v)) := by intro _; rfl) : PT X e (tT X.K (asB f)) := PT.imp (pt_val h he) fun _ _ _ h => tB_of h
theorem tCmp {op : CmpOp} (ho : OpR X (compareOp op) (rD X.K g)) (ha : PE X a (tP X.K fa)) (hb : PE X b (tP X.K fb)) (hm : behindInMarks op b = false := by first | exact nomark _ | rfl) : PT X (.Compare a [op] [b] pos) (tT X.K (asB (b2 fa fb g))) :=
  PT.imp (pt_cmpR ho ha hb hm) fun σ H Q ⟨M, ρ, fo, fv, b, R, l, e, k⟩ => seq2 (K := X.K) (Q := fun x H' => ∃ k, x = .bl k ∧ Q k H') ⟨M, ρ, fo, fv, .bl b, R, l, asB_some e, fun M' H' v s R' dv => by cases dv; exact ⟨b, rfl, k M' H' s R'⟩⟩
def andT (f g : Ev → Option Bool) (ρ : Ev) : Option Bool := match f ρ with
  | some true => g ρ
  | some false => some false
  | none => none
def orT (f g : Ev → Option Bool) (ρ : Ev) : Option Bool := match f ρ with
  | some true => some true
  | some false => g ρ
  | none => none
def notT (f : Ev → Option Bool) (ρ : Ev) : Option Bool := (f ρ).map (!·)
theorem tNotT {fa : Ev → Option Bool} (h : PT X a (tT X.K fa)) : PT X (.UnaryOp .Not a pos) (tT X.K (notT fa)) := PT.imp (pt_not h) fun σ H Q ⟨M, ρ, fo, fv, b, R, l, e, k⟩ => by
  unfold notT at e
  cases q : fa ρ with
  | none => rw [q] at e; cases e
  | some c =>
    rw [q] at e
    cases e
    exact ⟨M, ρ, fo, fv, c, R, l, q, k⟩
theorem tAnd1 {fa : Ev → Option Bool} (h : PT X a (tT X.K fa)) : PW X (.BoolOp .And [a] pos) (tT X.K fa) := pw_and1 h
theorem tOr1 {fa : Ev → Option Bool} (h : PT X a (tT X.K fa)) : PW X (.BoolOp .Or [a] pos) (tT X.K fa) := pw_or1 h
theorem tAndW {fa fb : Ev → Option Bool} {rest : List Expr} (ha : PT X a (tT X.K fa)) (hb : PW X (.BoolOp .And (b :: rest) pos) (tT X.K fb)) : PW X (.BoolOp .And (a :: b :: rest) pos) (tT X.K (andT fa fb)) := PW.imp (pw_and ha hb) fun σ H Q ⟨M, ρ, fo, fv, b, R, l, e, k⟩ => by
  unfold andT at e
  cases q : fa ρ with
  | none => rw [q] at e; cases e
  | some c =>
    rw [q] at e
    cases c with
    | true => exact ⟨M, ρ, fo, fv, true, R, l, q, fun M1 H1 s1 R1 => iteT ⟨M1, ρ, fo, fv, b, R1, l, e, fun M2 H2 s2 R2 => k M2 H2 (s1.trans s2) R2⟩⟩
    | false => cases e; exact ⟨M, ρ, fo, fv, false, R, l, q, fun M1 H1 s1 R1 => iteF (k M1 H1 s1 R1)⟩
theorem tOrW {fa fb : Ev → Option Bool} {rest : List Expr} (ha : PT X a (tT X.K fa)) (hb : PW X (.BoolOp .Or (b :: rest) pos) (tT X.K fb)) : PW X (.BoolOp .Or (a :: b :: rest) pos) (tT X.K (orT fa fb)) := PW.imp (pw_or ha hb) fun σ H Q ⟨M, ρ, fo, fv, b, R, l, e, k⟩ => by
  unfold orT at e
  cases q : fa ρ with
  | none => rw [q] at e; cases e
  | some c =>
    rw [q] at e
    cases c with
    | true => cases e; exact ⟨M, ρ, fo, fv, true, R, l, q, fun M1 H1 s1 R1 => iteT (k M1 H1 s1 R1)⟩
    | false => exact ⟨M, ρ, fo, fv, false, R, l, q, fun M1 H1 s1 R1 => iteF ⟨M1, ρ, fo, fv, b, R1, l, e, fun M2 H2 s2 R2 => k M2 H2 (s1.trans s2) R2⟩⟩
theorem tW {fa : Ev → Option Bool} (h : PW X a (tT X.K fa)) : PT X a (tT X.K fa) := h.pt
/-! ### and, or, not, if-else as values -/
def andV (f g : Ev → Option D) (ρ : Ev) : Option D := match f ρ with
  | some (.bl true) => g ρ
  | some (.bl false) => some (.bl false)
  | _ => none
def orV (f g : Ev → Option D) (ρ : Ev) : Option D := match f ρ with
  | some (.bl true) => some (.bl true)
  | some (.bl false) => g ρ
  | _ => none
def notV (f : Ev → Option D) (ρ : Ev) : Option D := match f ρ with
  | some (.bl b) => some (.bl (!b))
  | _ => none
def ifV (c : Ev → Option Bool) (f g : Ev → Option D) (ρ : Ev) : Option D := match c ρ with
  | some true => f ρ
  | some false => g ρ
  | none => none
theorem pOne {op} (h : PE X a (tP X.K fa)) : PE X (.BoolOp op [a] pos) (tP X.K fa) := pe_one h
theorem pAnd {rest : List Expr} (ha : PE X a (tP X.K fa)) (hb : PE X (.BoolOp .And (b :: rest) pos) (tP X.K fb)) : PE X (.BoolOp .And (a :: b :: rest) pos) (tP X.K (andV fa fb)) := PE.imp (pe_and ha hb) fun σ H Q ⟨M, ρ, fo, fv, d, R, l, e, k⟩ => by
  unfold andV at e
  split at e
  · rename_i q
    exact ⟨M, ρ, fo, fv, _, R, l, q, fun M1 H1 v s1 R1 dv => by cases dv; exact ⟨true, rfl, iteT ⟨M1, ρ, fo, fv, d, R1, l, e, fun M2 H2 v2 s2 R2 => k M2 H2 v2 (s1.trans s2) R2⟩⟩⟩
  · rename_i q
    cases e
    exact ⟨M, ρ, fo, fv, _, R, l, q, fun M1 H1 v s1 R1 dv => by cases dv; exact ⟨false, rfl, iteF (k M1 H1 _ s1 R1 (.bl _))⟩⟩
  · cases e
theorem pNot (ha : PE X a (tP X.K fa)) : PE X (.UnaryOp .Not a pos) (tP X.K (notV fa)) := PE.imp (pe_not ha) fun σ H Q ⟨M, ρ, fo, fv, d, R, l, e, k⟩ => by
  unfold notV at e
  split at e
  · rename_i b q
    cases e
    exact ⟨M, ρ, fo, fv, _, R, l, q, fun M1 H1 v s1 R1 dv => by cases dv; exact ⟨b, rfl, k M1 H1 _ s1 R1 (.bl _)⟩⟩
  · cases e
theorem pIf {fc : Ev → Option Bool} (hc : PT X c (tT X.K fc)) (ha : PE X a (tP X.K fa)) (hb : PE X b (tP X.K fb)) : PE X (.IfExp c a b pos) (tP X.K (ifV fc fa fb)) := PE.imp (pe_ifExp hc ha hb) fun σ H Q ⟨M, ρ, fo, fv, d, R, l, e, k⟩ => by
  unfold ifV at e
  split at e
  · rename_i q
    exact ⟨M, ρ, fo, fv, _, R, l, q, fun M1 H1 s1 R1 => iteT ⟨M1, ρ, fo, fv, d, R1, l, e, fun M2 H2 v2 s2 R2 => k M2 H2 v2 (s1.trans s2) R2⟩⟩
  · rename_i q
    exact ⟨M, ρ, fo, fv, _, R, l, q, fun M1 H1 s1 R1 => iteF ⟨M1, ρ, fo, fv, d, R1, l, e, fun M2 H2 v2 s2 R2 => k M2 H2 v2 (s1.trans s2) R2⟩⟩
  · cases e

/-! ### argument lists -/
def aCons (f : Ev → Option D) (g : Ev → Option (List D)) (ρ : Ev) : Option (List D) := (f ρ).bind fun d => (g ρ).bind fun ds => some (d :: ds)
def aNil (_ : Ev) : Option (List D) := some []
theorem aCons_some {f : Ev → Option D} {g : Ev → Option (List D)} {ρ : Ev} {ds : List D} (h : aCons f g ρ = some ds) : ∃ d r, f ρ = some d ∧ g ρ = some r ∧ ds = d :: r := by
  unfold aCons at h
  cases e1 : f ρ with
  | none => rw [e1] at h; cases h
  | some x =>
    rw [e1] at h
    cases e2 : g ρ with
    | none => rw [Option.bind_some, e2] at h; cases h
    | some y => rw [Option.bind_some, e2] at h; cases h; exact ⟨x, y, rfl, rfl, rfl⟩
theorem tCons_of {K : PySem.W.Frag} {f : Ev → Option D} {g : Ev → Option (List D)} {σ : L2.St} {H : Hp} {Q : List V → Hp → Prop} (h : tAr K (aCons f g) σ H Q) : tCons (tP K f) (tAr K g) σ H Q := by
  obtain ⟨M, ρ, fo, fv, ds, R, l, e, k⟩ := h
  obtain ⟨d, r, ef, eg, rfl⟩ := aCons_some e
  exact ⟨M, ρ, fo, fv, d, R, l, ef, fun M1 H1 v1 s1 R1 d1 => ⟨M1, ρ, fo, fv, r, R1, l, eg, fun M2 H2 vs s2 R2 d2 => k M2 H2 _ (s1.trans s2) R2 (.cons (d1.mono s2) d2)⟩⟩
theorem qNil : PA X [] (tAr X.K aNil) := PA.imp pa_nil fun σ H Q ⟨M, ρ, fo, fv, d, R, l, e, k⟩ => by
  cases e
  exact k M H [] (Same.refl _) R .nil
theorem qCons {es : List Expr} {g : Ev → Option (List D)} (ha : PE X a (tP X.K fa)) (hr : PA X es (tAr X.K g)) (hs : starEach (a :: es) X.env = (false, eval a X.env) :: starEach es X.env := by rfl) : PA X (a :: es) (tAr X.K (aCons fa g)) :=
  PA.imp (pa_cons ha hr hs) fun _ _ _ h => tCons_of h
theorem kNil : PK X [] (tAr X.K aNil) := ⟨fun p pins s σ H Q I ⟨M, ρ, fo, fv, d, R, l, e, k⟩ => by
  cases e
  exact pk_nil.run p pins s σ H Q I (k M H [] (Same.refl _) R .nil)⟩
theorem kCons {nm : Option Str} {kpos : Pos} {kws : List Keyword} {g : Ev → Option (List D)} (ha : PE X a (tP X.K fa)) (hr : PK X kws (tAr X.K g)) : PK X (⟨nm, a, kpos⟩ :: kws) (tAr X.K (aCons fa g)) :=
  ⟨fun p pins s σ H Q I h => (pk_cons ha hr).run p pins s σ H Q I (tCons_of h)⟩

/-! ### tuples and lists that are displayed -/
def mkTup (g : Ev → Option (List D)) (ρ : Ev) : Option D := (g ρ).bind fun ds => if ds.length ≤ sizeLine then some (.tup ds) else none
def mkLst (g : Ev → Option (List D)) (ρ : Ev) : Option D := (g ρ).bind fun ds => if ds.length ≤ sizeLine then some (.lst ds) else none
def mkLstO (g : Ev → Option (List D)) (ρ : Ev) : Option O := (g ρ).bind fun ds => if ds.length ≤ sizeLine then some (.lst (ds.map .dat)) else none
theorem mk_some {α : Type} {g : Ev → Option (List D)} {ρ : Ev} {h : List D → α} {d : α} (e : ((g ρ).bind fun ds => if ds.length ≤ sizeLine then some (h ds) else none) = some d) : ∃ ds, g ρ = some ds ∧ ds.length ≤ sizeLine ∧ d = h ds := by
  cases e1 : g ρ with
  | none => rw [e1] at e; cases e
  | some ds =>
    rw [e1, Option.bind_some] at e
    split at e
    · cases e; exact ⟨ds, rfl, by assumption, rfl⟩
    · cases e
variable {es : List Expr} {ga : Ev → Option (List D)}
theorem pTup {k : Nat} (h : PA X es (tAr X.K ga)) : PE X (.Tuple es k pos) (tP X.K (mkTup ga)) := PE.imp (pe_tup h) fun σ H Q ⟨M, ρ, fo, fv, d, R, l, e, k⟩ => by
  obtain ⟨ds, eg, hl, rfl⟩ := mk_some e
  refine ⟨M, ρ, fo, fv, ds, R, l, eg, fun M1 H1 vs s1 R1 d1 => ⟨by rw [d1.length]; exact hl, fun p hp => ?_⟩⟩
  have mp := R1.same.free hp
  have s2 : Same M1 (upd M1 p (.tup vs)) := same_updM mp
  exact k _ _ _ (s1.trans s2) (R1.growM hp) (.tup (.inl (.inl upd_same)) (d1.mono s2))
theorem pLst (h : PA X es (tAr X.K ga)) : PE X (.List es pos) (tP X.K (mkLst ga)) := PE.imp (pe_lst h) fun σ H Q ⟨M, ρ, fo, fv, d, R, l, e, k⟩ => by
  obtain ⟨ds, eg, hl, rfl⟩ := mk_some e
  refine ⟨M, ρ, fo, fv, ds, R, l, eg, fun M1 H1 vs s1 R1 d1 => ⟨by rw [d1.length]; exact hl, fun p hp => ?_⟩⟩
  have mp := R1.same.free hp
  have s2 : Same M1 (upd M1 p (.lst vs)) := same_updM mp
  exact k _ _ _ (s1.trans s2) (R1.growM hp) (.lst (.inl (.inl upd_same)) (d1.mono s2))
theorem ows_dat {K : PySem.W.Frag} {M H : Hp} : ∀ {vs : List V} {ds : List D}, Dvs K M vs ds → Ows K M H (ds.map O.dat) (vs.map some) []
  | _, _, .nil => .nil
  | _, _, .cons h t => by
    have := Ows.cons (Ow.dat (H := H) h) (ows_dat (H := H) t)
    exact this
/-- a new list of frozen things, of one's own -/
theorem Rep.newL {K : PySem.W.Frag} {M H : Hp} {l r : List O} {lv rv : List (Option V)} (R : Rep K M H (l ++ r) (lv ++ rv)) (e : lv.length = l.length) {p : Addr} (hp : H p = none) {vs : List V} {ds : List D} (d : Dvs K M vs ds) :
    Rep K M (upd H p (.lst vs)) (l ++ .lst (ds.map .dat) :: r) (lv ++ some (.ref p) :: rv) := by
  have R1 : Rep K M (upd H p (.lst vs)) (l ++ r) (lv ++ rv) := R.grow hp
  obtain ⟨s, fp, w, nd, nm⟩ := R
  obtain ⟨s1, fp1, w1, nd1, nm1⟩ := R1
  have pn : p ∉ fp := fun z => w.dom p z hp
  have w' : Ows K M (upd H p (.lst vs)) (l ++ r) (lv ++ rv) fp := w.frame (Same.refl _) fun a ha => upd_ne fun z => pn (z ▸ ha)
  obtain ⟨fa, fb, e1, wa, wb⟩ := w'.split e
  subst e1
  refine ⟨s1, fa ++ ([p] ++ fb), wa.append (.cons (.lst upd_same (ows_dat d)) wb), ?_, fun a ha => ?_⟩
  · rw [List.nodup_append] at nd ⊢
    obtain ⟨n1, n2, n3⟩ := nd
    refine ⟨n1, ?_, fun a ha b hb => ?_⟩
    · exact List.nodup_cons.mpr ⟨fun z => pn (List.mem_append_right _ z), n2⟩
    · rcases List.mem_cons.mp hb with rfl | hb
      · exact fun z => pn (z ▸ List.mem_append_left _ ha)
      · exact n3 a ha b hb
  · simp only [List.mem_append, List.mem_singleton] at ha
    rcases ha with ha | rfl | ha
    · exact nm a (List.mem_append_left _ ha)
    · exact s.free hp
    · exact nm a (List.mem_append_right _ ha)
theorem oLst (h : PA X es (tAr X.K ga)) : PE X (.List es pos) (tO X.K (mkLstO ga)) := PE.imp (pe_lst h) fun σ H Q ⟨M, ρ, fo, fv, d, R, l, e, k⟩ => by
  obtain ⟨ds, eg, hl, rfl⟩ := mk_some e
  exact ⟨M, ρ, fo, fv, ds, R, l, eg, fun M1 H1 vs s1 R1 d1 => ⟨by rw [d1.length]; exact hl, fun p hp => k _ _ _ s1 (R1.newL l hp d1)⟩⟩
/-- a frozen thing is a thing -/
def thaw (f : Ev → Option D) (ρ : Ev) : Option O := (f ρ).map .dat
def frz (f : Ev → Option O) (ρ : Ev) : Option D := (f ρ).bind O.toD
theorem oP {e : Expr} {f : Ev → Option D} (h : PE X e (tP X.K f)) : PE X e (tO X.K (thaw f)) := PE.imp h fun σ H Q ⟨M, ρ, fo, fv, d, R, l, e, k⟩ => by
  unfold thaw at e
  cases q : f ρ with
  | none => rw [q] at e; cases e
  | some d' =>
    rw [q] at e
    cases e
    exact ⟨M, ρ, fo, fv, d', R, l, q, fun M1 H1 v s1 R1 d1 => k M1 H1 v s1 (R1.push l d1)⟩
/-- a thing of one's own, frozen -/
theorem pO {e : Expr} {f : Ev → Option O} (h : PE X e (tO X.K f)) : PE X e (tP X.K (frz f)) := PE.imp h fun σ H Q ⟨M, ρ, fo, fv, d, R, l, e, k⟩ => by
  unfold frz at e
  cases q : f ρ with
  | none => rw [q] at e; cases e
  | some o =>
    rw [q] at e
    refine ⟨M, ρ, fo, fv, o, R, l, q, fun M1 H1 v s1 R1 => ?_⟩
    obtain ⟨M2, s2, R2, d2⟩ := R1.frz l rfl e
    exact k M2 H1 v (s1.trans s2) (R2.drop l) d2

/-! ### calls of built-ins -/
def cB (g : Ev → Option (List D)) (f : List D → Option D) (ρ : Ev) : Option D := (g ρ).bind f
theorem cB_some {g : Ev → Option (List D)} {f : List D → Option D} {ρ : Ev} {d : D} (h : cB g f ρ = some d) : ∃ ds, g ρ = some ds ∧ f ds = some d := by
  unfold cB at h
  cases e1 : g ρ with
  | none => rw [e1] at h; cases h
  | some x => rw [e1] at h; exact ⟨x, rfl, h⟩
theorem tCB_of {K : PySem.W.Frag} {g : Ev → Option (List D)} {f : List D → Option D} {σ : L2.St} {H : Hp} {Q : VK} (h : tP K (cB g f) σ H Q) : tCB (rDs K f) (tAr K g) σ H Q := by
  obtain ⟨M, ρ, fo, fv, d, R, l, e, k⟩ := h
  obtain ⟨ds, eg, ef⟩ := cB_some e
  exact ⟨M, ρ, fo, fv, ds, R, l, eg, fun M1 H1 vs s1 R1 d1 => ⟨M1, ρ ++ fo, σ ++ fv, ds, d, R1, d1, ef, fun M2 H2 v s2 R2 d2 => k M2 H2 v (s1.trans s2) R2 d2⟩⟩
theorem pCallB {id : String} {x : Str} {p : Pos} {f : List D → Option D} {e : Expr} {es : List Expr} (hc : CallR X (.builtin id) (rDs X.K f)) (hm : X.mg x = none) (hv : bootBuiltins x = some (.builtin id)) (ha : PA X (e :: es) (tAr X.K ga)) (hg : Gl X x := by rfl) (hn : x ≠ "__name__" := by decide) (hdb : (x == ("__debug__" : Str)) = false := by decide)
    (hpl : (backTo pos (starEach es X.env)).any (·.1) = false := by rfl) (hs : starEach (e :: es) X.env = (false, eval e X.env) :: starEach es X.env := by rfl) : PE X (.Call (.Name x p) (e :: es) [] pos) (tP X.K (cB ga f)) :=
  PE.imp (pe_callB hc hg hm hv ha hn hdb hs hpl) fun _ _ _ h => tCB_of h
theorem pCallT {T : String} {x : Str} {p : Pos} {f : List D → Option D} {e : Expr} {es : List Expr} (hc : CallR X (.type T) (rDs X.K f)) (hm : X.mg x = none) (hv : bootBuiltins x = some (.type T)) (ha : PA X (e :: es) (tAr X.K ga)) (hg : Gl X x := by rfl) (hn : x ≠ "__name__" := by decide) (hdb : (x == ("__debug__" : Str)) = false := by decide)
    (hpl : (backTo pos (starEach es X.env)).any (·.1) = false := by rfl) (hs : starEach (e :: es) X.env = (false, eval e X.env) :: starEach es X.env := by rfl) : PE X (.Call (.Name x p) (e :: es) [] pos) (tP X.K (cB ga f)) :=
  PE.imp (pe_callTy hc hg hm hv ha hn hdb hs hpl) fun _ _ _ h => tCB_of h
end
end PD

namespace PD
open PySem PySem.Spec L2

section
variable {X : Cx} {W : WX} {J : List Nat} {pos : Pos}
/-! ### blocks -/
def sq (f g : Ev → Option Fl) (ρ : Ev) : Option Fl := (f ρ).bind fun r => match r with
  | .nx ρ' => g ρ'
  | r => some r
def skip (ρ : Ev) : Option Fl := some (.nx ρ)
theorem sNil : PSs X [] (tS X.K W J skip) := PSs.imp pss_nil fun E σ H ⟨M, ρ, fo, fv, r, σ0, R, l, e, k⟩ => by
  cases e
  exact k M H σ (Same.refl _) R l
theorem tSeq_of {K : PySem.W.Frag} {f g : Ev → Option Fl} {E : Ends} {σ : L2.St} {H : Hp} (h : tS K W J (sq f g) E σ H) : tSeq (tS K W J f) (tS K W J g) E σ H := by
  obtain ⟨M, ρ, fo, fv, r, σ0, R, l, e, k⟩ := h
  unfold sq at e
  cases q : f ρ with
  | none => rw [q] at e; cases e
  | some r1 =>
    rw [q, Option.bind_some] at e
    refine ⟨M, ρ, fo, fv, r1, σ0, R, l, q, ?_⟩
    cases r1 with
    | nx ρ1 => exact fun M1 H1 σ1 s1 R1 l1 => ⟨M1, ρ1, fo, fv, r, σ0, R1, l1, e, k.later s1⟩
    | rt o ρ1 => cases e; exact k
    | bk ρ1 => cases e; exact k
    | ct ρ1 => cases e; exact k
    | ex x ρ1 => cases e; exact k
theorem sCons {st : Stmt} {rest : List Stmt} {f g : Ev → Option Fl} (h1 : PS X st (tS X.K W J f)) (h2 : PSs X rest (tS X.K W J g)) : PSs X (st :: rest) (tS X.K W J (sq f g)) := PSs.imp (pss_cons h1 h2) fun _ _ _ h => tSeq_of h
theorem sOne {st : Stmt} {f : Ev → Option Fl} (h1 : PS X st (tS X.K W J f)) : PSs X [st] (tS X.K W J f) := pss_one h1
/-! ### return -/
def rtV (f : Ev → Option D) (ρ : Ev) : Option Fl := (f ρ).map fun d => .rt (.dat d) ρ
theorem sRet {e : Expr} {f : Ev → Option D} (h : PE X e (tP X.K f)) : PS X (.Return (some e) pos) (tS X.K W J (rtV f)) := PS.imp (ps_ret h) fun E σ H ⟨M, ρ, fo, fv, r, σ0, R, l, e, k⟩ => by
  unfold rtV at e
  cases q : f ρ with
  | none => rw [q] at e; cases e
  | some d =>
    rw [q] at e
    cases e
    exact ⟨M, ρ, fo, fv, d, R, l.1, q, fun M1 H1 v s1 R1 d1 => k M1 H1 σ v s1 (R1.push l.1 d1) l⟩
/-! ### if -/
def ifS (c : Ev → Option Bool) (f g : Ev → Option Fl) (ρ : Ev) : Option Fl := match c ρ with
  | some true => f ρ
  | some false => g ρ
  | none => none
theorem sIf {c : Expr} {a b : List Stmt} {fc : Ev → Option Bool} {f g : Ev → Option Fl} (hc : PT X c (tT X.K fc)) (ha : PSs X a (tS X.K W J f)) (hb : PSs X b (tS X.K W J g)) : PS X (.If c a b pos) (tS X.K W J (ifS fc f g)) :=
  PS.imp (ps_if hc ha hb) fun E σ H ⟨M, ρ, fo, fv, r, σ0, R, l, e, k⟩ => by
    unfold ifS at e
    split at e
    · rename_i q
      exact ⟨M, ρ, fo, fv, true, R, l.1, q, fun M1 H1 s1 R1 => iteT ⟨M1, ρ, fo, fv, r, σ0, R1, l, e, k.later s1⟩⟩
    · rename_i q
      exact ⟨M, ρ, fo, fv, false, R, l.1, q, fun M1 H1 s1 R1 => iteF ⟨M1, ρ, fo, fv, r, σ0, R1, l, e, k.later s1⟩⟩
    · cases e
/-! ### a name is stored -/
def stV (i : Nat) (f : Ev → Option D) (ρ : Ev) : Option Fl := (f ρ).map fun d => .nx (ρ.set i (.dat d))
def stO (i : Nat) (f : Ev → Option O) (ρ : Ev) : Option Fl := (f ρ).map fun o => .nx (ρ.set i o)
theorem sSet {i : Nat} {x : Str} {e : Expr} {f : Ev → Option D} {pos' : Pos} (hN : X.N.Nodup) (he : PE X e (tP X.K f)) (hJ : i ∉ J := by decide) (hi : X.N[i]? = some x := by rfl) (hx : Loc X.env.scope x := by first | exact Or.inl rfl | exact Or.inr rfl) (hs : swapsWith e (some (.Name x pos')) pos.line X.env = pure false := by rfl)
    (hf : X.fn x = true ∨ X.env.scope.names.lookup x = some .local := by first | exact .inl rfl | exact .inr rfl) : PS X (.Assign [.Name x pos'] e pos) (tS X.K W J (stV i f)) := PS.imp (ps_set (i := i) hN hi hx he hs hf) fun E σ H ⟨M, ρ, fo, fv, r, σ0, R, l, e, k⟩ => by
  unfold stV at e
  cases q : f ρ with
  | none => rw [q] at e; cases e
  | some d =>
    rw [q] at e
    cases e
    exact ⟨M, ρ, fo, fv, d, R, l.1, q, fun M1 H1 v s1 R1 d1 => k M1 H1 _ s1 (R1.setD l.1 d1) (l.set hJ _ _)⟩
theorem sSetO {i : Nat} {x : Str} {e : Expr} {f : Ev → Option O} {pos' : Pos} (hN : X.N.Nodup) (he : PE X e (tO X.K f)) (hJ : i ∉ J := by decide) (hi : X.N[i]? = some x := by rfl) (hx : Loc X.env.scope x := by first | exact Or.inl rfl | exact Or.inr rfl) (hs : swapsWith e (some (.Name x pos')) pos.line X.env = pure false := by rfl)
    (hf : X.fn x = true ∨ X.env.scope.names.lookup x = some .local := by first | exact .inl rfl | exact .inr rfl) : PS X (.Assign [.Name x pos'] e pos) (tS X.K W J (stO i f)) := PS.imp (ps_set (i := i) hN hi hx he hs hf) fun E σ H ⟨M, ρ, fo, fv, r, σ0, R, l, e, k⟩ => by
  unfold stO at e
  cases q : f ρ with
  | none => rw [q] at e; cases e
  | some d =>
    rw [q] at e
    cases e
    exact ⟨M, ρ, fo, fv, d, R, l.1, q, fun M1 H1 v s1 R1 => k M1 H1 _ s1 (R1.into l.1) (l.set hJ _ _)⟩
/-! ### an owned slot is frozen (a step of the proof alone) -/
def fz (i : Nat) (g : Ev → Option Fl) (ρ : Ev) : Option Fl := match ρ[i]? with
  | some o => o.toD.bind fun d => g (ρ.set i (.dat d))
  | none => none
theorem Rep.frzAt {K : PySem.W.Frag} {M H : Hp} {ρ fo : List O} {σ fv : List (Option V)} (R : Rep K M H (ρ ++ fo) (σ ++ fv)) (l : σ.length = ρ.length) {i : Nat} {o : O} {d : D} (e : ρ[i]? = some o) (hd : o.toD = some d) :
    ∃ M', Same M M' ∧ Rep K M' H (ρ.set i (.dat d) ++ fo) (σ ++ fv) := by
  obtain ⟨hi, e⟩ := List.getElem?_eq_some_iff.mp e
  have hi' : i < σ.length := by omega
  have e1 : ρ = ρ.take i ++ o :: ρ.drop (i + 1) := by rw [← e, ← List.drop_eq_getElem_cons hi, List.take_append_drop]
  have e2 : σ = σ.take i ++ σ[i] :: σ.drop (i + 1) := by rw [← List.drop_eq_getElem_cons hi', List.take_append_drop]
  have e3 : ρ.set i (.dat d) = ρ.take i ++ .dat d :: ρ.drop (i + 1) := by rw [List.set_eq_take_append_cons_drop, if_pos hi]
  rw [e1, e2] at R
  simp only [List.append_assoc, List.cons_append] at R
  have ll : (σ.take i).length = (ρ.take i).length := by simp; omega
  obtain ⟨fa, f, fb, w1, w2, w3, nd, nm⟩ := R.mid ll
  obtain ⟨x, ex⟩ : ∃ x, σ[i] = some x := by
    generalize σ[i] = z at w2
    cases w2 with
    | unk => unfold O.toD at hd; cases hd
    | raw h _ => exact nomatch (show (none : Option D) = some d from hd)
    | dicT h _ _ => exact ⟨_, rfl⟩
    | dat h => exact ⟨_, rfl⟩
    | lst h _ => exact ⟨_, rfl⟩
    | tup h _ => exact ⟨_, rfl⟩
    | dic h _ _ => exact ⟨_, rfl⟩
    | obj h _ _ _ => exact ⟨_, rfl⟩
  obtain ⟨M', s', R', _⟩ := R.frz ll ex hd
  refine ⟨M', s', ?_⟩
  rw [e3, e2]
  simp only [List.append_assoc, List.cons_append]
  simpa using R'
theorem tFz_of {K : PySem.W.Frag} {i : Nat} {g : Ev → Option Fl} {E : Ends} {σ : L2.St} {H : Hp} (h : tS K W J (fz i g) E σ H) : tS K W J g E σ H := by
  obtain ⟨M, ρ, fo, fv, r, σ0, R, l, e, k⟩ := h
  unfold fz at e
  cases q : ρ[i]? with
  | none => rw [q] at e; cases e
  | some o =>
    rw [q] at e
    have e : (o.toD.bind fun d => g (ρ.set i (.dat d))) = some r := e
    cases q2 : o.toD with
    | none => rw [q2] at e; cases e
    | some d =>
      rw [q2, Option.bind_some] at e
      obtain ⟨M1, s1, R1⟩ := R.frzAt l.1 q q2
      exact ⟨M1, _, fo, fv, r, σ0, R1, l.setR _, e, k.later s1⟩
theorem sFz {st : Stmt} {i : Nat} {g : Ev → Option Fl} (h : PS X st (tS X.K W J g)) : PS X st (tS X.K W J (fz i g)) := PS.imp h fun _ _ _ h => tFz_of h
/-! ### x.append(e) of an own list -/
theorem Rep.ownL {K : PySem.W.Frag} {M H : Hp} {ρ fo : List O} {σ fv : List (Option V)} (R : Rep K M H (ρ ++ fo) (σ ++ fv)) (l : σ.length = ρ.length) {i : Nat} {os : List O} (e : ρ[i]? = some (.lst os)) :
    ∃ a xs, σ[i]? = some (some (.ref a)) ∧ H a = some (.lst xs) ∧ xs.length = os.length ∧
      ∀ (x : V) (d : D), Dv K M x d → Rep K M (upd H a (.lst (xs ++ [x]))) (ρ.set i (.lst (os ++ [.dat d])) ++ fo) (σ ++ fv) := by
  obtain ⟨hi, e⟩ := List.getElem?_eq_some_iff.mp e
  have hi' : i < σ.length := by omega
  have e1 : ρ = ρ.take i ++ O.lst os :: ρ.drop (i + 1) := by rw [← e, ← List.drop_eq_getElem_cons hi, List.take_append_drop]
  have e2 : σ = σ.take i ++ σ[i] :: σ.drop (i + 1) := by rw [← List.drop_eq_getElem_cons hi', List.take_append_drop]
  have e3 : ∀ z, ρ.set i z = ρ.take i ++ z :: ρ.drop (i + 1) := fun z => by rw [List.set_eq_take_append_cons_drop, if_pos hi]
  have R0 := R
  rw [e1, e2] at R
  simp only [List.append_assoc, List.cons_append] at R
  have ll : (σ.take i).length = (ρ.take i).length := by simp; omega
  obtain ⟨fa, f, fb, w1, w2, w3, nd, nm⟩ := R.mid ll
  generalize hz : σ[i] = z at *
  cases w2 with
  | lst h ws =>
    rename_i a xs fp
    refine ⟨a, xs, by rw [List.getElem?_eq_getElem hi', hz], h, by rw [← ws.length]; simp, fun x d dx => ?_⟩
    have aout : ∀ b, b ∈ fa ∨ b ∈ fp ∨ b ∈ fb → b ≠ a := by
      intro b hb z
      subst z
      rw [List.nodup_append] at nd
      obtain ⟨n1, n2, n3⟩ := nd
      rcases hb with hb | hb | hb
      · exact n3 b hb b (by simp) rfl
      · rw [List.cons_append, List.nodup_cons] at n2
        exact n2.1 (List.mem_append_left _ hb)
      · rw [List.cons_append, List.nodup_cons] at n2
        exact n2.1 (List.mem_append_right _ hb)
    have ma : M a = none := nm a (by simp)
    rw [e3, e2]
    simp only [List.append_assoc, List.cons_append]
    refine ⟨fun b y q => ?_, fa ++ ((a :: fp) ++ fb), ?_, nd, nm⟩
    · rw [upd_ne (fun z => by subst z; rw [ma] at q; cases q)]
      exact R.same b y q
    · refine (w1.frame (Same.refl _) fun b hb => upd_ne (aout b (.inl hb))).append (.cons ?_ (w3.frame (Same.refl _) fun b hb => upd_ne (aout b (.inr (.inr hb)))))
      refine .lst upd_same ?_
      rw [List.map_append]
      have w4 := (ws.frame (Same.refl _) (H' := upd H a (.lst (xs ++ [x]))) fun b hb => upd_ne (aout b (.inr (.inl hb)))).append (Ows.cons (Ow.dat (H := upd H a (.lst (xs ++ [x]))) dx) .nil)
      simpa using w4
def app (i : Nat) (f : Ev → Option D) (ρ : Ev) : Option Fl := (f ρ).bind fun d => match ρ[i]? with
  | some (.lst os) => if os.length < sizeLine then some (.nx (ρ.set i (.lst (os ++ [.dat d])))) else none
  | _ => none
theorem sApp {i : Nat} {x : Str} {e : Expr} {f : Ev → Option D} {p apos cpos : Pos} (hv : PE X (.Name x p) (tVar i)) (he : PE X e (tP X.K f)) (hbase : attributeBase (.Name x p) "append" X.env (eval (.Name x p) X.env) = eval (.Name x p) X.env := by rfl)
    (hfew : ((backTo cpos (starEach [e] X.env)).all (fun x => !x.1) && (backToKw cpos (keywordEach [] X.env)).all (fun x => x.1.isSome)
      && decide ([e].length + ([] : List Keyword).length + (if ([] : List Keyword).isEmpty then 0 else 1) < 30)) = true := by rfl)
    (hline : (apos.endLine == cpos.line) = true := by rfl) (hs : starEach [e] X.env = (false, eval e X.env) :: starEach [] X.env := by rfl) (hplain : (backTo cpos (starEach [] X.env)).any (·.1) = false := by rfl)
    (hsw : swapsWith (.Call (.Attribute (.Name x p) "append" apos) [e] [] cpos) none pos.line X.env = pure false := by rfl) :
    PS X (.Expr (.Call (.Attribute (.Name x p) "append" apos) [e] [] cpos) pos) (tS X.K W J (app i f)) :=
  PS.imp (ps_expr (pe_bm PySem.F.plainAttrs_list PySem.F.slot_list_append PySem.F.type_list_append mt_append hv (pa_cons he pa_nil hs) hbase hfew hline hs hplain) hsw) fun E σ H ⟨M, ρ, fo, fv, r, σ0, R, l, e, k⟩ => by
    unfold app at e
    cases q : f ρ with
    | none => rw [q] at e; cases e
    | some d =>
      rw [q, Option.bind_some] at e
      split at e
      · rename_i os eo
        split at e
        · rename_i hlen
          cases e
          obtain ⟨a, xs, es, ha, hl, _⟩ := R.ownL l.1 eo
          refine ⟨.ref a, es, .inl ⟨rfl, _, .inl (.inl ha)⟩, M, ρ, fo, fv, d, R, l.1, q, fun M1 H1 v s1 R1 d1 => ?_⟩
          obtain ⟨a', xs', es', ha', hl', up⟩ := R1.ownL l.1 eo
          have : a' = a := by rw [es'] at es; cases es; rfl
          subst this
          refine ⟨a', xs', v, rfl, rfl, ha', by omega, ?_⟩
          exact k M1 _ σ s1 (up v d d1) (l.setR _)
        · cases e
      · cases e
end
end PD

namespace PD
open PySem PySem.Spec L2

theorem Lk.to {J : List Nat} {σ0 σ σ1 : L2.St} {ρ ρ1 : Ev} (l : Lk J σ0 σ ρ) (l1 : σ1.length = σ.length) (r1 : ρ1.length = ρ.length) {is : List Nat} (a : ∀ j, j ∉ is → σ1[j]? = σ[j]?) (h : ∀ i ∈ is, i ∉ J) : Lk J σ0 σ1 ρ1 :=
  ⟨by rw [l1, r1]; exact l.1, fun j hj => (a j fun z => h j z hj).trans (l.2 j hj)⟩
/-! ### what is walked -/
/-- nd: roots that must stand as they were -/
def Yld (K : PySem.W.Frag) (M : Hp) (nd : List (O × Option V)) (J : It) (ds : List D) : Prop :=
  ∀ i M1 H os vs, Same M M1 → Rep K M1 H os vs → (∀ r ∈ nd, r ∈ os.zip vs) → (i < ds.length → J.go i H) ∧ (i = ds.length → J.stop i H) ∧ ∀ d, ds[i]? = some d → ∀ x H', J.yld i H x H' →
    ∃ M2, Same M1 M2 ∧ Rep K M2 H' os vs ∧ Dv K M2 x d
/-- kn: the slots whose own lists are walked -/
def tI (K : PySem.W.Frag) (kn : List Nat) (g : Ev → Option (List D)) : TI := fun σ H R => ∃ M ρ fo fv ds, Rep K M H (ρ ++ fo) (σ ++ fv) ∧ σ.length = ρ.length ∧ g ρ = some ds ∧
  ∀ M' H' J, Same M M' → Rep K M' H' (ρ ++ fo) (σ ++ fv) → Yld K M' (kn.map fun k => (ρ.getD k .unk, σ.getD k none)) J ds → R J H'
theorem yld_list {K : PySem.W.Frag} {M : Hp} {a : Addr} {xs : List V} {ds : List D} (h : SqX K M a xs) (d : Dvs K M xs ds) : Yld K M [] (Itl K a) ds := fun i M1 H os vs s1 R _ => by
  have q := seqX (s1.trans R.same) h
  have w := walk_list (K := K) (a := a) (xs := xs)
  have hl := d.length
  refine ⟨fun hi => w.goes i H (by omega) q, fun hi => by subst hi; rw [← hl]; exact w.stops H q, fun e he x H' y => ?_⟩
  have hi : i < xs.length := by rw [hl]; exact (List.getElem?_eq_some_iff.mp he).1
  obtain ⟨rfl, ex⟩ := w.yields i H x H' hi q y
  obtain ⟨e', he', dv⟩ := d.getV ex
  rw [he] at he'; cases he'
  exact ⟨M1, Same.refl _, R, dv.mono s1⟩
theorem yld_tup {K : PySem.W.Frag} {M : Hp} {a : Addr} {xs : List V} {ds : List D} (h : SqT K M a xs) (d : Dvs K M xs ds) : Yld K M [] (Itt K a) ds := fun i M1 H os vs s1 R _ => by
  have q := sqT_same (s1.trans R.same) h
  have w := walk_tup (K := K) (a := a) (xs := xs)
  have hl := d.length
  refine ⟨fun hi => w.goes i H (by omega) q, fun hi => by subst hi; rw [← hl]; exact w.stops H q, fun e he x H' y => ?_⟩
  have hi : i < xs.length := by rw [hl]; exact (List.getElem?_eq_some_iff.mp he).1
  obtain ⟨rfl, ex⟩ := w.yields i H x H' hi q y
  obtain ⟨e', he', dv⟩ := d.getV ex
  rw [he] at he'; cases he'
  exact ⟨M1, Same.refl _, R, dv.mono s1⟩
/-- the signs of a text -/
def signs (z : Str) : List D := z.cps.toList.map fun c => .str ⟨#[c]⟩
theorem yld_str {K : PySem.W.Frag} {M : Hp} {z : Str} : Yld K M [] (Its z) (signs z) := fun i M1 H os vs s1 R _ => by
  have w := walk_str (z := z)
  have hl : (signs z).length = z.cps.size := by simp [signs]
  refine ⟨fun hi => w.goes i H (by omega) trivial, fun hi => by subst hi; rw [hl]; exact w.stops H trivial, fun e he x H' y => ?_⟩
  have hi : i < z.cps.size := by rw [← hl]; exact (List.getElem?_eq_some_iff.mp he).1
  obtain ⟨rfl, c, ec, ex⟩ := w.yields i H x H' hi trivial y
  have : e = .str ⟨#[c]⟩ := by
    unfold signs at he
    rw [List.getElem?_map, Array.getElem?_toList, ec] at he
    exact (Option.some.inj he).symm
  subst this; subst ex
  exact ⟨M1, Same.refl _, R, .str _⟩
def rangeD (lo : Int) (n : Nat) : List D := (List.range n).map fun i : Nat => .int (lo + (i : Int))
theorem yld_range {K : PySem.W.Frag} {M : Hp} {lo : Int} {n : Nat} : Yld K M [] (Itr lo n) (rangeD lo n) := fun i M1 H os vs s1 R _ => by
  have w := walk_range (lo := lo) (n := n)
  have hl : (rangeD lo n).length = n := by simp [rangeD]
  refine ⟨fun hi => w.goes i H (by omega) trivial, fun hi => by subst hi; rw [hl]; exact w.stops H trivial, fun e he x H' y => ?_⟩
  have hi : i < n := by rw [← hl]; exact (List.getElem?_eq_some_iff.mp he).1
  obtain ⟨rfl, ex⟩ := w.yields i H x H' hi trivial y
  have : e = .int (lo + (i : Int)) := by
    unfold rangeD at he
    rw [List.getElem?_map, List.getElem?_range hi] at he
    exact (Option.some.inj he).symm
  subst this; subst ex
  exact ⟨M1, Same.refl _, R, .int _⟩
section
variable {X : Cx} {W : WX} {J : List Nat} {pos : Pos} {tg e : Expr} {f : Ev → Option D}
def seqD : D → Option (List D)
  | .lst ds => some ds
  | .tup ds => some ds
  | .str z => some (signs z)
  | _ => none
def iOf (f : Ev → Option D) (ρ : Ev) : Option (List D) := (f ρ).bind seqD
theorem iSeq (h : PE X e (tP X.K f)) : PI X tg e (tI X.K [] (iOf f)) := PI.imp (PI.or (PI.or (pi_list h) (pi_tup h)) (pi_str h)) fun σ H R ⟨M, ρ, fo, fv, ds, R0, l, e, k⟩ => by
  unfold iOf at e
  cases q : f ρ with
  | none => rw [q] at e; cases e
  | some d =>
    rw [q, Option.bind_some] at e
    cases d with
    | lst es =>
      cases e
      exact .inl (.inl ⟨M, ρ, fo, fv, _, R0, l, q, fun M1 H1 v s1 R1 d1 => by
        cases d1 with
        | lst hs hd => exact ⟨_, rfl, ⟨_, seqX R1.same hs⟩, k M1 H1 _ s1 R1 (yld_list hs hd)⟩⟩)
    | tup es =>
      cases e
      exact .inl (.inr ⟨M, ρ, fo, fv, _, R0, l, q, fun M1 H1 v s1 R1 d1 => by
        cases d1 with
        | tup hs hd => exact ⟨_, rfl, ⟨_, sqT_same R1.same hs⟩, k M1 H1 _ s1 R1 (yld_tup hs hd)⟩⟩)
    | str z =>
      cases e
      exact .inr ⟨M, ρ, fo, fv, _, R0, l, q, fun M1 H1 v s1 R1 d1 => by cases d1; exact ⟨z, rfl, k M1 H1 _ s1 R1 yld_str⟩⟩
    | _ => cases e
def rng1 (f : Ev → Option D) (ρ : Ev) : Option (List D) := match f ρ with
  | some (.int n) => if n < 2 ^ 62 ∧ -(2 ^ 62) ≤ n then some (rangeD 0 n.toNat) else none
  | _ => none
def rng2 (f g : Ev → Option D) (ρ : Ev) : Option (List D) := match f ρ, g ρ with
  | some (.int m), some (.int n) => if (n < 2 ^ 62 ∧ -(2 ^ 62) ≤ n) ∧ m < 2 ^ 62 ∧ -(2 ^ 62) ≤ m then some (rangeD m (n - m).toNat) else none
  | _, _ => none
theorem iRange1 {p : Pos} (h : PE X e (tP X.K f)) (hm : X.mg "range" = none) (hg : Gl X "range" := by rfl) (hs : starEach [e] X.env = [(false, eval e X.env)] := by rfl) (hs2 : starEach [e] X.env = (false, eval e X.env) :: starEach [] X.env := by rfl) : PI X tg (.Call (.Name "range" p) [e] [] pos) (tI X.K [] (rng1 f)) :=
  PI.imp (pi_range1 hg hm (pa_cons h pa_nil hs2) hs) fun σ H R ⟨M, ρ, fo, fv, ds, R0, l, e, k⟩ => by
    unfold rng1 at e
    split at e
    · rename_i n q
      split at e
      · rename_i hn
        cases e
        exact ⟨M, ρ, fo, fv, _, R0, l, q, fun M1 H1 v s1 R1 d1 => by cases d1; exact ⟨n, rfl, hn.2, hn.1, k M1 H1 _ s1 R1 yld_range⟩⟩
      · cases e
    · cases e
/-! ### targets -/
def tG (K : PySem.W.Frag) (is : List Nat) (g : D → Ev → Option Ev) : TG := fun v σ H Q => ∃ M ρ fo fv d ρ', Rep K M H (ρ ++ fo) (σ ++ fv) ∧ σ.length = ρ.length ∧ Dv K M v d ∧ g d ρ = some ρ' ∧
  ∀ σ', (∀ j, j ∉ is → σ'[j]? = σ[j]?) → σ'.length = σ.length → ρ'.length = ρ.length → Rep K M H (ρ' ++ fo) (σ' ++ fv) → Q σ' H
def tGs (K : PySem.W.Frag) (is : List Nat) (g : List D → Ev → Option Ev) : TGs := fun vs σ H Q => ∃ M ρ fo fv ds ρ', Rep K M H (ρ ++ fo) (σ ++ fv) ∧ σ.length = ρ.length ∧ Dvs K M vs ds ∧ g ds ρ = some ρ' ∧
  ∀ σ', (∀ j, j ∉ is → σ'[j]? = σ[j]?) → σ'.length = σ.length → ρ'.length = ρ.length → Rep K M H (ρ' ++ fo) (σ' ++ fv) → Q σ' H
def gN (i : Nat) (d : D) (ρ : Ev) : Option Ev := some (ρ.set i (.dat d))
def gsN (ds : List D) (ρ : Ev) : Option Ev := match ds with
  | [] => some ρ
  | _ => none
def gsC (g : D → Ev → Option Ev) (h : List D → Ev → Option Ev) (ds : List D) (ρ : Ev) : Option Ev := match ds with
  | d :: r => (g d ρ).bind (h r)
  | [] => none
def gT (n : Nat) (h : List D → Ev → Option Ev) (d : D) (ρ : Ev) : Option Ev := match d with
  | .tup ds => if ds.length = n then h ds ρ else none
  | _ => none
theorem PG.imp {t t' : TG} (h : PG X tg t) (i : ∀ v σ H Q, t' v σ H Q → t v σ H Q) : PG X tg t' := ⟨fun p s σ H v u Q I r w => h.run p s σ H v u Q I r (i v σ H Q w)⟩
theorem PGs.imp {ts : List Expr} {t t' : TGs} (h : PGs X ts t) (i : ∀ v σ H Q, t' v σ H Q → t v σ H Q) : PGs X ts t' := ⟨fun p s σ H v u Q I r w => h.run p s σ H v u Q I r (i v σ H Q w)⟩
theorem gName' {i : Nat} {x : Str} (hN : X.N.Nodup) (hi : X.N[i]? = some x := by rfl) (hx : Loc X.env.scope x := by first | exact Or.inl rfl | exact Or.inr rfl) (hf : X.fn x = true ∨ X.env.scope.names.lookup x = some .local := by first | exact .inl rfl | exact .inr rfl) : PG X (.Name x pos) (tG X.K [i] (gN i)) :=
  PG.imp (pg_name hN hi hx hf) fun v σ H Q ⟨M, ρ, fo, fv, d, ρ', R, l, dv, e, k⟩ => by
    cases e
    exact k _ (fun j hj => by rw [List.getElem?_set_ne (by simpa using Ne.symm (by simpa using hj))]) (by simp) (by simp) (R.setD l dv)
theorem gsNil' : PGs X [] (tGs X.K [] gsN) := PGs.imp pgs_nil fun vs σ H Q ⟨M, ρ, fo, fv, ds, ρ', R, l, dv, e, k⟩ => by
  unfold gsN at e
  split at e
  · cases e
    cases dv
    exact ⟨rfl, k σ (fun _ _ => rfl) rfl rfl R⟩
  · cases e
theorem gsCons' {es : List Expr} {is js : List Nat} {g : D → Ev → Option Ev} {h : List D → Ev → Option Ev} (h1 : PG X e (tG X.K is g)) (h2 : PGs X es (tGs X.K js h))
    (hs : (assignEach (e :: es) X.env).map (·.2) = assign e X.env :: (assignEach es X.env).map (·.2) := by rfl) : PGs X (e :: es) (tGs X.K (is ++ js) (gsC g h)) := by
  refine PGs.imp (pgs_cons h1 h2 hs) fun vs σ H Q ⟨M, ρ, fo, fv, ds, ρ', R, l, dv, e, k⟩ => ?_
  unfold gsC at e
  split at e
  · rename_i d r
    cases dv with
    | cons d1 d2 =>
      cases q : g d ρ with
      | none => rw [q] at e; cases e
      | some ρ1 =>
        rw [q, Option.bind_some] at e
        refine ⟨_, _, rfl, M, ρ, fo, fv, d, ρ1, R, l, d1, q, fun σ1 a1 l1 r1 R1 => ?_⟩
        exact ⟨M, ρ1, fo, fv, r, ρ', R1, by omega, d2, e, fun σ2 a2 l2 r2 R2 => k σ2 (fun j hj => by rw [a2 j (fun z => hj (List.mem_append_right _ z)), a1 j (fun z => hj (List.mem_append_left _ z))]) (by omega) (by omega) R2⟩
  · cases e
theorem gTup' {es : List Expr} {k n : Nat} {is : List Nat} {h : List D → Ev → Option Ev} (hc : X.calm = true) (h1 : PGs X es (tGs X.K is h)) (hn : (assignEach es X.env).length = n := by rfl) (hst : (assignEach es X.env).findIdx? (·.1) = none := by rfl) : PG X (.Tuple es k pos) (tG X.K is (gT n h)) :=
  PG.imp (pg_tup hc h1 hn hst) fun v σ H Q ⟨M, ρ, fo, fv, d, ρ', R, l, dv, e, k⟩ => by
    unfold gT at e
    split at e
    · rename_i ds
      split at e
      · rename_i hl
        cases dv with
        | tup hs hd => exact ⟨_, _, rfl, sqT_same R.same hs, by rw [hd.length]; exact hl, M, ρ, fo, fv, ds, ρ', R, l, hd, e, k⟩
      · cases e
    · cases e
/-- what a target changes -/
structure TgOk (is : List Nat) (g : D → Ev → Option Ev) : Prop where
  len : ∀ d ρ ρ', g d ρ = some ρ' → ρ'.length = ρ.length
  out : ∀ d ρ ρ', g d ρ = some ρ' → ∀ j, j ∉ is → ρ'[j]? = ρ[j]?
structure TgsOk (is : List Nat) (g : List D → Ev → Option Ev) : Prop where
  len : ∀ d ρ ρ', g d ρ = some ρ' → ρ'.length = ρ.length
  out : ∀ d ρ ρ', g d ρ = some ρ' → ∀ j, j ∉ is → ρ'[j]? = ρ[j]?
theorem gN_ok (i : Nat) : TgOk [i] (gN i) := ⟨fun d ρ ρ' e => by cases e; simp, fun d ρ ρ' e j hj => by cases e; rw [List.getElem?_set_ne (by simpa using Ne.symm (by simpa using hj))]⟩
theorem gsN_ok : TgsOk [] gsN := ⟨fun d ρ ρ' e => by unfold gsN at e; split at e <;> cases e; rfl, fun d ρ ρ' e j hj => by unfold gsN at e; split at e <;> cases e; rfl⟩
theorem gsC_ok {is js : List Nat} {g : D → Ev → Option Ev} {h : List D → Ev → Option Ev} (h1 : TgOk is g) (h2 : TgsOk js h) : TgsOk (is ++ js) (gsC g h) := by
  have key : ∀ d ρ ρ', gsC g h d ρ = some ρ' → ∃ d' r ρ1, g d' ρ = some ρ1 ∧ h r ρ1 = some ρ' := fun d ρ ρ' e => by
    unfold gsC at e
    split at e
    · rename_i d' r
      cases q : g d' ρ with
      | none => rw [q] at e; cases e
      | some ρ1 => rw [q, Option.bind_some] at e; exact ⟨d', r, ρ1, q, e⟩
    · cases e
  refine ⟨fun d ρ ρ' e => ?_, fun d ρ ρ' e j hj => ?_⟩
  · obtain ⟨d', r, ρ1, e1, e2⟩ := key d ρ ρ' e
    rw [h2.len _ _ _ e2, h1.len _ _ _ e1]
  · obtain ⟨d', r, ρ1, e1, e2⟩ := key d ρ ρ' e
    rw [h2.out _ _ _ e2 j (fun z => hj (List.mem_append_right _ z)), h1.out _ _ _ e1 j (fun z => hj (List.mem_append_left _ z))]
theorem gT_ok {is : List Nat} {n : Nat} {h : List D → Ev → Option Ev} (h1 : TgsOk is h) : TgOk is (gT n h) := by
  have key : ∀ d ρ ρ', gT n h d ρ = some ρ' → ∃ r, h r ρ = some ρ' := fun d ρ ρ' e => by
    unfold gT at e
    split at e
    · split at e
      · exact ⟨_, e⟩
      · cases e
    · cases e
  exact ⟨fun d ρ ρ' e => let ⟨r, e1⟩ := key d ρ ρ' e; h1.len _ _ _ e1, fun d ρ ρ' e j hj => let ⟨r, e1⟩ := key d ρ ρ' e; h1.out _ _ _ e1 j hj⟩
/-- a, b = e -/
def asg (f : Ev → Option D) (g : D → Ev → Option Ev) (ρ : Ev) : Option Fl := (f ρ).bind fun d => (g d ρ).map .nx
theorem sAsg {is : List Nat} {g : D → Ev → Option Ev} (he : PE X e (tP X.K f)) (hg : PG X tg (tG X.K is g)) (hJ : ∀ i ∈ is, i ∉ J := by decide) (hs : swapsWithSole [tg] e pos.line X.env = pure false := by rfl) (hw : swappedStores [tg] e X.env = pure none := by rfl) (h1 : (assignEach [tg] X.env).map (·.2) = [assign tg X.env] := by rfl) : PS X (.Assign [tg] e pos) (tS X.K W J (asg f g)) :=
  PS.imp (ps_asg he hg hs hw h1) fun E σ H ⟨M, ρ, fo, fv, r, σ0, R, l, e, k⟩ => by
    unfold asg at e
    cases q : f ρ with
    | none => rw [q] at e; cases e
    | some d =>
      rw [q, Option.bind_some] at e
      cases q2 : g d ρ with
      | none => rw [q2] at e; cases e
      | some ρ1 =>
        rw [q2] at e
        cases e
        exact ⟨M, ρ, fo, fv, d, R, l.1, q, fun M1 H1 v s1 R1 d1 => ⟨M1, ρ, fo, fv, d, ρ1, R1, l.1, d1, q2, fun σ1 a1 l1 r1 R2 => k M1 H1 σ1 s1 R2 (l.to l1 r1 a1 hJ)⟩⟩

/-! ### for -/
def loop (g : D → Ev → Option Ev) (body : Ev → Option Fl) : List D → Ev → Option Fl
  | [], ρ => some (.nx ρ)
  | d :: ds, ρ => (g d ρ).bind fun ρ1 => (body ρ1).bind fun r => match r with
    | .nx ρ' => loop g body ds ρ'
    | .ct ρ' => loop g body ds ρ'
    | .bk ρ' => some (.nx ρ')
    | r => some r
def forS (f : Ev → Option (List D)) (g : D → Ev → Option Ev) (body : Ev → Option Fl) (ρ : Ev) : Option Fl := (f ρ).bind fun ds => loop g body ds ρ
theorem sFor {iter : Expr} {body : List Stmt} {fi : Ev → Option (List D)} {is : List Nat} {g : D → Ev → Option Ev} {b : Ev → Option Fl} (hp : PassesOwn (model X.prog X.w) X.A X.env X.xe) (hc : X.calm = true) (hi : PI X tg iter (tI X.K [] fi)) (hg : PG X tg (tG X.K is g)) (hb : PSs X body (tS X.K W J b)) (hJ : ∀ i ∈ is, i ∉ J := by decide)
    (hs : ∀ x, foldedSetIterable iter X.env x = pure x := by intro _; rfl) : PS X (.For tg iter body [] pos) (tS X.K W J (forS fi g b)) := PS.imp (ps_for hp hc hi hg hb hs) fun E σ H ⟨M, ρ, fo, fv, r, σ0, R, l, e, k⟩ => by
  unfold forS at e
  cases q : fi ρ with
  | none => rw [q] at e; cases e
  | some ds =>
    rw [q, Option.bind_some] at e
    refine ⟨M, ρ, fo, fv, ds, R, l.1, q, fun M0 H0 JJ s0 R0 y => ?_⟩
    refine ⟨fun i m σ H => m = ds.length - i ∧ i ≤ ds.length ∧ ∃ M1 ρ1, Same M0 M1 ∧ Rep X.K M1 H (ρ1 ++ fo) (σ ++ fv) ∧ Lk J σ0 σ ρ1 ∧ loop g b (ds.drop i) ρ1 = some r, ⟨ds.length, by omega, Nat.zero_le _, M0, ρ, Same.refl _, R0, l, by simpa using e⟩, ?_⟩
    rintro i m σ H ⟨rfl, hi, M1, ρ1, s1, R1, l1, e1⟩
    obtain ⟨go, stop, yl⟩ := y i M1 H _ _ s1 R1 (fun r hr => nomatch hr)
    by_cases hlt : i < ds.length
    · have ed : ds.drop i = ds[i] :: ds.drop (i + 1) := List.drop_eq_getElem_cons hlt
      rw [ed] at e1
      unfold loop at e1
      cases q1 : g ds[i] ρ1 with
      | none => rw [q1] at e1; cases e1
      | some ρ2 =>
        rw [q1, Option.bind_some] at e1
        cases q2 : b ρ2 with
        | none => rw [q2] at e1; cases e1
        | some r2 =>
          rw [q2, Option.bind_some] at e1
          refine .inr ⟨go hlt, fun σ' H' => ∃ M1 ρ1, Same M0 M1 ∧ Rep X.K M1 H' (ρ1 ++ fo) (σ' ++ fv) ∧ Lk J σ0 σ' ρ1 ∧ loop g b (ds.drop (i + 1)) ρ1 = some r, fun σ' H' h => ⟨ds.length - (i + 1), by omega, rfl, hlt, h⟩, fun x H' hy => ?_⟩
          obtain ⟨M2, s2, R2, d2⟩ := yl ds[i] (List.getElem?_eq_getElem hlt) x H' hy
          refine ⟨M2, ρ1, fo, fv, ds[i], ρ2, R2, l1.1, d2, q1, fun σ3 a3 l3 r3 R3 => ?_⟩
          have s02 : Same M M2 := s0.trans (s1.trans s2)
          refine ⟨M2, ρ2, fo, fv, r2, σ0, R3, l1.to l3 r3 a3 hJ, q2, ?_⟩
          cases r2 with
          | nx ρ4 => exact fun M4 H4 σ4 s4 R4 l4 => ⟨M4, ρ4, s1.trans (s2.trans s4), R4, l4, e1⟩
          | ct ρ4 => exact fun M4 H4 σ4 s4 R4 l4 => ⟨M4, ρ4, s1.trans (s2.trans s4), R4, l4, e1⟩
          | bk ρ4 => cases e1; exact fun M4 H4 σ4 s4 R4 l4 => k M4 H4 σ4 (s02.trans s4) R4 l4
          | rt o ρ4 => cases e1; exact fun M4 H4 σ4 v s4 R4 l4 => k M4 H4 σ4 v (s02.trans s4) R4 l4
          | ex x ρ4 => cases e1; exact fun M4 H4 σ4 cls d s4 R4 l4 => k M4 H4 σ4 cls d (s02.trans s4) R4 l4
    · have ei : i = ds.length := by omega
      rw [ei, List.drop_length] at e1
      cases e1
      exact .inl ⟨stop ei, k M1 H σ (s0.trans s1) R1 l1⟩

/-! ### while -/
end
end PD

namespace PD
open PySem PySem.Spec L2

/-! ### a comprehension's block -/
def wipeO (ρ : Ev) : List Nat → Ev
  | [] => ρ
  | v :: vs => (wipeO ρ vs).set v .unk
theorem wipeO_length (ρ : Ev) : ∀ vs : List Nat, (wipeO ρ vs).length = ρ.length
  | [] => rfl
  | v :: vs => by unfold wipeO; rw [List.length_set, wipeO_length ρ vs]
theorem wipeO_out {ρ : Ev} {i : Nat} : ∀ {vs : List Nat}, i ∉ vs → (wipeO ρ vs)[i]? = ρ[i]?
  | [], _ => rfl
  | v :: vs, h => by
    unfold wipeO
    rw [List.getElem?_set_ne (show v ≠ i from fun z => h (by rw [z]; exact List.mem_cons_self)), wipeO_out fun z => h (List.mem_cons_of_mem _ z)]
theorem wipeO_in {ρ : Ev} {i : Nat} (hi : i < ρ.length) : ∀ {vs : List Nat}, i ∈ vs → (wipeO ρ vs)[i]? = some .unk
  | v :: vs, h => by
    unfold wipeO
    by_cases e : v = i
    · subst e; rw [List.getElem?_set_self (by rw [wipeO_length]; exact hi)]
    · rw [List.getElem?_set_ne e]
      rcases List.mem_cons.mp h with h | h
      · exact absurd h.symm e
      · exact wipeO_in hi h
theorem wipe_in {σ : L2.St} {i : Nat} (hi : i < σ.length) : ∀ {vs : List Nat}, i ∈ vs → (wipe σ vs)[i]? = some none
  | v :: vs, h => by
    unfold wipe
    by_cases e : v = i
    · subst e; rw [List.getElem?_set_self (by rw [wipe_length]; exact hi)]
    · rw [List.getElem?_set_ne e]
      rcases List.mem_cons.mp h with h | h
      · exact absurd h.symm e
      · exact wipe_in hi h
theorem wipeO_ext {ρ ρ' : Ev} {vs : List Nat} (l : ρ'.length = ρ.length) (h : ∀ j, j ∉ vs → ρ'[j]? = ρ[j]?) : wipeO ρ' vs = wipeO ρ vs := by
  apply List.ext_getElem?
  intro j
  by_cases hj : j ∈ vs
  · by_cases hl : j < ρ.length
    · rw [wipeO_in hl hj, wipeO_in (l ▸ hl) hj]
    · rw [List.getElem?_eq_none (by rw [wipeO_length]; omega), List.getElem?_eq_none (by rw [wipeO_length]; omega)]
  · rw [wipeO_out hj, wipeO_out hj, h j hj]
theorem wipe_ext {ρ ρ' : L2.St} {vs : List Nat} (l : ρ'.length = ρ.length) (h : ∀ j, j ∉ vs → ρ'[j]? = ρ[j]?) : wipe ρ' vs = wipe ρ vs := by
  apply List.ext_getElem?
  intro j
  by_cases hj : j ∈ vs
  · by_cases hl : j < ρ.length
    · rw [wipe_in hl hj, wipe_in (l ▸ hl) hj]
    · rw [List.getElem?_eq_none (by rw [wipe_length]; omega), List.getElem?_eq_none (by rw [wipe_length]; omega)]
  · rw [wipe_out hj, wipe_out hj, h j hj]
def okW (ρ : Ev) (vs : List Nat) : Bool := vs.all fun v => match ρ[v]? with
  | some (.dat _) => true
  | some .unk => true
  | none => true
  | _ => false
section
variable {K : PySem.W.Frag} {M M' H H' : Hp}
theorem Rep.wipe {ρ fo : List O} {σ fv : List (Option V)} (R : Rep K M H (ρ ++ fo) (σ ++ fv)) (l : σ.length = ρ.length) : ∀ vs : List Nat, Rep K M H (wipeO ρ vs ++ fo) (L2.wipe σ vs ++ fv)
  | [] => R
  | v :: vs => (Rep.wipe R l vs).setU (by rw [wipe_length, wipeO_length]; exact l) none
theorem Ows.restore : ∀ {ρ ρ' : List O} {σ σ' : List (Option V)} {f : List Addr}, Ows K M H ρ' σ' f → ρ'.length = ρ.length → σ.length = ρ.length →
    (∀ j : Nat, (ρ'[j]? = ρ[j]? ∧ σ'[j]? = σ[j]?) ∨ (∃ d x, ρ[j]? = some (.dat d) ∧ σ[j]? = some (some x) ∧ Dv K M x d) ∨ ρ[j]? = some .unk) → ∃ f', f'.Sublist f ∧ Ows K M H ρ σ f'
  | [], _, [], _, _, .nil, _, _, _ => ⟨[], List.Sublist.refl _, .nil⟩
  | o :: ρ, _, v :: σ, _, _, .cons (o := o') (v := v') (f1 := f1) (f2 := f2) h hs, e, e2, k => by
    obtain ⟨f', sb, w⟩ := Ows.restore hs (ρ := ρ) (σ := σ) (by simpa using e) (by simpa using e2) (fun j => by have := k (j + 1); simpa using this)
    rcases k 0 with ⟨a, b⟩ | ⟨d, x, a, b, dv⟩ | a
    · have a : o' = o := by simpa using a
      have b : v' = v := by simpa using b
      subst a; subst b
      exact ⟨f1 ++ f', List.Sublist.append (List.Sublist.refl _) sb, .cons h w⟩
    · have a : o = .dat d := by simpa using a
      have b : v = some x := by simpa using b
      subst a; subst b
      exact ⟨[] ++ f', sb.trans (List.sublist_append_right _ _), .cons (.dat dv) w⟩
    · have a : o = .unk := by simpa using a
      subst a
      exact ⟨[] ++ f', sb.trans (List.sublist_append_right _ _), .cons .unk w⟩
  | [], _ :: _, _, _, _, _, e, _, _ => by simp at e
  | _ :: _, [], _, _, _, _, e, _, _ => by simp at e
  | [], _, _ :: _, _, _, _, _, e, _ => by simp at e
  | _ :: _, _, [], _, _, _, _, e, _ => by simp at e
theorem Rep.unwipe {ρ fo : List O} {σ fv : List (Option V)} (R : Rep K M H (ρ ++ fo) (σ ++ fv)) (l : σ.length = ρ.length) {vs : List Nat} (ok : okW ρ vs = true) (s : Same M M') {fo' : List O} {fv' : List (Option V)}
    (R' : Rep K M' H' (wipeO ρ vs ++ fo') (L2.wipe σ vs ++ fv')) : Rep K M' H' (ρ ++ fo') (σ ++ fv') := by
  obtain ⟨sm, fp, w, nd, nm⟩ := R'
  obtain ⟨fa, fb, e1, w1, w2⟩ := w.split (by rw [wipe_length, wipeO_length]; exact l)
  obtain ⟨f', sb, w3⟩ := w1.restore (ρ := ρ) (σ := σ) (wipeO_length _ _) l fun j => by
    by_cases hj : j ∈ vs
    · unfold okW at ok
      rw [List.all_eq_true] at ok
      have := ok j hj
      cases q : ρ[j]? with
      | none =>
        left
        have hl := List.getElem?_eq_none_iff.mp q
        exact ⟨List.getElem?_eq_none (by rw [wipeO_length]; exact hl), by rw [List.getElem?_eq_none (by rw [wipe_length]; omega), List.getElem?_eq_none (by omega)]⟩
      | some o =>
        rw [q] at this
        cases o with
        | unk => exact .inr (.inr rfl)
        | dat d =>
          obtain ⟨x, ex, dx⟩ := R.slot l q
          exact .inr (.inl ⟨d, x, rfl, ex, dx.mono s⟩)
        | lst _ => cases this
        | tup _ => cases this
        | dic _ _ => cases this
        | obj _ _ _ => cases this
        | raw _ => cases this
        | dicT _ _ _ => cases this
    · exact .inl ⟨wipeO_out hj, wipe_out hj⟩
  subst e1
  refine ⟨sm, f' ++ fb, w3.append w2, nd.sublist (List.Sublist.append sb (List.Sublist.refl _)), fun a ha => nm a ?_⟩
  rcases List.mem_append.mp ha with ha | ha
  · exact List.mem_append_left _ (sb.subset ha)
  · exact List.mem_append_right _ ha
end

def comp (g : D → Ev → Option Ev) (t : Ev → Option Bool) (f : Ev → Option D) (ρ : Ev) : List D → Option (List D)
  | [] => some []
  | d :: ds => (g d ρ).bind fun ρ1 => (t ρ1).bind fun b => if b = true then (f ρ1).bind fun y => (comp g t f ρ ds).map (y :: ·) else comp g t f ρ ds
def yes (_ : Ev) : Option Bool := some true
def lcO (fi : Ev → Option (List D)) (g : D → Ev → Option Ev) (t : Ev → Option Bool) (f : Ev → Option D) (vs : List Nat) (ρ : Ev) : Option O := if okW ρ vs = true then
  (fi ρ).bind fun ds => (comp g t f (wipeO ρ vs) ds).bind fun ys => if ys.length ≤ sizeLine then some (.lst (ys.map .dat)) else none else none
def lcD (fi : Ev → Option (List D)) (g : D → Ev → Option Ev) (t : Ev → Option Bool) (f : Ev → Option D) (vs : List Nat) (ρ : Ev) : Option D := if okW ρ vs = true then
  (fi ρ).bind fun ds => (comp g t f (wipeO ρ vs) ds).bind fun ys => if ys.length ≤ sizeLine then some (.lst ys) else none else none
theorem toDs_dat : ∀ ys : List D, O.toDs (ys.map .dat) = some ys
  | [] => rfl
  | y :: ys => by
    show (match O.toD (.dat y), O.toDs (ys.map .dat) with | some d, some ds => some (d :: ds) | _, _ => none) = _
    rw [toDs_dat ys]
    rfl
section
variable {X : Cx} {W : WX} {J : List Nat} {pos : Pos} {tg iter elt : Expr} {ifs : List Expr} {scope : Scope} {own : List (Str × Nat)} {fi : Ev → Option (List D)} {is kn : List Nat} {g : D → Ev → Option Ev} {t : Ev → Option Bool} {f : Ev → Option D}
theorem tYes_of {K : PySem.W.Frag} {σ : L2.St} {H : Hp} {Q : Bool → Hp → Prop} (h : tT K yes σ H Q) : tYes σ H Q := by
  obtain ⟨M, ρ, fo, fv, b, R, l, e, k⟩ := h
  cases e
  exact k M H (Same.refl _) R
theorem ptsNil : PTs X [] (tT X.K yes) := ⟨fun p s σ H Q I h => pts_nil.run p s σ H Q I (tYes_of h)⟩
theorem ptsOne {c : Expr} (h : PT X c (tT X.K t)) : PTs X [c] (tT X.K t) := pts_one h
theorem lc_of {K : PySem.W.Frag} {vs kn : List Nat} (ok : TgOk is g) (hv : ∀ i ∈ is, i ∈ vs) (hkn : ∀ ρ ds, fi ρ = some ds → ∀ k ∈ kn, k < ρ.length) (hkv : ∀ k ∈ kn, k ∉ vs) {σ : L2.St} {H : Hp} {Q : VK} (h : tO K (lcO fi g t f vs) σ H Q) : tLc (tI K kn fi) (tG K is g) (tT K t) (tP K f) vs σ H Q := by
  obtain ⟨M, ρ, fo, fv, o, R, l, e, k⟩ := h
  unfold lcO at e
  by_cases hw : okW ρ vs = true
  · rw [if_pos hw] at e
    cases q : fi ρ with
    | none => rw [q] at e; cases e
    | some ds =>
      rw [q, Option.bind_some] at e
      cases q2 : comp g t f (wipeO ρ vs) ds with
      | none => rw [q2] at e; cases e
      | some ys =>
        rw [q2, Option.bind_some] at e
        by_cases hz : ys.length ≤ sizeLine
        · rw [if_pos hz] at e
          cases e
          refine ⟨M, ρ, fo, fv, ds, R, l, q, fun M0 H0 J s0 R0 y DD hD => ?_⟩
          have lw : (L2.wipe σ vs).length = (wipeO ρ vs).length := by rw [wipe_length, wipeO_length]; exact l
          refine ⟨fun i m H => m = ds.length - i ∧ i ≤ ds.length ∧ ∃ M1 acc rest, Same M0 M1 ∧ Rep K M1 H (wipeO ρ vs ++ .lst (acc.map .dat) :: fo) (L2.wipe σ vs ++ some (.ref DD) :: fv) ∧ comp g t f (wipeO ρ vs) (ds.drop i) = some rest ∧ ys = acc ++ rest,
            ⟨ds.length, by omega, Nat.zero_le _, M0, [], ys, Same.refl _, (R0.newL l hD .nil).wipe l vs, by simpa using q2, rfl⟩, ?_⟩
          rintro i m H ⟨rfl, hi, M1, acc, rest, s1, R1, e1, ey⟩
          obtain ⟨go, stop, yl⟩ := y i M1 H _ _ s1 R1 (fun r hr => by
            obtain ⟨k, hk, rfl⟩ := List.mem_map.mp hr
            have h1 := hkn ρ ds q k hk
            have h2 := hkv k hk
            refine List.mem_of_getElem? (i := k) ?_
            have a1 : (wipeO ρ vs)[k]? = some (ρ.getD k .unk) := by rw [wipeO_out h2, List.getElem?_eq_getElem h1, List.getD_eq_getElem?_getD, List.getElem?_eq_getElem h1]; rfl
            have a2 : (L2.wipe σ vs)[k]? = some (σ.getD k none) := by rw [wipe_out h2, List.getElem?_eq_getElem (by omega), List.getD_eq_getElem?_getD, List.getElem?_eq_getElem (by omega)]; rfl
            rw [List.getElem?_zip_eq_some]
            exact ⟨by rw [List.getElem?_append_left (by rw [wipeO_length]; exact h1)]; exact a1, by rw [List.getElem?_append_left (by rw [wipe_length]; omega)]; exact a2⟩)
          by_cases hlt : i < ds.length
          · have ed : ds.drop i = ds[i] :: ds.drop (i + 1) := List.drop_eq_getElem_cons hlt
            rw [ed] at e1
            unfold comp at e1
            cases q3 : g ds[i] (wipeO ρ vs) with
            | none => rw [q3] at e1; cases e1
            | some ρ2 =>
              rw [q3, Option.bind_some] at e1
              cases q4 : t ρ2 with
              | none => rw [q4] at e1; cases e1
              | some b =>
                rw [q4, Option.bind_some] at e1
                refine .inr ⟨go hlt, fun H' => ∃ M1 acc rest, Same M0 M1 ∧ Rep K M1 H' (wipeO ρ vs ++ .lst (acc.map .dat) :: fo) (L2.wipe σ vs ++ some (.ref DD) :: fv) ∧ comp g t f (wipeO ρ vs) (ds.drop (i + 1)) = some rest ∧ ys = acc ++ rest,
                  fun H' h => ⟨ds.length - (i + 1), by omega, rfl, hlt, h⟩, fun x H' hy => ?_⟩
                obtain ⟨M2, s2, R2, d2⟩ := yl ds[i] (List.getElem?_eq_getElem hlt) x H' hy
                refine ⟨M2, wipeO ρ vs, .lst (acc.map .dat) :: fo, some (.ref DD) :: fv, ds[i], ρ2, R2, lw, d2, q3, fun σ3 a3 l3 r3 R3 => ?_⟩
                have ew : L2.wipe σ3 vs = L2.wipe σ vs := by
                  refine wipe_ext (by rw [l3, wipe_length]) fun j hj => ?_
                  rw [a3 j fun z => hj (hv j z), wipe_out hj]
                have er : wipeO ρ2 vs = wipeO ρ vs := by
                  refine wipeO_ext (by rw [r3, wipeO_length]) fun j hj => ?_
                  rw [ok.out _ _ _ q3 j fun z => hj (hv j z), wipeO_out hj]
                have l23 : σ3.length = ρ2.length := by omega
                refine ⟨ew, M2, ρ2, .lst (acc.map .dat) :: fo, some (.ref DD) :: fv, b, R3, l23, q4, fun M4 H4 s4 R4 => ?_⟩
                cases b with
                | false =>
                  refine iteF ⟨M4, acc, rest, s1.trans (s2.trans s4), ?_, e1, ey⟩
                  have := R4.wipe l23 vs
                  rw [ew, er] at this
                  exact this
                | true =>
                  rw [if_pos rfl] at e1
                  cases q5 : f ρ2 with
                  | none => rw [q5] at e1; cases e1
                  | some z =>
                    rw [q5, Option.bind_some] at e1
                    cases q6 : comp g t f (wipeO ρ vs) (ds.drop (i + 1)) with
                    | none => rw [q6] at e1; cases e1
                    | some rest2 =>
                      rw [q6] at e1
                      cases e1
                      refine iteT ⟨M4, ρ2, .lst (acc.map .dat) :: fo, some (.ref DD) :: fv, z, R4, l23, q5, fun M5 H5 v5 s5 R5 d5 => ?_⟩
                      have R5' : Rep K M5 H5 ((ρ2 ++ [.lst (acc.map .dat)]) ++ fo) ((σ3 ++ [some (.ref DD)]) ++ fv) := by simpa using R5
                      obtain ⟨a, xs, ea, ha, hl, up⟩ := R5'.ownL (by simp [l23]) (i := ρ2.length) (os := acc.map .dat) (by simp)
                      have : a = DD := by rw [List.getElem?_append_right (by omega)] at ea; simp [l23] at ea; exact ea.symm
                      subst this
                      refine ⟨xs, ha, by rw [hl, List.length_map]; rw [ey] at hz; simp at hz; omega, M5, acc ++ [z], rest2, s1.trans (s2.trans (s4.trans s5)), ?_, rfl, by rw [ey]; simp⟩
                      have R6 := up v5 z d5
                      rw [List.set_append_right _ _ (by omega)] at R6
                      simp only [Nat.sub_self, List.set_cons_zero, List.append_assoc, List.cons_append, List.nil_append] at R6
                      have R7 := R6.wipe l23 vs
                      rw [ew, er] at R7
                      simpa using R7
          · have ei : i = ds.length := by omega
            rw [ei, List.drop_length] at e1
            cases e1
            rw [List.append_nil] at ey
            subst ey
            exact .inl ⟨stop ei, k M1 H _ (s0.trans s1) (R0.unwipe l hw s1 R1)⟩
        · rw [if_neg hz] at e; cases e
  · rw [if_neg hw] at e; cases e
theorem oLc (own : List (Str × Nat)) (hc : X.calm = true) (hN : X.N.Nodup) (hi : PI X tg iter (tI X.K kn fi)) (bo : BlkOk X.N X.env.scope scope own)
    (hg : ∀ (s : Shared) (H : Hp) (C : Addr) (cl : List (Str × Addr)) (fp : List Addr), PG (X.blk s H scope (compEnvC scope cl C X.env) fp) tg (tG X.K is g)) (ht : ∀ (s : Shared) (H : Hp) (C : Addr) (cl : List (Str × Addr)) (fp : List Addr), PTs (X.blk s H scope (compEnvC scope cl C X.env) fp) ifs (tT X.K t))
    (he : ∀ (s : Shared) (H : Hp) (C : Addr) (cl : List (Str × Addr)) (fp : List Addr), PE (X.blk s H scope (compEnvC scope cl C X.env) fp) elt (tP X.K f)) (ok : TgOk is g) (hv : ∀ i ∈ is, i ∈ own.map (·.2) := by decide) (hkn : ∀ ρ ds, fi ρ = some ds → ∀ k ∈ kn, k < ρ.length := by intro _ _ _ _ hk; cases hk) (hkv : ∀ k ∈ kn, k ∉ own.map (·.2) := by decide) (hs : ∀ x, foldedSetIterable iter X.env x = pure x := by intro _; rfl) :
    PE X (.ListComp elt [⟨tg, iter, ifs, 0⟩] scope pos) (tO X.K (lcO fi g t f (own.map (·.2)))) := PE.imp (pe_lc hc hN hi bo hg ht he hs) fun _ _ _ h => lc_of ok hv hkn hkv h
theorem lcD_eq (ρ : Ev) (vs : List Nat) : frz (lcO fi g t f vs) ρ = lcD fi g t f vs ρ := by
  unfold frz lcO lcD
  by_cases hw : okW ρ vs = true
  · rw [if_pos hw, if_pos hw]
    cases q : fi ρ with
    | none => rfl
    | some ds =>
      rw [Option.bind_some, Option.bind_some]
      cases q2 : comp g t f (wipeO ρ vs) ds with
      | none => rfl
      | some ys =>
        rw [Option.bind_some, Option.bind_some]
        by_cases hz : ys.length ≤ sizeLine
        · rw [if_pos hz, if_pos hz]
          show (O.toDs (ys.map .dat)).map D.lst = _
          rw [toDs_dat]
          rfl
        · rw [if_neg hz, if_neg hz]; rfl
  · rw [if_neg hw, if_neg hw]; rfl
theorem pLc (own : List (Str × Nat)) (hc : X.calm = true) (hN : X.N.Nodup) (hi : PI X tg iter (tI X.K kn fi)) (bo : BlkOk X.N X.env.scope scope own)
    (hg : ∀ (s : Shared) (H : Hp) (C : Addr) (cl : List (Str × Addr)) (fp : List Addr), PG (X.blk s H scope (compEnvC scope cl C X.env) fp) tg (tG X.K is g)) (ht : ∀ (s : Shared) (H : Hp) (C : Addr) (cl : List (Str × Addr)) (fp : List Addr), PTs (X.blk s H scope (compEnvC scope cl C X.env) fp) ifs (tT X.K t))
    (he : ∀ (s : Shared) (H : Hp) (C : Addr) (cl : List (Str × Addr)) (fp : List Addr), PE (X.blk s H scope (compEnvC scope cl C X.env) fp) elt (tP X.K f)) (ok : TgOk is g) (hv : ∀ i ∈ is, i ∈ own.map (·.2) := by decide) (hkn : ∀ ρ ds, fi ρ = some ds → ∀ k ∈ kn, k < ρ.length := by intro _ _ _ _ hk; cases hk) (hkv : ∀ k ∈ kn, k ∉ own.map (·.2) := by decide) (hs : ∀ x, foldedSetIterable iter X.env x = pure x := by intro _; rfl) :
    PE X (.ListComp elt [⟨tg, iter, ifs, 0⟩] scope pos) (tP X.K (lcD fi g t f (own.map (·.2)))) := by
  have h := pO (oLc (pos := pos) own hc hN hi bo hg ht he ok hv hkn hkv hs)
  rw [show frz (lcO fi g t f (own.map (·.2))) = lcD fi g t f (own.map (·.2)) from funext fun ρ => lcD_eq ρ _] at h
  exact h
end

/-! ### defs -/
inductive Rz where
  | ok (o : O) | ex (x : Exn)
/-- the promise of a def that changes nothing -/
def spX (K : PySem.W.Frag) (n : Nat) (m : List D → Option Rz) : Sp := fun vs H Q E => ∃ M fo fv ds r, vs.length = n ∧ Rep K M H fo fv ∧ Dvs K M vs ds ∧ m ds = some r ∧ match r with
  | .ok o => ∀ M' H' v, Same M M' → Rep K M' H' (o :: fo) (some v :: fv) → Q v H'
  | .ex x => ∀ M' H' cls d, Same M M' → Rep K M' H' fo fv → ExR K M' x cls d → E cls d H'
/-- .. that raises nothing and gives a frozen thing -/
def spP (K : PySem.W.Frag) (n : Nat) (m : List D → Option D) : Sp := fun vs H Q _ => vs.length = n ∧ rDs K m vs H Q
/-- .. that raises nothing and gives a new thing -/
def spO (K : PySem.W.Frag) (n : Nat) (m : List D → Option O) : Sp := fun vs H Q _ => vs.length = n ∧ rOs K m vs H Q
def env0 (n : Nat) (ds : List D) : Ev := ds.map .dat ++ List.replicate (n - ds.length) .unk
def outO (r : Fl) : Option O := match r with
  | .nx _ => some (.dat .non)
  | .rt o _ => some o
  | _ => none
def outX (r : Fl) : Option Rz := match r with
  | .nx _ => some (.ok (.dat .non))
  | .rt o _ => some (.ok o)
  | .ex x _ => some (.ex x)
  | _ => none
def runO (n : Nat) (b : Ev → Option Fl) (ds : List D) : Option O := (b (env0 n ds)).bind outO
def runP (n : Nat) (b : Ev → Option Fl) (ds : List D) : Option D := (runO n b ds).bind O.toD
def runX (n : Nat) (b : Ev → Option Fl) (ds : List D) : Option Rz := (b (env0 n ds)).bind outX
section
variable {K : PySem.W.Frag} {M H : Hp}
theorem Rep.dropL {l r : List O} {lv rv : List (Option V)} (R : Rep K M H (l ++ r) (lv ++ rv)) (e : lv.length = l.length) : Rep K M H r rv := by
  obtain ⟨s, fp, w, nd, nm⟩ := R
  obtain ⟨fa, fb, e1, w1, w2⟩ := w.split e
  subst e1
  exact ⟨s, fb, w2, nd.sublist (List.sublist_append_right _ _), fun a ha => nm a (List.mem_append_right _ ha)⟩
theorem ows_unk : ∀ n : Nat, Ows K M H (List.replicate n O.unk) (List.replicate n none) []
  | 0 => .nil
  | n + 1 => by
    have := Ows.cons (Ow.unk (K := K) (M := M) (H := H) (v := none)) (ows_unk n)
    exact this
theorem Rep.enter {fo : List O} {fv : List (Option V)} {vs : List V} {ds : List D} {N : List Str} (R : Rep K M H fo fv) (d : Dvs K M vs ds) : Rep K M H (env0 N.length ds ++ fo) (L2.start N vs ++ fv) ∧ (L2.start N vs).length = (env0 N.length ds).length := by
  have hl := d.length
  refine ⟨?_, by simp [L2.start, env0, hl]⟩
  obtain ⟨s, fp, w, nd, nm⟩ := R
  refine ⟨s, ([] ++ []) ++ fp, ?_, by simpa using nd, fun a ha => nm a (by simpa using ha)⟩
  unfold env0 L2.start
  rw [hl]
  exact ((ows_dat d).append (ows_unk _)).append w
end
section
variable {P : Program} {w : World} {K : PySem.W.Frag} {mg : Str → Option Value} {base : Heap}
abbrev W0 : WX := fun _ _ _ _ => False
theorem fnO {x qual : Str} {st : Stmt} {f : Addr} {fd : FuncData} {N ps : List Str} {k : Nat} {b : Ev → Option Fl} (F : Fun K x qual st f fd) (S : FnScope N ps (defScope st))
    (hb : ∀ (cdv : Value) (A : Around) (outer : List Env) (s : Shared) (H : Hp) (E : XK), Room k (A.deeper (PyProof.Rows.envOfC qual (defScope st) s.heap.objs.size f cdv)) →
      PSs (cxOf CX0 P w K mg base N qual (defScope st) f cdv A outer s H E).nox (defBody st) (tS K W0 [] b)) : FnOk P w K mg base CX0 (k + 1) f fd ps (spO K ps.length (runO N.length b)) := by
  refine F.ok S (fun vs H Q E h => h.1) fun cdv A outer s H vs Q E hr h => ⟨_, hb cdv A outer s H E hr, ?_⟩
  obtain ⟨hl, M, fo, fv, ds, o, R, dv, e, k⟩ := h
  obtain ⟨R1, l1⟩ := R.enter (N := N) dv
  unfold runO at e
  cases q : b (env0 N.length ds) with
  | none => rw [q] at e; cases e
  | some r =>
    rw [q, Option.bind_some] at e
    refine ⟨M, _, fo, fv, r, L2.start N vs, R1, ⟨l1, fun _ z => nomatch z⟩, q, ?_⟩
    cases r with
    | nx ρ =>
      cases e
      exact fun M1 H1 σ1 s1 R1 l1 => k M1 H1 _ s1 ((R1.push l1.1 .non).dropL l1.1)
    | rt o' ρ =>
      cases e
      exact fun M1 H1 σ1 v s1 R1 l1 => k M1 H1 v s1 (R1.dropL l1.1)
    | bk ρ => cases e
    | ct ρ => cases e
    | ex x ρ => cases e
theorem spO_P {n : Nat} {b : Ev → Option Fl} {ps : List Str} {vs : List V} {H : Hp} {Q : VK} {E : XK} (h : spP K ps.length (runP n b) vs H Q E) : spO K ps.length (runO n b) vs H Q E := by
  obtain ⟨hl, M, fo, fv, ds, d, R, dv, e, k⟩ := h
  unfold runP at e
  cases q : runO n b ds with
  | none => rw [q] at e; cases e
  | some o =>
    rw [q, Option.bind_some] at e
    refine ⟨hl, M, fo, fv, ds, o, R, dv, q, fun M1 H1 v s1 R1 => ?_⟩
    obtain ⟨M2, s2, R2, d2⟩ := Rep.frz (l := []) (lv := []) R1 rfl rfl e
    exact k M2 H1 v (s1.trans s2) (Rep.drop (l := []) (lv := []) R2 rfl) d2
theorem fnP {x qual : Str} {st : Stmt} {f : Addr} {fd : FuncData} {N ps : List Str} {k : Nat} {b : Ev → Option Fl} (F : Fun K x qual st f fd) (S : FnScope N ps (defScope st))
    (hb : ∀ (cdv : Value) (A : Around) (outer : List Env) (s : Shared) (H : Hp) (E : XK), Room k (A.deeper (PyProof.Rows.envOfC qual (defScope st) s.heap.objs.size f cdv)) →
      PSs (cxOf CX0 P w K mg base N qual (defScope st) f cdv A outer s H E).nox (defBody st) (tS K W0 [] b)) : FnOk P w K mg base CX0 (k + 1) f fd ps (spP K ps.length (runP N.length b)) :=
  (fnO F S hb).imp fun vs H Q E h => spO_P h
end
end PD

namespace PD
open PySem PySem.Spec L2

/-! ### calls of defs -/
section
variable {X : Cx} {W : WX} {J : List Nat} {pos p : Pos} {a b : Expr} {e : Expr} {es : List Expr} {ga : Ev → Option (List D)} {k : Nat} {f : Addr} {fd : FuncData} {ps : List Str} {x : Str} {n : Nat}
theorem tCall_P {K : PySem.W.Frag} {m : List D → Option D} {ga : Ev → Option (List D)} {σ : L2.St} {H : Hp} {Q : VK} (h : tP K (cB ga fun ds => if ds.length = n then m ds else none) σ H Q) : tCall (spP K n m) [] E0 (tAr K ga) σ H Q := by
  obtain ⟨M, ρ, fo, fv, d, R, l, e, kk⟩ := h
  obtain ⟨ds, eg, ef⟩ := cB_some e
  refine ⟨M, ρ, fo, fv, ds, R, l, eg, fun M1 H1 vs s1 R1 d1 => ?_⟩
  split at ef
  · rename_i hl
    exact ⟨by rw [List.append_nil, d1.length]; exact hl, M1, ρ ++ fo, σ ++ fv, ds, d, R1, by rw [List.append_nil]; exact d1, ef, fun M2 H2 v s2 R2 d2 => kk M2 H2 v (s1.trans s2) R2 d2⟩
  · cases ef
def len? (n : Nat) (m : List D → Option D) (ds : List D) : Option D := if ds.length = n then m ds else none
/-- f(e, ..) -/
theorem pCall {m : List D → Option D} (F : FnOk X.prog X.w X.K X.mg X.base CX0 k f fd ps (spP X.K n m)) (hr : Room k X.A) (hm : X.mg x = some (.ref f)) (hk : PySem.W.keepIn X.K (.ref f) = true) (hb : Binds X.K fd ps []) (ha : PA X (e :: es) (tAr X.K ga)) (hg : Gl X x := by rfl)
    (hdb : (x == ("__debug__" : Str)) = false := by decide) (he : starEach (e :: es) X.env = (false, eval e X.env) :: starEach es X.env := by rfl) (hpl : (backTo pos (starEach es X.env)).any (·.1) = false := by rfl) : PE X (.Call (.Name x p) (e :: es) [] pos) (tP X.K (cB ga (len? n m))) :=
  PE.imp (pe_call F hr hg hm hk hb .nil pass0 ha hdb he hpl) fun _ _ _ h => tCall_P h
end

section
variable {X : Cx}
theorem OpR.imp {f : Value → Value → Sem Value} {r r' : R2} (h : OpR X f r) (i : ∀ x y H Q, r' x y H Q → r x y H Q) : OpR X f r' := fun p s σ H x y v u Q I rx ry w => h p s σ H x y v u Q I rx ry (i x y H Q w)
theorem UnR.imp {f : Value → Sem Value} {r r' : V → Hp → VK → Prop} (h : UnR X f r) (i : ∀ x H Q, r' x H Q → r x H Q) : UnR X f r' := fun p s σ H x v Q I rx w => h p s σ H x v Q I rx (i x H Q w)
theorem CallR.imp {f : Value} {r r' : List V → Hp → VK → Prop} (h : CallR X f r) (i : ∀ x H Q, r' x H Q → r x H Q) : CallR X f r' := fun p s σ H x v Q I rx w => h p s σ H x v Q I rx (i x H Q w)
theorem CallR.or {f : Value} {r r' : List V → Hp → VK → Prop} (h : CallR X f r) (h' : CallR X f r') : CallR X f (fun x H Q => r x H Q ∨ r' x H Q) := fun p s σ H x v Q I rx w => w.elim (h p s σ H x v Q I rx) (h' p s σ H x v Q I rx)
theorem IxR.imp {r r' : R2} (h : IxR X r) (i : ∀ x y H Q, r' x y H Q → r x y H Q) : IxR X r' := fun v sl p s σ H x y a b Q I rx ry w hs => h v sl p s σ H x y a b Q I rx ry (i x y H Q w) hs
theorem MtR.imp {id : String} {r r' : V → List V → Hp → VK → Prop} (h : MtR X id r) (i : ∀ x xs H Q, r' x xs H Q → r x xs H Q) : MtR X id r' := fun p s σ H x xs v us Q I rx rs w => h p s σ H x xs v us Q I rx rs (i x xs H Q w)
theorem SlR.imp {r r' : V → Option Int → Option Int → Hp → VK → Prop} (h : SlR X r) (i : ∀ x lo hi H Q, r' x lo hi H Q → r x lo hi H Q) : SlR X r' := fun p s σ H x v vl vu lo hi sl Q I rx hs pl pu w => h p s σ H x v vl vu lo hi sl Q I rx hs pl pu (i x lo hi H Q w)

/-! ### operators -/
/-- two ints -/
def i2 (C : Int → Int → Bool) (g : Int → Int → D) (x y : D) : Option D := match x, y with
  | .int i, .int j => if C i j = true then some (g i j) else none
  | _, _ => none
theorem i2_some {C : Int → Int → Bool} {g : Int → Int → D} {x y d : D} (h : i2 C g x y = some d) : ∃ i j, x = .int i ∧ y = .int j ∧ C i j = true ∧ d = g i j := by
  unfold i2 at h
  split at h
  · rename_i i j
    split at h
    · cases h; exact ⟨i, j, rfl, rfl, by assumption, rfl⟩
    · cases h
  · cases h
theorem op_i2 {f : Value → Value → Sem Value} {C : Int → Int → Prop} {Cb : Int → Int → Bool} {g : Int → Int → V} {gd : Int → Int → D} (h : OpR X f (rI C g)) (hC : ∀ i j, Cb i j = true → C i j) (hd : ∀ i j M, Dv X.K M (g i j) (gd i j)) : OpR X f (rD X.K (i2 Cb gd)) :=
  OpR.imp h fun x y H Q ⟨M, fo, fv, dx, dy, d, R, d1, d2, e, k⟩ => by
    obtain ⟨i, j, rfl, rfl, hc, rfl⟩ := i2_some e
    cases d1; cases d2
    exact ⟨i, j, rfl, rfl, hC i j hc, k M H _ (Same.refl _) R (hd i j M)⟩
theorem op_i20 {f : Value → Value → Sem Value} {g : Int → Int → V} {gd : Int → Int → D} (h : OpR X f (rI0 g)) (hd : ∀ i j M, Dv X.K M (g i j) (gd i j)) : OpR X f (rD X.K (i2 (fun _ _ => true) gd)) :=
  OpR.imp h fun x y H Q ⟨M, fo, fv, dx, dy, d, R, d1, d2, e, k⟩ => by
    obtain ⟨i, j, rfl, rfl, hc, rfl⟩ := i2_some e
    cases d1; cases d2
    exact ⟨i, j, rfl, rfl, k M H _ (Same.refl _) R (hd i j M)⟩
def s2 (C : Str → Str → Bool) (g : Str → Str → D) (x y : D) : Option D := match x, y with
  | .str i, .str j => if C i j = true then some (g i j) else none
  | _, _ => none
theorem s2_some {C : Str → Str → Bool} {g : Str → Str → D} {x y d : D} (h : s2 C g x y = some d) : ∃ i j, x = .str i ∧ y = .str j ∧ C i j = true ∧ d = g i j := by
  unfold s2 at h
  split at h
  · rename_i i j
    split at h
    · cases h; exact ⟨i, j, rfl, rfl, by assumption, rfl⟩
    · cases h
  · cases h
def orD (f g : D → D → Option D) (x y : D) : Option D := match f x y with
  | some d => some d
  | none => g x y
theorem op_orD {f : Value → Value → Sem Value} {g g' : D → D → Option D} (h : OpR X f (rD X.K g)) (h' : OpR X f (rD X.K g')) : OpR X f (rD X.K (orD g g')) := OpR.imp (h.or h') fun x y H Q ⟨M, fo, fv, dx, dy, d, R, d1, d2, e, k⟩ => by
  unfold orD at e
  split at e
  · rename_i q; cases e; exact .inl ⟨M, fo, fv, dx, dy, d, R, d1, d2, q, k⟩
  · exact .inr ⟨M, fo, fv, dx, dy, d, R, d1, d2, e, k⟩
abbrev addI : D → D → Option D := i2 (fun _ _ => true) fun i j => .int (i + j)
abbrev addS : D → D → Option D := s2 (fun i j => decide (i.length + j.length ≤ sizeLine)) fun i j => .str (i ++ j)
abbrev subI : D → D → Option D := i2 (fun _ _ => true) fun i j => .int (i - j)
def okMul (i j : Int) : Bool := decide ((-(2 ^ 64) < i ∧ i < 2 ^ 64) ∨ (-(2 ^ 64) < j ∧ j < 2 ^ 64))
abbrev mulI : D → D → Option D := i2 okMul fun i j => .int (i * j)
abbrev modI : D → D → Option D := i2 (fun _ j => decide (0 < j)) fun i j => .int (i % j)
abbrev divI : D → D → Option D := i2 (fun _ j => decide (0 < j ∧ j < 1073741824)) fun i j => .int (i / j)
abbrev powI : D → D → Option D := i2 (fun i j => decide (0 ≤ j ∧ j ≤ 1000000 ∧ i.natAbs < 2 ^ 64)) fun i j => .int (i ^ j.toNat)
theorem oAddI : OpR X (binaryOp .Add) (rD X.K addI) := op_i20 op_add fun _ _ _ => .int _
theorem oSub : OpR X (binaryOp .Sub) (rD X.K subI) := op_i20 op_sub fun _ _ _ => .int _
theorem oMul : OpR X (binaryOp .Mult) (rD X.K mulI) := op_i2 op_mul (fun i j h => by simpa [okMul, CMul] using h) fun _ _ _ => .int _
theorem oMod : OpR X (binaryOp .Mod) (rD X.K modI) := op_i2 op_mod (fun i j h => of_decide_eq_true h) fun _ _ _ => .int _
theorem oDiv : OpR X (binaryOp .FloorDiv) (rD X.K divI) := op_i2 op_fdiv (fun i j h => by simpa [CDiv] using h) fun _ _ _ => .int _
theorem oPow : OpR X (binaryOp .Pow) (rD X.K powI) := op_i2 op_pow (fun i j h => by simpa [CPow] using h) fun _ _ _ => .int _
theorem oAddS : OpR X (binaryOp .Add) (rD X.K addS) := OpR.imp op_add_str fun x y H Q ⟨M, fo, fv, dx, dy, d, R, d1, d2, e, k⟩ => by
  obtain ⟨i, j, rfl, rfl, hc, rfl⟩ := s2_some e
  cases d1; cases d2
  exact ⟨i, j, rfl, rfl, of_decide_eq_true hc, k M H _ (Same.refl _) R (.str _)⟩
abbrev addD : D → D → Option D := orD addI addS
theorem oAdd : OpR X (binaryOp .Add) (rD X.K addD) := op_orD oAddI oAddS
abbrev ltI : D → D → Option D := i2 (fun _ _ => true) fun i j => .bl (decide (i < j))
abbrev leI : D → D → Option D := i2 (fun _ _ => true) fun i j => .bl (decide (i ≤ j))
abbrev gtI : D → D → Option D := i2 (fun _ _ => true) fun i j => .bl (decide (j < i))
abbrev geI : D → D → Option D := i2 (fun _ _ => true) fun i j => .bl (decide (j ≤ i))
theorem oLt : OpR X (compareOp .Lt) (rD X.K ltI) := op_i20 op_lt fun _ _ _ => .bl _
theorem oLe : OpR X (compareOp .LtE) (rD X.K leI) := op_i20 op_le fun _ _ _ => .bl _
theorem oGt : OpR X (compareOp .Gt) (rD X.K gtI) := op_i20 op_gt fun _ _ _ => .bl _
theorem oGe : OpR X (compareOp .GtE) (rD X.K geI) := op_i20 op_ge fun _ _ _ => .bl _
/-- a < b < c -/
def chn (fa fb fc : Ev → Option D) (g h : D → D → Option D) (ρ : Ev) : Option D := (fa ρ).bind fun x => (fb ρ).bind fun y => (g x y).bind fun r => match r with
  | .bl true => (fc ρ).bind fun z => h y z
  | .bl false => some (.bl false)
  | _ => none
theorem chain_of {K : PySem.W.Frag} {fa fb fc : Ev → Option D} {g h : D → D → Option D} {σ : L2.St} {H : Hp} {Q : VK} (hh : tP K (chn fa fb fc g h) σ H Q) : tChain (rD K g) (rD K h) (tP K fa) (tP K fb) (tP K fc) σ H Q := by
  obtain ⟨M, ρ, fo, fv, d, R, l, e, k⟩ := hh
  unfold chn at e
  cases q1 : fa ρ with
  | none => rw [q1] at e; cases e
  | some x =>
    cases q2 : fb ρ with
    | none => rw [q1, Option.bind_some, q2] at e; cases e
    | some y =>
      rw [q1, Option.bind_some, q2, Option.bind_some] at e
      cases q3 : g x y with
      | none => rw [q3] at e; cases e
      | some r =>
        rw [q3, Option.bind_some] at e
        refine ⟨M, ρ, fo, fv, x, R, l, q1, fun M1 H1 v1 s1 R1 d1 => ⟨M1, ρ, fo, fv, y, R1, l, q2, fun M2 H2 v2 s2 R2 d2 => ⟨M2, ρ ++ fo, σ ++ fv, x, y, r, R2, d1.mono s2, d2, q3, fun M3 H3 v3 s3 R3 d3 => ?_⟩⟩⟩
        split at e
        · cases d3
          refine ⟨true, rfl, iteT ?_⟩
          cases q4 : fc ρ with
          | none => rw [q4] at e; cases e
          | some z =>
            rw [q4, Option.bind_some] at e
            exact ⟨M3, ρ, fo, fv, z, R3, l, q4, fun M4 H4 v4 s4 R4 d4 => ⟨M4, ρ ++ fo, σ ++ fv, y, z, d, R4, d2.mono (s3.trans s4), d4, e, fun M5 H5 v5 s5 R5 d5 => k M5 H5 v5 (s1.trans (s2.trans (s3.trans (s4.trans s5)))) R5 d5⟩⟩
        · cases d3
          cases e
          exact ⟨false, rfl, iteF (k M3 H3 _ (s1.trans (s2.trans s3)) R3 (.bl _))⟩
        · cases e
theorem tChain' {op op' : CmpOp} {a b c : Expr} {pos : Pos} {fa fb fc : Ev → Option D} {g h : D → D → Option D} (ho : OpR X (compareOp op) (rD X.K g)) (ho' : OpR X (compareOp op') (rD X.K h)) (ha : PE X a (tP X.K fa)) (hb : PE X b (tP X.K fb)) (hc : PE X c (tP X.K fc)) (hm : lastMarks [op, op'] [b, c] = false := by with_unfolding_all rfl) :
    PT X (.Compare a [op, op'] [b, c] pos) (tT X.K (asB (chn fa fb fc g h))) := PT.imp (pt_chain ho ho' ha hb hc hm) fun σ H Q ⟨M, ρ, fo, fv, b, R, l, e, k⟩ =>
  chain_of (K := X.K) (Q := fun x H' => ∃ k, x = .bl k ∧ Q k H') ⟨M, ρ, fo, fv, .bl b, R, l, asB_some e, fun M' H' v s R' dv => by cases dv; exact ⟨b, rfl, k M' H' s R'⟩⟩
end
end PD

namespace PD
open PySem PySem.Spec L2

abbrev kI (i : Int) : Ev → Option D := fun _ => some (.int i)
abbrev kS (x : Str) : Ev → Option D := fun _ => some (.str x)
abbrev kB (b : Bool) : Ev → Option D := fun _ => some (.bl b)
abbrev kN : Ev → Option D := fun _ => some .non
/-! ### data as PyData -/
mutual
def D.py : D → Option PyData
  | .non => some .none
  | .bl b => some (.bool b)
  | .int i => some (.int i)
  | .str x => some (.str x)
  | .lst xs => (D.pys xs).map .list
  | .tup xs => (D.pys xs).map .tuple
  | .dic _ _ => none
  | .obj _ _ _ => none
  | .exn _ _ _ _ _ => none
  | .tagM _ _ => none
  | .tagP _ _ => none
  | .dicT _ _ _ => none
def D.pys : List D → Option (List PyData)
  | [] => some []
  | d :: ds => match D.py d, D.pys ds with
    | some p, some ps => some (p :: ps)
    | _, _ => none
end
section
variable {K : PySem.W.Frag} {M : Hp}
mutual
theorem Dv.dp : ∀ {v : V} {d : D} {p : PyData}, Dv K M v d → d.py = some p → Dp K M v p
  | _, _, _, .non, e => by cases e; exact .non
  | _, _, _, .bl b, e => by cases e; exact .bl b
  | _, _, _, .int b, e => by cases e; exact .int b
  | _, _, _, .str b, e => by cases e; exact .str b
  | _, .lst ds, p, .lst h hs, e => by
    unfold D.py at e
    cases q : D.pys ds with
    | none => rw [q] at e; cases e
    | some ps => rw [q] at e; cases e; exact .lst h.toL (Dvs.dp hs q)
  | _, .tup ds, p, .tup h hs, e => by
    unfold D.py at e
    cases q : D.pys ds with
    | none => rw [q] at e; cases e
    | some ps => rw [q] at e; cases e; exact .tup h (Dvs.dp hs q)
  | _, .dic _ _, _, .dic _ _ _, e => by unfold D.py at e; cases e
  | _, .obj _ _ _, _, .obj _ _ _ _, e => by unfold D.py at e; cases e
  | _, _, _, .exn0, e => by unfold D.py at e; cases e
  | _, _, _, .exn1 _ _ _, e => by unfold D.py at e; cases e
  | _, _, _, .tagM _ _, e => by unfold D.py at e; cases e
  | _, _, _, .tagP _ _, e => by unfold D.py at e; cases e
  | _, _, _, .dicT _ _ _, e => by unfold D.py at e; cases e
theorem Dvs.dp : ∀ {vs : List V} {ds : List D} {ps : List PyData}, Dvs K M vs ds → D.pys ds = some ps → DpAll K M vs ps
  | _, _, _, .nil, e => by cases e; exact .nil
  | _, d :: ds, ps, .cons h hs, e => by
    unfold D.pys at e
    cases q : D.py d with
    | none => rw [q] at e; cases e
    | some p =>
      cases q2 : D.pys ds with
      | none => rw [q, q2] at e; cases e
      | some ps' => rw [q, q2] at e; cases e; exact .cons (Dv.dp h q) (Dvs.dp hs q2)
end
mutual
theorem dp_mono {M' : Hp} (s : Same M M') : ∀ {v : V} {p : PyData}, Dp K M v p → Dp K M' v p
  | _, _, .non => .non
  | _, _, .bl b => .bl b
  | _, _, .int i => .int i
  | _, _, .str x => .str x
  | _, _, .lst h hs => .lst (s.seq h) (dps_mono s hs)
  | _, _, .tup h hs => .tup (sqT_same s h) (dps_mono s hs)
theorem dps_mono {M' : Hp} (s : Same M M') : ∀ {vs : List V} {ps : List PyData}, DpAll K M vs ps → DpAll K M' vs ps
  | _, _, .nil => .nil
  | _, _, .cons h hs => .cons (dp_mono s h) (dps_mono s hs)
end
end
def eqvD (x y : D) : Option Bool := match x.py, y.py with
  | some p, some q => if SeqAt.shaped p = true ∧ SeqAt.shaped q = true then some (PyData.eqv p q) else none
  | _, _ => none
/-- == of two ints, two bools, two texts -/
def eqS : D → D → Option Bool
  | .int i, .int j => some (decide (i = j))
  | .bl i, .bl j => some (decide (i = j))
  | .str i, .str j => some (decide (i = j))
  | _, _ => none
def eqB (x y : D) : Option Bool := match eqS x y with
  | some b => some b
  | none => eqvD x y
def eqD (x y : D) : Option D := (eqB x y).map .bl
def neD (x y : D) : Option D := (eqB x y).map fun b => .bl (!b)
theorem eqS_some {K : PySem.W.Frag} {M : Hp} {v w : V} {x y : D} {b : Bool} (h : eqS x y = some b) (d1 : Dv K M v x) (d2 : Dv K M w y) : scal v w = true ∧ b = decide (v = w) := by
  unfold eqS at h
  split at h
  · cases h; cases d1; cases d2; exact ⟨rfl, by rw [dec_int, Bool.beq_eq_decide_eq]⟩
  · cases h; cases d1; cases d2; exact ⟨rfl, by rw [dec_bl, Bool.beq_eq_decide_eq]⟩
  · cases h; cases d1; cases d2; exact ⟨rfl, by rw [dec_str, Bool.beq_eq_decide_eq]⟩
  · cases h
theorem eqvD_some {x y : D} {b : Bool} (h : eqvD x y = some b) : ∃ p q, x.py = some p ∧ y.py = some q ∧ SeqAt.shaped p = true ∧ SeqAt.shaped q = true ∧ b = PyData.eqv p q := by
  unfold eqvD at h
  split at h
  · split at h
    · rename_i hs
      cases h
      exact ⟨_, _, by assumption, by assumption, hs.1, hs.2, rfl⟩
    · cases h
  · cases h
section
variable {X : Cx}
theorem oEq (hu : X.A.units + 64 < cLine) : OpR X (compareOp .Eq) (rD X.K eqD) := OpR.imp (op_eq.or (op_eqD hu)) fun x y H Q ⟨M, fo, fv, dx, dy, d, R, d1, d2, e, k⟩ => by
  unfold eqD eqB at e
  cases q0 : eqS dx dy with
  | some b =>
    rw [q0] at e
    cases e
    obtain ⟨s1, rfl⟩ := eqS_some q0 d1 d2
    exact .inl ⟨s1, k M H _ (Same.refl _) R (.bl _)⟩
  | none =>
    rw [q0] at e
    have e : (eqvD dx dy).map D.bl = some d := e
    cases q : eqvD dx dy with
    | none => rw [q] at e; cases e
    | some b =>
      rw [q] at e
      cases e
      obtain ⟨p, r, e1, e2, s1, s2, rfl⟩ := eqvD_some q
      exact .inr ⟨p, r, dp_mono R.same (d1.dp e1), dp_mono R.same (d2.dp e2), s1, s2, k M H _ (Same.refl _) R (.bl _)⟩
theorem oNe (hu : X.A.units + 64 < cLine) : OpR X (compareOp .NotEq) (rD X.K neD) := OpR.imp (op_ne.or (op_neD hu)) fun x y H Q ⟨M, fo, fv, dx, dy, d, R, d1, d2, e, k⟩ => by
  unfold neD eqB at e
  cases q0 : eqS dx dy with
  | some b =>
    rw [q0] at e
    cases e
    obtain ⟨s1, rfl⟩ := eqS_some q0 d1 d2
    exact .inl ⟨s1, k M H _ (Same.refl _) R (.bl _)⟩
  | none =>
    rw [q0] at e
    have e : (eqvD dx dy).map (fun b => D.bl (!b)) = some d := e
    cases q : eqvD dx dy with
    | none => rw [q] at e; cases e
    | some b =>
      rw [q] at e
      cases e
      obtain ⟨p, r, e1, e2, s1, s2, rfl⟩ := eqvD_some q
      exact .inr ⟨p, r, dp_mono R.same (d1.dp e1), dp_mono R.same (d2.dp e2), s1, s2, k M H _ (Same.refl _) R (.bl _)⟩
/-! ### in -/
def D.flat : D → Bool
  | .non => true
  | .bl _ => true
  | .int _ => true
  | .str _ => true
  | _ => false
/-- == of flat things -/
def D.same : D → D → Bool
  | .non, .non => true
  | .bl a, .bl b => a == b
  | .bl a, .int j => (if a then 1 else 0) == j
  | .int i, .bl b => i == (if b then 1 else 0)
  | .int i, .int j => i == j
  | .str x, .str y => x == y
  | _, _ => false
/-- the text i stands in j -/
def Txt.has (j i : Str) : Bool := !(Builtin.Str.occurrences j i 0 j.length 1).isEmpty
def inB (x y : D) : Option Bool := match y with
  | .str j => (match x with
    | .str i => some (Txt.has j i)
    | _ => none)
  | .lst ds => if x.flat && ds.all D.flat then some (ds.any fun z => z.same x) else none
  | .tup ds => if x.flat && ds.all D.flat then some (ds.any fun z => z.same x) else none
  | _ => none
def inD (x y : D) : Option D := (inB x y).map .bl
def ninD (x y : D) : Option D := (inB x y).map fun b => .bl (!b)
theorem flat_of {K : PySem.W.Frag} {M : Hp} {v : V} {d : D} (h : Dv K M v d) (f : d.flat = true) : flatV v = true := by
  cases h <;> first | rfl | cases f
theorem same_of {K : PySem.W.Frag} {M : Hp} {v w : V} {d e : D} (h : Dv K M v d) (h' : Dv K M w e) (f : d.flat = true) (f' : e.flat = true) : eqV v w = d.same e := by
  cases h <;> first | (cases f; done) | (cases h' <;> first | (cases f'; done) | rfl)
theorem flats_of {K : PySem.W.Frag} {M : Hp} : ∀ {vs : List V} {ds : List D}, Dvs K M vs ds → ds.all D.flat = true → vs.all flatV = true
  | _, _, .nil, _ => rfl
  | _, _, .cons h t, f => by
    rw [List.all_cons, Bool.and_eq_true] at f ⊢
    exact ⟨flat_of h f.1, flats_of t f.2⟩
theorem any_of {K : PySem.W.Frag} {M : Hp} {w : V} {e : D} (h' : Dv K M w e) (f' : e.flat = true) : ∀ {vs : List V} {ds : List D}, Dvs K M vs ds → ds.all D.flat = true → inV w vs = ds.any fun z => z.same e
  | _, _, .nil, _ => rfl
  | _, _, .cons h t, f => by
    rw [List.all_cons, Bool.and_eq_true] at f
    unfold inV
    rw [List.any_cons, List.any_cons, same_of h h' f.1 f']
    have := any_of h' f' t f.2
    unfold inV at this
    rw [this]
theorem in_of {neg : Bool} {x y : V} {H : Hp} {Q : VK} {M : Hp} {fo : List O} {fv : List (Option V)} {dx dy : D} {b : Bool} (R : Rep X.K M H fo fv) (d1 : Dv X.K M x dx) (d2 : Dv X.K M y dy) (e : inB dx dy = some b) (k : Q (.bl (if neg then !b else b)) H) :
    rIn X.K neg x y H Q ∨ (∃ i j, x = .str i ∧ y = .str j ∧ Q (.bl (if neg then !(!(Builtin.Str.occurrences j i 0 j.length 1).isEmpty) else (!(Builtin.Str.occurrences j i 0 j.length 1).isEmpty))) H) := by
  unfold inB at e
  cases d2 with
  | str j =>
    cases d1 with
    | str i => cases e; exact .inr ⟨i, j, rfl, rfl, k⟩
    | _ => cases e
  | lst h hs =>
    simp only at e
    split at e
    · rename_i hf
      rw [Bool.and_eq_true] at hf
      cases e
      refine .inl ⟨_, _, rfl, .inl (seqX R.same h), flat_of d1 hf.1, flats_of hs hf.2, ?_⟩
      rw [any_of d1 hf.1 hs hf.2]
      exact k
    · cases e
  | tup h hs =>
    simp only at e
    split at e
    · rename_i hf
      rw [Bool.and_eq_true] at hf
      cases e
      refine .inl ⟨_, _, rfl, .inr (sqT_same R.same h), flat_of d1 hf.1, flats_of hs hf.2, ?_⟩
      rw [any_of d1 hf.1 hs hf.2]
      exact k
    · cases e
  | _ => cases e
theorem oNotIn : OpR X (compareOp .NotIn) (rD X.K ninD) := OpR.imp (op_notIn_seq.or op_notin_str) fun x y H Q ⟨M, fo, fv, dx, dy, d, R, d1, d2, e, k⟩ => by
  unfold ninD at e
  cases q : inB dx dy with
  | none => rw [q] at e; cases e
  | some b =>
    rw [q] at e
    cases e
    exact in_of (neg := true) R d1 d2 q (k M H _ (Same.refl _) R (.bl _))
/-! ### is None -/
def D.isN : D → Bool
  | .non => true
  | .tagM _ d => d.isN
  | .tagP _ d => d.isN
  | _ => false
def isN (x y : D) : Option D := match y with
  | .non => some (.bl x.isN)
  | _ => none
def notN (x y : D) : Option D := match y with
  | .non => some (.bl (!x.isN))
  | _ => none
theorem isN_of {K : PySem.W.Frag} {M : Hp} : ∀ {v : V} {d : D}, Dv K M v d → decide (v = .non) = d.isN
  | _, _, .non => rfl
  | _, _, .bl b => decide_eq_false (fun z => nomatch z)
  | _, _, .int b => decide_eq_false (fun z => nomatch z)
  | _, _, .str b => decide_eq_false (fun z => nomatch z)
  | _, _, .lst _ _ => decide_eq_false (fun z => nomatch z)
  | _, _, .tup _ _ => decide_eq_false (fun z => nomatch z)
  | _, _, .dic _ _ _ => decide_eq_false (fun z => nomatch z)
  | _, _, .obj _ _ _ _ => decide_eq_false (fun z => nomatch z)
  | _, _, .exn0 => decide_eq_false (fun z => nomatch z)
  | _, _, .exn1 _ _ _ => decide_eq_false (fun z => nomatch z)
  | _, .tagM _ d, .tagM _ h => isN_of (d := d) h
  | _, .tagP _ d, .tagP _ h => isN_of (d := d) h
  | _, _, .dicT _ _ _ => decide_eq_false (fun z => nomatch z)
theorem oIs : OpR X (compareOp .Is) (rD X.K isN) := OpR.imp op_isN fun x y H Q ⟨M, fo, fv, dx, dy, d, R, d1, d2, e, k⟩ => by
  unfold isN at e
  split at e
  · cases e
    cases d2
    refine ⟨rfl, ?_⟩
    rw [isN_of d1]
    exact k M H _ (Same.refl _) R (.bl _)
  · cases e
theorem oIsNot : OpR X (compareOp .IsNot) (rD X.K notN) := OpR.imp op_notN fun x y H Q ⟨M, fo, fv, dx, dy, d, R, d1, d2, e, k⟩ => by
  unfold notN at e
  split at e
  · cases e
    cases d2
    refine ⟨rfl, ?_⟩
    rw [isN_of d1]
    exact k M H _ (Same.refl _) R (.bl _)
  · cases e
/-! ### -x -/
def negI : D → Option D
  | .int i => some (.int (-i))
  | _ => none
theorem oNeg : UnR X (unaryOp .USub) (rD1 X.K negI) := UnR.imp un_neg fun x H Q ⟨M, fo, fv, dx, d, R, d1, e, k⟩ => by
  unfold negI at e
  split at e
  · cases e; cases d1; exact ⟨_, rfl, k M H _ (Same.refl _) R (.int _)⟩
  · cases e
/-! ### built-ins -/
def lenD : List D → Option D
  | [.lst ds] => some (.int ds.length)
  | [.tup ds] => some (.int ds.length)
  | [.str z] => if z.length ≤ sizeLine then some (.int z.length) else none
  | [.dic ks _] => some (.int ks.length)
  | _ => none
theorem one_of {K : PySem.W.Frag} {M : Hp} {vs : List V} {d : D} (h : Dvs K M vs [d]) : ∃ v, vs = [v] ∧ Dv K M v d := by
  cases h with
  | cons h t => cases t; exact ⟨_, rfl, h⟩
theorem two_of {K : PySem.W.Frag} {M : Hp} {vs : List V} {d e : D} (h : Dvs K M vs [d, e]) : ∃ v w, vs = [v, w] ∧ Dv K M v d ∧ Dv K M w e := by
  cases h with
  | cons h t =>
    obtain ⟨w, rfl, h'⟩ := one_of t
    exact ⟨_, _, rfl, h, h'⟩
theorem call_lenR : CallR X (.builtin "len") (fun xs H Q => ∃ a kvs, xs = [V.ref a] ∧ Rd H a (.dK kvs) ∧ Q (.int kvs.length) H) := by
  intro pins s σ H xs us Q I r h
  obtain ⟨a, kvs, rfl, ha, q⟩ := h
  rw [Vals.ref1 r]
  exact d_len I ha fun t s' I' => ⟨.int kvs.length, H, I', ⟨t, rfl⟩, q⟩
theorem cLen : CallR X (.builtin "len") (rDs X.K lenD) := CallR.imp ((call_len_seq.or call_len_str).or call_lenR) fun xs H Q ⟨M, fo, fv, ds, d, R, dv, e, k⟩ => by
  unfold lenD at e
  split at e
  · obtain ⟨v, rfl, dw⟩ := one_of dv; clear dv
    cases e
    cases dw with
    | lst h hs => exact .inl (.inl ⟨_, _, rfl, .inl (seqX R.same h), by rw [hs.length]; exact k M H _ (Same.refl _) R (.int _)⟩)
  · obtain ⟨v, rfl, dw⟩ := one_of dv; clear dv
    cases e
    cases dw with
    | tup h hs => exact .inl (.inl ⟨_, _, rfl, .inr (sqT_same R.same h), by rw [hs.length]; exact k M H _ (Same.refl _) R (.int _)⟩)
  · obtain ⟨v, rfl, dw⟩ := one_of dv; clear dv
    split at e
    · cases e
      cases dw
      exact .inl (.inr ⟨_, rfl, by assumption, k M H _ (Same.refl _) R (.int _)⟩)
    · cases e
  · obtain ⟨v, rfl, dw⟩ := one_of dv; clear dv
    cases e
    cases dw with
    | dic h hk hs =>
      refine .inr ⟨_, _, rfl, Rd.up R.same h, ?_⟩
      have := k M H _ (Same.refl _) R (.int _)
      rw [← hk, List.length_map] at this
      exact this
  · cases e
def intD : List D → Option D
  | [.int i] => some (.int i)
  | [.bl b] => some (.int (if b then 1 else 0))
  | _ => none
theorem cInt : CallR X (.type "int") (rDs X.K intD) := CallR.imp call_int1 fun xs H Q ⟨M, fo, fv, ds, d, R, dv, e, k⟩ => by
  unfold intD at e
  split at e
  · obtain ⟨v, rfl, dw⟩ := one_of dv; clear dv
    cases e; cases dw
    exact .inl ⟨_, rfl, k M H _ (Same.refl _) R (.int _)⟩
  · obtain ⟨v, rfl, dw⟩ := one_of dv; clear dv
    cases e; cases dw
    exact .inr ⟨_, rfl, k M H _ (Same.refl _) R (.int _)⟩
  · cases e
def max2 : List D → Option D
  | [.int i, .int j] => some (.int (if j > i then j else i))
  | _ => none
def min2 : List D → Option D
  | [.int i, .int j] => some (.int (if j < i then j else i))
  | _ => none
theorem cMax2 (hc : X.calm = true) : CallR X (.builtin "max") (rDs X.K max2) := CallR.imp (call_max2 hc) fun xs H Q ⟨M, fo, fv, ds, d, R, dv, e, k⟩ => by
  unfold max2 at e
  split at e
  · obtain ⟨v, w, rfl, d1, d2⟩ := two_of dv
    cases e; cases d1; cases d2
    exact ⟨_, _, rfl, k M H _ (Same.refl _) R (.int _)⟩
  · cases e
theorem cMin2 (hc : X.calm = true) : CallR X (.builtin "min") (rDs X.K min2) := CallR.imp (call_min2 hc) fun xs H Q ⟨M, fo, fv, ds, d, R, dv, e, k⟩ => by
  unfold min2 at e
  split at e
  · obtain ⟨v, w, rfl, d1, d2⟩ := two_of dv
    cases e; cases d1; cases d2
    exact ⟨_, _, rfl, k M H _ (Same.refl _) R (.int _)⟩
  · cases e
/-- a list of bools -/
def bls : List D → Option (List Bool)
  | [] => some []
  | .bl b :: r => (bls r).map (b :: ·)
  | _ => none
def allD : List D → Option D
  | [.lst ds] => (bls ds).map fun bs => .bl (bs.all id)
  | _ => none
theorem ints_dvs {K : PySem.W.Frag} {M : Hp} : ∀ ns : List Int, Dvs K M (ns.map .int) (ns.map .int)
  | [] => .nil
  | _ :: r => .cons (.int _) (ints_dvs r)
/-! ### items and slices -/
def ixD (x y : D) : Option D := match x, y with
  | .lst ds, .int i => atI ds i
  | .tup ds, .int i => atI ds i
  | .str z, .int i => if z.length ≤ sizeLine then (atI z.cps.toList i).map fun c => .str ⟨#[c]⟩ else none
  | _, _ => none
theorem atI_dvs {K : PySem.W.Frag} {M : Hp} {vs : List V} {ds : List D} {i : Int} {d : D} (h : Dvs K M vs ds) (e : atI ds i = some d) : ∃ v, atI vs i = some v ∧ Dv K M v d := by
  unfold atI at e ⊢
  rw [h.length]
  cases q : ixN ds.length i with
  | none => rw [q] at e; cases e
  | some j => rw [q, Option.bind_some] at e; obtain ⟨v, e1, e2⟩ := h.get e; exact ⟨v, by rw [Option.bind_some]; exact e1, e2⟩
theorem oIx : IxR X (rD X.K ixD) := IxR.imp ix_seq fun x y H Q ⟨M, fo, fv, dx, dy, d, R, d1, d2, e, k⟩ => by
  unfold ixD at e
  split at e
  · cases d2
    cases d1 with
    | lst h hs =>
      obtain ⟨v, e1, e2⟩ := atI_dvs hs e
      exact .inl ⟨_, _, _, v, rfl, rfl, seqX R.same h, e1, k M H _ (Same.refl _) R e2⟩
  · cases d2
    cases d1 with
    | tup h hs =>
      obtain ⟨v, e1, e2⟩ := atI_dvs hs e
      exact .inr (.inl ⟨_, _, _, v, rfl, rfl, sqT_same R.same h, e1, k M H _ (Same.refl _) R e2⟩)
  · rename_i z i
    cases d2
    cases d1
    split at e
    · cases q : atI z.cps.toList i with
      | none => rw [q] at e; cases e
      | some c =>
        rw [q] at e
        cases e
        exact .inr (.inr ⟨z, i, c, rfl, rfl, by assumption, q, k M H _ (Same.refl _) R (.str _)⟩)
    · cases e
  · cases e
/-- the items of xs[lo:hi] -/
def cutD {α : Type} (xs : List α) (lo hi : Option Int) : List α := (xs.drop (HT.sIx xs.length 0 lo)).take (HT.sIx xs.length xs.length hi - HT.sIx xs.length 0 lo)
def slD (x : D) (lo hi : Option Int) : Option D := match x with
  | .lst ds => some (.lst (cutD ds lo hi))
  | .str z => if z.length ≤ sizeLine then some (.str (cutS z lo hi)) else none
  | .tup ds => if HT.sIx ds.length 0 lo = 0 ∧ HT.sIx ds.length ds.length hi = ds.length then none else some (.tup (cutD ds lo hi))
  | _ => none
theorem cut_dvs {K : PySem.W.Frag} {M : Hp} {vs : List V} {ds : List D} {lo hi : Option Int} (h : Dvs K M vs ds) : Dvs K M (cutV vs lo hi) (cutD ds lo hi) := by
  unfold cutV cutD
  rw [h.length]
  exact (h.drop _).take _
def rDsl (K : PySem.W.Frag) (g : D → Option Int → Option Int → Option D) : V → Option Int → Option Int → Hp → VK → Prop := fun x lo hi H Q => ∃ M fo fv dx d, Rep K M H fo fv ∧ Dv K M x dx ∧ g dx lo hi = some d ∧
  ∀ M' H' v, Same M M' → Rep K M' H' fo fv → Dv K M' v d → Q v H'
theorem oSl : SlR X (rDsl X.K slD) := SlR.imp (sl_list.or (sl_str.or sl_tup)) fun x lo hi H Q ⟨M, fo, fv, dx, d, R, d1, e, k⟩ => by
  unfold slD at e
  split at e
  · cases e
    cases d1 with
    | lst h hs =>
      refine .inl ⟨_, _, rfl, seqX R.same h, fun p hp => ?_⟩
      have s := fun u => same_updM (u := u) (R.same.free hp)
      exact k _ _ _ (s _) (R.growM hp) (.lst (.inl (.inl upd_same)) ((cut_dvs hs).mono (s _)))
  · split at e
    · cases e
      cases d1
      exact .inr (.inl ⟨_, rfl, by assumption, k M H _ (Same.refl _) R (.str _)⟩)
    · cases e
  · split at e
    · cases e
    · rename_i hw
      cases e
      cases d1 with
      | tup h hs =>
        refine .inr (.inr ⟨_, _, rfl, sqT_same R.same h, by rw [hs.length]; exact hw, fun p hp => ?_⟩)
        have s := fun u => same_updM (u := u) (R.same.free hp)
        exact k _ _ _ (s _) (R.growM hp) (.tup (.inl (.inl upd_same)) ((cut_dvs hs).mono (s _)))
  · cases e
/-- a slice's part -/
def tPo (K : PySem.W.Frag) (f : Ev → Option (Option Int)) : TO := fun σ H Q => ∃ M ρ fo fv d, Rep K M H (ρ ++ fo) (σ ++ fv) ∧ σ.length = ρ.length ∧ f ρ = some d ∧ ∀ M' H', Same M M' → Rep K M' H' (ρ ++ fo) (σ ++ fv) → Q d H'
def noPart (_ : Ev) : Option (Option Int) := some none
def part (f : Ev → Option D) (ρ : Ev) : Option (Option Int) := match f ρ with
  | some (.int i) => some (some i)
  | _ => none
theorem poNone : PO X none (tPo X.K noPart) := ⟨fun p s σ H Q I ⟨M, ρ, fo, fv, d, R, l, e, k⟩ => by
  cases e
  exact po_none.run p s σ H Q I (k M H (Same.refl _) R)⟩
theorem poSome {e : Expr} {f : Ev → Option D} (h : PE X e (tP X.K f)) : PO X (some e) (tPo X.K (part f)) := ⟨fun p s σ H Q I ⟨M, ρ, fo, fv, d, R, l, e, k⟩ => by
  unfold part at e
  split at e
  · rename_i i q
    cases e
    exact (po_some h).run p s σ H Q I ⟨M, ρ, fo, fv, _, R, l, q, fun M1 H1 v s1 R1 d1 => by cases d1; exact ⟨i, rfl, k M1 H1 s1 R1⟩⟩
  · cases e⟩
def slc (f : Ev → Option D) (lo hi : Ev → Option (Option Int)) (ρ : Ev) : Option D := (f ρ).bind fun x => (lo ρ).bind fun a => (hi ρ).bind fun b => slD x a b
theorem pSl {e : Expr} {lo hi : Option Expr} {p2 pos : Pos} {f : Ev → Option D} {fl fh : Ev → Option (Option Int)} (he : PE X e (tP X.K f)) (hl : PO X lo (tPo X.K fl)) (hh : PO X hi (tPo X.K fh)) : PE X (.Subscript e (.Slice lo hi none p2) pos) (tP X.K (slc f fl fh)) :=
  PE.imp (pe_slice oSl he hl hh) fun σ H Q ⟨M, ρ, fo, fv, d, R, l, e, k⟩ => by
    unfold slc at e
    cases q1 : f ρ with
    | none => rw [q1] at e; cases e
    | some x =>
      cases q2 : fl ρ with
      | none => rw [q1, Option.bind_some, q2] at e; cases e
      | some a =>
        cases q3 : fh ρ with
        | none => rw [q1, Option.bind_some, q2, Option.bind_some, q3] at e; cases e
        | some b =>
          rw [q1, Option.bind_some, q2, Option.bind_some, q3, Option.bind_some] at e
          exact ⟨M, ρ, fo, fv, x, R, l, q1, fun M1 H1 v1 s1 R1 d1 => ⟨M1, ρ, fo, fv, a, R1, l, q2, fun M2 H2 s2 R2 => ⟨M2, ρ, fo, fv, b, R2, l, q3, fun M3 H3 s3 R3 =>
            ⟨M3, ρ ++ fo, σ ++ fv, x, d, R3, d1.mono (s2.trans s3), e, fun M4 H4 v s4 R4 d4 => k M4 H4 v (s1.trans (s2.trans (s3.trans s4))) R4 d4⟩⟩⟩⟩
/-! ### methods of texts -/
def m1 (f g : Ev → Option D) (h : D → List D → Option D) (ρ : Ev) : Option D := match f ρ with
  | some (.str z) => (g ρ).bind fun y => h (.str z) [y]
  | _ => none
/-- a list of texts -/
def strsD : List D → Option (List Str)
  | [] => some []
  | .str b :: r => (strsD r).map (b :: ·)
  | _ => none
theorem strs_some : ∀ {ds : List D} {bs : List Str}, strsD ds = some bs → ds = bs.map .str
  | [], _, e => by cases e; rfl
  | .str b :: r, bs, e => by
    unfold strsD at e
    cases q : strsD r with
    | none => rw [q] at e; cases e
    | some cs => rw [q] at e; cases e; rw [strs_some q]; rfl
  | .non :: _, _, e => by cases e
  | .int _ :: _, _, e => by cases e
  | .bl _ :: _, _, e => by cases e
  | .lst _ :: _, _, e => by cases e
  | .tup _ :: _, _, e => by cases e
  | .dic _ _ :: _, _, e => by cases e
  | .obj _ _ _ :: _, _, e => by cases e
  | .exn _ _ _ _ _ :: _, _, e => by cases e
theorem strs_map : ∀ bs : List Str, strsD (bs.map .str) = some bs
  | [] => rfl
  | b :: r => by
    show (strsD (r.map .str)).map (b :: ·) = _
    rw [strs_map r]; rfl
/-! ### isinstance(x, T), T a built-in type -/
def tyD : D → Option String
  | .non => some "NoneType"
  | .bl _ => some "bool"
  | .int _ => some "int"
  | .str _ => some "str"
  | .lst _ => some "list"
  | .tup _ => some "tuple"
  | .dic _ _ => some "dict"
  | _ => none
def isiD (T : String) (x : D) : Option D := (tyD x).bind fun t => (kitB t T).map .bl
theorem tyX_of {K : PySem.W.Frag} {M : Hp} {v : V} {d : D} {t : String} (h : Dv K M v d) (e : tyD d = some t) : TyX K M v (.type t) := by
  cases h with
  | non => cases e; exact .base .non
  | bl b => cases e; exact .base (.bl b)
  | int b => cases e; exact .base (.int b)
  | str b => cases e; exact .base (.str b)
  | lst h hs =>
    cases e
    rcases h with (h | ⟨o, h⟩) | ⟨its, n, lk, _⟩
    · exact .base (.lst h)
    · exact .base (.frz h)
    · exact .kList lk rfl
  | tup h hs =>
    cases e
    rcases h with (h | ⟨o, h⟩) | ⟨o, its, n, lk, c, _⟩
    · exact .base (.tup h)
    · exact .fTuple h
    · exact .kTuple lk c
  | dic h _ _ =>
    cases e
    rcases h with h | ⟨o, h⟩
    · exact .base (.dK h)
    · exact .fDict h
  | obj _ _ _ _ => cases e
  | exn0 => cases e
  | exn1 _ _ _ => cases e
  | tagM _ _ => cases e
  | tagP _ _ => cases e
  | dicT _ _ _ => cases e
theorem tyX_mono {K : PySem.W.Frag} {M H : Hp} {v : V} {t : Value} (s : Same M H) (h : TyX K M v t) : TyX K H v t := by
  cases h with
  | base b =>
    cases b with
    | non => exact .base .non
    | bl b => exact .base (.bl b)
    | int b => exact .base (.int b)
    | str b => exact .base (.str b)
    | flt b => exact .base (.flt b)
    | lst e => exact .base (.lst (s _ _ e))
    | frz e => exact .base (.frz (s _ _ e))
    | tup e => exact .base (.tup (s _ _ e))
    | dK e => exact .base (.dK (s _ _ e))
    | dT e => exact .base (.dT (s _ _ e))
    | ins e cl ha hn htk hm => exact .base (.ins (s _ _ e) cl ha hn htk hm)
  | byt b => exact .byt b
  | set e => exact .set (s _ _ e)
  | kList e c => exact .kList e c
  | kTuple e c => exact .kTuple e c
  | kDict e c => exact .kDict e c
  | fTuple e => exact .fTuple (s _ _ e)
  | fDict e => exact .fDict (s _ _ e)
theorem pIsi {a : Expr} {p q pos : Pos} {fa : Ev → Option D} {T : String} {y : Str} (ha : PE X a (tP X.K fa)) (hm : X.mg "isinstance" = none) (hmT : X.mg y = none) (hv : bootBuiltins y = some (.type T) := by decide +kernel) (hg : Gl X "isinstance" := by rfl) (hgT : Gl X y := by rfl)
    (hn : y ≠ "__name__" := by decide) (hd : (y == ("__debug__" : Str)) = false := by decide)
    (hs : starEach [a, .Name y q] X.env = (false, eval a X.env) :: starEach [.Name y q] X.env := by rfl) (hs2 : starEach [.Name y q] X.env = (false, eval (.Name y q) X.env) :: starEach [] X.env := by rfl) (hpl : (backTo pos (starEach [.Name y q] X.env)).any (·.1) = false := by rfl) :
    PE X (.Call (.Name "isinstance" p) [a, .Name y q] [] pos) (tP X.K (b1 fa (isiD T))) :=
  PE.imp (pe_callB call_isi hg hm (by decide +kernel) (pa_cons ha (pa_cons (pe_bltn (v := .ty T) hgT hmT hv rfl hn hd) pa_nil hs2) hs) (by decide) (by decide) hs hpl) fun σ H Q ⟨M, ρ, fo, fv, d, R, l, e, k⟩ => by
    obtain ⟨x, ea, eg⟩ := b1_some e
    unfold isiD at eg
    cases q1 : tyD x with
    | none => rw [q1] at eg; cases eg
    | some t =>
      rw [q1, Option.bind_some] at eg
      cases q2 : kitB t T with
      | none => rw [q2] at eg; cases eg
      | some b =>
        rw [q2] at eg
        cases eg
        exact ⟨M, ρ, fo, fv, x, R, l, ea, fun M1 H1 v1 s1 R1 d1 => ⟨v1, .ty T, .type t, .type T, b, rfl, .ty T, tyX_mono R1.same (tyX_of d1 q1), kit_ty q2, k M1 H1 _ s1 R1 (.bl _)⟩⟩
/-- y = [..] on one line, y is not changed later -/
theorem setD_of {K : PySem.W.Frag} {W : WX} {J : List Nat} {i : Nat} {f : Ev → Option O} {E : Ends} {σ : L2.St} {H : Hp} (hJ : i ∉ J) (h : tS K W J (stV i (frz f)) E σ H) : tAsg (tO K f) (gName i) E σ H := by
  obtain ⟨M, ρ, fo, fv, r, σ0, R, l, e, k⟩ := h
  unfold stV frz at e
  cases q : f ρ with
  | none => rw [q] at e; cases e
  | some o =>
    rw [q, Option.bind_some] at e
    cases q2 : o.toD with
    | none => rw [q2] at e; cases e
    | some d =>
      rw [q2] at e
      cases e
      refine ⟨M, ρ, fo, fv, o, R, l.1, q, fun M1 H1 v s1 R1 => ?_⟩
      obtain ⟨M2, s2, R2, d2⟩ := R1.frz l.1 rfl q2
      exact k M2 H1 _ (s1.trans s2) ((R2.drop l.1).setD l.1 d2) (l.set hJ _ _)
theorem sLcD {W : WX} {J : List Nat} {i : Nat} {y : Str} {py spos pos : Pos} {tg iter elt : Expr} {ifs : List Expr} {scope : Scope} {fi : Ev → Option (List D)} {is kn : List Nat} {g : D → Ev → Option Ev} {t : Ev → Option Bool} {f : Ev → Option D} (own : List (Str × Nat)) (hc : X.calm = true) (hN : X.N.Nodup) (hi : PI X tg iter (tI X.K kn fi)) (bo : BlkOk X.N X.env.scope scope own)
    (hg : ∀ (s : Shared) (H : Hp) (C : Addr) (cl : List (Str × Addr)) (fp : List Addr), PG (X.blk s H scope (compEnvC scope cl C X.env) fp) tg (tG X.K is g)) (ht : ∀ (s : Shared) (H : Hp) (C : Addr) (cl : List (Str × Addr)) (fp : List Addr), PTs (X.blk s H scope (compEnvC scope cl C X.env) fp) ifs (tT X.K t))
    (he : ∀ (s : Shared) (H : Hp) (C : Addr) (cl : List (Str × Addr)) (fp : List Addr), PE (X.blk s H scope (compEnvC scope cl C X.env) fp) elt (tP X.K f)) (ok : TgOk is g) (hJ : i ∉ J := by decide) (hy : X.N[i]? = some y := by rfl) (hyl : X.env.scope.names.lookup y = some .local := by rfl)
    (hsw : swapsWith (.ListComp elt [⟨tg, iter, ifs, 0⟩] scope pos) (some (.Name y py)) spos.line X.env = pure true := by exact sw_true rfl rfl rfl (by decide +kernel)) (hv : ∀ i ∈ is, i ∈ own.map (·.2) := by decide) (hkn : ∀ ρ ds, fi ρ = some ds → ∀ k ∈ kn, k < ρ.length := by intro _ _ _ _ hk; cases hk) (hkv : ∀ k ∈ kn, k ∉ own.map (·.2) := by decide) (hs : ∀ x, foldedSetIterable iter X.env x = pure x := by intro _; rfl) :
    PS X (.Assign [.Name y py] (.ListComp elt [⟨tg, iter, ifs, 0⟩] scope pos) spos) (tS X.K W J (stV i (lcD fi g t f (own.map (·.2))))) := by
  have h := PS.imp (PS.imp (ps_setLc (i := i) (py := py) (pos := pos) (spos := spos) hc hN hy hyl hsw hi bo hg ht he hs) fun E σ H h => lc_of (f := f) (Q := fun x H1 => gName i x σ H1 E.nx) ok hv hkn hkv h) fun E σ H (h : tS X.K W J (stV i (frz (lcO fi g t f (own.map (·.2))))) E σ H) => setD_of hJ h
  rw [show frz (lcO fi g t f (own.map (·.2))) = lcD fi g t f (own.map (·.2)) from funext fun ρ => lcD_eq ρ _] at h
  exact h
end
/-- how a def binds when all its arguments come by name, in order -/
theorem kbn_of {K : PySem.W.Frag} {x qual : Str} {st : Stmt} {f : Addr} {fd : FuncData} {ps : List Str} (F : Fun K x qual st f fd)
    (h : ∀ (kV doc pm : Value) (an : Option Addr) (cdv ct : Value) (ws : List Value), ws.length = ps.length → bindArgs (PySem.W.fnOf x qual (defArgs st) (defBody st) (defScope st) .none kV doc pm an cdv ct) ⟨[], ps.zip ws⟩ = pure (ps.zip ws)) :
    KBn K fd ps 0 ps (fun us ws => us ++ ws) (fun vs zs => vs ++ zs) := by
  obtain ⟨oc, od, kV, doc, pm, an, cdv, ct, osl, rfl, lk, hcd⟩ := F.ex
  refine ⟨fun s us ws X h1 h2 => ?_, fun r1 r2 => r1.append r2⟩
  obtain rfl := List.length_eq_zero_iff.mp h1
  exact .of_eq (h kV doc pm an cdv ct ws h2)
end PD

namespace PD
open PySem PySem.Spec L2

/-! ### reckoning with mirrors -/
theorem line_big : (1000000 : Nat) ≤ sizeLine := by decide
theorem str_len (z : Str) : z.cps.toList.length = z.length := by simp [Str.length]
theorem eq_str (x y : Str) : eqD (.str x) (.str y) = some (.bl (decide (x = y))) := rfl
theorem eq_int (x y : Int) : eqD (.int x) (.int y) = some (.bl (decide (x = y))) := rfl
theorem eq_bl (x y : Bool) : eqD (.bl x) (.bl y) = some (.bl (decide (x = y))) := rfl
theorem ne_str (x y : Str) : neD (.str x) (.str y) = some (.bl (!decide (x = y))) := rfl
theorem ne_int (x y : Int) : neD (.int x) (.int y) = some (.bl (!decide (x = y))) := rfl
theorem ne_bl (x y : Bool) : neD (.bl x) (.bl y) = some (.bl (!decide (x = y))) := rfl
/-! ### a text split at a sign -/
def sp (c : Nat) : List Nat → List (List Nat)
  | [] => [[]]
  | x :: xs => if x = c then [] :: sp c xs else match sp c xs with
    | p :: ps => (x :: p) :: ps
    | [] => [[x]]
/-! ### running a mirror, by what holds at its end -/
def Rn (g : Ev → Option Fl) (ρ : Ev) (Q : Fl → Prop) : Prop := ∃ r, g ρ = some r ∧ Q r
def Nx (P : Ev → Prop) : Fl → Prop
  | .nx ρ => P ρ
  | _ => False
section
variable {f g b : Ev → Option Fl} {ρ : Ev} {Q : Fl → Prop} {P : Ev → Prop}
theorem Rn.mono {Q' : Fl → Prop} (h : Rn g ρ Q) (i : ∀ r, Q r → Q' r) : Rn g ρ Q' := let ⟨r, e, q⟩ := h; ⟨r, e, i r q⟩
theorem Rn.sq (h : Rn f ρ fun r => match r with | .nx ρ' => Rn g ρ' Q | r => Q r) : Rn (sq f g) ρ Q := by
  obtain ⟨r, e, h⟩ := h
  unfold Rn PD.sq
  rw [e, Option.bind_some]
  cases r with
  | nx ρ' => exact h
  | rt o ρ' => exact ⟨_, rfl, h⟩
  | bk ρ' => exact ⟨_, rfl, h⟩
  | ct ρ' => exact ⟨_, rfl, h⟩
  | ex x ρ' => exact ⟨_, rfl, h⟩
theorem Rn.sqN (h : Rn f ρ (Nx P)) (k : ∀ ρ', P ρ' → Rn g ρ' Q) : Rn (PD.sq f g) ρ Q := Rn.sq (h.mono fun r q => by
  cases r with
  | nx ρ' => exact k ρ' q
  | _ => exact q.elim)
theorem Rn.st {i : Nat} {e : Ev → Option D} {d : D} (h : e ρ = some d) (k : Q (.nx (ρ.set i (.dat d)))) : Rn (stV i e) ρ Q := ⟨_, by unfold stV; rw [h]; rfl, k⟩
theorem Rn.stO {i : Nat} {e : Ev → Option O} {o : O} (h : e ρ = some o) (k : Q (.nx (ρ.set i o))) : Rn (PD.stO i e) ρ Q := ⟨_, by unfold PD.stO; rw [h]; rfl, k⟩
theorem Rn.skip (k : Q (.nx ρ)) : Rn PD.skip ρ Q := ⟨_, rfl, k⟩
theorem Rn.ret {e : Ev → Option D} {d : D} (h : e ρ = some d) (k : Q (.rt (.dat d) ρ)) : Rn (rtV e) ρ Q := ⟨_, by unfold rtV; rw [h]; rfl, k⟩
theorem Rn.ite {c : Ev → Option Bool} {t : Bool} (h : c ρ = some t) (h1 : t = true → Rn f ρ Q) (h2 : t = false → Rn g ρ Q) : Rn (ifS c f g) ρ Q := by
  unfold Rn ifS
  rw [h]
  cases t with
  | true => exact h1 rfl
  | false => exact h2 rfl
theorem Rn.app {i : Nat} {e : Ev → Option D} {d : D} {os : List O} (h : e ρ = some d) (ho : ρ[i]? = some (.lst os)) (hl : os.length < sizeLine) (k : Q (.nx (ρ.set i (.lst (os ++ [.dat d]))))) : Rn (PD.app i e) ρ Q := by
  refine ⟨_, ?_, k⟩
  unfold PD.app
  rw [h, Option.bind_some, ho]
  simp only []
  rw [if_pos hl]
theorem Rn.fz {i : Nat} {o : O} {d : D} (ho : ρ[i]? = some o) (hd : o.toD = some d) (k : Rn g (ρ.set i (.dat d)) Q) : Rn (PD.fz i g) ρ Q := by
  unfold Rn PD.fz
  rw [ho]
  simp only [hd, Option.bind_some]
  exact k
/-- a for by an invariant -/
theorem Rn.for {fi : Ev → Option (List D)} {gt : D → Ev → Option Ev} {ds : List D} (h : fi ρ = some ds) (I : Nat → Ev → Prop) (h0 : I 0 ρ)
    (hs : ∀ i d ρ, ds[i]? = some d → I i ρ → ∃ ρ1, gt d ρ = some ρ1 ∧ Rn b ρ1 fun r => match r with | .nx ρ2 => I (i + 1) ρ2 | .ct ρ2 => I (i + 1) ρ2 | .bk ρ2 => Q (.nx ρ2) | r => Q r) (k : ∀ ρ', I ds.length ρ' → Q (.nx ρ')) : Rn (forS fi gt b) ρ Q := by
  unfold Rn forS
  rw [h, Option.bind_some]
  clear h
  have key : ∀ (es : List D) (n : Nat) (ρ : Ev), n + es.length = ds.length → (∀ i d, es[i]? = some d → ds[n + i]? = some d) → I n ρ → ∃ r, loop gt b es ρ = some r ∧ Q r := by
    intro es
    induction es with
    | nil => intro n ρ hn _ hi; exact ⟨_, rfl, k ρ (by rw [← hn]; exact hi)⟩
    | cons d es ih =>
      intro n ρ hn hd hi
      obtain ⟨ρ1, e1, r, e2, q⟩ := hs n d ρ (by have := hd 0 d rfl; simpa using this) hi
      unfold loop
      rw [e1, Option.bind_some, e2, Option.bind_some]
      have nxt : ∀ ρ2, I (n + 1) ρ2 → ∃ r, loop gt b es ρ2 = some r ∧ Q r := fun ρ2 h2 => ih (n + 1) ρ2 (by rw [← hn, List.length_cons]; omega) (fun i d' h' => by
        have := hd (i + 1) d' (by simpa using h')
        rw [show n + 1 + i = n + (i + 1) by omega]; exact this) h2
      cases r with
      | nx ρ2 => exact nxt ρ2 q
      | ct ρ2 => exact nxt ρ2 q
      | bk ρ2 => exact ⟨_, rfl, q⟩
      | rt o ρ2 => exact ⟨_, rfl, q⟩
      | ex x ρ2 => exact ⟨_, rfl, q⟩
  exact key ds 0 ρ (by simp) (fun i d h => by simpa using h) h0
theorem runP_of {n : Nat} {ds : List D} {R : D → Prop} (h : Rn b (env0 n ds) fun r => ∃ o d, outO r = some o ∧ o.toD = some d ∧ R d) : ∃ d, runP n b ds = some d ∧ R d := by
  obtain ⟨r, e, o, d, e2, e3, hr⟩ := h
  exact ⟨d, by unfold runP runO; rw [e, Option.bind_some, e2, Option.bind_some, e3], hr⟩
theorem runP_eq {n : Nat} {ds : List D} {d : D} (h : Rn b (env0 n ds) fun r => ∃ o, outO r = some o ∧ o.toD = some d) : runP n b ds = some d := by
  obtain ⟨r, e, o, e2, e3⟩ := h
  unfold runP runO
  rw [e, Option.bind_some, e2, Option.bind_some, e3]
end
theorem lcD_of {fi : Ev → Option (List D)} {g : D → Ev → Option Ev} {t : Ev → Option Bool} {f : Ev → Option D} {vs : List Nat} {ρ ρw : Ev} {ds ys : List D} (hw : okW ρ vs = true) (hi : fi ρ = some ds) (hρ : wipeO ρ vs = ρw) (hc : comp g t f ρw ds = some ys) (hl : ys.length ≤ sizeLine) : lcD fi g t f vs ρ = some (.lst ys) := by
  unfold lcD
  rw [if_pos hw, hi, Option.bind_some, hρ, hc, Option.bind_some, if_pos hl]
theorem len_le {n : Nat} (h : n ≤ 1000000) : n ≤ sizeLine := Nat.le_trans h (by decide)
/-! ### values of mirrors, part by part -/
section
variable {ρ : Ev} {fa fb : Ev → Option D} {x y d : D}
theorem b2_of {g : D → D → Option D} (h1 : fa ρ = some x) (h2 : fb ρ = some y) : b2 fa fb g ρ = g x y := by unfold b2; rw [h1, h2]; rfl
theorem b1_of {g : D → Option D} (h1 : fa ρ = some x) : b1 fa g ρ = g x := by unfold b1; rw [h1]; rfl
theorem aC {g : Ev → Option (List D)} {ds : List D} (h1 : fa ρ = some x) (h2 : g ρ = some ds) : aCons fa g ρ = some (x :: ds) := by unfold aCons; rw [h1, h2]; rfl
theorem aC1 (h1 : fa ρ = some x) : aCons fa aNil ρ = some [x] := aC h1 rfl
theorem aC2 (h1 : fa ρ = some x) (h2 : fb ρ = some y) : aCons fa (aCons fb aNil) ρ = some [x, y] := aC h1 (aC1 h2)
theorem cB_of' {g : Ev → Option (List D)} {f : List D → Option D} {ds : List D} (h : g ρ = some ds) : cB g f ρ = f ds := by unfold cB; rw [h]; rfl
theorem len_of {n : Nat} {m : List D → Option D} {ds : List D} (h : ds.length = n) : len? n m ds = m ds := by unfold len?; rw [if_pos h]
theorem call_of {g : Ev → Option (List D)} {n : Nat} {m : List D → Option D} {ds : List D} (h : g ρ = some ds) (hl : ds.length = n) : cB g (len? n m) ρ = m ds := (cB_of' h).trans (len_of hl)
theorem ixS_of {z : Str} {i : Int} {c : Nat} (h1 : fa ρ = some (.str z)) (h2 : fb ρ = some (.int i)) (hl : z.length ≤ 1000000) (hc : atI z.cps.toList i = some c) : b2 fa fb ixD ρ = some (.str ⟨#[c]⟩) := by
  rw [b2_of h1 h2]
  show (if z.length ≤ sizeLine then (atI z.cps.toList i).map _ else none) = _
  rw [if_pos (len_le hl), hc]
  rfl
theorem slc_of {lo hi : Ev → Option (Option Int)} {a b : Option Int} (h : fa ρ = some x) (h1 : lo ρ = some a) (h2 : hi ρ = some b) : slc fa lo hi ρ = slD x a b := by unfold slc; rw [h, h1, h2]; rfl
theorem part_of {i : Int} (h : fa ρ = some (.int i)) : part fa ρ = some (some i) := by unfold part; rw [h]
theorem slS_of {lo hi : Ev → Option (Option Int)} {a b : Option Int} {z : Str} (h : fa ρ = some (.str z)) (h1 : lo ρ = some a) (h2 : hi ρ = some b) (hl : z.length ≤ 1000000) : slc fa lo hi ρ = some (.str (cutS z a b)) := by
  rw [slc_of h h1 h2]
  show (if z.length ≤ sizeLine then _ else _) = _
  rw [if_pos (len_le hl)]
theorem slL_of {lo hi : Ev → Option (Option Int)} {a b : Option Int} {ds : List D} (h : fa ρ = some (.lst ds)) (h1 : lo ρ = some a) (h2 : hi ρ = some b) : slc fa lo hi ρ = some (.lst (cutD ds a b)) := slc_of h h1 h2
theorem asB_of {b : Bool} (h : fa ρ = some (.bl b)) : asB fa ρ = some b := by unfold asB; rw [h]
theorem orT_of {f g : Ev → Option Bool} {a b : Bool} (h1 : f ρ = some a) (h2 : a = false → g ρ = some b) : orT f g ρ = some (a || b) := by
  unfold orT; rw [h1]; cases a with
  | true => rfl
  | false => rw [Bool.false_or]; exact h2 rfl
theorem notT_of {f : Ev → Option Bool} {a : Bool} (h1 : f ρ = some a) : notT f ρ = some (!a) := by unfold notT; rw [h1]; rfl
theorem iOf_of {ds : List D} (h : fa ρ = some x) (hs : seqD x = some ds) : iOf fa ρ = some ds := by unfold iOf; rw [h]; exact hs
theorem mkL_of {g : Ev → Option (List D)} {ds : List D} (h : g ρ = some ds) (hl : ds.length ≤ 1000000) : mkLst g ρ = some (.lst ds) := by unfold mkLst; rw [h, Option.bind_some, if_pos (len_le hl)]
theorem mkT_of {g : Ev → Option (List D)} {ds : List D} (h : g ρ = some ds) (hl : ds.length ≤ 1000000) : mkTup g ρ = some (.tup ds) := by unfold mkTup; rw [h, Option.bind_some, if_pos (len_le hl)]
end
theorem cut_to {α : Type} (xs : List α) (k : Nat) : cutD xs none (some (k : Int)) = xs.take k := by
  unfold cutD
  rw [HT.sIx_nat, HT.sIx_none, List.drop_zero, Nat.sub_zero]
  by_cases h : k ≤ xs.length
  · rw [Nat.min_eq_left h]
  · rw [Nat.min_eq_right (by omega), List.take_length, List.take_of_length_le (by omega)]
theorem cutS_codes (z : Str) (lo hi : Option Int) : (cutS z lo hi).cps.toList = cutD z.cps.toList lo hi := by
  unfold cutS cutD
  rw [str_len]
/-- the item at a place -/
theorem at_get {α : Type} {xs : List α} {j : Nat} (h : j < xs.length) : atI xs (j : Int) = some xs[j] := atI_nat (List.getElem?_eq_getElem h)
theorem range_get {lo : Int} {n i : Nat} {d : D} (h : (rangeD lo n)[i]? = some d) : i < n ∧ d = .int (lo + i) := by
  unfold rangeD at h
  rw [List.getElem?_map] at h
  cases q : (List.range n)[i]? with
  | none => rw [q] at h; cases h
  | some j =>
    rw [q] at h
    have hl : i < n := by
      have := (List.getElem?_eq_some_iff.mp q).1
      simpa using this
    rw [List.getElem?_range hl] at q
    cases q
    exact ⟨hl, (Option.some.inj h).symm⟩
theorem toDs_ints (rs : List Int) : O.toDs (rs.map fun r => .dat (.int r)) = some (rs.map .int) := by
  have := toDs_dat (rs.map D.int)
  rw [List.map_map] at this
  exact this
theorem okMulR {i j : Int} (h : -(2 ^ 64) < j ∧ j < 2 ^ 64) : okMul i j = true := by
  unfold okMul
  exact decide_eq_true (.inr h)
theorem okMulL {i j : Int} (h : -(2 ^ 64) < i ∧ i < 2 ^ 64) : okMul i j = true := by
  unfold okMul
  exact decide_eq_true (.inl h)
theorem str_eq (x y : Str) : x = y ↔ x.cps.toList = y.cps.toList := by
  constructor
  · rintro rfl; rfl
  · intro h
    cases x; cases y
    congr 1
    exact Array.toList_inj.mp h
end PD

namespace PD
open PySem PySem.Spec L2

/-! ### own things looked at as data -/
def O.vw (o : O) : O := match o.toD with
  | some d => .dat d
  | none => .unk
def flatD : D → Bool
  | .non => true
  | .bl _ => true
  | .int _ => true
  | .str _ => true
  | _ => false
theorem Dv.flat {K : PySem.W.Frag} {M M' : Hp} {v : V} {d : D} (h : Dv K M v d) (f : flatD d = true) : Dv K M' v d := by
  cases h with
  | non => exact .non
  | bl b => exact .bl b
  | int i => exact .int i
  | str x => exact .str x
  | lst _ _ => cases f
  | tup _ _ => cases f
  | dic _ _ _ => cases f
  | obj _ _ _ _ => cases f
  | exn0 => cases f
  | exn1 _ _ _ => cases f
  | tagM _ _ => cases f
  | tagP _ _ => cases f
  | dicT _ _ _ => cases f
section
variable {K : PySem.W.Frag} {M H : Hp}
theorem Ows.view {Ma : Hp} (s : Same M Ma) : ∀ {os : List O} {vs : List (Option V)} {fp : List Addr}, Ows K M H os vs fp → (∀ a ∈ fp, Ma a = H a) → Ows K Ma H (os.map O.vw) vs []
  | _, _, _, .nil, _ => .nil
  | o :: _, _, _, .cons (v := v) (f1 := f1) h hs, k => by
    have t := Ows.view s hs fun a ha => k a (List.mem_append_right _ ha)
    have e : ([] : List Addr) = [] ++ [] := rfl
    rw [e, List.map_cons]
    refine .cons ?_ t
    unfold O.vw
    cases q : o.toD with
    | none => exact .unk
    | some d =>
      cases v with
      | none => cases h; unfold O.toD at q; cases q
      | some v => exact .dat (Ow.frz s h (fun a ha => k a (List.mem_append_left _ ha)) q)
theorem Rep.view {ρ fo : List O} {σ fv : List (Option V)} (R : Rep K M H (ρ ++ fo) (σ ++ fv)) (l : σ.length = ρ.length) :
    ∃ Ma, Same M Ma ∧ Rep K Ma H (ρ.map O.vw ++ []) (σ ++ []) ∧ ∀ M2 H', Same Ma M2 → Same M2 H' → Rep K M H' (ρ ++ fo) (σ ++ fv) := by
  obtain ⟨sm, fp, w, nd, nm⟩ := R
  obtain ⟨fa, fb, e, w1, w2⟩ := w.split l
  have s1 : Same M (fun a => if a ∈ fp then H a else M a) := fun b y q => by
    have : b ∉ fp := fun z => by rw [nm b z] at q; cases q
    show (if b ∈ fp then H b else M b) = some y
    rw [if_neg this]; exact q
  have s2 : Same (fun a => if a ∈ fp then H a else M a) H := fun b y q => by
    have q : (if b ∈ fp then H b else M b) = some y := q
    split at q
    · exact q
    · exact sm b y q
  refine ⟨_, s1, ⟨s2, [], ?_, List.nodup_nil, fun a ha => nomatch ha⟩, fun M2 H' k1 k2 => ⟨?_, fp, w.frame (Same.refl _) fun a ha => ?_, nd, nm⟩⟩
  · rw [List.append_nil, List.append_nil]
    exact Ows.view s1 w1 fun a ha => if_pos (by rw [e]; exact List.mem_append_left _ ha)
  · exact s1.trans (k1.trans k2)
  · have hd := w.dom a ha
    cases q : H a with
    | none => exact absurd q hd
    | some u => exact k2 _ _ (k1 _ _ (show (if a ∈ fp then H a else M a) = some u by rw [if_pos ha]; exact q))
end
def vwT (f : Ev → Option Bool) (ρ : Ev) : Option Bool := f (ρ.map O.vw)
section
variable {X : Cx} {W : WX} {pos : Pos} {e : Expr}
theorem tVw {f : Ev → Option Bool} (h : PT X e (tT X.K f)) : PT X e (tT X.K (vwT f)) := PT.imp h fun σ H Q ⟨M, ρ, fo, fv, d, R, l, e, k⟩ => by
  obtain ⟨Ma, s1, R1, back⟩ := R.view l
  exact ⟨Ma, ρ.map O.vw, [], [], d, R1, by simpa using l, e, fun M2 H2 s2 R2 => k M H2 (Same.refl _) (back M2 H2 s2 R2.same)⟩
end


/-! ### an own thing in a slot is changed -/
section
variable {K : PySem.W.Frag} {M H : Hp}
theorem Ows.at_ {os : List O} {vs : List (Option V)} {fp : List Addr} {k : Nat} {o : O} (w : Ows K M H os vs fp) (e : os[k]? = some o) : ∃ v fa f fb, vs[k]? = some v ∧ fp = fa ++ (f ++ fb) ∧ Ow K M H o v f ∧
    ∀ {M' H' : Hp} {o' : O} {f' : List Addr}, Same M M' → (∀ a ∈ fa ++ fb, H' a = H a) → Ow K M' H' o' v f' → Ows K M' H' (os.set k o') vs (fa ++ (f' ++ fb)) := by
  induction os generalizing k vs fp with
  | nil => simp at e
  | cons o1 os ih =>
    cases w with
    | cons h hs =>
      rename_i v f1 vs f2
      cases k with
      | zero =>
        simp at e
        subst e
        refine ⟨v, [], f1, f2, rfl, rfl, h, fun {M' H' o' f'} s k h' => ?_⟩
        show Ows K M' H' (o' :: os) (v :: vs) (f' ++ f2)
        exact .cons h' (hs.frame s fun a ha => k a ha)
      | succ k =>
        obtain ⟨v', fa, f, fb, e1, e2, h', up⟩ := ih hs (by simpa using e)
        refine ⟨v', f1 ++ fa, f, fb, by simpa using e1, by rw [e2, List.append_assoc], h', fun s kk h'' => ?_⟩
        have := Ows.cons (h.frame s fun a ha => kk a (by simp [ha])) (up s (fun a ha => kk a (by simp at ha ⊢; rcases ha with ha | ha <;> simp [ha])) h'')
        rw [List.append_assoc]
        exact this
/-- the thing in slot i, and temporaries that may go into it -/
theorem Rep.own {ρ tmp fo : List O} {σ tv fv : List (Option V)} (R : Rep K M H (ρ ++ (tmp ++ fo)) (σ ++ (tv ++ fv))) (l : σ.length = ρ.length) (lt : tv.length = tmp.length) {i : Nat} {o : O} (e : ρ[i]? = some o) :
    ∃ v f ft, σ[i]? = some v ∧ Ow K M H o v f ∧ Ows K M H tmp tv ft ∧ (f ++ ft).Nodup ∧ (∀ b ∈ f ++ ft, M b = none) ∧
      ∀ (M' H' : Hp) (o' : O) (f' : List Addr), Same M M' → Same M' H' → (∀ b, b ∉ f → H b ≠ none → H' b = H b) → Ow K M' H' o' v f' → (∀ b, f'.count b ≤ f.count b + ft.count b) → (∀ b, M b = none → H b ≠ none → M' b = none) → Rep K M' H' (ρ.set i o' ++ fo) (σ ++ fv) := by
  obtain ⟨s, fp, w, nd, nm⟩ := R
  obtain ⟨f1, f2, e1, w1, w2⟩ := w.split l
  obtain ⟨ft, f3, e2, w3, w4⟩ := w2.split lt
  obtain ⟨v, fa, f, fb, ev, e3, h, up⟩ := w1.at_ e
  subst e1; subst e2; subst e3
  rw [List.nodup_iff_count] at nd
  have cnt : ∀ b, fa.count b + f.count b + fb.count b + ft.count b + f3.count b ≤ 1 := fun b => by
    have := nd b
    simp only [List.count_append] at this
    omega
  have out : ∀ b, b ∈ fa ∨ b ∈ fb ∨ b ∈ f3 → b ∉ f := fun b hb hf => by
    have c := cnt b
    have c1 := List.count_pos_iff.mpr hf
    rcases hb with hb | hb | hb
    · have := List.count_pos_iff.mpr hb; omega
    · have := List.count_pos_iff.mpr hb; omega
    · have := List.count_pos_iff.mpr hb; omega
  refine ⟨v, f, ft, ev, h, w3, ?_, fun b hb => nm b ?_, fun M' H' o' f' sM s' kk h' hc hM => ⟨s', (fa ++ (f' ++ fb)) ++ f3, ?_, ?_, fun b hb => ?_⟩⟩
  · rw [List.nodup_iff_count]
    intro b
    have := cnt b
    rw [List.count_append]; omega
  · rcases List.mem_append.mp hb with hb | hb <;> simp [hb]
  · have d1 : ∀ b ∈ fa ++ fb, H b ≠ none := fun b hb => w1.dom b (by rcases List.mem_append.mp hb with hb | hb <;> simp [hb])
    have d3 : ∀ b ∈ f3, H b ≠ none := fun b hb => w4.dom b hb
    exact (up sM (fun b hb => kk b (out b (by rcases List.mem_append.mp hb with hb | hb <;> simp [hb])) (d1 b hb)) h').append (w4.frame sM fun b hb => kk b (out b (.inr (.inr hb))) (d3 b hb))
  · rw [List.nodup_iff_count]
    intro b
    have c1 := cnt b
    have c2 := hc b
    simp only [List.count_append]; omega
  · have hpos := List.count_pos_iff.mpr hb
    have c2 := hc b
    simp only [List.count_append] at hpos
    have : b ∈ (fa ++ (f ++ fb)) ++ (ft ++ f3) := by
      rw [← List.count_pos_iff]
      simp only [List.count_append]; omega
    exact hM b (nm b this) (w.dom b this)
end

/-! ### objects: self.f = e on an own one -/
def putO (f : Str) (y : O) : List Str → List O → List Str × List O
  | k :: ks, o :: os => if k = f then (k :: ks, y :: os) else (k :: (putO f y ks os).1, o :: (putO f y ks os).2)
  | _, _ => ([f], [y])
section
variable {K : PySem.W.Frag} {M H : Hp}
theorem putO_keys {f : Str} {v : V} {y : O} : ∀ (fs : List (Str × V)) (os : List O), os.length = fs.length → (putF f v fs).map (·.1) = (putO f y (fs.map (·.1)) os).1
  | [], [], _ => rfl
  | (g, x) :: fs, o :: os, h => by
    unfold putF putO
    simp only [List.map_cons]
    by_cases e : g = f
    · rw [if_pos e, if_pos e]; rfl
    · rw [if_neg e, if_neg e]
      simp only [List.map_cons]
      rw [putO_keys fs os (by simpa using h)]
theorem putO_ows {f : Str} {v : V} {y : O} {fy : List Addr} (hy : Ow K M H y (some v) fy) : ∀ {fs : List (Str × V)} {os : List O} {fp : List Addr}, Ows K M H os (fs.map fun p => some p.2) fp →
    ∃ fp', Ows K M H (putO f y (fs.map (·.1)) os).2 ((putF f v fs).map fun p => some p.2) fp' ∧ ∀ b, fp'.count b ≤ fp.count b + fy.count b
  | [], _, _, .nil => ⟨fy ++ [], .cons hy .nil, fun b => by simp⟩
  | (g, x) :: fs, _, _, .cons (o := o) (f1 := f1) (f2 := f2) (os := os) h hs => by
    unfold putF putO
    simp only [List.map_cons]
    by_cases e : g = f
    · rw [if_pos e, if_pos e]
      exact ⟨fy ++ f2, .cons hy hs, fun b => by simp only [List.count_append]; omega⟩
    · rw [if_neg e, if_neg e]
      obtain ⟨fp', w, c⟩ := putO_ows (f := f) hy hs
      exact ⟨f1 ++ fp', .cons h w, fun b => by have := c b; simp only [List.count_append]; omega⟩
end
def put (C : Addr) (i : Nat) (f : Str) (g : Ev → Option O) (ρ : Ev) : Option Fl := (g ρ).bind fun y => match ρ[i]? with
  | some (.obj C' ks os) => if C' = C ∧ os.length < 1000 then some (.nx (ρ.set i (.obj C (putO f y ks os).1 (putO f y ks os).2))) else none
  | _ => none
section
variable {X : Cx} {W : WX} {J : List Nat} {pos p p' : Pos} {e : Expr}
theorem sPut {C : Addr} {i : Nat} {x f : Str} {g : Ev → Option O} (c : Cls X.K C) (n : NoAttr X.K C f) (hv : PE X (.Name x p) (tVar i)) (he : PE X e (tO X.K g)) (hs : swapsWith e (some (.Attribute (.Name x p) f p')) pos.line X.env = pure false := by rfl) :
    PS X (.Assign [.Attribute (.Name x p) f p'] e pos) (tS X.K W J (put C i f g)) := PS.imp (ps_fld hv he hs) fun E σ H ⟨M, ρ, fo, fv, r, σ0, R, l, e, k⟩ => by
  unfold put at e
  cases q : g ρ with
  | none => rw [q] at e; cases e
  | some y =>
    rw [q, Option.bind_some] at e
    split at e
    · rename_i C' ks os eo
      split at e
      · rename_i hc
        obtain ⟨rfl, hlen⟩ := hc
        cases e
        refine ⟨M, ρ, fo, fv, y, R, l.1, q, fun M1 H1 v s1 R1 => ?_⟩
        have R1' : Rep X.K M1 H1 (ρ ++ ([y] ++ fo)) (σ ++ ([some v] ++ fv)) := R1
        obtain ⟨w, f1, ft, ew, h1, h2, nd, nm, up⟩ := R1'.own l.1 rfl eo
        cases h1 with
        | obj ha hdx hk ws =>
          rename_i a dx fs fp
          cases h2 with
          | cons hy hnil =>
            cases hnil
            rename_i fy
            refine ⟨.ref a, ew, a, C', dx, fs, rfl, ha, c, n, by rw [← List.length_map (f := fun p : Str × V => some p.2), ws.length]; exact hlen, ?_⟩
            have hd : ∀ b, b ∈ fp ∨ b ∈ fy → b ≠ a := fun b hb z => by
              subst z
              rw [List.nodup_iff_count] at nd
              have := nd b
              simp only [List.count_append, List.count_cons, beq_self_eq_true, if_true] at this
              rcases hb with hb | hb
              · have := List.count_pos_iff.mpr hb; omega
              · have := List.count_pos_iff.mpr hb; omega
            have hda : dx ≠ a := fun z => by
              rw [z, ha] at hdx; cases hdx
            have ma : M1 a = none := nm a (by simp)
            have sm : Same M1 (upd H1 a (.ins C' dx (putF f v fs))) := fun b u q => by
              rw [upd_ne (fun z => by subst z; rw [ma] at q; cases q)]; exact R1.same b u q
            obtain ⟨fp', w', cw⟩ := putO_ows (f := f) (hy.frame (Same.refl _) (H' := upd H1 a (.ins C' dx (putF f v fs))) fun b hb => upd_ne (hd b (.inr hb))) (ws.frame (Same.refl _) (H' := upd H1 a (.ins C' dx (putF f v fs))) fun b hb => upd_ne (hd b (.inl hb)))
            refine k M1 _ σ s1 (up M1 _ _ (a :: dx :: fp') (Same.refl _) sm (fun b hb _ => upd_ne fun z => hb (by simp [z])) (.obj upd_same (by rw [upd_ne hda]; exact hdx) ?_ ?_) (fun b => ?_) fun b hb _ => hb) (l.setR _)
            · rw [putO_keys (y := y) fs os (by rw [← ws.length]; simp), hk]
            · rw [hk] at w'; exact w'
            · have := cw b
              simp only [List.append_nil, List.count_cons, List.count_append] at this ⊢
              omega
      · cases e
    · cases e
end
end PD

namespace PD
open PySem PySem.Spec L2

section
variable {K : PySem.W.Frag} {M H : Hp}
theorem Rep.dropM {l m r : List O} {lv mv rv : List (Option V)} (R : Rep K M H (l ++ (m ++ r)) (lv ++ (mv ++ rv))) (e : lv.length = l.length) (e2 : mv.length = m.length) : Rep K M H (l ++ r) (lv ++ rv) := by
  obtain ⟨s, fp, w, nd, nm⟩ := R
  obtain ⟨fa, fb, e1, w1, w2⟩ := w.split e
  obtain ⟨fm, fr, e3, w3, w4⟩ := w2.split e2
  subst e1; subst e3
  refine ⟨s, fa ++ fr, w1.append w4, nd.sublist (List.Sublist.append (List.Sublist.refl _) (List.sublist_append_right _ _)), fun a ha => nm a ?_⟩
  rcases List.mem_append.mp ha with ha | ha <;> simp [ha]
theorem Rep.swap {l r : List O} {lv rv : List (Option V)} {o : O} {v : Option V} (R : Rep K M H (o :: (l ++ r)) (v :: (lv ++ rv))) (e : lv.length = l.length) : Rep K M H (l ++ o :: r) (lv ++ v :: rv) := by
  obtain ⟨s, fp, w, nd, nm⟩ := R
  cases w with
  | cons h hs =>
    rename_i f1 f2
    obtain ⟨fa, fb, e1, w1, w2⟩ := hs.split e
    subst e1
    have pm : (fa ++ (f1 ++ fb)).Perm (f1 ++ (fa ++ fb)) := by
      rw [← List.append_assoc, ← List.append_assoc]
      exact List.Perm.append_right fb List.perm_append_comm
    exact ⟨s, fa ++ (f1 ++ fb), w1.append (.cons h w2), pm.nodup_iff.mpr nd, fun a ha => nm a (pm.mem_iff.mp ha)⟩
/-- a new object -/
theorem Rep.newI {fo : List O} {fv : List (Option V)} (R : Rep K M H fo fv) {x dx C : Addr} (hx : H x = none) (hd : H dx = none) (ne : dx ≠ x) : Rep K M (upd (upd H dx (.own x)) x (.ins C dx [])) (.obj C [] [] :: fo) (some (.ref x) :: fv) := by
  obtain ⟨s, fp, w, nd, nm⟩ := R
  have xn : x ∉ fp := fun z => w.dom x z hx
  have dn : dx ∉ fp := fun z => w.dom dx z hd
  have ex : (upd H dx (.own x)) x = none := by rw [upd_ne ne.symm]; exact hx
  have kp : ∀ b, b ≠ x → b ≠ dx → (upd (upd H dx (.own x)) x (.ins C dx [])) b = H b := fun b h1 h2 => by rw [upd_ne h1, upd_ne h2]
  refine ⟨fun b u q => ?_, (x :: dx :: []) ++ fp, .cons (.obj upd_same (by rw [upd_ne ne]; exact upd_same) rfl .nil) (w.frame (Same.refl _) fun a ha => kp a (fun z => xn (z ▸ ha)) (fun z => dn (z ▸ ha))), ?_, fun a ha => ?_⟩
  · have q' := s b u q
    rw [kp b (ne_of_none q' hx) (ne_of_none q' hd)]; exact q'
  · show (x :: dx :: fp).Nodup
    rw [List.nodup_cons, List.nodup_cons]
    exact ⟨by simp [ne.symm, xn], dn, nd⟩
  · have ha : a ∈ x :: dx :: fp := ha
    rcases List.mem_cons.mp ha with rfl | ha
    · exact s.free hx
    · rcases List.mem_cons.mp ha with rfl | ha
      · exact s.free hd
      · exact nm a ha
end

/-! ### __init__ -/
def envI (C : Addr) (n : Nat) (ds : List D) : Ev := .obj C [] [] :: (ds.map .dat ++ List.replicate (n - (ds.length + 1)) .unk)
def outI (r : Fl) : Option O := match r with
  | .nx ρ => ρ[0]?
  | .rt (.dat .non) ρ => ρ[0]?
  | _ => none
def runI (C : Addr) (n : Nat) (b : Ev → Option Fl) (ds : List D) : Option O := (b (envI C n ds)).bind outI
def spI (K : PySem.W.Frag) (C : Addr) (n : Nat) (m : List D → Option O) : Sp := fun vs H Q _ => ∃ x ws M fo fv ds o, vs = .ref x :: ws ∧ ws.length + 1 = n ∧ Rep K M H (.obj C [] [] :: fo) (some (.ref x) :: fv) ∧ Dvs K M ws ds ∧ m ds = some o ∧
  ∀ M' H', Same M M' → Rep K M' H' (o :: fo) (some (.ref x) :: fv) → Q .non H'
section
variable {P : Program} {w : World} {K : PySem.W.Frag} {mg : Str → Option Value} {base : Heap}
theorem fnI {x qual : Str} {st : Stmt} {f C : Addr} {fd : FuncData} {N ps : List Str} {k : Nat} {b : Ev → Option Fl} (F : Fun K x qual st f fd) (S : FnScope N ps (defScope st))
    (hb : ∀ (cdv : Value) (A : Around) (outer : List Env) (s : Shared) (H : Hp) (E : XK), Room k (A.deeper (PyProof.Rows.envOfC qual (defScope st) s.heap.objs.size f cdv)) →
      PSs (cxOf CX0 P w K mg base N qual (defScope st) f cdv A outer s H E).nox (defBody st) (tS K W0 [0] b)) : FnOk P w K mg base CX0 (k + 1) f fd ps (spI K C ps.length (runI C N.length b)) := by
  refine F.ok S (fun vs H Q E h => ?_) fun cdv A outer s H vs Q E hr h => ⟨_, hb cdv A outer s H E hr, ?_⟩
  · obtain ⟨x, ws, M, fo, fv, ds, o, rfl, hl, _⟩ := h
    simpa using hl
  obtain ⟨x, ws, M, fo, fv, ds, o, rfl, hl, R, dv, e, kk⟩ := h
  have hlen := dv.length
  have R1 : Rep K M H (envI C N.length ds ++ fo) (L2.start N (.ref x :: ws) ++ fv) := by
    obtain ⟨s, fp, w, nd, nm⟩ := R
    cases w with
    | cons h1 h2 =>
      rename_i f1 f2
      refine ⟨s, f1 ++ (([] ++ []) ++ f2), ?_, by simpa using nd, fun a ha => nm a (by simpa using ha)⟩
      unfold envI L2.start
      rw [List.length_cons, hlen]
      exact .cons h1 (((ows_dat dv).append (ows_unk _)).append h2)
  have l1 : (L2.start N (.ref x :: ws)).length = (envI C N.length ds).length := by simp [L2.start, envI, hlen]
  unfold runI at e
  cases q : b (envI C N.length ds) with
  | none => rw [q] at e; cases e
  | some r =>
    rw [q, Option.bind_some] at e
    have fin : ∀ {ρ : Ev} {M1 H1 : Hp} {σ1 : L2.St} {tm : List O} {tv : List (Option V)}, ρ[0]? = some o → tv.length = tm.length → Same M M1 → Rep K M1 H1 (ρ ++ (tm ++ fo)) (σ1 ++ (tv ++ fv)) → Lk [0] (L2.start N (.ref x :: ws)) σ1 ρ → Q .non H1 := by
      intro ρ M1 H1 σ1 tm tv eo lt s1 R2 lk
      have h0 := lk.2 0 (by simp)
      have h0' : σ1[0]? = some (some (.ref x)) := h0.trans (by simp [L2.start])
      cases ρ with
      | nil => simp at eo
      | cons o' ρt =>
        cases σ1 with
        | nil => simp at h0'
        | cons v' σt =>
          simp at eo h0'
          subst eo; subst h0'
          have lt' : σt.length = ρt.length := by have := lk.1; simpa using this
          refine kk M1 H1 s1 ?_
          have R3 : Rep K M1 H1 ([o'] ++ ((ρt ++ tm) ++ fo)) ([some (.ref x)] ++ ((σt ++ tv) ++ fv)) := by simpa using R2
          exact R3.dropM rfl (by simp [lt', lt])
    refine ⟨M, _, fo, fv, r, L2.start N (.ref x :: ws), R1, ⟨l1, fun _ _ => rfl⟩, q, ?_⟩
    cases r with
    | nx ρ => exact fun M1 H1 σ1 s1 R2 lk => fin (tm := []) (tv := []) e rfl s1 R2 lk
    | rt o' ρ =>
      cases o' with
      | dat d =>
        cases d with
        | non =>
          have e : ρ[0]? = some o := e
          intro M1 H1 σ1 v s1 R2 lk
          obtain ⟨y, ey, dy⟩ := R2.datAt lk.1 rfl
          cases ey
          cases dy
          exact fin (tm := [.dat .non]) (tv := [some .non]) e rfl s1 R2 lk
        | _ => cases e
      | _ => cases e
    | bk ρ => cases e
    | ct ρ => cases e
    | ex x ρ => cases e
end
section
variable {X : Cx} {W : WX} {pos p : Pos} {e : Expr} {es : List Expr} {ga : Ev → Option (List D)} {k n : Nat} {f C : Addr} {fd : FuncData} {ps : List Str} {x : Str}
/-- what C(..) gives: from the data of the arguments -/
def cO (g : Ev → Option (List D)) (m : List D → Option O) (ρ : Ev) : Option O := (g ρ).bind m
def lenO? (n : Nat) (m : List D → Option O) (ds : List D) : Option O := if ds.length = n then m ds else none
theorem make_of {K : PySem.W.Frag} {m : List D → Option O} {ds : List D} {o : O} {M H : Hp} {fo : List O} {fv : List (Option V)} {l : List O} {lv : List (Option V)} {vs : List V} {Q : VK} {E : XK} (hl : lv.length = l.length) (R : Rep K M H (l ++ fo) (lv ++ fv)) (dv : Dvs K M vs ds) (hn : ds.length + 1 = n) (e : m ds = some o)
    (k : ∀ M' H' v, Same M M' → Rep K M' H' (l ++ o :: fo) (lv ++ some v :: fv) → Q v H') (x dx : Addr) (hx : H x = none) (hd : H dx = none) (ne : dx ≠ x) :
    spI K C n m (.ref x :: vs) (upd (upd H dx (.own x)) x (.ins C dx [])) (fun v H2 => v = .non ∧ Q (.ref x) H2) E :=
  ⟨x, vs, M, l ++ fo, lv ++ fv, ds, o, rfl, by rw [dv.length]; exact hn, R.newI hx hd ne, dv, e, fun M2 H2 s2 R2 => ⟨rfl, k M2 H2 _ s2 (R2.swap hl)⟩⟩
theorem oMake {m : List D → Option O} (Mc : Mk X.K C f) (F : FnOk X.prog X.w X.K X.mg X.base CX0 k f fd ps (spI X.K C (n + 1) m)) (hr : Room (k + 1) X.A) (hm : X.mg x = some (.ref C)) (hb : Binds X.K fd ps []) (ha : PA X (e :: es) (tAr X.K ga)) (hg : Gl X x := by rfl)
    (hdb : (x == ("__debug__" : Str)) = false := by decide) (he : starEach (e :: es) X.env = (false, eval e X.env) :: starEach es X.env := by rfl) (hpl : (backTo pos (starEach es X.env)).any (·.1) = false := by rfl) :
    PE X (.Call (.Name x p) (e :: es) [] pos) (tO X.K (cO ga (lenO? n m))) := PE.imp (pe_make Mc F hr hg hm hb .nil (E := E0) pass0 ha hdb he hpl) fun σ H Q ⟨M, ρ, fo, fv, o, R, l, e, k⟩ => by
  unfold cO lenO? at e
  cases q : ga ρ with
  | none => rw [q] at e; cases e
  | some ds =>
    rw [q, Option.bind_some] at e
    split at e
    · rename_i hn
      refine ⟨M, ρ, fo, fv, ds, R, l, q, fun M1 H1 vs s1 R1 d1 x dx hx hd ne => ?_⟩
      rw [List.append_nil]
      exact make_of l R1 d1 (by rw [hn]) e (fun M2 H2 v s2 R2 => k M2 H2 v (s1.trans s2) R2) x dx hx hd ne
    · cases e
/-! ### a field of a frozen object -/
def fldD (C : Addr) (f : Str) : D → Option D
  | .obj C' ks ds => if C' = C then (ks.zip ds).lookup f else none
  | _ => none
theorem fld_get {K : PySem.W.Frag} {M : Hp} {f : Str} {d : D} : ∀ {fs : List (Str × V)} {ds : List D}, Dvs K M (fs.map (·.2)) ds → ((fs.map (·.1)).zip ds).lookup f = some d → ∃ v, fs.lookup f = some v ∧ Dv K M v d
  | [], _, .nil, e => by cases e
  | (g, x) :: fs, _, .cons h hs, e => by
    simp only [List.map_cons, List.zip_cons_cons, List.lookup] at e ⊢
    by_cases z : f = g
    · subst z
      simp only [beq_self_eq_true] at e ⊢
      cases e
      exact ⟨x, rfl, h⟩
    · have z' : (f == g) = false := by simpa using z
      rw [z'] at e ⊢
      exact fld_get hs e
theorem pFld {fe : Ev → Option D} {f : Str} (c : Cls X.K C) (na : NoAttr X.K C f) (he : PE X e (tP X.K fe)) (hb : attributeBase e f X.env (eval e X.env) = eval e X.env := by rfl) : PE X (.Attribute e f pos) (tP X.K (b1 fe (fldD C f))) :=
  PE.imp (pe_fld he hb) fun σ H Q ⟨M, ρ, fo, fv, d, R, l, e, k⟩ => by
    obtain ⟨x, ea, eg⟩ := b1_some e
    unfold fldD at eg
    split at eg
    · rename_i C' ks ds
      split at eg
      · rename_i hC
        subst hC
        refine ⟨M, ρ, fo, fv, _, R, l, ea, fun M1 H1 v1 s1 R1 d1 => ?_⟩
        cases d1 with
        | obj ha hdx hk hs =>
          subst hk
          obtain ⟨v, ev, dv⟩ := fld_get hs eg
          exact ⟨_, _, _, _, v, rfl, R1.same _ _ ha, c, na, ev, k M1 H1 v s1 R1 dv⟩
      · cases eg
    · cases eg

/-! ### methods, properties, operators of frozen objects -/
def selfC (C : Addr) : D → Bool
  | .obj C' _ _ => decide (C' = C)
  | _ => false
/-- o.m(..): from the data of o and of the arguments -/
def mC (C : Addr) (nm : Str) (fo : Ev → Option D) (ga : Ev → Option (List D)) (n : Nat) (m : List D → Option D) (ρ : Ev) : Option D := (fo ρ).bind fun x => match x with
  | .obj C' ks ds => if C' = C ∧ (ks.zip ds).lookup nm = none then (ga ρ).bind fun as => if as.length + 1 = n then m (.obj C' ks ds :: as) else none else none
  | _ => none
theorem fld_none {K : PySem.W.Frag} {M : Hp} {f : Str} : ∀ {fs : List (Str × V)} {ds : List D}, Dvs K M (fs.map (·.2)) ds → ((fs.map (·.1)).zip ds).lookup f = none → fs.lookup f = none
  | [], _, .nil, e => rfl
  | (g, x) :: fs, _, .cons h hs, e => by
    simp only [List.map_cons, List.zip_cons_cons, List.lookup] at e ⊢
    by_cases z : f = g
    · subst z
      simp only [beq_self_eq_true] at e
      cases e
    · have z' : (f == g) = false := by simpa using z
      rw [z'] at e ⊢
      exact fld_none hs e
theorem meth_of {K : PySem.W.Frag} {C : Addr} {nm : Str} {fo : Ev → Option D} {ga : Ev → Option (List D)} {n : Nat} {m : List D → Option D} {σ : L2.St} {H : Hp} {Q : VK} (h : tP K (mC C nm fo ga n m) σ H Q) : tMeth C nm (spP K n m) [] E0 (tP K fo) (tAr K ga) σ H Q := by
  obtain ⟨M, ρ, fr, fv, d, R, l, e, k⟩ := h
  unfold mC at e
  cases q : fo ρ with
  | none => rw [q] at e; cases e
  | some x =>
    rw [q, Option.bind_some] at e
    cases x with
    | obj C' ks ds =>
      change (if C' = C ∧ (ks.zip ds).lookup nm = none then (ga ρ).bind fun as => if as.length + 1 = n then m (.obj C' ks ds :: as) else none else none) = some d at e
      split at e
      · rename_i hc
        obtain ⟨rfl, hno⟩ := hc
        refine ⟨M, ρ, fr, fv, _, R, l, q, fun M1 H1 v1 s1 R1 d1 => ?_⟩
        cases q2 : ga ρ with
        | none => rw [q2] at e; cases e
        | some as =>
          rw [q2, Option.bind_some] at e
          split at e
          · rename_i hn
            have d1' := d1
            cases d1 with
            | obj ha hdx hk hs =>
              subst hk
              refine ⟨_, _, _, rfl, R1.same _ _ ha, fld_none hs hno, M1, ρ, fr, fv, as, R1, l, q2, fun M2 H2 vs s2 R2 d2 => ⟨?_, M2, ρ ++ fr, σ ++ fv, _, d, R2, .cons (d1'.mono s2) (by rw [List.append_nil]; exact d2), e, fun M3 H3 v s3 R3 d3 => k M3 H3 v (s1.trans (s2.trans s3)) R3 d3⟩⟩
              rw [List.append_nil, List.length_cons, d2.length]; exact hn
          · cases e
      · cases e
    | _ => cases e
theorem pMeth {nm : Str} {o : Expr} {fo : Ev → Option D} {apos : Pos} {m : List D → Option D} {pl : Sem Bool} (c : Cls X.K C) (hm : Meth X.K C nm f) (F : FnOk X.prog X.w X.K X.mg X.base CX0 k f fd ps (spP X.K n m)) (hr : Room k X.A) (hb : Binds X.K fd ps []) (he : PE X o (tP X.K fo)) (ha : PA X (e :: es) (tAr X.K ga))
    (hst : starEach (e :: es) X.env = (false, eval e X.env) :: starEach es X.env := by rfl) (hpl : (backTo pos (starEach es X.env)).any (·.1) = false := by rfl)
    (ht : eval (.Call (.Attribute o nm apos) (e :: es) [] pos) X.env = (do
      let ov ← eval o X.env
      standAt apos.atName
      let (f, first) ← holding [ov] (getMethod ov nm pl)
      callWith pos f first (backTo pos (starEach (e :: es) X.env)) (backToKw pos (keywordEach [] X.env))) := by rfl) :
    PE X (.Call (.Attribute o nm apos) (e :: es) [] pos) (tP X.K (mC C nm fo ga n m)) := PE.imp (pe_meth he c hm F hr hb .nil pass0 ha hst hpl ht) fun _ _ _ h => meth_of h
/-- x op y, both of the class C -/
def opC (C : Addr) (m : List D → Option D) (x y : D) : Option D := if selfC C x = true ∧ selfC C y = true then (m [x, y]).bind fun d => some d else none
theorem obj_at {pins : List (Addr × Obj)} {σ : L2.St} {H : Hp} {s : Shared} (I : Inv X pins σ H s) {M : Hp} {fo : List O} {fv : List (Option V)} {v : V} {u : Value} {d : D} (R : Rep X.K M H fo fv) (dv : Dv X.K M v d) (hc : selfC C d = true) (r : RelV v u) :
    ∃ a ox od, u = .ref a ∧ v = .ref a ∧ PySem.W.InstAt s.heap a ox C (some od) := by
  cases dv with
  | obj ha hdx hk hs =>
    rename_i a C' dx fs ks ds
    have : C' = C := by simpa [selfC] using hc
    subst this
    obtain rfl : u = Value.ref a := r
    obtain ⟨mA, O, _, _, _, _⟩ := ins_get I.hok (R.same _ _ ha)
    obtain ⟨od, J, _⟩ := O.look
    exact ⟨a, _, od, rfl, rfl, J⟩
  | _ => cases hc
/-- what the number slots of the class are -/
structure OpOf (K : PySem.W.Frag) (C : Addr) (op : Operator) (f : Addr) : Prop where
  first : PySem.W.selfFirst K C = true
  at_ : PySem.W.findIn K (.ref C) (PySem.dunder op.info.2) = some (some (.ref f))
  fn : PySem.W.isFn K (.ref f) = true
theorem notImpl {v : V} {u : Value} (r : RelV v u) : u ≠ .notImplemented := fun z => by
  subst z
  cases v <;> first | (obtain ⟨_, h⟩ := r; cases h) | cases r
theorem ep_back {pins : List (Addr × Obj)} {σ : L2.St} {Q : VK} {u : Value} {s' : Shared} (h : EP X pins σ Q u s') : PySem.W.CmpBack (EP X pins σ Q) u s' := by
  obtain ⟨v, H', I', r, q⟩ := h
  have := notImpl r
  unfold PySem.W.CmpBack
  split
  · exact this rfl
  · exact ⟨v, H', I', r, q⟩
theorem oOpC {op : Operator} {m : List D → Option D} (hop : OpOf X.K C op f) (F : FnOk X.prog X.w X.K X.mg X.base CX0 k f fd ps (spP X.K 2 m)) (hr : Room k X.A) (hb : Binds X.K fd ps []) : OpR X (binaryOp op) (rD X.K (opC C m)) := by
  intro pins s σ H x y v u Q I rx ry ⟨M, fo, fv, dx, dy, d, R, d1, d2, e, kk⟩
  unfold opC at e
  split at e
  · rename_i hc
    obtain ⟨a, ox, od, ea, _, Ia⟩ := obj_at I R d1 hc.1 rx
    obtain ⟨b, oy, oe, eb, _, Ib⟩ := obj_at I R d2 hc.2 ry
    cases q : m [dx, dy] with
    | none => rw [q] at e; cases e
    | some d' =>
      rw [q] at e
      cases e
      subst ea
      obtain ⟨mm, fr⟩ := I.fr
      refine PySem.W.binop_K fr I.ok.mod.kin Ia (by rw [eb]; exact Ib.type) hop.first hop.at_ hop.fn ?_
      refine wpAny_mono (run_fn (us := [.ref a, u]) (vs := [x, y]) (ds := []) (dvs := []) (E := E0) F hr hb .nil pass0 I (.cons rx (.cons ry .nil)) ?_) (fun _ _ h => ep_back h) fun _ _ h => h
      exact ⟨rfl, M, fo, fv, [dx, dy], _, R, .cons d1 (.cons d2 .nil), q, kk⟩
  · cases e

/-- x op i, i an int -/
def opCI (C : Addr) (m : List D → Option D) (x y : D) : Option D := match y with
  | .int i => if selfC C x = true then m [x, .int i] else none
  | _ => none
structure OpOfI (K : PySem.W.Frag) (C : Addr) (op : Operator) (f : Addr) : Prop extends OpOf K C op f where
  back : ∃ rc, PySem.W.findIn K (.ref C) (dunderR op.info.2) = some rc ∧ (rc = none ∨ ∃ g : Addr, rc = some (.ref g))
  int1 : ∃ fo, PySem.W.findIn K (.type "int") (PySem.dunder op.info.2) = some fo
  int2 : ∃ ro, PySem.W.findIn K (.type "int") (dunderR op.info.2) = some ro
  sub : PySem.W.subIn K (.type "int") (.ref C) = some false
theorem oOpCI {op : Operator} {m : List D → Option D} (hop : OpOfI X.K C op f) (F : FnOk X.prog X.w X.K X.mg X.base CX0 k f fd ps (spP X.K 2 m)) (hr : Room k X.A) (hb : Binds X.K fd ps []) : OpR X (binaryOp op) (rD X.K (opCI C m)) := by
  intro pins s σ H x y v u Q I rx ry ⟨M, fo, fv, dx, dy, d, R, d1, d2, e, kk⟩
  unfold opCI at e
  split at e
  · rename_i j
    split at e
    · rename_i hc
      obtain ⟨a, ox, od, ea, _, Ia⟩ := obj_at I R d1 hc rx
      cases d2
      obtain ⟨t, rfl⟩ := ry
      subst ea
      obtain ⟨mm, fr⟩ := I.fr
      obtain ⟨rc, b1, b2⟩ := hop.back
      obtain ⟨fo', b3⟩ := hop.int1
      obtain ⟨ro', b4⟩ := hop.int2
      refine PySem.W.ksp_binT (T := "int") fr I.ok.mod.kin Ia (by rfl) hop.first hop.at_ hop.fn b1 b2 b3 b4 hop.sub ?_
      refine wpAny_mono (run_fn (us := [.ref a, .int j t]) (vs := [x, .int j]) (ds := []) (dvs := []) (E := E0) F hr hb .nil pass0 I (.cons rx (.cons ⟨t, rfl⟩ .nil)) ?_) (fun _ _ h => ep_back h) fun _ _ h => h
      exact ⟨rfl, M, fo, fv, [dx, .int j], d, R, .cons d1 (.cons (.int j) .nil), e, kk⟩
    · cases e
  · cases e
/-- ~x -/
def inC (C : Addr) (m : List D → Option D) (x : D) : Option D := if selfC C x = true then m [x] else none
theorem oInvC {m : List D → Option D} (h1 : PySem.W.findIn X.K (.ref C) "__invert__" = some (some (.ref f))) (h2 : PySem.W.isFn X.K (.ref f) = true) (F : FnOk X.prog X.w X.K X.mg X.base CX0 k f fd ps (spP X.K 1 m)) (hr : Room k X.A) (hb : Binds X.K fd ps []) : UnR X (unaryOp .Invert) (rD1 X.K (inC C m)) := by
  intro pins s σ H x v Q I rx ⟨M, fo, fv, dx, d, R, d1, e, kk⟩
  unfold inC at e
  split at e
  · rename_i hc
    obtain ⟨a, ox, od, ea, _, Ia⟩ := obj_at I R d1 hc rx
    subst ea
    obtain ⟨mm, fr⟩ := I.fr
    refine PySem.W.ksp_inv fr I.ok.mod.kin Ia h1 h2 ?_
    exact run_fn (us := [.ref a]) (vs := [x]) (ds := []) (dvs := []) (E := E0) F hr hb .nil pass0 I (.cons rx .nil) ⟨rfl, M, fo, fv, [dx], d, R, .cons d1 .nil, e, kk⟩
  · cases e
/-- what isinstance and == ask of an own class -/
structure ClsX (K : PySem.W.Frag) (C : Addr) : Prop where
  c : Cls K C
  ha : PySem.W.findIn K (.ref C) "__class__" = some (some (.builtin "object.__class__"))
  hn : PySem.W.specialIn K (.builtin "object.__class__") "__get__" = some (some (.builtin "getset_descriptor.__get__"))
  htk : PySem.W.takesIn K (.builtin "object.__class__") = some true
  hm : PySem.W.mroIn K C (.type "object") = some true
  ty : PySem.W.typeIn K (.ref C) = some (.type "type")
theorem sub_blt {K : PySem.W.Frag} {C : Addr} {d : D} {t : String} (e : tyD d = some t) : PySem.W.subIn K (.type t) (.ref C) = some false := by
  cases d <;> cases e <;> rfl

theorem ClsX.tyx {K : PySem.W.Frag} {M : Hp} {v : V} {C : Addr} {ks : List Str} {ds : List D} (c : ClsX K C) (h : Dv K M v (.obj C ks ds)) : TyX K M v (.ref C) := by
  cases h with
  | obj ha hdx hk hs => exact .base (.ins ha c.c c.ha c.hn c.htk c.hm)
/-- isinstance(x, C), C an own class: cs says what the own classes are to it -/
def isiC (cs : List (Addr × Bool)) (x : D) : Option D := match x with
  | .obj C' _ _ => (cs.lookup C').map .bl
  | x => (tyD x).map fun _ => .bl false
theorem isiC_cases {cs : List (Addr × Bool)} {x d : D} (h : isiC cs x = some d) : (∃ C' ks ds b, x = .obj C' ks ds ∧ cs.lookup C' = some b ∧ d = .bl b) ∨ ∃ t, tyD x = some t ∧ d = .bl false := by
  cases x with
  | obj C' ks ds =>
    left
    have h : (cs.lookup C').map D.bl = some d := h
    cases q : cs.lookup C' with
    | none => rw [q] at h; cases h
    | some b => rw [q] at h; cases h; exact ⟨C', ks, ds, b, rfl, q, rfl⟩
  | exn _ _ _ _ _ => cases h
  | tagM _ _ => cases h
  | tagP _ _ => cases h
  | dicT _ _ _ => cases h
  | _ =>
    right
    cases h
    exact ⟨_, rfl, rfl⟩
structure IsC (K : PySem.W.Frag) (C : Addr) (cs : List (Addr × Bool)) : Prop where
  cl : (PySem.W.clsIn K C).isSome = true
  ty : PySem.W.typeIn K (.ref C) = some (.type "type")
  own : ∀ C' b, cs.lookup C' = some b → ClsX K C' ∧ PySem.W.kitOne K (.ref C') (.ref C) = some b
theorem pIsiC {a : Expr} {q : Pos} {fa : Ev → Option D} {y : Str} {cs : List (Addr × Bool)} (I : IsC X.K C cs) (hmC : X.mg y = some (.ref C)) (ha : PE X a (tP X.K fa)) (hm : X.mg "isinstance" = none) (hg : Gl X "isinstance" := by rfl) (hgT : Gl X y := by rfl)
    (hd : (y == ("__debug__" : Str)) = false := by decide)
    (hs : starEach [a, .Name y q] X.env = (false, eval a X.env) :: starEach [.Name y q] X.env := by rfl) (hs2 : starEach [.Name y q] X.env = (false, eval (.Name y q) X.env) :: starEach [] X.env := by rfl) (hpl : (backTo pos (starEach [.Name y q] X.env)).any (·.1) = false := by rfl) :
    PE X (.Call (.Name "isinstance" p) [a, .Name y q] [] pos) (tP X.K (b1 fa (isiC cs))) :=
  PE.imp (pe_callB call_isi hg hm (by decide +kernel) (pa_cons ha (pa_cons (pe_glob (v := .ref C) hgT hmC rfl hd) pa_nil hs2) hs) (by decide) (by decide) hs hpl) fun σ H Q ⟨M, ρ, fo, fv, d, R, l, e, k⟩ => by
    obtain ⟨x, ea, eg⟩ := b1_some e
    refine ⟨M, ρ, fo, fv, x, R, l, ea, fun M1 H1 v1 s1 R1 d1 => ?_⟩
    have blt : ∀ t, tyD x = some t → d = .bl false → ∃ (x c : V) (t u : Value) (b : Bool), [v1, V.ref C] = [x, c] ∧ ClsV c u ∧ TyX X.K H1 x t ∧ PySem.W.kitOne X.K t u = some b ∧ Q (.bl b) H1 := fun t ht hd => by
      subst hd
      refine ⟨v1, .ref C, .type t, .ref C, false, rfl, .own C, tyX_mono R1.same (tyX_of d1 ht), ?_, k M1 H1 _ s1 R1 (.bl _)⟩
      unfold PySem.W.kitOne
      rw [if_neg (by simp)]
      show (if ((PySem.W.clsIn X.K C).isSome && PySem.W.typeIn X.K (.ref C) == some (.type "type")) = true then PySem.W.subIn X.K (.type t) (.ref C) else none) = some false
      rw [I.ty, I.cl, if_pos (by simp)]
      exact sub_blt ht
    rcases isiC_cases eg with ⟨C', ks, ds, b, rfl, q, rfl⟩ | ⟨t, ht, hd⟩
    · obtain ⟨c', hk⟩ := I.own C' b q
      exact ⟨v1, .ref C, .ref C', .ref C, b, rfl, .own C, tyX_mono R1.same (c'.tyx d1), hk, k M1 H1 _ s1 R1 (.bl _)⟩
    · exact blt t ht hd
/-- x == y, x of the class C that has its own __eq__ -/
def eqC (C : Addr) (os : List Addr) (m : List D → Option D) (x y : D) : Option D := if selfC C x = true then match y with
  | .obj C' ks ds => if C' = C ∨ C' ∈ os then m [x, .obj C' ks ds] else none
  | y => (tyD y).bind fun _ => m [x, y] else none
theorem eqC_cases {C : Addr} {os : List Addr} {m : List D → Option D} {x y d : D} (h : eqC C os m x y = some d) : selfC C x = true ∧ m [x, y] = some d ∧ ((∃ C' ks ds, y = .obj C' ks ds ∧ (C' = C ∨ C' ∈ os)) ∨ ∃ t, tyD y = some t) := by
  unfold eqC at h
  split at h
  · rename_i hc
    refine ⟨hc, ?_⟩
    cases y with
    | obj C' ks ds =>
      change (if C' = C ∨ C' ∈ os then m [x, .obj C' ks ds] else none) = some d at h
      split at h
      · exact ⟨h, .inl ⟨C', ks, ds, rfl, by assumption⟩⟩
      · cases h
    | exn _ _ _ _ _ => cases h
    | tagM _ _ => cases h
    | tagP _ _ => cases h
    | dicT _ _ _ => cases h
    | _ => exact ⟨h, .inr ⟨_, rfl⟩⟩
  · cases h
structure EqOf (K : PySem.W.Frag) (C f : Addr) (os : List Addr) : Prop where
  at_ : PySem.W.findIn K (.ref C) "__eq__" = some (some (.ref f))
  fn : PySem.W.isFn K (.ref f) = true
  cx : ClsX K C
  own : ∀ C' ∈ os, ClsX K C' ∧ PySem.W.subIn K (.ref C') (.ref C) = some false
theorem oEqC {m : List D → Option D} {os : List Addr} (hop : EqOf X.K C f os) (F : FnOk X.prog X.w X.K X.mg X.base CX0 k f fd ps (spP X.K 2 m)) (hr : Room k X.A) (hb : Binds X.K fd ps []) : OpR X (compareOp .Eq) (rD X.K (eqC C os m)) := by
  intro pins s σ H x y v u Q I rx ry ⟨M, fo, fv, dx, dy, d, R, d1, d2, e, kk⟩
  obtain ⟨hc, em, hy⟩ := eqC_cases e
  obtain ⟨a, ox, od, ea, _, Ia⟩ := obj_at I R d1 hc rx
  subst ea
  obtain ⟨mm, fr⟩ := I.fr
  have fin : ∀ tb, PySem.W.Looks (model X.prog X.w) s.heap (typeOf u) tb → PySem.W.notFirst X.K C tb = true → wpAny (model X.prog X.w) X.A (compareOp .Eq (.ref a) u) (EP X pins σ Q) X.xe s := fun tb L hn => by
    refine PySem.W.cmp_ofEq (PySem.W.cmp_K hr.units0 fr I.ok.mod.kin Ia L hn hop.at_ hop.fn ?_)
    refine wpAny_mono (run_fn (us := [.ref a, u]) (vs := [x, y]) (ds := []) (dvs := []) (E := E0) F hr hb .nil pass0 I (.cons rx (.cons ry .nil)) ?_) (fun _ _ h => ep_back h) fun _ _ h => h
    exact ⟨rfl, M, fo, fv, [dx, dy], d, R, .cons d1 (.cons d2 .nil), em, kk⟩
  have look : ∀ t, TyX X.K M y t → PySem.W.Looks (model X.prog X.w) s.heap (typeOf u) t := fun t ty => by
    obtain ⟨P, Z, p, _⟩ := kit_of I ry (tyX_mono R.same ty)
    exact Z.ty _ _ I.kIn p
  rcases hy with ⟨C', ks, ds, rfl, hC⟩ | ⟨t, ht⟩
  · by_cases z : C' = C
    · subst z
      exact fin _ (look _ (hop.cx.tyx d2)) (by unfold PySem.W.notFirst; simp)
    · obtain ⟨c', hs⟩ := hop.own C' (hC.resolve_left z)
      exact fin _ (look _ (c'.tyx d2)) (by unfold PySem.W.notFirst; rw [hs]; simp)
  · exact fin _ (look _ (tyX_of d2 ht)) (by unfold PySem.W.notFirst; rw [sub_blt ht]; simp)
end
end PD

namespace PD
open PySem PySem.Spec L2

section
variable {X : Cx} {W : WX} {J : List Nat} {pos p : Pos} {e : Expr} {es : List Expr} {ga : Ev → Option (List D)}
/-! ### calls of built-ins that give a new thing -/
theorem tCB_O {K : PySem.W.Frag} {g : Ev → Option (List D)} {f : List D → Option O} {σ : L2.St} {H : Hp} {Q : VK} (h : tO K (cO g f) σ H Q) : tCB (rOs K f) (tAr K g) σ H Q := by
  obtain ⟨M, ρ, fo, fv, o, R, l, e, k⟩ := h
  unfold cO at e
  cases q : g ρ with
  | none => rw [q] at e; cases e
  | some ds =>
    rw [q, Option.bind_some] at e
    exact ⟨M, ρ, fo, fv, ds, R, l, q, fun M1 H1 vs s1 R1 d1 => ⟨M1, ρ ++ fo, σ ++ fv, ds, o, R1, d1, e, fun M2 H2 v s2 R2 => k M2 H2 v (s1.trans s2) (R2.swap l)⟩⟩
theorem oCallB {id : String} {x : Str} {f : List D → Option O} (hc : CallR X (.builtin id) (rOs X.K f)) (hm : X.mg x = none) (hv : bootBuiltins x = some (.builtin id)) (ha : PA X (e :: es) (tAr X.K ga)) (hg : Gl X x := by rfl) (hn : x ≠ "__name__" := by decide) (hdb : (x == ("__debug__" : Str)) = false := by decide)
    (hpl : (backTo pos (starEach es X.env)).any (·.1) = false := by rfl) (hs : starEach (e :: es) X.env = (false, eval e X.env) :: starEach es X.env := by rfl) : PE X (.Call (.Name x p) (e :: es) [] pos) (tO X.K (cO ga f)) :=
  PE.imp (pe_callB hc hg hm hv ha hn hdb hs hpl) fun _ _ _ h => tCB_O h
theorem oCallT {T : String} {x : Str} {f : List D → Option O} (hc : CallR X (.type T) (rOs X.K f)) (hm : X.mg x = none) (hv : bootBuiltins x = some (.type T)) (ha : PA X (e :: es) (tAr X.K ga)) (hg : Gl X x := by rfl) (hn : x ≠ "__name__" := by decide) (hdb : (x == ("__debug__" : Str)) = false := by decide)
    (hpl : (backTo pos (starEach es X.env)).any (·.1) = false := by rfl) (hs : starEach (e :: es) X.env = (false, eval e X.env) :: starEach es X.env := by rfl) : PE X (.Call (.Name x p) (e :: es) [] pos) (tO X.K (cO ga f)) :=
  PE.imp (pe_callTy hc hg hm hv ha hn hdb hs hpl) fun _ _ _ h => tCB_O h
/-! ### list(x), tuple(x) -/
def listO : List D → Option O
  | [.lst ds] => some (.lst (ds.map .dat))
  | [.tup ds] => some (.lst (ds.map .dat))
  | _ => none
def tupD : List D → Option D
  | [.lst ds] => some (.tup ds)
  | [.tup ds] => some (.tup ds)
  | _ => none
theorem cTup : CallR X (.type "tuple") (rDs X.K tupD) := CallR.imp call_tuple_of fun xs H Q ⟨M, fo, fv, ds, o, R, dv, e, k⟩ => by
  unfold tupD at e
  split at e
  · cases e
    cases dv with
    | cons d1 dn =>
      cases dn
      cases d1 with
      | @lst a xs _ hs hd =>
        refine ⟨_, _, rfl, .inl ⟨seqX R.same hs, fun l hl => ?_⟩⟩
        have s2 := same_updM (u := .tup xs) (R.same.free hl)
        exact k _ _ _ s2 (R.growM hl) (.tup (.inl (.inl upd_same)) (hd.mono s2))
  · cases e
    cases dv with
    | cons d1 dn =>
      cases dn
      have d1' := d1
      cases d1 with
      | tup hs hd => exact ⟨_, _, rfl, .inr ⟨sqT_same R.same hs, k M H _ (Same.refl _) R d1'⟩⟩
  · cases e
/-! ### sorted(x) -/
def pyT (d : D) : PyData := d.py.getD .none
def leD : D → D → Bool := PySem.W.dataLe false pyT
def SortOk (ds : List D) : Prop := (∀ d ∈ ds, d.py = some (pyT d) ∧ (pyT d).depth ≤ 60) ∧ PySem.W.AllAlike (ds.map pyT) ∧ PySem.W.Sortable (ds.map pyT) ∧ ds.length ≤ sizeLine
open Classical in
noncomputable def srtO : List D → Option O
  | [.lst ds] => if SortOk ds then some (.lst ((ds.mergeSort leD).map .dat)) else none
  | _ => none
theorem each_of {K : PySem.W.Frag} {M : Hp} : ∀ {vs : List V} {ds : List D} {us : List Value}, Dvs K M vs ds → Vals vs us → PySem.W.EachIs (fun u (d : D) => ∃ v, RelV v u ∧ Dv K M v d) us ds
  | _, _, _, .nil, .nil => .nil
  | _, _, _, .cons d ds, .cons r rs => .cons ⟨_, r, d⟩ (each_of ds rs)
theorem of_each {K : PySem.W.Frag} {M : Hp} : ∀ {us : List Value} {ds : List D}, PySem.W.EachIs (fun u (d : D) => ∃ v, RelV v u ∧ Dv K M v d) us ds → ∃ vs, Vals vs us ∧ Dvs K M vs ds
  | _, _, .nil => ⟨[], .nil, .nil⟩
  | _, _, .cons ⟨v, r, d⟩ t => by
    obtain ⟨vs, rs, ds⟩ := of_each t
    exact ⟨v :: vs, .cons r rs, .cons d ds⟩
theorem cSorted (hu : X.A.units + 64 < cLine) : CallR X (.builtin "sorted") (rOs X.K srtO) := by
  intro pins s σ H xs us Q I r ⟨M, fo, fv, ds, o, R, dv, e, k⟩
  unfold srtO at e
  split at e
  · rename_i ds
    split at e
    · rename_i ok
      cases e
      cases dv with
      | cons d1 dn =>
        cases dn
        cases d1 with
        | lst hs hd =>
          obtain ⟨its, rv, hl, _⟩ := I.list (seqX R.same hs)
          rw [Vals.ref1 r]
          obtain ⟨o1, o2, o3, o4⟩ := ok
          refine PySem.W.sorted_data (bs := ds) (enc := pyT) hl.isList (each_of hd rv) ?_ o2 o3 o4 (fun b hb => by have := (o1 b hb).2; omega) fun out hlen eo => ?_
          · have key : ∀ {vs : List V} {es : List D} {us : List Value}, (∀ d ∈ es, d.py = some (pyT d)) → Dvs X.K M vs es → Vals vs us → PySem.W.EachIs (fun u (d : D) => ∃ as, Reads s.heap u (pyT d) as) us es := by
              intro vs es
              induction es generalizing vs with
              | nil => intro us _ h2 h3; cases h2; cases h3; exact .nil
              | cons d es ih =>
                intro us h1 h2 h3
                cases h2 with
                | cons a b =>
                  cases h3 with
                  | cons c c' => exact .cons (Dp.reads I _ _ _ (dp_mono R.same (a.dp (h1 d List.mem_cons_self))) c) (ih (fun x hx => h1 x (List.mem_cons_of_mem _ hx)) b c')
            exact key (fun d hd => (o1 d hd).1) hd rv
          · obtain ⟨ep, he'⟩ := PyProof.Rows.sortedAll_at s.heap its out.toArray
            obtain ⟨vs, rs, dvs⟩ := of_each eo
            have hlen' : vs.length ≤ sizeLine := by rw [rs.length, hlen]; exact o4
            have hf := I.hok.fresh (Nat.le_succ s.heap.objs.size)
            exact ⟨.ref _, upd H (s.heap.objs.size + 1) (.lst vs), I.laid (t' := s.toks) (fun _ _ => PyProof.Rows.sortedAll_old) (Nat.le_succ _) ⟨hlen', out, ep, rs, by simpa using he'⟩, rfl, k M _ _ (Same.refl _) (Rep.newL (l := []) (lv := []) R rfl hf dvs)⟩
    · cases e
  · cases e
end
end PD

namespace PD
open PySem PySem.Spec L2

section
variable {X : Cx} {W : WX} {J : List Nat} {pos p cpos apos : Pos} {e : Expr} {es : List Expr} {ga : Ev → Option (List D)} {te : TE}
/-! ### list(d.values()) -/
def tListVals (te : TE) : TE := fun σ H Q => te σ H fun x H1 => ∃ d kvs, x = .ref d ∧ Rd H1 d (.dK kvs) ∧ ∀ p, H1 p = none → Q (.ref p) (upd H1 p (.lst (kvs.map (·.2))))
theorem kv_val : ∀ {kvs : List (Key × V)} {vs : List (Key × Value)} {j : Nat} {x : V}, KV kvs vs → (kvs.map (·.2))[j]? = some x → ∃ k u, vs[j]? = some (k, u) ∧ RelV x u
  | _, _, _, _, .nil, e => by simp at e
  | (k, x) :: _, (k', u) :: _, 0, y, .cons r _, e => by
    simp at e; subst e
    exact ⟨k', u, rfl, r.2⟩
  | _ :: _, _ :: _, j + 1, y, .cons _ t, e => by
    obtain ⟨k, u, h1, h2⟩ := kv_val (j := j) t (by simpa using e)
    exact ⟨k, u, by simpa using h1, h2⟩
theorem pe_listVals (hc : X.calm = true) (he : PE X e te) (hg : Gl X "list") (hm : X.mg "list" = none) (hv : bootBuiltins "list" = some (.type "list")) (hbase : attributeBase e "values" X.env (eval e X.env) = eval e X.env := by rfl) (hline : (apos.endLine == cpos.line) = true := by rfl)
    (hs : starEach [.Call (.Attribute e "values" apos) [] [] cpos] X.env = (false, eval (.Call (.Attribute e "values" apos) [] [] cpos) X.env) :: starEach [] X.env := by rfl) :
    PE X (.Call (.Name "list" p) [.Call (.Attribute e "values" apos) [] [] cpos] [] pos) (tListVals te) := by
  refine ⟨fun pins s σ H Q I hq => ?_⟩
  refine wpAny_Call_Name_kw (ld_blt I hg hm hv ?_)
  refine PyProof.Rows.callWith_type1 ?_ hs rfl
  rw [hs]
  show wpAny _ _ (spliced ((false, eval (.Call (.Attribute e "values" apos) [] [] cpos) X.env) :: backTo pos (starEach [] X.env))) _ _ s
  refine Calls.spliced_cons ?_
  refine wpAny_Call_method (T := "dict") (id := "dict.values") hbase rfl hline F.plainAttrs_dict F.slot_dict_values F.type_dict_values (thn (he.run pins s σ H _ I hq) fun u s1 ⟨x, H1, I1, rx, d, kvs, ex, hd, q⟩ => ?_)
  subst ex
  obtain rfl : u = Value.ref d := rx
  obtain ⟨hz, hs0, vs, kv, hdo⟩ := dk_rd I1.hok hd
  have lk : kvs.length = vs.length := Paired.length kv
  have I2 : Inv X pins σ H1 { s1 with heap := s1.heap.push { cls := .type "dict_values", data := .fields #[.ref d] } } := I1.kept (t' := s1.toks) fun b ob q => Heap.get?_push_of_some _ q
  refine ⟨hdo.typeIs, hdo.mapOf.noDict, ?_⟩
  show wpAny _ _ (callWith cpos (.builtin "dict.values") [.ref d] [] []) _ X.xe s1
  refine method_meetsIn F.slot_dict_values F.entry_dict_values rfl (PySem.evalArgs_none ⟨rfl, hdo.typeIs, F.args_dict_values_1 _, _, meets_dict_values (mixKind X.prog X.w) d hs0, ⟨vs, hdo⟩, ?_⟩)
  refine Calls.spliced_nil ?_
  obtain ⟨es, ep, hraw, hsz, hat⟩ := hdo.raw
  refine PySem.W.kdl_call (T := "dict_values") (PySem.KdlSrc.rawValues (d := d) (es := es) (ep := ep)) (I1.ok.hd hc) ⟨⟨_, Heap.get?_push_size _ rfl, rfl, rfl⟩, hraw.at fun o z => Heap.get?_push_of_some _ z⟩ (by rw [hsz, ← lk]; exact hz) fun h' tk acc' c' hkeep hS hacc => ?_
  have J := I2.laid (t' := tk) (a := (s1.heap.push { cls := .type "dict_values", data := .fields #[.ref d] }).objs.size) (o := .lst (kvs.map (·.2))) (h' := h') hkeep (Nat.le_refl _) (show ObjOk X.prog X.w _ _ _ (.lst (kvs.map (·.2))) from ⟨by rw [List.length_map]; exact hz, acc'.toList, c', ?_, ?_⟩)
  · exact ⟨.ref _, _, J, rfl, q _ (I2.hok.fresh (Nat.le_refl _))⟩
  · have el : acc'.toList.length = acc'.size := by simp
    refine vals_of_at (by rw [List.length_map, el, hacc.1, hsz, lk]) fun j x w h1 h2 => ?_
    obtain ⟨hi, e2⟩ := hacc.2 j w (by rw [← Array.getElem?_toList]; exact h2)
    obtain ⟨k, u, e3, r3⟩ := kv_val kv h1
    obtain ⟨_, e4⟩ := hat j hi k u e3
    rw [e2, e4]; exact r3
  · rw [Array.toArray_toList]; exact hS

theorem dget_rd {H : Hp} {a : Addr} {kvs : List (Key × V)} {k : Key} (e : Rd H a (.dK kvs)) : DGet H a (kV k) (valV kvs k) := .inl ⟨kvs, k, e, rfl, rfl⟩
def keyD : D → Option Key
  | .int i => some (.inl i)
  | .str x => some (.inr x)
  | _ => none
theorem key_of {K : PySem.W.Frag} {M : Hp} {v : V} {d : D} {k : Key} (h : Dv K M v d) (e : keyD d = some k) : v = kV k := by
  cases h <;> cases e <;> rfl
/-- {} -/
def dic0 (_ : Ev) : Option O := some (.dic [] [])
theorem Rep.newD {K : PySem.W.Frag} {M H : Hp} {l r : List O} {lv rv : List (Option V)} (R : Rep K M H (l ++ r) (lv ++ rv)) (e : lv.length = l.length) {p : Addr} (hp : H p = none) : Rep K M (upd H p (.dK [])) (l ++ .dic [] [] :: r) (lv ++ some (.ref p) :: rv) := by
  obtain ⟨s, fp, w, nd, nm⟩ := R
  have pn : p ∉ fp := fun z => w.dom p z hp
  have w' : Ows K M (upd H p (.dK [])) (l ++ r) (lv ++ rv) fp := w.frame (Same.refl _) fun a ha => upd_ne fun z => pn (z ▸ ha)
  obtain ⟨fa, fb, e1, wa, wb⟩ := w'.split e
  subst e1
  refine ⟨fun b u q => ?_, fa ++ ([p] ++ fb), wa.append (.cons (.dic upd_same rfl .nil) wb), ?_, fun a ha => ?_⟩
  · have q' := s b u q
    rw [upd_ne (ne_of_none q' hp)]; exact q'
  · rw [List.nodup_append] at nd ⊢
    obtain ⟨n1, n2, n3⟩ := nd
    refine ⟨n1, List.nodup_cons.mpr ⟨fun z => pn (List.mem_append_right _ z), n2⟩, fun a ha b hb => ?_⟩
    rcases List.mem_cons.mp hb with rfl | hb
    · exact fun z => pn (z ▸ List.mem_append_left _ ha)
    · exact n3 a ha b hb
  · simp only [List.mem_append, List.mem_singleton] at ha
    rcases ha with ha | rfl | ha
    · exact nm a (List.mem_append_left _ ha)
    · exact s.free hp
    · exact nm a (List.mem_append_right _ ha)
theorem oDic0 : PE X (.Dict [] [] pos) (tO X.K dic0) := PE.imp pe_dnewK fun σ H Q ⟨M, ρ, fo, fv, o, R, l, e, k⟩ => by
  cases e
  exact fun p hp => k M _ _ (Same.refl _) (R.newD l hp)
/-- list(d.values()) -/
def valsO (f : Ev → Option D) (ρ : Ev) : Option O := (f ρ).bind fun d => match d with
  | .dic _ ds => some (.lst (ds.map .dat))
  | _ => none
theorem oVals {f : Ev → Option D} (hc : X.calm = true) (he : PE X e (tP X.K f)) (hm : X.mg "list" = none) (hg : Gl X "list" := by rfl) (hbase : attributeBase e "values" X.env (eval e X.env) = eval e X.env := by rfl) (hline : (apos.endLine == cpos.line) = true := by rfl)
    (hs : starEach [.Call (.Attribute e "values" apos) [] [] cpos] X.env = (false, eval (.Call (.Attribute e "values" apos) [] [] cpos) X.env) :: starEach [] X.env := by rfl) :
    PE X (.Call (.Name "list" p) [.Call (.Attribute e "values" apos) [] [] cpos] [] pos) (tO X.K (valsO f)) := PE.imp (pe_listVals hc he hg hm (by decide +kernel) hbase hline hs) fun σ H Q ⟨M, ρ, fo, fv, o, R, l, e, k⟩ => by
  unfold valsO at e
  cases q : f ρ with
  | none => rw [q] at e; cases e
  | some d =>
    rw [q, Option.bind_some] at e
    split at e
    · cases e
      refine ⟨M, ρ, fo, fv, _, R, l, q, fun M1 H1 v s1 R1 d1 => ?_⟩
      cases d1 with
      | dic ha hk hd => exact ⟨_, _, rfl, Rd.up R1.same ha, fun p hp => k M1 _ _ s1 (R1.newL l hp hd)⟩
    · cases e
/-- d[k] of a frozen dict -/
def dlook (k : Key) : List Key → List D → Option D
  | k' :: ks, d :: ds => if k' = k then some d else dlook k ks ds
  | _, _ => none
theorem dlook_val {K : PySem.W.Frag} {M : Hp} {k : Key} : ∀ {kvs : List (Key × V)} {ds : List D}, Dvs K M (kvs.map (·.2)) ds → match dlook k (kvs.map (·.1)) ds with
    | some d => ∃ v, valV kvs k = some v ∧ Dv K M v d
    | none => valV kvs k = none
  | [], _, .nil => rfl
  | (k', v) :: kvs, _, .cons (d := d) (ds := ds) h hs => by
    simp only [List.map_cons, dlook]
    by_cases e : k' = k
    · rw [if_pos e]; exact ⟨v, valV_pos e, h⟩
    · rw [if_neg e]
      have ih := dlook_val (k := k) hs
      have ev : valV ((k', v) :: kvs) k = valV kvs k := valV_neg e
      rw [ev]
      exact ih
def dgetD (x y : D) : Option D := match x with
  | .dic ks ds => (keyD y).bind fun k => dlook k ks ds
  | _ => none
theorem pDget {a b : Expr} {fa fb : Ev → Option D} (hu : X.A.units + 64 < cLine) (ha : PE X a (tP X.K fa)) (hb : PE X b (tP X.K fb)) (hs : NoSl b := by exact fun _ _ => rfl) : PE X (.Subscript a b pos) (tP X.K (b2 fa fb dgetD)) := PE.imp (pe_dget (by omega) ha hb hs) fun σ H Q h => by
  obtain ⟨M, ρ, fo, fv, d, R, l, e, k⟩ := h
  obtain ⟨x, y, ea, eb, eg⟩ := b2_some e
  refine ⟨M, ρ, fo, fv, x, R, l, ea, fun M1 H1 v1 s1 R1 d1 => ⟨M1, ρ, fo, fv, y, R1, l, eb, fun M2 H2 v2 s2 R2 d2 => ?_⟩⟩
  unfold dgetD at eg
  split at eg
  · rename_i ks ds
    cases q : keyD y with
    | none => rw [q] at eg; cases eg
    | some kk =>
      rw [q, Option.bind_some] at eg
      have d1 := d1.mono s2
      cases d1 with
      | dic h1 hk hd =>
        subst hk
        have := dlook_val (k := kk) hd
        rw [eg] at this
        obtain ⟨v, ev, dv⟩ := this
        refine ⟨_, v, rfl, ?_, k M2 H2 v (s1.trans s2) R2 dv⟩
        rw [key_of d2 q, ← ev]
        exact dget_rd (Rd.up R2.same h1)
  · cases eg
def dinD (x y : D) : Option D := match y with
  | .dic ks ds => if ds.length = ks.length then (keyD x).map fun k => .bl (dlook k ks ds).isSome else none
  | _ => none
theorem din_of {K : PySem.W.Frag} {fa fb : Ev → Option D} {σ : L2.St} {H : Hp} {Q : VK} (h : tP K (b2 fa fb dinD) σ H Q) : tDIn (tP K fa) (tP K fb) σ H Q := by
  obtain ⟨M, ρ, fo, fv, d, R, l, e, k⟩ := h
  obtain ⟨x, y, ea, eb, eg⟩ := b2_some e
  refine ⟨M, ρ, fo, fv, x, R, l, ea, fun M1 H1 v1 s1 R1 d1 => ⟨M1, ρ, fo, fv, y, R1, l, eb, fun M2 H2 v2 s2 R2 d2 => ?_⟩⟩
  unfold dinD at eg
  split at eg
  · rename_i ks ds
    split at eg
    · cases q : keyD x with
      | none => rw [q] at eg; cases eg
      | some kk =>
        rw [q] at eg
        cases eg
        cases d2 with
        | dic h1 hk hd =>
          subst hk
          have hv := dlook_val (k := kk) hd
          rw [key_of d1 q]
          refine ⟨_, _, rfl, dget_rd (Rd.up R2.same h1), ?_⟩
          cases q2 : dlook kk _ ds with
          | none => rw [q2] at hv; rw [show valV _ kk = none from hv]; exact k M2 H2 _ (s1.trans s2) R2 (by simp only [q2]; exact .bl _)
          | some z => rw [q2] at hv; obtain ⟨v, ev, _⟩ := hv; rw [ev]; exact k M2 H2 _ (s1.trans s2) R2 (by simp only [q2]; exact .bl _)
    · cases eg
  · cases eg
theorem tDin' {a b : Expr} {fa fb : Ev → Option D} (hu : X.A.units + 64 < cLine) (ha : PE X a (tP X.K fa)) (hb : PE X b (tP X.K fb)) (hm : behindInMarks .In b = false := by rfl) : PT X (.Compare a [.In] [b] pos) (tT X.K (asB (b2 fa fb dinD))) :=
  PT.imp (pt_cmp (pc_din (by omega) ha hb) hm) fun σ H Q ⟨M, ρ, fo, fv, b, R, l, e, k⟩ => din_of (K := X.K) (Q := fun x H' => ∃ k, x = .bl k ∧ Q k H') ⟨M, ρ, fo, fv, .bl b, R, l, asB_some e, fun M' H' v s R' dv => by cases dv; exact ⟨b, rfl, k M' H' s R'⟩⟩

/-! ### an own dict in a slot -/
def olook (k : Key) : List Key → List O → Option O
  | k' :: ks, d :: ds => if k' = k then some d else olook k ks ds
  | _, _ => none
theorem olook_val {K : PySem.W.Frag} {M H : Hp} {k : Key} : ∀ {kvs : List (Key × V)} {os : List O} {fp : List Addr}, Ows K M H os (kvs.map fun p => some p.2) fp → match olook k (kvs.map (·.1)) os with
    | some o => ∃ v f, valV kvs k = some v ∧ Ow K M H o (some v) f
    | none => valV kvs k = none
  | [], _, _, .nil => rfl
  | (k', v) :: kvs, _, _, .cons (o := o) (os := os) h hs => by
    simp only [List.map_cons, olook]
    by_cases e : k' = k
    · rw [if_pos e]; exact ⟨v, _, valV_pos e, h⟩
    · rw [if_neg e]
      have ih := olook_val (k := k) hs
      have ev : valV ((k', v) :: kvs) k = valV kvs k := valV_neg e
      rw [ev]
      exact ih
def dgetO (i : Nat) (fk : Ev → Option D) (ρ : Ev) : Option D := (fk ρ).bind fun y => (keyD y).bind fun k => match ρ[i]? with
  | some (.dic ks os) => match olook k ks os with
    | some (.dat d) => some d
    | _ => none
  | _ => none
theorem pDgetO {i : Nat} {x : Str} {p' : Pos} {b : Expr} {fk : Ev → Option D} (hu : X.A.units + 64 < cLine) (hv : PE X (.Name x p') (tVar i)) (hb : PE X b (tP X.K fk)) (hs : NoSl b := by exact fun _ _ => rfl) : PE X (.Subscript (.Name x p') b pos) (tP X.K (dgetO i fk)) := PE.imp (pe_dget (by omega) hv hb hs) fun σ H Q h => by
  obtain ⟨M, ρ, fo, fv, d, R, l, e, k⟩ := h
  unfold dgetO at e
  cases q : fk ρ with
  | none => rw [q] at e; cases e
  | some y =>
    rw [q, Option.bind_some] at e
    cases q2 : keyD y with
    | none => rw [q2] at e; cases e
    | some kk =>
      rw [q2, Option.bind_some] at e
      split at e
      · rename_i ks os eo
        split at e
        · rename_i d' el
          cases e
          have R' : Rep X.K M H (ρ ++ ([] ++ fo)) (σ ++ ([] ++ fv)) := R
          obtain ⟨w, f1, ft, ew, h1, _, _, _, _⟩ := R'.own l rfl eo
          cases h1 with
          | @dic a kvs _ _ fp ha hk ws =>
            refine ⟨.ref a, ew, M, ρ, fo, fv, y, R, l, q, fun M1 H1 v1 s1 R1 d1 => ?_⟩
            have R1' : Rep X.K M1 H1 (ρ ++ ([] ++ fo)) (σ ++ ([] ++ fv)) := R1
            obtain ⟨w', f1', ft', ew', h1', _, _, _, _⟩ := R1'.own l rfl eo
            rw [ew] at ew'
            cases ew'
            cases h1' with
            | dic ha' hk' ws' =>
              have hv' := olook_val (k := kk) ws'
              rw [hk', el] at hv'
              obtain ⟨v, f, ev, ov⟩ := hv'
              refine ⟨a, v, rfl, ?_, ?_⟩
              · rw [key_of d1 q2, ← ev]; exact DGet.k ha'
              · cases ov with
                | dat dv => exact k M1 H1 v s1 R1 dv
        · cases e
      · cases e
def putKD (k : Key) (d : D) (ks : List Key) (os : List O) : List Key × List O := if (ks.any fun k' => decide (k' = k)) = true then (ks, List.zipWith (fun k' o => if k' = k then .dat d else o) ks os) else (ks ++ [k], os ++ [.dat d])
def dput (i : Nat) (fk fv : Ev → Option D) (ρ : Ev) : Option Fl := (fv ρ).bind fun d => (fk ρ).bind fun y => (keyD y).bind fun k => match ρ[i]? with
  | some (.dic ks os) => if os.length < sizeLine then some (.nx (ρ.set i (.dic (putKD k d ks os).1 (putKD k d ks os).2))) else none
  | _ => none
theorem putKD_keys {k : Key} {v : V} {d : D} {kvs : List (Key × V)} {os : List O} : (putK kvs k v).map (·.1) = (putKD k d (kvs.map (·.1)) os).1 := by
  unfold putK putKD
  rw [List.any_map]
  have : ((fun k' => decide (k' = k)) ∘ fun x : Key × V => x.1) = fun kv => decide (kv.1 = k) := rfl
  rw [this]
  split
  · rw [List.map_map]
    apply List.map_congr_left
    intro p _
    simp only [Function.comp]
    split <;> rfl
  · simp
theorem zip_ows {K : PySem.W.Frag} {M H : Hp} {k : Key} {v : V} {d : D} (dv : Dv K M v d) : ∀ {kvs : List (Key × V)} {os : List O} {fp : List Addr}, Ows K M H os (kvs.map fun p => some p.2) fp →
    ∃ fp', Ows K M H (List.zipWith (fun k' o => if k' = k then O.dat d else o) (kvs.map (·.1)) os) ((kvs.map fun kv => if kv.1 = k then (kv.1, v) else kv).map fun p => some p.2) fp' ∧ ∀ b, fp'.count b ≤ fp.count b
  | [], _, _, .nil => ⟨[], .nil, fun b => Nat.le_refl _⟩
  | (k', x) :: kvs, _, _, .cons (o := o) (os := os) (f1 := f1) (f2 := f2) h hs => by
    obtain ⟨fp', w, c⟩ := zip_ows dv hs
    simp only [List.map_cons, List.zipWith_cons_cons]
    by_cases e : k' = k
    · rw [if_pos e, if_pos e]
      exact ⟨[] ++ fp', .cons (.dat dv) w, fun b => by have := c b; simp only [List.nil_append, List.count_append]; omega⟩
    · rw [if_neg e, if_neg e]
      exact ⟨f1 ++ fp', .cons h w, fun b => by have := c b; simp only [List.count_append]; omega⟩
theorem putKD_ows {K : PySem.W.Frag} {M H : Hp} {k : Key} {v : V} {d : D} (dv : Dv K M v d) {kvs : List (Key × V)} {os : List O} {fp : List Addr} (w : Ows K M H os (kvs.map fun p => some p.2) fp) :
    ∃ fp', Ows K M H (putKD k d (kvs.map (·.1)) os).2 ((putK kvs k v).map fun p => some p.2) fp' ∧ ∀ b, fp'.count b ≤ fp.count b := by
  unfold putK putKD
  rw [List.any_map]
  have : ((fun k' => decide (k' = k)) ∘ fun x : Key × V => x.1) = fun kv => decide (kv.1 = k) := rfl
  rw [this]
  split
  · exact zip_ows dv w
  · refine ⟨fp ++ ([] ++ []), ?_, fun b => by simp⟩
    rw [List.map_append]
    exact w.append (.cons (.dat dv) .nil)
theorem sDput {i : Nat} {x : Str} {p' pp : Pos} {b value : Expr} {fk fvl : Ev → Option D} (hu : X.A.units + 64 < cLine) (hv : PE X (.Name x p') (tVar i)) (hb : PE X b (tP X.K fk)) (he : PE X value (tP X.K fvl)) (hs : swapsWith value (some (.Subscript (.Name x p') b pp)) pos.line X.env = pure false := by rfl) :
    PS X (.Assign [.Subscript (.Name x p') b pp] value pos) (tS X.K W J (dput i fk fvl)) := PS.imp (ps_dput (by omega) hv hb he hs) fun E σ H ⟨M, ρ, fo, fv, r, σ0, R, l, e, k⟩ => by
  unfold dput at e
  cases q : fvl ρ with
  | none => rw [q] at e; cases e
  | some d =>
    rw [q, Option.bind_some] at e
    cases q1 : fk ρ with
    | none => rw [q1] at e; cases e
    | some y =>
      rw [q1, Option.bind_some] at e
      cases q2 : keyD y with
      | none => rw [q2] at e; cases e
      | some kk =>
        rw [q2, Option.bind_some] at e
        split at e
        · rename_i ks os eo
          split at e
          · rename_i hlen
            cases e
            refine ⟨M, ρ, fo, fv, d, R, l.1, q, fun M1 H1 v s1 R1 d1 => ?_⟩
            have R1' : Rep X.K M1 H1 (ρ ++ ([] ++ fo)) (σ ++ ([] ++ fv)) := R1
            obtain ⟨w, f1, ft, ew, h1, _, _, _, _⟩ := R1'.own l.1 rfl eo
            cases h1 with
            | @dic a kvs _ _ fp ha hk ws =>
              refine ⟨.ref a, ew, M1, ρ, fo, fv, y, R1, l.1, q1, fun M2 H2 v2 s2 R2 d2 => ?_⟩
              have R2' : Rep X.K M2 H2 (ρ ++ ([] ++ fo)) (σ ++ ([] ++ fv)) := R2
              obtain ⟨w', f1', ft', ew', h1', h2', nd, nm, up⟩ := R2'.own l.1 rfl eo
              cases h2'
              rw [ew] at ew'
              cases ew'
              cases h1' with
              | @dic _ kvs' _ _ fp' ha' hk' ws' =>
                have hlk : kvs'.length = os.length := by rw [← ws'.length, List.length_map]
                refine ⟨a, upd H2 a (.dK (putK kvs' kk v)), rfl, ?_, ?_⟩
                · rw [key_of d2 q2]
                  exact DPut.k ha' (by rw [hlk]; exact hlen)
                · have hd : ∀ b ∈ fp', b ≠ a := fun b hb z => by
                    subst z
                    rw [List.nodup_iff_count] at nd
                    have := nd b
                    simp only [List.append_nil, List.count_cons, beq_self_eq_true, if_true] at this
                    have := List.count_pos_iff.mpr hb
                    omega
                  have ma : M2 a = none := nm a (by simp)
                  have sm : Same M2 (upd H2 a (.dK (putK kvs' kk v))) := fun b u z => by
                    rw [upd_ne (fun y => by subst y; rw [ma] at z; cases z)]; exact R2.same b u z
                  obtain ⟨fp2, w2, c2⟩ := putKD_ows (k := kk) (d1.mono s2) (ws'.frame (Same.refl _) (H' := upd H2 a (.dK (putK kvs' kk v))) fun b hb => upd_ne (hd b hb))
                  refine k M2 _ σ (s1.trans s2) (up M2 _ _ (a :: fp2) (Same.refl _) sm (fun b hb _ => upd_ne fun z => hb (by simp [z])) (.dic upd_same ?_ ?_) (fun b => ?_) fun b hb _ => hb) (l.setR _)
                  · rw [putKD_keys (d := d) (os := os), hk']
                  · rw [hk'] at w2; exact w2
                  · have := c2 b
                    simp only [List.count_cons, List.count_nil] at this ⊢
                    omega
          · cases e
        · cases e
end
end PD

namespace PD
open PySem PySem.Spec L2

section
variable {X : Cx} {W : WX} {J : List Nat} {pos p cpos apos : Pos} {e a b : Expr} {es : List Expr} {fa fb : Ev → Option D}
theorem Inv.listX {pins : List (Addr × Obj)} {σ : L2.St} {H : Hp} {s : Shared} {l : Addr} {xs : List V} (I : Inv X pins σ H s) (h : SqX X.K H l xs) : ∃ (its : List Value) (n : Nat), Vals xs its ∧ s.heap.get? l = some ({ cls := .type "list", data := .seq its.toArray n } : Obj) := by
  rcases h with h | ⟨its, n, lk, hz, r⟩
  · obtain ⟨z, its, n, r, e⟩ := h.ok I.hok
    exact ⟨its, n, r, e⟩
  · refine ⟨its.toList, n, r, ?_⟩
    rw [Array.toArray_toList]; exact I.kIn _ _ lk
/-! ### list + list -/
def rCatX (K : PySem.W.Frag) : R2 := fun x y H Q => ∃ l b xs zs, x = .ref l ∧ y = .ref b ∧ SqX K H l xs ∧ SqX K H b zs ∧ xs.length + zs.length ≤ sizeLine ∧ ∀ p, H p = none → Q (.ref p) (upd H p (.lst (xs ++ zs)))
theorem op_catX : OpR X (binaryOp .Add) (rCatX X.K) := by
  intro pins s σ H x y v u Q I rx ry h
  obtain ⟨l, b, xs, zs, rfl, rfl, hH, hB, hz, q⟩ := h
  cases rx
  cases ry
  obtain ⟨its, n, r, e⟩ := Inv.listX I hH
  obtain ⟨its2, n2, r2, e2⟩ := Inv.listX I hB
  have l1 := r.length
  have l2 := r2.length
  refine PySem.P.add_list e e2 ?_ (by rw [List.size_toArray, List.size_toArray]; omega)
  have ea : its.toArray ++ its2.toArray = (its ++ its2).toArray := by simp
  rw [ea]
  exact ⟨.ref _, _, I.lnew (t' := s.toks) (r.append r2) (by rw [List.length_append]; omega), rfl, q _ I.fresh⟩
def catL (x y : D) : Option D := match x, y with
  | .lst xs, .lst ys => if xs.length + ys.length ≤ sizeLine then some (.lst (xs ++ ys)) else none
  | _, _ => none
theorem oCatL : OpR X (binaryOp .Add) (rD X.K catL) := OpR.imp op_catX fun x y H Q ⟨M, fo, fv, dx, dy, d, R, d1, d2, e, k⟩ => by
  unfold catL at e
  split at e
  · rename_i xs ys
    split at e
    · rename_i hz
      cases e
      cases d1 with
      | @lst l ws _ h1 g1 =>
        cases d2 with
        | @lst b zs _ h2 g2 =>
          refine ⟨l, b, ws, zs, rfl, rfl, sqX_same R.same h1, sqX_same R.same h2, by rw [g1.length, g2.length]; exact hz, fun p hp => ?_⟩
          have s2 := same_updM (u := .lst (ws ++ zs)) (R.same.free hp)
          exact k _ _ _ s2 (R.growM hp) (.lst (.inl (.inl upd_same)) ((g1.append g2).mono s2))
    · cases e
  · cases e
/-- tuple + tuple -/
def catT (x y : D) : Option D := match x, y with
  | .tup xs, .tup ys => if xs.length + ys.length ≤ sizeLine then some (.tup (xs ++ ys)) else none
  | _, _ => none
theorem oCatT : OpR X (binaryOp .Add) (rD X.K catT) := OpR.imp op_catA fun x y H Q ⟨M, fo, fv, dx, dy, d, R, d1, d2, e, k⟩ => by
  unfold catT at e
  split at e
  · rename_i xs ys
    split at e
    · rename_i hz
      cases e
      have e1 := d1
      have e2 := d2
      cases d1 with
      | @tup l ws _ h1 g1 =>
        cases d2 with
        | @tup b zs _ h2 g2 =>
          refine ⟨l, b, ws, zs, rfl, rfl, sqT_same R.same h1, sqT_same R.same h2, by rw [g1.length, g2.length]; exact hz, fun z => ?_, fun _ z => ?_, fun _ _ p hp => ?_⟩
          · subst z
            cases g1
            exact k M H _ (Same.refl _) R e2
          · subst z
            cases g2
            rw [List.append_nil] at k
            exact k M H _ (Same.refl _) R e1
          · have s2 := same_updM (u := .tup (ws ++ zs)) (R.same.free hp)
            exact k _ _ _ s2 (R.growM hp) (.tup (.inl (.inl upd_same)) ((g1.append g2).mono s2))
    · cases e
  · cases e
/-- + of ints, texts, lists, tuples -/
abbrev addA : D → D → Option D := orD addD (orD catL catT)
theorem oAddA : OpR X (binaryOp .Add) (rD X.K addA) := op_orD oAdd (op_orD oCatL oCatT)
/-! ### xs[::-1] -/
def revD : D → Option D
  | .lst xs => some (.lst xs.reverse)
  | _ => none
end

/-! ### the law's end -/
/-- the law's promise, whatever its mirror -/
def spT (K : PySem.W.Frag) : Sp := fun vs H Q _ => ∃ (a : Addr) (ns : List Int), vs = [.ref a] ∧ ns.length ≤ 63 ∧ SqX K H a (ns.map V.int) ∧ ∀ H', Q (.bl true) H'
theorem spT_of {K : PySem.W.Frag} {m : List D → Option D} (hm : ∀ ns : List Int, ns.length ≤ 63 → m [.lst (ns.map .int)] = some (.bl true)) {vs : List V} {H : Hp} {Q : VK} {E : XK} (h : spT K vs H Q E) : spP K 1 m vs H Q E := by
  obtain ⟨a, ns, rfl, hl, hS, q⟩ := h
  exact ⟨rfl, H, [], [], [.lst (ns.map .int)], .bl true, ⟨Same.refl _, [], .nil, List.nodup_nil, fun _ h => nomatch h⟩, .cons (.lst hS (ints_dvs ns)) .nil, hm ns hl, fun M' H' v _ _ d => by cases d; exact q H'⟩
theorem walk_ofD {l : PySem.W.OpenLaw} {n k : Nat} {q : Program} {loose : List Str} {XP : (Str → Option Value) → Heap → Prop} {YP : World → Heap → Prop} {d : DefRec} {K : Params → PySem.W.Frag} {CX : World → CXT} {x : Str}
    (hn : l.most = some n) (h63 : n ≤ 63) (hdf : d.params.defaults = []) (hr : Room k callerA)
    (hY : ∀ (w : World) (h : Heap), YP w h → (K w.params).In h)
    (F : ∀ (w : World) (mg : Str → Option Value) (fa : Addr) (h : Heap), (K w.params).In h → h.Ns mainGlobals mg → mg d.name = some (.ref fa) →
      ∃ fd : FuncData, (∀ (s : Shared) (u : Value), BindsTo s fd ⟨[u], []⟩ [(x, u)]) ∧
        ∀ base : Heap, (K w.params).In base → base.Ns mainGlobals mg → FnOk l.prog w (K w.params) mg base (CX w) k fa fd [x] (spT (K w.params)))
    (hCX : ∀ (w : World) (H : Hp) (s : Shared) (e : Value) (s' : Shared), CX w [] H s (fun _ _ _ => False) e s' → False) :
    PySem.W.WalkO q loose XP YP l.row.toRowW d [] (fun f vs => PySem.call f vs) := by
  refine Att.attach_callB hn hdf fun w s₀ s₁ mg mb fa o pm cd doc a vs ns G Y ho hd hcd hmg hobj hints hlen hbits hg => ?_
  have KX := hY w _ Y
  obtain ⟨fd, hb, hF⟩ := F w mg fa _ KX G.T.g hmg
  have n63 : ns.length ≤ sizeLine := by rw [sizeLine_eq]; omega
  refine law_call KX G.T.g G.T.b G.T.builtins G.T.nolimit hg hobj hints n63 hr hF hb (fun H hO hS => ?_) fun H e s' => hCX w H s₁ e s'
  refine ⟨a, ns, rfl, Nat.le_trans hlen h63, ?_, fun _ => rfl⟩
  rcases hS with hS | ⟨o', its, m, lk, hc, hdd, hdt, hz, r⟩
  · exact .inl hS
  · have e1 := KX _ _ lk
    rw [hobj] at e1
    cases e1
    cases hdt
    exact .inr ⟨_, _, lk, hz, r⟩
end PD

namespace PD
open PySem PySem.Spec L2

/-! ### roots in another order -/
section
variable {K : PySem.W.Frag} {M H : Hp}
theorem Ows.perm {l l' : List (O × Option V)} (p : l.Perm l') : ∀ {fp : List Addr}, Ows K M H (l.map (·.1)) (l.map (·.2)) fp → ∃ fp', fp.Perm fp' ∧ Ows K M H (l'.map (·.1)) (l'.map (·.2)) fp' := by
  induction p with
  | nil => exact fun w => ⟨_, .refl _, w⟩
  | cons x _ ih =>
    intro fp w
    cases w with
    | cons h hs =>
      obtain ⟨f', q, w'⟩ := ih hs
      exact ⟨_, q.append_left _, .cons h w'⟩
  | swap x y l =>
    intro fp w
    cases w with
    | cons h hs =>
      rename_i f1 f2
      cases hs with
      | cons h' hs' =>
        rename_i f3 f4
        refine ⟨f3 ++ (f1 ++ f4), ?_, .cons h' (.cons h hs')⟩
        rw [← List.append_assoc, ← List.append_assoc]
        exact List.Perm.append_right _ List.perm_append_comm
  | trans _ _ ih1 ih2 =>
    intro fp w
    obtain ⟨f1, q1, w1⟩ := ih1 w
    obtain ⟨f2, q2, w2⟩ := ih2 w1
    exact ⟨f2, q1.trans q2, w2⟩
theorem zip_fst {α β : Type} : ∀ {as : List α} {bs : List β}, bs.length = as.length → (as.zip bs).map (·.1) = as
  | [], [], _ => rfl
  | a :: as, b :: bs, h => by simp only [List.zip_cons_cons, List.map_cons]; rw [zip_fst (by simpa using h)]
theorem zip_snd {α β : Type} : ∀ {as : List α} {bs : List β}, bs.length = as.length → (as.zip bs).map (·.2) = bs
  | [], [], _ => rfl
  | a :: as, b :: bs, h => by simp only [List.zip_cons_cons, List.map_cons]; rw [zip_snd (by simpa using h)]
theorem Rep.perm {os os' : List O} {vs vs' : List (Option V)} (R : Rep K M H os vs) (l : vs.length = os.length) (l' : vs'.length = os'.length) (p : (os.zip vs).Perm (os'.zip vs')) : Rep K M H os' vs' := by
  obtain ⟨s, fp, w, nd, nm⟩ := R
  have w0 : Ows K M H ((os.zip vs).map (·.1)) ((os.zip vs).map (·.2)) fp := by rw [zip_fst l, zip_snd l]; exact w
  obtain ⟨fp', q, w'⟩ := Ows.perm p w0
  rw [zip_fst l', zip_snd l'] at w'
  exact ⟨s, fp', w', q.nodup_iff.mp nd, fun a ha => nm a (q.mem_iff.mpr ha)⟩
theorem split_at {α : Type} {xs : List α} {k : Nat} {x : α} (e : xs[k]? = some x) (y : α) : ∃ a b, xs = a ++ x :: b ∧ a.length = k ∧ xs.set k y = a ++ y :: b := by
  obtain ⟨hk, e⟩ := List.getElem?_eq_some_iff.mp e
  refine ⟨xs.take k, xs.drop (k + 1), ?_, by simp; omega, ?_⟩
  · rw [← e, ← List.drop_eq_getElem_cons hk, List.take_append_drop]
  · rw [List.set_eq_take_append_cons_drop, if_pos hk]
/-- slot k is handed over -/
theorem Rep.pull {l ρ r : List O} {lv σ rv : List (Option V)} {k : Nat} {o : O} {v : Option V} (R : Rep K M H (l ++ (ρ ++ r)) (lv ++ (σ ++ rv))) (el : lv.length = l.length) (e : σ.length = ρ.length) (er : rv.length = r.length) (eo : ρ[k]? = some o) (ev : σ[k]? = some v) :
    Rep K M H (l ++ (o :: (ρ.set k .unk ++ r))) (lv ++ (v :: (σ ++ rv))) := by
  obtain ⟨a, b, e1, e2, e3⟩ := split_at eo O.unk
  obtain ⟨c, d, f1, f2, _⟩ := split_at ev v
  have hac : c.length = a.length := by omega
  rw [e3]
  subst e1; subst f1
  have R1 : Rep K M H ((l ++ a) ++ (.unk :: (o :: b ++ r))) ((lv ++ c) ++ (v :: (v :: d ++ rv))) := by
    have R0 : Rep K M H ((l ++ a) ++ (o :: b ++ r)) ((lv ++ c) ++ (v :: d ++ rv)) := by simpa using R
    exact R0.pushU (by simp [el, hac]) v
  have hbd : d.length = b.length := by simp at e; omega
  refine R1.perm (by simp [el, hac, hbd, er]) (by simp [el, hac, hbd, er]) ?_
  have z1 : ((l ++ a) ++ (.unk :: (o :: b ++ r))).zip ((lv ++ c) ++ (v :: (v :: d ++ rv))) = l.zip lv ++ (a.zip c ++ ((O.unk, v) :: (o, v) :: (b.zip d ++ r.zip rv))) := by
    rw [List.zip_append (by simp [el, hac]), List.zip_append el.symm]
    simp only [List.zip_cons_cons, List.cons_append]
    rw [List.zip_append hbd.symm, List.append_assoc]
  have z2 : (l ++ (o :: ((a ++ .unk :: b) ++ r))).zip (lv ++ (v :: ((c ++ v :: d) ++ rv))) = l.zip lv ++ ((o, v) :: (a.zip c ++ ((O.unk, v) :: (b.zip d ++ r.zip rv)))) := by
    rw [List.zip_append el.symm]
    simp only [List.zip_cons_cons, List.cons_append, List.append_assoc]
    rw [List.zip_append hac.symm]
    simp only [List.zip_cons_cons]
    rw [List.zip_append hbd.symm]
  rw [z1, z2]
  refine List.Perm.append_left _ ?_
  refine List.Perm.trans (List.Perm.append_left _ (List.Perm.swap _ _ _)) ?_
  exact List.perm_middle
/-- .. and given back -/
theorem Rep.back {l ρ r : List O} {lv σ rv : List (Option V)} {k : Nat} {o z : O} {v : Option V} (R : Rep K M H (l ++ (o :: (ρ ++ r))) (lv ++ (v :: (σ ++ rv)))) (el : lv.length = l.length) (e : σ.length = ρ.length) (er : rv.length = r.length) (eo : ρ[k]? = some z) (ev : σ[k]? = some v) :
    Rep K M H (l ++ (ρ.set k o ++ r)) (lv ++ (σ ++ rv)) := by
  obtain ⟨a, b, e1, e2, e3⟩ := split_at eo o
  obtain ⟨c, d, f1, f2, _⟩ := split_at ev v
  have hac : c.length = a.length := by omega
  rw [e3]
  subst e1; subst f1
  have hbd : d.length = b.length := by simp at e; omega
  -- the old thing of the slot goes
  have R1 : Rep K M H (l ++ (o :: (a ++ b ++ r))) (lv ++ (v :: (c ++ d ++ rv))) := by
    have R0 : Rep K M H ((l ++ (o :: a)) ++ z :: (b ++ r)) ((lv ++ (v :: c)) ++ v :: (d ++ rv)) := by simpa using R
    have := R0.drop (by simp [el, hac])
    simpa using this
  refine R1.perm (by simp [el, hac, hbd, er]) (by simp [el, hac, hbd, er]) ?_
  have z1 : (l ++ (o :: (a ++ b ++ r))).zip (lv ++ (v :: (c ++ d ++ rv))) = l.zip lv ++ ((o, v) :: (a.zip c ++ (b.zip d ++ r.zip rv))) := by
    rw [List.zip_append el.symm]
    simp only [List.zip_cons_cons, List.append_assoc]
    rw [List.zip_append hac.symm, List.zip_append hbd.symm]
  have z2 : (l ++ ((a ++ o :: b) ++ r)).zip (lv ++ ((c ++ v :: d) ++ rv)) = l.zip lv ++ (a.zip c ++ ((o, v) :: (b.zip d ++ r.zip rv))) := by
    rw [List.zip_append el.symm]
    simp only [List.append_assoc, List.cons_append]
    rw [List.zip_append hac.symm]
    simp only [List.zip_cons_cons]
    rw [List.zip_append hbd.symm]
  rw [z1, z2]
  exact List.Perm.append_left _ List.perm_middle.symm
end

/-! ### arguments that are lent -/
inductive Arg where
  | val (f : Ev → Option D) | own (k : Nat)
def O.known : O → Bool
  | .unk => false
  | _ => true
theorem Ow.known {K : PySem.W.Frag} {M H : Hp} {o : O} {v : Option V} {f : List Addr} (h : Ow K M H o v f) (k : o.known = true) : ∃ x, v = some x := by
  cases h <;> first | exact ⟨_, rfl⟩ | cases k
inductive Bor (σ : L2.St) : List Arg → List V → Prop
  | nil : Bor σ [] []
  | val {f : Ev → Option D} {as : List Arg} {v : V} {vs : List V} : Bor σ as vs → Bor σ (.val f :: as) (v :: vs)
  | own {k : Nat} {as : List Arg} {v : V} {vs : List V} : σ[k]? = some (some v) → Bor σ as vs → Bor σ (.own k :: as) (v :: vs)
section
variable {K : PySem.W.Frag} {M H : Hp}
theorem Rep.lens {ρ fo : List O} {σ fv : List (Option V)} (R : Rep K M H (ρ ++ fo) (σ ++ fv)) (l : σ.length = ρ.length) : fv.length = fo.length := by
  have := R.length
  simp at this; omega
end
section
variable {X : Cx} {e : Expr} {es : List Expr} {as : List Arg} {f : Ev → Option D}
end
/-! ### a def by things: parameters may be lent -/
section
variable {P : Program} {w : World} {K : PySem.W.Frag} {mg : Str → Option Value} {base : Heap}
theorem Ows.take {M H : Hp} : ∀ (n : Nat) {os : List O} {vs : List (Option V)} {fp : List Addr}, Ows K M H os vs fp → ∃ f1 f2, fp = f1 ++ f2 ∧ Ows K M H (os.take n) (vs.take n) f1
  | 0, _, _, fp, _ => ⟨[], fp, rfl, .nil⟩
  | _ + 1, _, _, _, .nil => ⟨[], [], rfl, .nil⟩
  | n + 1, _, _, _, .cons (f1 := f1) h hs => by
    obtain ⟨a, b, e, w⟩ := Ows.take n hs
    exact ⟨f1 ++ a, b, by rw [e, List.append_assoc], .cons h w⟩
/-- the parameters at the end of the def -/
theorem Rep.params {M M1 H0 H1 : Hp} {J : List Nat} {os fo tm ρ : List O} {vs : List V} {fv tv σ σ0 : List (Option V)} (R0 : Rep K M H0 (os ++ fo) (vs.map some ++ fv)) (hl : vs.length = os.length) (s1 : Same M M1) (R : Rep K M1 H1 (ρ ++ (tm ++ fo)) (σ ++ (tv ++ fv))) (lt : tv.length = tm.length) (lk : Lk J σ0 σ ρ) (h0 : ∀ j < os.length, σ0[j]? = (vs.map some)[j]?) (hn : os.length ≤ ρ.length) :
    Rep K M1 H1 (tm ++ (((List.range os.length).map fun j => if j ∈ J then ρ.getD j .unk else match os.getD j .unk with | .dat d => .dat d | _ => .unk) ++ fo)) (tv ++ (vs.map some ++ fv)) := by
  obtain ⟨s, fp, w, nd, nm⟩ := R
  obtain ⟨fa, fb, e1, w1, w2⟩ := w.split lk.1
  obtain ⟨ft, fr, e2, w3, w4⟩ := w2.split lt
  obtain ⟨f1, f2, e3, w5⟩ := Ows.take os.length w1
  obtain ⟨f', sb, w6⟩ := w5.restore (ρ := (List.range os.length).map fun j => if j ∈ J then ρ.getD j .unk else match os.getD j .unk with | .dat d => .dat d | _ => .unk) (σ := vs.map some) (by simp; omega) (by simp [hl]) fun j => by
    by_cases hj : j < os.length
    · rw [List.getElem?_map, List.getElem?_range hj]
      simp only [Option.map_some]
      by_cases hJ : j ∈ J
      · left
        rw [if_pos hJ]
        constructor
        · rw [List.getElem?_take_of_lt hj, List.getElem?_eq_getElem (by omega), List.getD_eq_getElem?_getD, List.getElem?_eq_getElem (by omega)]
          rfl
        · rw [List.getElem?_take_of_lt hj, lk.2 j hJ, h0 j hj]
      · rw [if_neg hJ]
        right
        split
        · rename_i d hd
          left
          rw [List.getD_eq_getElem?_getD, List.getElem?_eq_getElem hj] at hd
          obtain ⟨x, ex, dx⟩ := R0.slot (by simp [hl]) (i := j) (d := d) (by rw [List.getElem?_eq_getElem hj]; simpa using hd)
          exact ⟨d, x, rfl, ex, dx.mono s1⟩
        · right; rfl
    · left
      have h1 : (List.map some vs)[j]? = none := List.getElem?_eq_none (by simp [hl]; omega)
      constructor
      · rw [List.getElem?_eq_none (by simp; omega), List.getElem?_eq_none (by simp; omega)]
      · rw [h1, List.getElem?_eq_none (by simp; omega)]
  subst e1; subst e2; subst e3
  refine ⟨s, ft ++ (f' ++ fr), w3.append (w6.append w4), ?_, fun a ha => nm a ?_⟩
  · rw [List.nodup_iff_count] at nd ⊢
    intro a
    have h1 := nd a
    have h2 := sb.count_le a
    simp only [List.count_append] at h1 ⊢
    omega
  · simp only [List.mem_append] at ha ⊢
    rcases ha with ha | ha | ha
    · exact .inr (.inl ha)
    · exact .inl (.inl (sb.subset ha))
    · exact .inr (.inr ha)
end

/-! ### calls with lent arguments -/
section
variable {X : Cx} {W : WX} {pos p : Pos} {e : Expr} {es : List Expr} {as : List Arg} {k n : Nat} {f C : Addr} {fd : FuncData} {ps : List Str} {x : Str}
end
end PD

namespace PD
open PySem PySem.Spec L2

section
variable {X : Cx} {W : WX} {J : List Nat} {pos p : Pos} {tg e : Expr}
/-! ### an own list in a slot is walked -/
def ownL (k : Nat) (ρ : Ev) : Option (List D) := match ρ[k]? with
  | some (.lst os) => O.toDs os
  | _ => none
/-! ### for over an own list that the body leaves as it is -/
end

/-! ### what is never reached; recursion's ground -/
theorem fnNone {P : Program} {w : World} {K : PySem.W.Frag} {mg : Str → Option Value} {base : Heap} {CX : CXT} {k n : Nat} {f : Addr} {fd : FuncData} {ps : List Str} (hn : n = ps.length := by rfl) : FnOk P w K mg base CX k f fd ps (spP K n fun _ => none) :=
  ⟨fun vs H Q E h => hn ▸ h.1, fun A outer s H args us vs Q E _ _ _ _ h => by
    obtain ⟨_, M, fo, fv, ds, d, _, _, e, _⟩ := h
    cases e⟩
theorem isC_one {K : PySem.W.Frag} {C : Addr} (cx : ClsX K C) (h : (PySem.W.clsIn K C).isSome = true) : IsC K C [(C, true)] := ⟨h, cx.ty, fun C' b e => by
  simp only [List.lookup] at e
  split at e
  · rename_i z
    cases e
    have : C' = C := by simpa using z
    subst this
    exact ⟨cx, by unfold PySem.W.kitOne; rw [if_pos (by simp)]⟩
  · cases e⟩
/-- how a method binds when the arguments behind self come by name, in order -/
theorem kbn_of1 {K : PySem.W.Frag} {x qual : Str} {st : Stmt} {f : Addr} {fd : FuncData} {ps ks : List Str} (F : Fun K x qual st f fd)
    (h : ∀ (kV doc pm : Value) (an : Option Addr) (cdv ct : Value) (us ws : List Value), us.length = 1 → ws.length = ks.length → bindArgs (PySem.W.fnOf x qual (defArgs st) (defBody st) (defScope st) .none kV doc pm an cdv ct) ⟨us, ks.zip ws⟩ = pure (ps.zip (us ++ ws))) :
    KBn K fd ps 1 ks (fun us ws => us ++ ws) (fun vs zs => vs ++ zs) := by
  obtain ⟨oc, od, kV, doc, pm, an, cdv, ct, osl, rfl, lk, hcd⟩ := F.ex
  exact ⟨fun s us ws X h1 h2 => .of_eq (h kV doc pm an cdv ct us ws h1 h2), fun r1 r2 => r1.append r2⟩
end PD

namespace PD
open PySem PySem.Spec L2

/-! ### the evaluator: a simp set (word_snoc) that runs mirrors upon a written environment -/
/-- no rfl-lemma: the kernel must not run what stands behind it -/
theorem nrfl {α : Type} {a b : α} (h : a = b) : a = b := h
def toB : D → Option Bool
  | .bl b => some b
  | _ => none
def toI : D → Option Int
  | .int b => some b
  | _ => none
def andO (x y : Option Bool) : Option Bool := x.bind fun b => if b = true then y else some false
def orO (x y : Option Bool) : Option Bool := x.bind fun b => if b = true then some true else y
def iteO {α : Type} (c : Option Bool) (x y : Option α) : Option α := c.bind fun b => if b = true then x else y
def andW (y : Option D) : D → Option D
  | .bl true => y
  | .bl false => some (.bl false)
  | _ => none
def orW (y : Option D) : D → Option D
  | .bl true => some (.bl true)
  | .bl false => y
  | _ => none
def notW : D → Option D
  | .bl b => some (.bl (!b))
  | _ => none
def O.dats (ds : List D) : O := .lst (ds.map .dat)
theorem toD_dats (ds : List D) : (O.dats ds).toD = some (.lst ds) := by
  unfold O.dats O.toD
  rw [toDs_dat]; rfl
theorem line_of {n : Nat} (h : n ≤ 1000000) : n ≤ sizeLine := Nat.le_trans h (by decide)
section
variable {ρ r : Ev} {fa fb : Ev → Option D} {c c2 : Ev → Option Bool} {g : D → D → Option D} {h : D → Option D} {x y : D} {i : Nat} {o : O}
theorem ev_bind {α β : Type} (a : α) (f : α → Option β) : (some a).bind f = f a := nrfl rfl
theorem ev_map {α β : Type} (a : α) (f : α → β) : (some a).map f = some (f a) := nrfl rfl
theorem ev_gv0 : gv 0 (.dat x :: r) = some x := nrfl rfl
theorem ev_gvS : gv (i + 1) (o :: r) = gv i r := nrfl rfl
theorem ev_b2 : b2 fa fb g ρ = (fa ρ).bind fun x => (fb ρ).bind fun y => g x y := nrfl rfl
theorem ev_b1 : b1 fa h ρ = (fa ρ).bind h := nrfl rfl
theorem ev_kI (k : Int) : kI k ρ = some (.int k) := nrfl rfl
theorem ev_kS (k : Str) : kS k ρ = some (.str k) := nrfl rfl
theorem ev_kB (k : Bool) : kB k ρ = some (.bl k) := nrfl rfl
theorem ev_kN : kN ρ = some .non := nrfl rfl
theorem ev_aCons {f : Ev → Option (List D)} : aCons fa f ρ = (fa ρ).bind fun d => (f ρ).bind fun ds => some (d :: ds) := nrfl rfl
theorem ev_aNil : aNil ρ = some [] := nrfl rfl
theorem ev_cB {f : Ev → Option (List D)} {m : List D → Option D} : cB f m ρ = (f ρ).bind m := nrfl rfl
theorem ev_cO {f : Ev → Option (List D)} {m : List D → Option O} : cO f m ρ = (f ρ).bind m := nrfl rfl
theorem ev_asB : asB fa ρ = (fa ρ).bind toB := by
  unfold asB
  cases fa ρ with
  | none => rfl
  | some d => cases d <;> rfl
theorem ev_toB (b : Bool) : toB (.bl b) = some b := nrfl rfl
theorem ev_andT : andT c c2 ρ = andO (c ρ) (c2 ρ) := by
  unfold andT andO
  cases c ρ with
  | none => rfl
  | some b => cases b <;> rfl
theorem ev_orT : orT c c2 ρ = orO (c ρ) (c2 ρ) := by
  unfold orT orO
  cases c ρ with
  | none => rfl
  | some b => cases b <;> rfl
theorem ev_notT : notT c ρ = (c ρ).map (!·) := nrfl rfl
theorem ev_andO_t (y : Option Bool) : andO (some true) y = y := nrfl rfl
theorem ev_andO_f (y : Option Bool) : andO (some false) y = some false := nrfl rfl
theorem ev_andO (a b : Bool) : andO (some a) (some b) = some (a && b) := by cases a <;> rfl
theorem ev_orO_t (y : Option Bool) : orO (some true) y = some true := nrfl rfl
theorem ev_orO_f (y : Option Bool) : orO (some false) y = y := nrfl rfl
theorem ev_orO (a b : Bool) : orO (some a) (some b) = some (a || b) := by cases a <;> rfl
theorem ev_andV : andV fa fb ρ = (fa ρ).bind (andW (fb ρ)) := by
  unfold andV
  cases fa ρ with
  | none => rfl
  | some d => cases d with
    | bl b => cases b <;> rfl
    | _ => rfl
theorem ev_orV : orV fa fb ρ = (fa ρ).bind (orW (fb ρ)) := by
  unfold orV
  cases fa ρ with
  | none => rfl
  | some d => cases d with
    | bl b => cases b <;> rfl
    | _ => rfl
theorem ev_notV : notV fa ρ = (fa ρ).bind notW := by
  unfold notV
  cases fa ρ with
  | none => rfl
  | some d => cases d <;> rfl
theorem ev_andW_t (y : Option D) : andW y (.bl true) = y := nrfl rfl
theorem ev_andW_f (y : Option D) : andW y (.bl false) = some (.bl false) := nrfl rfl
theorem ev_andW (a b : Bool) : andW (some (.bl b)) (.bl a) = some (.bl (a && b)) := by cases a <;> rfl
theorem ev_orW_t (y : Option D) : orW y (.bl true) = some (.bl true) := nrfl rfl
theorem ev_orW_f (y : Option D) : orW y (.bl false) = y := nrfl rfl
theorem ev_orW (a b : Bool) : orW (some (.bl b)) (.bl a) = some (.bl (a || b)) := by cases a <;> rfl
theorem ev_notW (b : Bool) : notW (.bl b) = some (.bl (!b)) := nrfl rfl
theorem ev_ifV : ifV c fa fb ρ = iteO (c ρ) (fa ρ) (fb ρ) := by
  unfold ifV iteO
  cases c ρ with
  | none => rfl
  | some b => cases b <;> rfl
theorem ev_iteO {α : Type} (b : Bool) (x y : Option α) : iteO (some b) x y = if b = true then x else y := nrfl rfl
theorem ev_ite_some {α : Type} {p : Prop} [Decidable p] (x y : α) : (if p then some x else some y) = some (if p then x else y) := by split <;> rfl
theorem ev_ite_int {p : Prop} [Decidable p] (x y : Int) : (if p then D.int x else D.int y) = .int (if p then x else y) := by split <;> rfl
theorem ev_ite_str {p : Prop} [Decidable p] (x y : Str) : (if p then D.str x else D.str y) = .str (if p then x else y) := by split <;> rfl
theorem ev_dec {p : Prop} [Decidable p] : (decide p = true) = p := by simp
theorem ev_true {α : Type} (x y : α) : (if True then x else y) = x := nrfl rfl
theorem ev_false {α : Type} (x y : α) : (if False then x else y) = y := nrfl rfl
theorem ev_ft : (false = true) = False := by simp
theorem ev_tt : (true = true) = True := by simp
theorem ev_not {p : Prop} [Decidable p] : (!decide p) = decide (¬ p) := by simp
theorem ev_and {p q : Prop} [Decidable p] [Decidable q] : (decide p && decide q) = decide (p ∧ q) := by simp
theorem ev_or {p q : Prop} [Decidable p] [Decidable q] : (decide p || decide q) = decide (p ∨ q) := by simp
theorem ev_nt : (!true) = false := nrfl rfl
theorem ev_nf : (!false) = true := nrfl rfl
/-! things made -/
theorem ev_ba1 (b : Bool) : (b && true) = b := by cases b <;> rfl
theorem ev_ba2 (b : Bool) : (b && false) = false := by cases b <;> rfl
theorem ev_ba3 (b : Bool) : (true && b) = b := nrfl rfl
theorem ev_ba4 (b : Bool) : (false && b) = false := nrfl rfl
theorem ev_bo1 (b : Bool) : (b || true) = true := by cases b <;> rfl
theorem ev_bo2 (b : Bool) : (b || false) = b := by cases b <;> rfl
theorem ev_bo3 (b : Bool) : (true || b) = true := nrfl rfl
theorem ev_bo4 (b : Bool) : (false || b) = b := nrfl rfl
theorem ev_len?1 (m : List D → Option D) (a : D) : len? 1 m [a] = m [a] := nrfl rfl
theorem ev_lenO?1 (m : List D → Option O) (a : D) : lenO? 1 m [a] = m [a] := nrfl rfl
theorem ev_len?2 (m : List D → Option D) (a b : D) : len? 2 m [a, b] = m [a, b] := nrfl rfl
theorem ev_lenO?2 (m : List D → Option O) (a b : D) : lenO? 2 m [a, b] = m [a, b] := nrfl rfl
theorem ev_gT2 (h : List D → Ev → Option Ev) (a b : D) (ρ : Ev) : gT 2 h (.tup [a, b]) ρ = h [a, b] ρ := nrfl rfl
theorem ev_len?3 (m : List D → Option D) (a b c : D) : len? 3 m [a, b, c] = m [a, b, c] := nrfl rfl
theorem ev_lenO?3 (m : List D → Option O) (a b c : D) : lenO? 3 m [a, b, c] = m [a, b, c] := nrfl rfl
theorem ev_gT3 (h : List D → Ev → Option Ev) (a b c : D) (ρ : Ev) : gT 3 h (.tup [a, b, c]) ρ = h [a, b, c] ρ := nrfl rfl
theorem ev_len?4 (m : List D → Option D) (a b c d : D) : len? 4 m [a, b, c, d] = m [a, b, c, d] := nrfl rfl
theorem ev_lenO?4 (m : List D → Option O) (a b c d : D) : lenO? 4 m [a, b, c, d] = m [a, b, c, d] := nrfl rfl
theorem ev_gT4 (h : List D → Ev → Option Ev) (a b c d : D) (ρ : Ev) : gT 4 h (.tup [a, b, c, d]) ρ = h [a, b, c, d] ρ := nrfl rfl
theorem ev_len?5 (m : List D → Option D) (a b c d e : D) : len? 5 m [a, b, c, d, e] = m [a, b, c, d, e] := nrfl rfl
theorem ev_lenO?5 (m : List D → Option O) (a b c d e : D) : lenO? 5 m [a, b, c, d, e] = m [a, b, c, d, e] := nrfl rfl
theorem ev_gT5 (h : List D → Ev → Option Ev) (a b c d e : D) (ρ : Ev) : gT 5 h (.tup [a, b, c, d, e]) ρ = h [a, b, c, d, e] ρ := nrfl rfl
theorem ev_len?6 (m : List D → Option D) (a b c d e f : D) : len? 6 m [a, b, c, d, e, f] = m [a, b, c, d, e, f] := nrfl rfl
theorem ev_lenO?6 (m : List D → Option O) (a b c d e f : D) : lenO? 6 m [a, b, c, d, e, f] = m [a, b, c, d, e, f] := nrfl rfl
theorem ev_gT6 (h : List D → Ev → Option Ev) (a b c d e f : D) (ρ : Ev) : gT 6 h (.tup [a, b, c, d, e, f]) ρ = h [a, b, c, d, e, f] ρ := nrfl rfl
theorem ev_len?7 (m : List D → Option D) (a b c d e f g : D) : len? 7 m [a, b, c, d, e, f, g] = m [a, b, c, d, e, f, g] := nrfl rfl
theorem ev_lenO?7 (m : List D → Option O) (a b c d e f g : D) : lenO? 7 m [a, b, c, d, e, f, g] = m [a, b, c, d, e, f, g] := nrfl rfl
theorem ev_gT7 (h : List D → Ev → Option Ev) (a b c d e f g : D) (ρ : Ev) : gT 7 h (.tup [a, b, c, d, e, f, g]) ρ = h [a, b, c, d, e, f, g] ρ := nrfl rfl
theorem ev_len?8 (m : List D → Option D) (a b c d e f g h : D) : len? 8 m [a, b, c, d, e, f, g, h] = m [a, b, c, d, e, f, g, h] := nrfl rfl
theorem ev_lenO?8 (m : List D → Option O) (a b c d e f g h : D) : lenO? 8 m [a, b, c, d, e, f, g, h] = m [a, b, c, d, e, f, g, h] := nrfl rfl
theorem ev_gT8 (hh : List D → Ev → Option Ev) (a b c d e f g h : D) (ρ : Ev) : gT 8 hh (.tup [a, b, c, d, e, f, g, h]) ρ = hh [a, b, c, d, e, f, g, h] ρ := nrfl rfl
theorem ev_len?0 (m : List D → Option D) : len? 0 m [] = m [] := nrfl rfl
theorem ev_mkTup {f : Ev → Option (List D)} : mkTup f ρ = (f ρ).bind fun ds => if ds.length ≤ sizeLine then some (.tup ds) else none := nrfl rfl
theorem ev_mkLst {f : Ev → Option (List D)} : mkLst f ρ = (f ρ).bind fun ds => if ds.length ≤ sizeLine then some (.lst ds) else none := nrfl rfl
theorem ev_mkLstO {f : Ev → Option (List D)} : mkLstO f ρ = (f ρ).bind fun ds => if ds.length ≤ sizeLine then some (O.dats ds) else none := nrfl rfl
theorem ev_line {n : Nat} {α : Type} {x y : α} (h : n ≤ 1000000) : (if n ≤ sizeLine then x else y) = x := if_pos (line_of h)
theorem ev_isi_bool_non : isiD "bool" .non = some (.bl false) := nrfl rfl
theorem ev_isi_bool_bl (b : Bool) : isiD "bool" (.bl b) = some (.bl true) := nrfl rfl
theorem ev_isi_bool_int (k : Int) : isiD "bool" (.int k) = some (.bl false) := nrfl rfl
theorem ev_isi_bool_str (z : Str) : isiD "bool" (.str z) = some (.bl false) := nrfl rfl
theorem ev_isi_bool_lst (l : List D) : isiD "bool" (.lst l) = some (.bl false) := nrfl rfl
theorem ev_isi_bool_tup (l : List D) : isiD "bool" (.tup l) = some (.bl false) := nrfl rfl
theorem ev_isi_bool_dic (ks : List Key) (l : List D) : isiD "bool" (.dic ks l) = some (.bl false) := nrfl rfl
theorem ev_isi_int_non : isiD "int" .non = some (.bl false) := nrfl rfl
theorem ev_isi_int_bl (b : Bool) : isiD "int" (.bl b) = some (.bl true) := nrfl rfl
theorem ev_isi_int_int (k : Int) : isiD "int" (.int k) = some (.bl true) := nrfl rfl
theorem ev_isi_int_str (z : Str) : isiD "int" (.str z) = some (.bl false) := nrfl rfl
theorem ev_isi_int_lst (l : List D) : isiD "int" (.lst l) = some (.bl false) := nrfl rfl
theorem ev_isi_int_tup (l : List D) : isiD "int" (.tup l) = some (.bl false) := nrfl rfl
theorem ev_isi_int_dic (ks : List Key) (l : List D) : isiD "int" (.dic ks l) = some (.bl false) := nrfl rfl
theorem ev_isi_str_non : isiD "str" .non = some (.bl false) := nrfl rfl
theorem ev_isi_str_bl (b : Bool) : isiD "str" (.bl b) = some (.bl false) := nrfl rfl
theorem ev_isi_str_int (k : Int) : isiD "str" (.int k) = some (.bl false) := nrfl rfl
theorem ev_isi_str_str (z : Str) : isiD "str" (.str z) = some (.bl true) := nrfl rfl
theorem ev_isi_str_lst (l : List D) : isiD "str" (.lst l) = some (.bl false) := nrfl rfl
theorem ev_isi_str_tup (l : List D) : isiD "str" (.tup l) = some (.bl false) := nrfl rfl
theorem ev_isi_str_dic (ks : List Key) (l : List D) : isiD "str" (.dic ks l) = some (.bl false) := nrfl rfl
theorem ev_isi_tuple_non : isiD "tuple" .non = some (.bl false) := nrfl rfl
theorem ev_isi_tuple_bl (b : Bool) : isiD "tuple" (.bl b) = some (.bl false) := nrfl rfl
theorem ev_isi_tuple_int (k : Int) : isiD "tuple" (.int k) = some (.bl false) := nrfl rfl
theorem ev_isi_tuple_str (z : Str) : isiD "tuple" (.str z) = some (.bl false) := nrfl rfl
theorem ev_isi_tuple_lst (l : List D) : isiD "tuple" (.lst l) = some (.bl false) := nrfl rfl
theorem ev_isi_tuple_tup (l : List D) : isiD "tuple" (.tup l) = some (.bl true) := nrfl rfl
theorem ev_isi_tuple_dic (ks : List Key) (l : List D) : isiD "tuple" (.dic ks l) = some (.bl false) := nrfl rfl
theorem ev_isi_list_non : isiD "list" .non = some (.bl false) := nrfl rfl
theorem ev_isi_list_bl (b : Bool) : isiD "list" (.bl b) = some (.bl false) := nrfl rfl
theorem ev_isi_list_int (k : Int) : isiD "list" (.int k) = some (.bl false) := nrfl rfl
theorem ev_isi_list_str (z : Str) : isiD "list" (.str z) = some (.bl false) := nrfl rfl
theorem ev_isi_list_lst (l : List D) : isiD "list" (.lst l) = some (.bl true) := nrfl rfl
theorem ev_isi_list_tup (l : List D) : isiD "list" (.tup l) = some (.bl false) := nrfl rfl
theorem ev_isi_list_dic (ks : List Key) (l : List D) : isiD "list" (.dic ks l) = some (.bl false) := nrfl rfl
theorem ev_isi_dict_non : isiD "dict" .non = some (.bl false) := nrfl rfl
theorem ev_isi_dict_bl (b : Bool) : isiD "dict" (.bl b) = some (.bl false) := nrfl rfl
theorem ev_isi_dict_int (k : Int) : isiD "dict" (.int k) = some (.bl false) := nrfl rfl
theorem ev_isi_dict_str (z : Str) : isiD "dict" (.str z) = some (.bl false) := nrfl rfl
theorem ev_isi_dict_lst (l : List D) : isiD "dict" (.lst l) = some (.bl false) := nrfl rfl
theorem ev_isi_dict_tup (l : List D) : isiD "dict" (.tup l) = some (.bl false) := nrfl rfl
theorem ev_isi_dict_dic (ks : List Key) (l : List D) : isiD "dict" (.dic ks l) = some (.bl true) := nrfl rfl
/-! numbers -/
theorem ev_addA (i j : Int) : addA (.int i) (.int j) = some (.int (i + j)) := nrfl rfl
theorem ev_addD (i j : Int) : addD (.int i) (.int j) = some (.int (i + j)) := nrfl rfl
theorem ev_subI (i j : Int) : subI (.int i) (.int j) = some (.int (i - j)) := nrfl rfl
theorem ev_mulL {i j : Int} (h : -18446744073709551616 < i ∧ i < 18446744073709551616) : mulI (.int i) (.int j) = some (.int (i * j)) := by
  show (if okMul i j = true then _ else _) = _
  rw [if_pos]
  unfold okMul
  rw [decide_eq_true]
  exact .inl (by simpa using h)
theorem ev_mulR {i j : Int} (h : -18446744073709551616 < j ∧ j < 18446744073709551616) : mulI (.int i) (.int j) = some (.int (i * j)) := by
  show (if okMul i j = true then _ else _) = _
  rw [if_pos]
  unfold okMul
  rw [decide_eq_true]
  exact .inr (by simpa using h)
theorem ev_modI {i j : Int} (h : 0 < j) : modI (.int i) (.int j) = some (.int (i % j)) := by
  show (if decide (0 < j) = true then _ else _) = _
  rw [if_pos (decide_eq_true h)]
theorem ev_divI {i j : Int} (h : 0 < j ∧ j < 1073741824) : divI (.int i) (.int j) = some (.int (i / j)) := by
  show (if decide (0 < j ∧ j < 1073741824) = true then _ else _) = _
  rw [if_pos (decide_eq_true h)]
theorem ev_neg (i : Int) : negI (.int i) = some (.int (-i)) := nrfl rfl
theorem ev_intD (i : Int) : intD [.int i] = some (.int i) := nrfl rfl
theorem ev_max2 (i j : Int) : max2 [.int i, .int j] = some (.int (max i j)) := by
  show some (D.int (if j > i then j else i)) = _
  congr 2
  split <;> omega
theorem ev_min2 (i j : Int) : min2 [.int i, .int j] = some (.int (min i j)) := by
  show some (D.int (if j < i then j else i)) = _
  congr 2
  split <;> omega
theorem ev_eqI (i j : Int) : eqD (.int i) (.int j) = some (.bl (decide (i = j))) := nrfl rfl
theorem ev_eqB (i j : Bool) : eqD (.bl i) (.bl j) = some (.bl (decide (i = j))) := nrfl rfl
theorem ev_eqS (i j : Str) : eqD (.str i) (.str j) = some (.bl (decide (i = j))) := nrfl rfl
theorem ev_neI (i j : Int) : neD (.int i) (.int j) = some (.bl (decide (i ≠ j))) := by
  show some (D.bl (!decide (i = j))) = _
  simp
theorem ev_neS (i j : Str) : neD (.str i) (.str j) = some (.bl (decide (i ≠ j))) := by
  show some (D.bl (!decide (i = j))) = _
  simp
theorem ev_lt (i j : Int) : ltI (.int i) (.int j) = some (.bl (decide (i < j))) := nrfl rfl
theorem ev_le (i j : Int) : leI (.int i) (.int j) = some (.bl (decide (i ≤ j))) := nrfl rfl
theorem ev_gt (i j : Int) : gtI (.int i) (.int j) = some (.bl (decide (j < i))) := nrfl rfl
theorem ev_ge (i j : Int) : geI (.int i) (.int j) = some (.bl (decide (j ≤ i))) := nrfl rfl
theorem ev_isN_non : isN .non .non = some (.bl true) := nrfl rfl
theorem ev_isN_bl (b : Bool) : isN (.bl b) .non = some (.bl false) := nrfl rfl
theorem ev_isN_int (k : Int) : isN (.int k) .non = some (.bl false) := nrfl rfl
theorem ev_isN_str (k : Str) : isN (.str k) .non = some (.bl false) := nrfl rfl
theorem ev_isN_lst (k : List D) : isN (.lst k) .non = some (.bl false) := nrfl rfl
theorem ev_isN_tup (k : List D) : isN (.tup k) .non = some (.bl false) := nrfl rfl
theorem ev_isN_obj (C : Addr) (ks : List Str) (k : List D) : isN (.obj C ks k) .non = some (.bl false) := nrfl rfl
theorem ev_notN_non : notN .non .non = some (.bl false) := nrfl rfl
theorem ev_notN_int (k : Int) : notN (.int k) .non = some (.bl true) := nrfl rfl
theorem ev_notN_str (k : Str) : notN (.str k) .non = some (.bl true) := nrfl rfl
theorem ev_notN_lst (k : List D) : notN (.lst k) .non = some (.bl true) := nrfl rfl
theorem ev_notN_tup (k : List D) : notN (.tup k) .non = some (.bl true) := nrfl rfl
theorem ev_notN_obj (C : Addr) (ks : List Str) (k : List D) : notN (.obj C ks k) .non = some (.bl true) := nrfl rfl
/-! lists -/
theorem ev_lenC {α : Type} (a : α) (l : List α) : (a :: l).length = l.length + 1 := nrfl rfl
theorem ev_lenN {α : Type} : ([] : List α).length = 0 := nrfl rfl
theorem ev_lenM {α β : Type} (f : α → β) (l : List α) : (l.map f).length = l.length := List.length_map f
theorem ev_lenL (l : List D) : lenD [.lst l] = some (.int l.length) := nrfl rfl
theorem ev_lenT (l : List D) : lenD [.tup l] = some (.int l.length) := nrfl rfl
theorem ev_lenS {z : Str} (h : z.length ≤ 1000000) : lenD [.str z] = some (.int z.length) := if_pos (line_of h)
theorem ev_tupL (l : List D) : tupD [.lst l] = some (.tup l) := nrfl rfl
theorem ev_tupT (l : List D) : tupD [.tup l] = some (.tup l) := nrfl rfl
theorem ev_listL (l : List D) : listO [.lst l] = some (.dats l) := nrfl rfl
theorem ev_listT (l : List D) : listO [.tup l] = some (.dats l) := nrfl rfl
theorem ev_frz {f : Ev → Option O} : frz f ρ = (f ρ).bind O.toD := nrfl rfl
theorem ev_thaw : thaw fa ρ = (fa ρ).map .dat := nrfl rfl
theorem ev_toD (ds : List D) : (O.dats ds).toD = some (.lst ds) := toD_dats ds
theorem ev_toDd (d : D) : (O.dat d).toD = some d := nrfl rfl
theorem ev_iOf : iOf fa ρ = (fa ρ).bind seqD := nrfl rfl
theorem ev_seqL (l : List D) : seqD (.lst l) = some l := nrfl rfl
theorem ev_seqT (l : List D) : seqD (.tup l) = some l := nrfl rfl
theorem ev_seqS (z : Str) : seqD (.str z) = some (signs z) := nrfl rfl
def rngI (n : D) : Option (List D) := match n with
  | .int n => if n < 2 ^ 62 ∧ -(2 ^ 62) ≤ n then some (rangeD 0 n.toNat) else none
  | _ => none
def rngJ (m n : D) : Option (List D) := match m, n with
  | .int m, .int n => if (n < 2 ^ 62 ∧ -(2 ^ 62) ≤ n) ∧ m < 2 ^ 62 ∧ -(2 ^ 62) ≤ m then some (rangeD m (n - m).toNat) else none
  | _, _ => none
theorem ev_rng1 : rng1 fa ρ = (fa ρ).bind rngI := by
  unfold rng1
  cases fa ρ with
  | none => rfl
  | some d => cases d <;> rfl
theorem ev_rng2 : rng2 fa fb ρ = (fa ρ).bind fun m => (fb ρ).bind fun n => rngJ m n := by
  unfold rng2
  cases fa ρ with
  | none => rfl
  | some d => cases fb ρ with
    | none => cases d <;> rfl
    | some e => cases d <;> cases e <;> rfl
theorem ev_rngI {n : Int} (h : n < 4611686018427387904 ∧ -4611686018427387904 ≤ n) : rngI (.int n) = some (rangeD 0 n.toNat) := if_pos (by simpa using h)
theorem ev_rngJ {m n : Int} (h : (n < 4611686018427387904 ∧ -4611686018427387904 ≤ n) ∧ m < 4611686018427387904 ∧ -4611686018427387904 ≤ m) : rngJ (.int m) (.int n) = some (rangeD m (n - m).toNat) := if_pos (by simpa using h)
theorem ev_slc {lo hi : Ev → Option (Option Int)} : slc fa lo hi ρ = (fa ρ).bind fun x => (lo ρ).bind fun a => (hi ρ).bind fun b => slD x a b := nrfl rfl
theorem ev_noPart : noPart ρ = some none := nrfl rfl
theorem ev_part : part fa ρ = ((fa ρ).bind toI).map some := by
  unfold part
  cases fa ρ with
  | none => rfl
  | some d => cases d <;> rfl
theorem ev_toI (b : Int) : toI (.int b) = some b := nrfl rfl
theorem ev_slL (l : List D) (a b : Option Int) : slD (.lst l) a b = some (.lst (cutD l a b)) := nrfl rfl
theorem ev_slS {z : Str} (h : z.length ≤ 1000000) (a b : Option Int) : slD (.str z) a b = some (.str (cutS z a b)) := if_pos (line_of h)
theorem ev_catL {l m : List D} (h : l.length + m.length ≤ 1000000) : addA (.lst l) (.lst m) = some (.lst (l ++ m)) := by
  have : catL (.lst l) (.lst m) = some (.lst (l ++ m)) := if_pos (line_of h)
  show orD addD (orD catL catT) (.lst l) (.lst m) = _
  simp only [orD, addD, addI, addS, i2, s2, this]
theorem ev_catT {l m : List D} (h : l.length + m.length ≤ 1000000) : addA (.tup l) (.tup m) = some (.tup (l ++ m)) := by
  have : catT (.tup l) (.tup m) = some (.tup (l ++ m)) := if_pos (line_of h)
  have h0 : catL (.tup l) (.tup m) = none := rfl
  show orD addD (orD catL catT) (.tup l) (.tup m) = _
  simp only [orD, addD, addI, addS, i2, s2, this, h0]
theorem ev_catS {a b : Str} (h : a.length + b.length ≤ 1000000) : addA (.str a) (.str b) = some (.str (a ++ b)) := by
  have hz : a.length + b.length ≤ sizeLine := line_of h
  show orD addD (orD catL catT) (.str a) (.str b) = _
  simp only [orD, addD, addI, addS, i2, s2, decide_eq_true hz, if_true]
theorem ev_catSD {a b : Str} (h : a.length + b.length ≤ 1000000) : addD (.str a) (.str b) = some (.str (a ++ b)) := by
  have hz : a.length + b.length ≤ sizeLine := line_of h
  simp only [orD, addD, addI, addS, i2, s2, decide_eq_true hz, if_true]
theorem ev_strlen (a b : Str) : (a ++ b).length = a.length + b.length := by
  show (a.cps ++ b.cps).size = _
  rw [Array.size_append]; rfl
theorem ev_rev (l : List D) : revD (.lst l) = some (.lst l.reverse) := nrfl rfl
/-! by place -/
instance : Inhabited D := ⟨.non⟩
def nth {α : Type} [Inhabited α] (xs : List α) (k : Int) : α := xs.getD k.toNat default
theorem nth_eq {α : Type} [Inhabited α] {xs : List α} {k : Int} (h0 : 0 ≤ k) (h1 : k < xs.length) : nth xs k = xs[k.toNat]'(by omega) := by
  unfold nth
  rw [List.getD_eq_getElem?_getD, List.getElem?_eq_getElem (by omega)]; rfl
theorem nth_nat {α : Type} [Inhabited α] {xs : List α} {k : Nat} (h1 : k < xs.length) : nth xs (k : Int) = xs[k] := nth_eq (by omega) (by omega)
theorem nth_map {α β : Type} [Inhabited α] [Inhabited β] {f : α → β} {xs : List α} {k : Int} (h0 : 0 ≤ k) (h1 : k < xs.length) : nth (xs.map f) k = f (nth xs k) := by
  rw [nth_eq h0 (by rw [List.length_map]; exact h1), nth_eq h0 h1, List.getElem_map]
theorem at_nth {α : Type} [Inhabited α] {xs : List α} {k : Int} (h0 : 0 ≤ k) (h1 : k < xs.length) : atI xs k = some (nth xs k) := by
  obtain ⟨j, rfl⟩ := Int.eq_ofNat_of_zero_le h0
  rw [nth_nat (by omega)]
  exact atI_nat (List.getElem?_eq_getElem _)
theorem ev_ix0L (a : D) (l : List D) : ixD (.lst (a :: l)) (.int 0) = some a := by
  show atI (a :: l) 0 = _
  exact atI_nat (j := 0) rfl
theorem ev_ix1L (a b : D) (l : List D) : ixD (.lst (a :: b :: l)) (.int 1) = some b := by
  show atI (a :: b :: l) 1 = _
  exact atI_nat (j := 1) rfl
theorem ev_ix0T (a : D) (l : List D) : ixD (.tup (a :: l)) (.int 0) = some a := by
  show atI (a :: l) 0 = _
  exact atI_nat (j := 0) rfl
theorem ev_ix1T (a b : D) (l : List D) : ixD (.tup (a :: b :: l)) (.int 1) = some b := by
  show atI (a :: b :: l) 1 = _
  exact atI_nat (j := 1) rfl
theorem ev_ix2T (a b c : D) (l : List D) : ixD (.tup (a :: b :: c :: l)) (.int 2) = some c := by
  show atI (a :: b :: c :: l) 2 = _
  exact atI_nat (j := 2) rfl
theorem ev_ix3T (a b c d : D) (l : List D) : ixD (.tup (a :: b :: c :: d :: l)) (.int 3) = some d := by
  show atI (a :: b :: c :: d :: l) 3 = _
  exact atI_nat (j := 3) rfl
theorem ev_ix4T (a b c d e : D) (l : List D) : ixD (.tup (a :: b :: c :: d :: e :: l)) (.int 4) = some e := by
  show atI (a :: b :: c :: d :: e :: l) 4 = _
  exact atI_nat (j := 4) rfl
theorem ev_ixML {α : Type} [Inhabited α] {f : α → D} {xs : List α} {k : Int} (h0 : 0 ≤ k) (h1 : k < xs.length) : ixD (.lst (xs.map f)) (.int k) = some (f (nth xs k)) := by
  show atI (xs.map f) k = _
  rw [at_nth h0 (by rw [List.length_map]; exact h1), nth_map h0 h1]
theorem ev_ixMT {α : Type} [Inhabited α] {f : α → D} {xs : List α} {k : Int} (h0 : 0 ≤ k) (h1 : k < xs.length) : ixD (.tup (xs.map f)) (.int k) = some (f (nth xs k)) := by
  show atI (xs.map f) k = _
  rw [at_nth h0 (by rw [List.length_map]; exact h1), nth_map h0 h1]
theorem cut_mid {α : Type} (xs : List α) (a b : Nat) (hb : b ≤ xs.length) (hab : a ≤ b) : cutD xs (some (a : Int)) (some (b : Int)) = (xs.drop a).take (b - a) := by
  unfold cutD
  rw [HT.sIx_nat, HT.sIx_nat, Nat.min_eq_left (show a ≤ xs.length by omega), Nat.min_eq_left hb]
/-! targets -/
theorem ev_wipe0 : wipeO ρ [] = ρ := nrfl rfl
theorem ev_wipeS (v : Nat) (vs : List Nat) : wipeO ρ (v :: vs) = (wipeO ρ vs).set v .unk := nrfl rfl
theorem ev_gN (d : D) : gN i d ρ = some (ρ.set i (.dat d)) := nrfl rfl
theorem ev_gsN : gsN [] ρ = some ρ := nrfl rfl
theorem ev_gsC {g : D → Ev → Option Ev} {h : List D → Ev → Option Ev} (d : D) (r : List D) : gsC g h (d :: r) ρ = (g d ρ).bind (h r) := nrfl rfl
theorem ev_set0 (a b : O) (l : Ev) : (a :: l).set 0 b = b :: l := nrfl rfl
theorem ev_setS (a b : O) (l : Ev) (n : Nat) : (a :: l).set (n + 1) b = a :: l.set n b := nrfl rfl
end
/-! ### running a body, statement by statement -/
section
variable {f g b : Ev → Option Fl} {ρ : Ev} {Q : Fl → Prop} {P : Ev → Prop}
theorem Rn.sqst {i : Nat} {e : Ev → Option D} {d : D} (h : e ρ = some d) (k : Rn g (ρ.set i (.dat d)) Q) : Rn (PD.sq (stV i e) g) ρ Q := Rn.sq (Rn.st h k)
theorem Rn.sqstO {i : Nat} {e : Ev → Option O} {o : O} (h : e ρ = some o) (k : Rn g (ρ.set i o) Q) : Rn (PD.sq (PD.stO i e) g) ρ Q := Rn.sq (Rn.stO h k)
theorem Rn.sqskip (k : Rn g ρ Q) : Rn (PD.sq PD.skip g) ρ Q := Rn.sq (Rn.skip k)
theorem Rn.sqret {e : Ev → Option D} {d : D} (h : e ρ = some d) (k : Q (.rt (.dat d) ρ)) : Rn (PD.sq (rtV e) g) ρ Q := Rn.sq (Rn.ret h k)
theorem Rn.appD {i : Nat} {e : Ev → Option D} {d : D} {ds : List D} (h : e ρ = some d) (ho : ρ[i]? = some (O.dats ds)) (hl : ds.length < 1000000) (k : Q (.nx (ρ.set i (O.dats (ds ++ [d]))))) : Rn (PD.app i e) ρ Q := by
  refine Rn.app h ho (by rw [List.length_map]; exact Nat.lt_of_lt_of_le hl (by decide)) ?_
  have : O.dats (ds ++ [d]) = .lst (ds.map .dat ++ [.dat d]) := by unfold O.dats; rw [List.map_append]; rfl
  rw [← this]; exact k
theorem Rn.asg {e : Ev → Option D} {t : D → Ev → Option Ev} {d : D} {ρ' : Ev} (h : e ρ = some d) (ht : t d ρ = some ρ') (k : Q (.nx ρ')) : Rn (PD.asg e t) ρ Q := ⟨_, by unfold PD.asg; rw [h, Option.bind_some, ht]; rfl, k⟩
theorem Rn.sqasg {e : Ev → Option D} {t : D → Ev → Option Ev} {d : D} {ρ' : Ev} (h : e ρ = some d) (ht : t d ρ = some ρ') (k : Rn g ρ' Q) : Rn (PD.sq (PD.asg e t) g) ρ Q := Rn.sq (Rn.asg h ht k)
/-- an if whose test is a proposition -/
theorem Rn.iteP {c : Ev → Option Bool} {p : Prop} [Decidable p] (h : c ρ = some (decide p)) (h1 : p → Rn f ρ Q) (h2 : ¬ p → Rn b ρ Q) : Rn (ifS c f b) ρ Q := Rn.ite h (fun q => h1 (of_decide_eq_true q)) fun q => h2 (of_decide_eq_false q)
theorem sq_ifS {c : Ev → Option Bool} : PD.sq (ifS c f b) g = ifS c (PD.sq f g) (PD.sq b g) := by
  funext ρ
  unfold PD.sq ifS
  cases c ρ with
  | none => rfl
  | some t => cases t <;> rfl
theorem Rn.sqif {c : Ev → Option Bool} {p : Prop} [Decidable p] (h : c ρ = some (decide p)) (h1 : p → Rn (PD.sq f g) ρ Q) (h2 : ¬ p → Rn (PD.sq b g) ρ Q) : Rn (PD.sq (ifS c f b) g) ρ Q := by
  rw [sq_ifS]
  exact Rn.iteP h h1 h2
/-- an if whose way is known -/
theorem Rn.sqifT {c : Ev → Option Bool} (h : c ρ = some true) (h1 : Rn (PD.sq f g) ρ Q) : Rn (PD.sq (ifS c f b) g) ρ Q := by
  rw [sq_ifS]
  exact Rn.ite h (fun _ => h1) fun z => nomatch z
theorem Rn.sqifF {c : Ev → Option Bool} (h : c ρ = some false) (h1 : Rn (PD.sq b g) ρ Q) : Rn (PD.sq (ifS c f b) g) ρ Q := by
  rw [sq_ifS]
  exact Rn.ite h (fun z => nomatch z) fun _ => h1
/-- if not good: return False -/
theorem Rn.chk {c : Ev → Option Bool} (h : c ρ = some false) (h1 : Rn g ρ Q) : Rn (PD.sq (ifS c f PD.skip) g) ρ Q := Rn.sqifF h (Rn.sqskip h1)
/-- a for by an invariant; its items are those of a typed list -/
theorem Rn.forT {α : Type} {fi : Ev → Option (List D)} {gt : D → Ev → Option Ev} {xs : List α} {φ : α → D} (h : fi ρ = some (xs.map φ)) (I : Nat → Ev → Prop) (h0 : I 0 ρ)
    (hs : ∀ (i : Nat) (hi : i < xs.length) ρ, I i ρ → ∃ ρ1, gt (φ xs[i]) ρ = some ρ1 ∧ Rn b ρ1 fun r => match r with | .nx ρ2 => I (i + 1) ρ2 | .ct ρ2 => I (i + 1) ρ2 | .bk ρ2 => Q (.nx ρ2) | r => Q r) (k : ∀ ρ', I xs.length ρ' → Q (.nx ρ')) : Rn (forS fi gt b) ρ Q := by
  refine Rn.for h I h0 (fun i d ρ hd hI => ?_) (fun ρ' hI => k ρ' (by rw [List.length_map] at hI; exact hI))
  rw [List.getElem?_map] at hd
  obtain ⟨x, hx, rfl⟩ := Option.map_eq_some_iff.mp hd
  obtain ⟨hi, rfl⟩ := List.getElem?_eq_some_iff.mp hx
  exact hs i hi ρ hI
/-- the same, with what follows -/
theorem Rn.sqfor {α : Type} {fi : Ev → Option (List D)} {gt : D → Ev → Option Ev} {xs : List α} {φ : α → D} (h : fi ρ = some (xs.map φ)) (I : Nat → Ev → Prop) (h0 : I 0 ρ)
    (hs : ∀ (i : Nat) (hi : i < xs.length) ρ, I i ρ → ∃ ρ1, gt (φ xs[i]) ρ = some ρ1 ∧ Rn b ρ1 fun r => match r with | .nx ρ2 => I (i + 1) ρ2 | .ct ρ2 => I (i + 1) ρ2 | .bk ρ2 => Rn g ρ2 Q | r => Q r) (k : ∀ ρ', I xs.length ρ' → Rn g ρ' Q) : Rn (PD.sq (forS fi gt b) g) ρ Q := by
  refine Rn.sq (Rn.forT h I h0 (fun i hi ρ hI => ?_) k)
  obtain ⟨ρ1, e, r, er, q⟩ := hs i hi ρ hI
  refine ⟨ρ1, e, r, er, ?_⟩
  cases r <;> exact q
theorem Rn.sqforR {fi : Ev → Option (List D)} {gt : D → Ev → Option Ev} {lo : Int} {n : Nat} (h : fi ρ = some (rangeD lo n)) (I : Nat → Ev → Prop) (h0 : I 0 ρ)
    (hs : ∀ (i : Nat) (hi : i < n) ρ, I i ρ → ∃ ρ1, gt (.int (lo + (i : Int))) ρ = some ρ1 ∧ Rn b ρ1 fun r => match r with | .nx ρ2 => I (i + 1) ρ2 | .ct ρ2 => I (i + 1) ρ2 | .bk ρ2 => Rn g ρ2 Q | r => Q r) (k : ∀ ρ', I n ρ' → Rn g ρ' Q) : Rn (PD.sq (forS fi gt b) g) ρ Q := by
  refine Rn.sqfor (xs := List.range n) (φ := fun i : Nat => .int (lo + (i : Int))) h I h0 (fun i hi ρ hI => ?_) (fun ρ' hI => k ρ' (by rw [List.length_range] at hI; exact hI))
  rw [List.getElem_range]
  exact hs i (by simpa using hi) ρ hI
theorem Rn.fzD {i : Nat} {ds : List D} (ho : ρ[i]? = some (O.dats ds)) (k : Rn g (ρ.set i (.dat (.lst ds))) Q) : Rn (PD.fz i g) ρ Q := Rn.fz ho (toD_dats ds) k
end
/-! ### comprehensions over typed lists -/
section
variable {ρ : Ev} {fi : Ev → Option (List D)} {gt : D → Ev → Option Ev} {t : Ev → Option Bool} {f : Ev → Option D} {vs : List Nat}
theorem comp_mapT {α : Type} {φ ψ : α → D} {ρw : Ev} : ∀ {xs : List α}, (∀ x ∈ xs, ∃ ρ1, gt (φ x) ρw = some ρ1 ∧ f ρ1 = some (ψ x)) → comp gt yes f ρw (xs.map φ) = some (xs.map ψ)
  | [], _ => rfl
  | x :: xs, H => by
    obtain ⟨ρ1, e1, e2⟩ := H x List.mem_cons_self
    rw [List.map_cons, List.map_cons]
    unfold comp
    rw [e1, Option.bind_some, show yes ρ1 = some true from rfl, Option.bind_some, if_pos rfl, e2, Option.bind_some, comp_mapT fun x' hx => H x' (List.mem_cons_of_mem _ hx)]
    rfl
theorem comp_filT {α : Type} {φ ψ : α → D} {p : α → Bool} {ρw : Ev} : ∀ {xs : List α}, (∀ x ∈ xs, ∃ ρ1, gt (φ x) ρw = some ρ1 ∧ t ρ1 = some (p x) ∧ (p x = true → f ρ1 = some (ψ x))) → comp gt t f ρw (xs.map φ) = some ((xs.filter p).map ψ)
  | [], _ => rfl
  | x :: xs, H => by
    obtain ⟨ρ1, e1, e2, e3⟩ := H x List.mem_cons_self
    have ih := comp_filT (xs := xs) fun x' hx => H x' (List.mem_cons_of_mem _ hx)
    rw [List.map_cons]
    unfold comp
    rw [e1, Option.bind_some, e2, Option.bind_some]
    cases q : p x with
    | true => rw [if_pos rfl, e3 q, Option.bind_some, ih, List.filter_cons_of_pos q]; rfl
    | false => rw [if_neg Bool.false_ne_true, ih, List.filter_cons_of_neg (by rw [q]; exact Bool.false_ne_true)]
/-- [e for x in xs] -/
theorem lc_map {α : Type} {φ : α → D} (ψ : α → D) {xs : List α} (hw : okW ρ vs = true) (hi : fi ρ = some (xs.map φ)) (hl : xs.length ≤ 1000000) (H : ∀ x ∈ xs, ∃ ρ1, gt (φ x) (wipeO ρ vs) = some ρ1 ∧ f ρ1 = some (ψ x)) : lcD fi gt yes f vs ρ = some (.lst (xs.map ψ)) :=
  lcD_of hw hi rfl (comp_mapT H) (by rw [List.length_map]; exact line_of hl)
theorem lc_fil {α : Type} {φ : α → D} (ψ : α → D) (p : α → Bool) {xs : List α} (hw : okW ρ vs = true) (hi : fi ρ = some (xs.map φ)) (hl : xs.length ≤ 1000000) (H : ∀ x ∈ xs, ∃ ρ1, gt (φ x) (wipeO ρ vs) = some ρ1 ∧ t ρ1 = some (p x) ∧ (p x = true → f ρ1 = some (ψ x))) : lcD fi gt t f vs ρ = some (.lst ((xs.filter p).map ψ)) :=
  lcD_of hw hi rfl (comp_filT H) (by rw [List.length_map]; exact Nat.le_trans (List.length_filter_le _ _) (line_of hl))
end
theorem mp_lenA {α : Type} (a b : List α) : (a ++ b).length = a.length + b.length := List.length_append
theorem mp_mapC {α β : Type} (f : α → β) (a : α) (l : List α) : (a :: l).map f = f a :: l.map f := rfl
theorem mp_mapN {α β : Type} (f : α → β) : ([] : List α).map f = [] := rfl
theorem mp_mapA {α β : Type} (f : α → β) (a b : List α) : (a ++ b).map f = a.map f ++ b.map f := List.map_append
/-- all of them, for simp -/
def MV := And.intro (And.intro (And.intro (And.intro (And.intro (And.intro (And.intro (@ev_bind) (And.intro (@ev_map) (@ev_gv0))) (And.intro (@ev_gvS) (And.intro (@ev_b2) (@ev_b1)))) (And.intro (And.intro (@ev_kI) (And.intro (@ev_kS) (@ev_kB))) (And.intro (And.intro (@ev_kN) (@ev_aCons)) (And.intro (@ev_aNil) (@ev_cB))))) (And.intro (And.intro (And.intro (@ev_cO) (And.intro (@ev_asB) (@ev_toB))) (And.intro (@ev_andT) (And.intro (@ev_orT) (@ev_notT)))) (And.intro (And.intro (@ev_andO_t) (And.intro (@ev_andO_f) (@ev_andO))) (And.intro (And.intro (@ev_orO_t) (@ev_orO_f)) (And.intro (@ev_orO) (@ev_andV)))))) (And.intro (And.intro (And.intro (And.intro (@ev_orV) (And.intro (@ev_notV) (@ev_andW_t))) (And.intro (@ev_andW_f) (And.intro (@ev_andW) (@ev_orW_t)))) (And.intro (And.intro (@ev_orW_f) (And.intro (@ev_orW) (@ev_notW))) (And.intro (And.intro (@ev_ifV) (@ev_iteO)) (And.intro (@ev_ite_some) (@ev_ite_int))))) (And.intro (And.intro (And.intro (@ev_ite_str) (And.intro (@ev_dec) (@ev_true))) (And.intro (And.intro (@ev_false) (@ev_ft)) (And.intro (@ev_tt) (@ev_not)))) (And.intro (And.intro (@ev_and) (And.intro (@ev_or) (@ev_nt))) (And.intro (And.intro (@ev_nf) (@ev_ba1)) (And.intro (@ev_ba2) (@ev_ba3))))))) (And.intro (And.intro (And.intro (And.intro (And.intro (@ev_ba4) (And.intro (@ev_bo1) (@ev_bo2))) (And.intro (@ev_bo3) (And.intro (@ev_bo4) (@ev_len?1)))) (And.intro (And.intro (@ev_lenO?1) (And.intro (@ev_len?2) (@ev_lenO?2))) (And.intro (And.intro (@ev_gT2) (@ev_len?3)) (And.intro (@ev_lenO?3) (@ev_gT3))))) (And.intro (And.intro (And.intro (@ev_len?4) (And.intro (@ev_lenO?4) (@ev_gT4))) (And.intro (And.intro (@ev_len?5) (@ev_lenO?5)) (And.intro (@ev_gT5) (@ev_len?6)))) (And.intro (And.intro (@ev_lenO?6) (And.intro (@ev_gT6) (@ev_len?7))) (And.intro (And.intro (@ev_lenO?7) (@ev_gT7)) (And.intro (@ev_len?8) (@ev_lenO?8)))))) (And.intro (And.intro (And.intro (And.intro (@ev_gT8) (And.intro (@ev_len?0) (@ev_mkTup))) (And.intro (@ev_mkLst) (And.intro (@ev_mkLstO) (@ev_line)))) (And.intro (And.intro (@ev_isi_bool_non) (And.intro (@ev_isi_bool_bl) (@ev_isi_bool_int))) (And.intro (And.intro (@ev_isi_bool_str) (@ev_isi_bool_lst)) (And.intro (@ev_isi_bool_tup) (@ev_isi_bool_dic))))) (And.intro (And.intro (And.intro (@ev_isi_int_non) (And.intro (@ev_isi_int_bl) (@ev_isi_int_int))) (And.intro (And.intro (@ev_isi_int_str) (@ev_isi_int_lst)) (And.intro (@ev_isi_int_tup) (@ev_isi_int_dic)))) (And.intro (And.intro (@ev_isi_str_non) (And.intro (@ev_isi_str_bl) (@ev_isi_str_int))) (And.intro (And.intro (@ev_isi_str_str) (@ev_isi_str_lst)) (And.intro (@ev_isi_str_tup) (@ev_isi_str_dic)))))))) (And.intro (And.intro (And.intro (And.intro (And.intro (And.intro (@ev_isi_tuple_non) (And.intro (@ev_isi_tuple_bl) (@ev_isi_tuple_int))) (And.intro (@ev_isi_tuple_str) (And.intro (@ev_isi_tuple_lst) (@ev_isi_tuple_tup)))) (And.intro (And.intro (@ev_isi_tuple_dic) (And.intro (@ev_isi_list_non) (@ev_isi_list_bl))) (And.intro (And.intro (@ev_isi_list_int) (@ev_isi_list_str)) (And.intro (@ev_isi_list_lst) (@ev_isi_list_tup))))) (And.intro (And.intro (And.intro (@ev_isi_list_dic) (And.intro (@ev_isi_dict_non) (@ev_isi_dict_bl))) (And.intro (And.intro (@ev_isi_dict_int) (@ev_isi_dict_str)) (And.intro (@ev_isi_dict_lst) (@ev_isi_dict_tup)))) (And.intro (And.intro (@ev_isi_dict_dic) (And.intro (@ev_addA) (@ev_addD))) (And.intro (And.intro (@ev_subI) (@ev_mulL)) (And.intro (@ev_mulR) (@ev_modI)))))) (And.intro (And.intro (And.intro (And.intro (@ev_divI) (And.intro (@ev_neg) (@ev_intD))) (And.intro (@ev_max2) (And.intro (@ev_min2) (@ev_eqI)))) (And.intro (And.intro (@ev_eqB) (And.intro (@ev_eqS) (@ev_neI))) (And.intro (And.intro (@ev_neS) (@ev_lt)) (And.intro (@ev_le) (@ev_gt))))) (And.intro (And.intro (And.intro (@ev_ge) (And.intro (@ev_isN_non) (@ev_isN_bl))) (And.intro (And.intro (@ev_isN_int) (@ev_isN_str)) (And.intro (@ev_isN_lst) (@ev_isN_tup)))) (And.intro (And.intro (@ev_isN_obj) (And.intro (@ev_notN_non) (@ev_notN_int))) (And.intro (And.intro (@ev_notN_str) (@ev_notN_lst)) (And.intro (@ev_notN_tup) (@ev_notN_obj))))))) (And.intro (And.intro (And.intro (And.intro (And.intro (@ev_lenC) (And.intro (@ev_lenN) (@ev_lenM))) (And.intro (@ev_lenL) (And.intro (@ev_lenT) (@ev_lenS)))) (And.intro (And.intro (@ev_tupL) (And.intro (@ev_tupT) (@ev_listL))) (And.intro (And.intro (@ev_listT) (@ev_frz)) (And.intro (@ev_thaw) (@ev_toD))))) (And.intro (And.intro (And.intro (@ev_toDd) (And.intro (@ev_iOf) (@ev_seqL))) (And.intro (And.intro (@ev_seqT) (@ev_seqS)) (And.intro (@ev_rng1) (@ev_rng2)))) (And.intro (And.intro (@ev_rngI) (And.intro (@ev_rngJ) (@ev_slc))) (And.intro (And.intro (@ev_noPart) (@ev_part)) (And.intro (@ev_toI) (@ev_slL)))))) (And.intro (And.intro (And.intro (And.intro (@ev_slS) (And.intro (@ev_catL) (@ev_catT))) (And.intro (@ev_catS) (And.intro (@ev_catSD) (@ev_strlen)))) (And.intro (And.intro (@ev_rev) (And.intro (@ev_ix0L) (@ev_ix1L))) (And.intro (And.intro (@ev_ix0T) (@ev_ix1T)) (And.intro (@ev_ix2T) (@ev_ix3T))))) (And.intro (And.intro (And.intro (@ev_ix4T) (And.intro (@ev_ixML) (@ev_ixMT))) (And.intro (And.intro (@ev_wipe0) (@ev_wipeS)) (And.intro (@ev_gN) (@ev_gsN)))) (And.intro (And.intro (@ev_gsC) (And.intro (@ev_set0) (@ev_setS))) (And.intro (And.intro (@mp_lenA) (@mp_mapC)) (And.intro (@mp_mapN) (@mp_mapA))))))))
end PD

namespace PD
open PySem PySem.Spec L2

/-! ### own error classes: super().__init__('..'); self.f = f; .. -/
abbrev superSt (p0 p1 p2 p3 p4 p5 : Pos) (x : Str) (j : Nat) : Stmt := .Expr (.Call (.Attribute (.Call (.Name "super" p0) [] [] p1) "__init__" p2) [.Constant (.str x) j p3] [] p4) p5
abbrev fldSt (f : Str) (q1 q2 q3 q4 : Pos) : Stmt := .Assign [.Attribute (.Name "self" q1) f q2] (.Name f q3) q4
inductive Flds : List Stmt → List Str → Prop
  | nil : Flds [] []
  | cons {f : Str} {q1 q2 q3 q4 : Pos} {r : List Stmt} {fs : List Str} : Flds r fs → Flds (fldSt f q1 q2 q3 q4 :: r) (f :: fs)

abbrev xEnv (qual : Str) (scope : Scope) (L f cda cc : Addr) : Env := PySem.W.envX qual scope L f (.ref cda) [("__class__", cc)]
abbrev xObj (C t1 : Addr) (dv : Option Addr) : Obj := { cls := .ref C, dict := dv, data := .fields #[.ref t1, .none, .none, .none, .bool false, .none] }

/-- what stands in the dict of an exception in the making -/
def XDic (hp : Heap) (e L : Addr) (done : List (Str × Value)) (h : Heap) : Option Addr → Prop
  | none => done = []
  | some dx => hp.objs.size ≤ dx ∧ dx ≠ e ∧ dx ≠ L ∧ ∃ mA, h.Ns1 dx mA ∧ Within mA (done.map (·.1)) ∧ ∀ y, mA y = done.lookup y
section
variable {prog : Program} {w : World} {A : Around} {E : Value → Shared → Prop} {K : PySem.W.Frag} {hp : Heap} {C e L f cda cc t1 : Addr} {qual : Str} {scope : Scope} {m : Str → Option Value} {os : OsState} {g : Array GenState} {d : Drawn}
/-- one store -/
theorem store_run {cd : ClassData} {fl : Str} {v : Value} {dv : Option Addr} {done : List (Str × Value)} {h : Heap} {t : Nat} {Q : Unit → Shared → Prop} (X : K.In hp) (hcd : PySem.W.clsIn K C = some cd) (hm : PySem.HandSPX.refsVE cd.mro = true) (hh : cd.hasDict = true)
    (sa : PySem.W.findIn K (.ref C) "__setattr__" = some (some (.builtin "object.__setattr__"))) (ha : PySem.W.findIn K (.ref C) fl = some none) (hl : done.length ≤ 900) (he : hp.objs.size ≤ e)
    (kp : ∀ b o, hp.get? b = some o → h.get? b = some o) (hx : h.get? e = some (xObj C t1 dv)) (hL : L ≠ e) (hn : h.Ns L m)
    (hdv : XDic hp e L done h dv)
    (hq : ∀ h' tk dx, (∀ b o, hp.get? b = some o → h'.get? b = some o) → h'.get? e = some (xObj C t1 (some dx)) → h'.Ns L m → hp.objs.size ≤ dx → dx ≠ e → dx ≠ L → (∃ mA, h'.Ns1 dx mA ∧ Within mA (((fl, v) :: done).map (·.1)) ∧ ∀ y, mA y = ((fl, v) :: done).lookup y) → Q () ⟨h', g, d, tk, os⟩) :
    wpAny (model prog w) A (setAttr (.ref e) fl v) Q E ⟨h, g, d, t, os⟩ := by
  have XK : K.In h := X.keeps kp
  have hpe : ∀ b o, hp.get? b = some o → b ≠ e := fun b o q => Nat.ne_of_lt (Nat.lt_of_lt_of_le (Heap.lt_size q) he)
  have look : ∀ y, (if y = fl then some v else done.lookup y) = ((fl, v) :: done).lookup y := fun y => by
    by_cases hy : y = fl
    · subst hy; simp [List.lookup]
    · have e' : (y == fl) = false := by simpa using hy
      rw [if_neg hy]; simp [List.lookup, e']
  cases dv with
  | none =>
    have hdv : done = [] := hdv
    subst hdv
    refine PySem.W.set_plain XK (ox := xObj C t1 none) (od := none) ⟨hx, rfl, rfl, trivial⟩ sa ?_
    refine PySem.HandSPX.exc_osa XK hx hcd hm hh ha (fun h' tk' dx k dn dne hx' hn' => ?_)
    obtain ⟨oL, es, ep, hoL, rL⟩ := hn
    have hdL : dx ≠ L := fun z => by
      have y := Heap.lt_size hoL
      rw [← z] at y
      exact absurd y (Nat.not_lt.mpr dn)
    have hsz : hp.objs.size ≤ dx := Nat.le_trans he (Nat.le_trans (Nat.le_of_lt (Heap.lt_size hx)) dn)
    exact hq h' tk' dx (fun b o q => k b o (hpe b o q) (kp b o q)) hx' ⟨oL, es, ep, k _ _ hL hoL, rL⟩ hsz dne hdL ⟨_, hn', Within.cons fl v Within.nil, fun y => by rw [← look]; rfl⟩
  | some dx =>
    obtain ⟨hsz, dne, hdL, mA, hns, hw, hlk⟩ := hdv
    obtain ⟨oD, _, _, hoD, _, _⟩ := hns.count hw
    refine PySem.W.set_plain XK (ox := xObj C t1 (some dx)) (od := some oD) ⟨hx, rfl, rfl, hoD⟩ sa ?_
    refine PySem.OEX.osa_old XK hx hns hw (by rw [List.length_map]; omega) hcd hm hh ha (fun h' tk' k hn' => ?_)
    obtain ⟨oL, es, ep, hoL, rL⟩ := hn
    have hpd : ∀ b o, hp.get? b = some o → b ≠ dx := fun b o q => Nat.ne_of_lt (Nat.lt_of_lt_of_le (Heap.lt_size q) hsz)
    exact hq h' tk' dx (fun b o q => k b o (hpd b o q) (kp b o q)) (k _ _ dne.symm hx) ⟨oL, es, ep, k _ _ hdL.symm hoL, rL⟩ hsz dne hdL ⟨_, hn', Within.cons fl v hw, fun y => by rw [← look, hlk y]⟩

theorem ldLoc {h : Heap} {t : Nat} {x : Str} {pos : Pos} {v : Value} {Q : Value → Shared → Prop} (hk : scope.kind = .function) (hl : scope.names.lookup x = some .local) (hd : (x == ("__debug__" : Str)) = false) (hn : h.Ns L m) (hv : m x = some v) (q : Q v ⟨h, g, d, t, os⟩) :
    wpAny (model prog w) A (eval (.Name x pos) (xEnv qual scope L f cda cc)) Q E ⟨h, g, d, t, os⟩ := wpAny_Name (wpAny_loadName_local hk hl hn hv q) hd

/-- the stores -/
theorem flds_run {cd : ClassData} (X : K.In hp) (hcd : PySem.W.clsIn K C = some cd) (hm : PySem.HandSPX.refsVE cd.mro = true) (hh : cd.hasDict = true)
    (sa : PySem.W.findIn K (.ref C) "__setattr__" = some (some (.builtin "object.__setattr__"))) (he : hp.objs.size ≤ e) (hL : L ≠ e) (hk : scope.kind = .function) (hself : scope.names.lookup ("self" : Str) = some .local) (ms : m "self" = some (.ref e)) :
    ∀ {rest : List Stmt} {fs : List Str} (F : Flds rest fs) (val : Str → Value) {dv : Option Addr} {done : List (Str × Value)} {h : Heap} {t : Nat} {Q : Flow → Shared → Prop},
    (∀ x ∈ fs, PySem.W.findIn K (.ref C) x = some none ∧ scope.names.lookup x = some .local ∧ (x == ("__debug__" : Str)) = false ∧ m x = some (val x)) → done.length + fs.length ≤ 900 →
    (∀ b o, hp.get? b = some o → h.get? b = some o) → h.get? e = some (xObj C t1 dv) → h.Ns L m →
    XDic hp e L done h dv →
    (∀ h' tk dv', (∀ b o, hp.get? b = some o → h'.get? b = some o) → h'.get? e = some (xObj C t1 dv') →
      XDic hp e L ((fs.map fun x => (x, val x)).reverse ++ done) h' dv' → Q .next ⟨h', g, d, tk, os⟩) →
    wpAny (model prog w) A (execs rest (xEnv qual scope L f cda cc)) Q E ⟨h, g, d, t, os⟩
  | _, _, .nil, val, dv, done, h, t, Q, _, _, kp, hx, hn, hdv, hq => wpAny_execs_nil (hq h t dv kp hx hdv)
  | _, _, .cons (f := fl) (q1 := q1) (q2 := q2) (q3 := q3) (q4 := q4) (fs := fs) F, val, dv, done, h, t, Q, hf, hl, kp, hx, hn, hdv, hq => by
    obtain ⟨h1, h2, h3, h4⟩ := hf fl List.mem_cons_self
    simp only [List.length_cons] at hl
    refine wpAny_execs_cons ?_
    refine plainObj_wpAny_Assign_Attribute ?_ (by rfl)
    refine ldLoc hk h2 h3 hn h4 ?_
    refine ldLoc hk hself (by decide) hn ms ?_
    refine store_run X hcd hm hh sa h1 (by omega) he kp hx hL hn hdv fun h' tk dx k1 k2 k3 k4 k5 k6 k7 => ?_
    refine flds_run X hcd hm hh sa he hL hk hself ms F val (dv := some dx) (done := (fl, val fl) :: done) (fun x hx => hf x (List.mem_cons_of_mem _ hx)) (by simp only [List.length_cons]; omega) k1 k2 k3 ⟨k4, k5, k6, k7⟩ fun h'' tk' dv' j1 j2 j3 => hq h'' tk' dv' j1 j2 ?_
    rw [List.map_cons, List.reverse_cons, List.append_assoc]
    exact j3
/-- ValueError.__init__ bound to the object, called -/
theorem call_bwV {nm q : Str} {N : Addr} {bs bm : List Value} {hdct : Bool} {sn : List Str} {sub : List Value} {ab : Bool} {col : Option Bool} {dd : Option Addr} {k0 k1 k2 k3 k5 : Option Value} {h : Heap} {t : Nat} {u t0 : Addr} {rest : List Value} {Q : Value → Shared → Prop}
    (hC : h.get? C = some (excClassObj nm q C N bs bm hdct sn sub ab col dd k0 k1 k2 k3 k5 "ValueError.__new__")) (he : h.get? e = some (xObj C t0 none)) (hu : h.get? u = some (PySem.W.kxs_mw "ValueError.__init__" e)) (hrest : rest.length ≤ sizeLine)
    (hq : ∀ h' t1, (∀ b o, b ≠ e → h.get? b = some o → h'.get? b = some o) → h'.get? e = some (xObj C t1 none) → Q .none ⟨h', g, d, t, os⟩) :
    wpAny (model prog w) A (call (.ref u) rest) Q E ⟨h, g, d, t, os⟩ := by
  refine wpAny_call (codeAny_of_tree ?_)
  show wpAny _ A.in1 (callAny (.ref u) ⟨rest, []⟩) _ _ _
  simp only [callAny]
  refine wpAny_bind (wpAny_load hu ?_)
  simp only [PySem.W.kxs_mw, show (Value.type "method-wrapper" == Value.type "method" || Value.type "method-wrapper" == Value.type "builtin_function_or_method" || Value.type "method-wrapper" == Value.type "method-wrapper") = true by decide, if_true]
  refine PySem.W.KFB.if_so (by decide) ?_
  refine wpAny_bind (PySem.W.check_bound_init F.excBase_ValueError.toExcCallFacts hC he rfl ?_)
  refine wpAny_bind (wpAny_pure (wpAny_pure ?_))
  refine ⟨plainId_quiet F.excBase_ValueError.init.plain _, codeAny_builtin F.excBase_ValueError.initEntry ?_⟩
  exact PySem.W.exc_init_tree (cls := .ref C) (t0 := t0) (dv := none) (c2 := .none) (c3 := .none) (b4 := .bool false) he hrest fun h' k1 k2 k3 => hq h' _ k1 k2

/-- the call is the ordinary one (the places of the text tell it) -/
def SupEv (qual : Str) (scope : Scope) (p0 p1 p2 p3 p4 : Pos) (x : Str) (j : Nat) : Prop := ∀ L f cda cc : Addr, ∃ pl : Sem Bool,
  eval (.Call (.Attribute (.Call (.Name "super" p0) [] [] p1) "__init__" p2) [.Constant (.str x) j p3] [] p4) (xEnv qual scope L f cda cc) = (do
    let ov ← attributeBase (.Call (.Name "super" p0) [] [] p1) "__init__" (xEnv qual scope L f cda cc) (eval (.Call (.Name "super" p0) [] [] p1) (xEnv qual scope L f cda cc))
    standAt p2.atName
    let (fn, first) ← holding [ov] (getMethod ov "__init__" pl)
    callWith p4 fn first (backTo p4 (starEach [.Constant (.str x) j p3] (xEnv qual scope L f cda cc))) [])
/-- super().__init__('..') -/
theorem super_run {mg : Str → Option Value} {D : Addr} {cdD : ClassData} {ar : PySem.Arg} {fd : FuncData} {vs : Array Value} {file : Str} {tf : Tok} {oc ccl cl : Value} {od cdd cld : Option Addr} {osl ccs csl : Array (Option Value)} {body : List Stmt} {p0 p1 p2 p3 p4 p5 : Pos} {x : Str} {j : Nat}
    {nm q : Str} {N : Addr} {bs bm : List Value} {sn : List Str} {sub : List Value} {ab : Bool} {col : Option Bool} {dd : Option Addr} {k0 k1 k2 k3 k5 : Option Value} {h : Heap} {t : Nat} {t0 : Addr} {Q : Flow → Shared → Prop} {E : Value → Shared → Prop}
    (hev : SupEv qual scope p0 p1 p2 p3 p4 x j) (X : K.In hp) (hG : hp.Ns mainGlobals mg) (hB : ∃ mb, hp.Ns builtinsNs mb ∧ ∀ x : Str, x ≠ "__name__" → mb x = bootBuiltins x) (hsup : mg "super" = none)
    (lf : K.lookup f = some ⟨oc, od, .func fd, osl⟩) (hp1 : (fd.params.posonlyargs ++ fd.params.args).head? = some ar) (har : ar.arg = "self")
    (hcode : K.lookup cda = some ⟨ccl, cdd, .fields vs, ccs⟩) (hvs : vs[2]? = some (.str file tf)) (hfile : ((prog.main.file : Str) == file) = true)
    (hcell : K.lookup cc = some ⟨cl, cld, .cell (some (.ref D)), csl⟩) (hD : PySem.W.clsIn K D = some cdD) (hsub : PySem.W.mroIn K C (.ref D) = some true) (ho : PySem.W.nsIn K cStatics "thirdparty.any" = some none)
    (hms : PySem.W.ks_superIn K C D "__init__" = some (some (.builtin "ValueError.__init__"))) (hVE : PySem.W.subIn K (.ref C) (.type "ValueError") = some true)
    (hC : K.lookup C = some (excClassObj nm q C N bs bm true sn sub ab col dd k0 k1 k2 k3 k5 "ValueError.__new__"))
    (hks : scope.names.lookup ("super" : Str) = some .globalImplicit) (hkc : scope.names.lookup ("__class__" : Str) = some .free) (hk : scope.kind = .function) (hself : scope.names.lookup ("self" : Str) = some .local)
    (htop : (prog.main.scope.names.lookup ("super" : Str)).isSome = false)
    (he : hp.objs.size ≤ e) (hL : L ≠ e) (kp : ∀ b o, hp.get? b = some o → h.get? b = some o) (hx : h.get? e = some (xObj C t0 none)) (hn : h.Ns L m) (ms : m "self" = some (.ref e))
    (hq : ∀ h' tk t1, (∀ b o, hp.get? b = some o → h'.get? b = some o) → h'.get? e = some (xObj C t1 none) → h'.Ns L m → Q .next ⟨h', g, d, tk, os⟩) :
    _root_.PySem.wpAt (model prog w) A (.func body (xEnv qual scope L f cda cc)) (exec (superSt p0 p1 p2 p3 p4 p5 x j) (xEnv qual scope L f cda cc)) Q E ⟨h, g, d, t, os⟩ := by
  have XK : K.In h := X.keeps kp
  obtain ⟨mb, hmb, hbt⟩ := hB
  obtain ⟨oD, hD1, hD2⟩ : ∃ oD, h.get? D = some oD ∧ oD.data = .cls cdD := by
    unfold PySem.W.clsIn at hD
    split at hD
    · rename_i c d cd' sl ho
      cases hD
      exact ⟨_, XK _ _ ho, rfl⟩
    · cases hD
  obtain ⟨cd, hcd⟩ : ∃ cd, PySem.W.clsIn K C = some cd := by
    cases z : PySem.W.clsIn K C with
    | none => unfold PySem.W.ks_superIn at hms; rw [z] at hms; cases hms
    | some cd => exact ⟨cd, rfl⟩
  have hms' : PySem.W.alongIn K "__init__" ((cd.mro.dropWhile (· != .ref D)).drop 1) = some (some (.builtin "ValueError.__init__")) := by
    unfold PySem.W.ks_superIn at hms
    rw [hcd] at hms
    exact hms
  have hint : interactive (xEnv qual scope L f cda cc) = false := by
    show (scope.kind == .module && _) = false
    rw [hk]; rfl
  obtain ⟨pl, hev⟩ := hev L f cda cc
  refine ks_wpAt_Expr_any (ks_wpAt_MethodCall (pl := pl) ?_ hev) hint (by rfl)
  refine ks_wpAt_super_base (env := xEnv qual scope L f cda cc) hks hkc (by decide) rfl (XK _ _ lf) rfl hp1 rfl (XK _ _ hcode) rfl hvs hfile htop ?_
  refine PySem.W.ks_loadName_global hk hks (Calls.loadGlobal_builtin (env := xEnv qual scope L f cda cc) (hG.keeps kp) hsup (hmb.keeps kp) ((hbt _ (by decide)).trans PyProof.Rows.Boot.«super») ⟨rfl, ?_⟩)
  refine wpAny_loadName_free hk hkc rfl ⟨_, XK _ _ hcell, rfl⟩ ?_
  rw [har]
  refine wpAny_loadName_local hk hself hn ms ?_
  refine ks_wpAny_isType_cls hD1 hD2 ⟨rfl, ?_⟩
  refine ks_wpAny_call_super hD1 hD2 hx rfl (fun c e => by cases e) (PySem.W.looks_mroIn XK hsub) (fun h1 es k1 => ?_)
  have XK1 : K.In h1 := XK.keeps k1
  have I1 : PySem.W.InstAt h1 e (xObj C t0 none) C none := ⟨k1 _ _ hx, rfl, rfl, trivial⟩
  refine PySem.W.kxs_getMethod PySem.W.kxs_ValueError es (PySem.W.looks_opaque XK1 ho) (l₀ := cd.mro) ?_ rfl XK1 hms' (I1.type.andThen (PySem.W.looks_subIn XK1 hVE)) (PySem.W.ks_ne XK1 I1 hcd) (by decide) ?_
  · exact fun A Q E s k q => wpAny_bind ((PySem.W.looks_clsIn XK1 hcd) A _ E s k (wpAny_pure q))
  · have up : ∀ b o, h1.get? b = some o → (h1.push (PySem.W.kxs_mw "ValueError.__init__" e)).get? b = some o := fun b o z => Heap.get?_push_of_some _ z
    have hu : (h1.push (PySem.W.kxs_mw "ValueError.__init__" e)).get? h1.objs.size = some (PySem.W.kxs_mw "ValueError.__init__" e) := Heap.get?_push_at rfl rfl
    refine PySem.W.kxs_callWith (i := "ValueError.__init__") (x := e) (by rfl) ?_
    refine Calls.evalArgs_plain (Calls.spliced_cons (x := eval (.Constant (.str x) j p3) (xEnv qual scope L f cda cc)) (Calls.Constant_str (Calls.spliced_nil ⟨hu, ?_⟩)))
    refine call_bwV (up _ _ (XK1 _ _ hC)) (up _ _ (k1 _ _ hx)) hu (by rw [sizeLine_eq]; exact (by decide : 1 ≤ 16777216)) fun h' t1 k2 hx' => ?_
    have pe : ∀ b o, hp.get? b = some o → b ≠ e := fun b o q => Nat.ne_of_lt (Nat.lt_of_lt_of_le (Heap.lt_size q) he)
    obtain ⟨oL, es', ep, hoL, rL⟩ := hn
    exact hq h' _ t1 (fun b o z => k2 b o (pe b o z) (up b o (k1 b o (kp b o z)))) hx' ⟨oL, es', ep, k2 _ _ hL (up _ _ (k1 _ _ hoL)), rL⟩

end
/-- the name of the first parameter is self, and the rest fs; what the top has written of the class C, its __init__ and its cell -/
structure XCls (prog : Program) (K : PySem.W.Frag) (mg : Str → Option Value) (C : Addr) (fs : List Str) : Prop where
  oex : OexC K C
  ve : PySem.W.subIn K (.ref C) (.type "ValueError") = some true
  ex : ∃ (f cc cda D : Addr) (qual nm : Str) (params : Arguments) (body : List Stmt) (scope : Scope) (dV kV doc pm ct oc ccl cl : Value) (an od cdd cld : Option Addr) (osl ccs csl : Array (Option Value)) (vs : Array Value) (file : Str) (tf : Tok) (cdD : ClassData) (ar : PySem.Arg)
      (p0 p1 p2 p3 p4 p5 : Pos) (x : Str) (j : Nat) (rest : List Stmt),
    PySem.W.findIn K (.ref C) "__init__" = some (some (.ref f)) ∧ PySem.W.typeIn K (.ref f) = some (.type "function") ∧
    K.lookup f = some ⟨oc, od, .func (PySem.W.fnX nm qual params body scope [("__class__", cc)] dV kV doc pm an (.ref cda) ct), osl⟩ ∧ PySem.W.codeIn K (.ref cda) qual = true ∧
    (params.posonlyargs ++ params.args).head? = some ar ∧ ar.arg = "self" ∧ K.lookup cda = some ⟨ccl, cdd, .fields vs, ccs⟩ ∧ vs[2]? = some (.str file tf) ∧ ((prog.main.file : Str) == file) = true ∧
    K.lookup cc = some ⟨cl, cld, .cell (some (.ref D)), csl⟩ ∧ PySem.W.clsIn K D = some cdD ∧ PySem.W.mroIn K C (.ref D) = some true ∧ PySem.W.nsIn K cStatics "thirdparty.any" = some none ∧
    PySem.W.ks_superIn K C D "__init__" = some (some (.builtin "ValueError.__init__")) ∧
    scope.names.lookup ("super" : Str) = some .globalImplicit ∧ scope.names.lookup ("__class__" : Str) = some .free ∧ scope.kind = .function ∧ scope.names.lookup ("self" : Str) = some .local ∧ scope.isCoroutine = false ∧ scope.isGenerator = false ∧ (∀ y ∈ scope.names, y.2 ≠ .cell) ∧
    body = superSt p0 p1 p2 p3 p4 p5 x j :: rest ∧ SupEv qual scope p0 p1 p2 p3 p4 x j ∧ Flds rest fs ∧
    (∀ us : List Value, us.length = fs.length + 1 → bindArgs (PySem.W.fnX nm qual params body scope [("__class__", cc)] dV kV doc pm an (.ref cda) ct) ⟨us, []⟩ = pure ((("self" : Str) :: fs).zip us)) ∧
    (∀ y ∈ fs, PySem.W.findIn K (.ref C) y = some none ∧ scope.names.lookup y = some .local ∧ (y == ("__debug__" : Str)) = false) ∧ (("self" : Str) :: fs).Nodup ∧ fs.length ≤ 800
  sup : mg "super" = none
  top : (prog.main.scope.names.lookup ("super" : Str)).isSome = false

theorem lookup_rev {α : Type} (y : Str) : ∀ l : List (Str × α), (l.map (·.1)).Nodup → l.reverse.lookup y = l.lookup y
  | [], _ => rfl
  | (k, v) :: l, h => by
    rw [List.map_cons, List.nodup_cons] at h
    rw [List.reverse_cons, List.lookup_append, lookup_rev y l h.2]
    by_cases e : y = k
    · subst e
      have : l.lookup y = none := by
        rw [List.lookup_eq_none_iff]
        intro p hp
        simp only [bne_iff_ne, ne_eq, beq_eq_false_iff_ne]
        intro z
        rw [z] at h
        exact h.1 (List.mem_map_of_mem (f := (·.1)) hp)
      rw [this]
      simp [List.lookup]
    · have e' : (y == k) = false := by simpa using e
      simp [List.lookup, e']
theorem zip_keys {α : Type} : ∀ (ks : List Str) (us : List α), us.length = ks.length → (ks.zip us).map (·.1) = ks
  | [], [], _ => rfl
  | k :: ks, u :: us, h => by simp only [List.zip_cons_cons, List.map_cons]; rw [zip_keys ks us (by simpa using h)]
theorem zip_get {α : Type} : ∀ {ks : List Str} {us : List α} {y : Str}, us.length = ks.length → y ∈ ks → ∃ u, (ks.zip us).lookup y = some u
  | k :: ks, u :: us, y, h, hy => by
    by_cases e : y = k
    · subst e; exact ⟨u, by simp [List.lookup]⟩
    · have e' : (y == k) = false := by simpa using e
      rcases List.mem_cons.mp hy with z | z
      · exact absurd z e
      · obtain ⟨v, hv⟩ := zip_get (us := us) (by simpa using h) z
        exact ⟨v, by simp [List.lookup, e', hv]⟩
theorem zip_vals {α : Type} (val : Str → α) : ∀ (ks : List Str) (us : List α), us.length = ks.length → ks.Nodup → (∀ y ∈ ks, (ks.zip us).lookup y = some (val y)) → ks.map (fun y => (y, val y)) = ks.zip us
  | [], [], _, _, _ => rfl
  | k :: ks, u :: us, h, nd, hv => by
    rw [List.nodup_cons] at nd
    have h1 := hv k List.mem_cons_self
    simp only [List.zip_cons_cons] at h1
    have h2 : val k = u := by
      simp [List.lookup] at h1
      exact h1.symm
    simp only [List.map_cons, List.zip_cons_cons]
    rw [h2, zip_vals val ks us (by simpa using h) nd.2 fun y hy => ?_]
    have h3 := hv y (List.mem_cons_of_mem _ hy)
    have e' : (y == k) = false := by
      simp only [beq_eq_false_iff_ne]
      intro z; exact nd.1 (z ▸ hy)
    simp only [List.zip_cons_cons, List.lookup, e'] at h3
    exact h3

section
variable {prog : Program} {w : World} {A : Around} {E : Value → Shared → Prop} {K : PySem.W.Frag} {mg : Str → Option Value} {C : Addr} {fs : List Str}
/-- the dict of the new exception -/
def XFin (hp : Heap) (e : Addr) (fs : List Str) (us : List Value) (h : Heap) : Option Addr → Prop
  | none => fs = []
  | some dx => hp.objs.size ≤ dx ∧ dx ≠ e ∧ ∃ mA, h.Ns1 dx mA ∧ ∀ y, mA y = (fs.zip us).lookup y
/-- C(e, ..) at the heap -/
theorem call_x (T : XCls prog K mg C fs) {us : List Value} {s : Shared} {R : Result → Shared → Prop} (X : K.In s.heap) (hG : s.heap.Ns mainGlobals mg) (hB : ∃ mb, s.heap.Ns builtinsNs mb ∧ ∀ x : Str, x ≠ "__name__" → mb x = bootBuiltins x) (hnl : s.heap.NoLimit)
    (hroom : (A.under (.builtin "type.__call__" ⟨.ref C :: us, []⟩)).depth < recursionLimit) (hl : us.length = fs.length)
    (hq : ∀ h' tk e t1 dv, (∀ b o, s.heap.get? b = some o → h'.get? b = some o) → s.heap.objs.size ≤ e → h'.get? e = some (xObj C t1 dv) → XFin s.heap e fs us h' dv → R (.ok (.ret (.ref e))) { s with heap := h', toks := tk }) :
    codeAny (model prog w) A (.call (.ref C) ⟨us, []⟩) R s := by
  obtain ⟨nm, q, N, bs, bm, sn, sub, ab, col, dd, k0, k1, k2, k3, k5, hC, hbm⟩ := T.oex.cls
  obtain ⟨f, cc, cda, D, qual, nmF, params, body, scope, dV, kV, doc, pm, ct, oc, ccl, cl, an, od, cdd, cld, osl, ccs, csl, vs, file, tf, cdD, ar, p0, p1, p2, p3, p4, p5, x, j, rest, iC, tI, lf, hcd, hpar, har, hcode, hvs, hfile, hcell, hD, hsub, ho, hms, hks, hkc, hk, hself, hco, hgen, hnc, hbody, hev, FF, hbind, hfld, hnd, hlen⟩ := T.ex
  subst hbody
  obtain ⟨hp, g, dr, tk, os⟩ := s
  have kk : ∀ b o, hp.get? b = some o → ((hp.push (PySem.W.kdv_tup us)).push (PySem.HandSPX.excO C hp.objs.size)).get? b = some o := fun b o e => Heap.get?_push_of_some _ (Heap.get?_push_of_some _ e)
  have hget : ((hp.push (PySem.W.kdv_tup us)).push (PySem.HandSPX.excO C hp.objs.size)).get? (hp.objs.size + 1) = some (PySem.HandSPX.excO C hp.objs.size) := by heap_get
  have hsz : us.length ≤ sizeLine := by rw [sizeLine_eq]; omega
  refine PySem.HandSPX.call_own F.excBase_ValueError (fun Y => PySem.HandSPX.refsVE_contains Y bm hbm) (X _ _ hC) (PySem.W.looks_findIn X iC) (fun self => PySem.W.bind_fn X self tI) hsz ?_
  have X2 : K.In ((hp.push (PySem.W.kdv_tup us)).push (PySem.HandSPX.excO C hp.objs.size)) := X.keeps kk
  refine ks_codeAny_call_defAt (fd := PySem.W.fnX nmF qual params (superSt p0 p1 p2 p3 p4 p5 x j :: rest) scope [("__class__", cc)] dV kV doc pm an (.ref cda) ct) (body := superSt p0 p1 p2 p3 p4 p5 x j :: rest) (binds := (("self" : Str) :: fs).zip (.ref (hp.objs.size + 1) :: us))
    hroom (X2 _ _ lf) rfl (hnl.keeps kk) (PySem.W.codeRec_of X2 hcd) rfl (.of_eq (hbind _ (by simp [hl]))) hnc ?_ (fun h₁ hns hk₁ => ?_) hco hgen hk
  · intro y hy
    have := List.of_mem_zip (show (y.1, y.2) ∈ _ from hy)
    rcases List.mem_cons.mp this.1 with z | z
    · rw [z]; exact hself
    · exact (hfld _ z).2.1
  · have he : hp.objs.size ≤ hp.objs.size + 1 := Nat.le_succ _
    have hsz2 : ((hp.push (PySem.W.kdv_tup us)).push (PySem.HandSPX.excO C hp.objs.size)).objs.size = hp.objs.size + 2 := by rw [Heap.size_push, Heap.size_push]
    have hLe : ((hp.push (PySem.W.kdv_tup us)).push (PySem.HandSPX.excO C hp.objs.size)).objs.size ≠ hp.objs.size + 1 := by rw [hsz2]; exact Nat.succ_ne_self _
    have kp1 : ∀ b o, hp.get? b = some o → h₁.get? b = some o := fun b o z => hk₁ b o (kk b o z)
    have hl' : (Value.ref (hp.objs.size + 1) :: us).length = (("self" : Str) :: fs).length := by simp [hl]
    have keys := zip_keys (("self" : Str) :: fs) (Value.ref (hp.objs.size + 1) :: us) hl'
    have ndz : (((("self" : Str) :: fs).zip (Value.ref (hp.objs.size + 1) :: us)).map (·.1)).Nodup := by rw [keys]; exact hnd
    have mlook : ∀ y, ((("self" : Str) :: fs).zip (Value.ref (hp.objs.size + 1) :: us)).reverse.lookup y = ((("self" : Str) :: fs).zip (Value.ref (hp.objs.size + 1) :: us)).lookup y := fun y => lookup_rev y _ ndz
    rw [List.nodup_cons] at hnd
    have fl : ∀ y ∈ fs, ((("self" : Str) :: fs).zip (Value.ref (hp.objs.size + 1) :: us)).lookup y = (fs.zip us).lookup y := fun y hy => by
      have e' : (y == ("self" : Str)) = false := by
        simp only [beq_eq_false_iff_ne]
        intro z; exact hnd.1 (z ▸ hy)
      simp only [List.zip_cons_cons, List.lookup, e']
    have val : ∀ y ∈ fs, (fs.zip us).lookup y = some (((fs.zip us).lookup y).getD .none) := fun y hy => by
      obtain ⟨u, hu⟩ := zip_get (us := us) hl hy
      rw [hu]; rfl
    refine ks_wpAt_execs_cons (super_run (hp := hp) (m := fun y => ((("self" : Str) :: fs).zip (Value.ref (hp.objs.size + 1) :: us)).reverse.lookup y) hev X hG hB T.sup lf hpar har hcode hvs hfile hcell hD hsub ho hms T.ve hC hks hkc hk hself T.top he hLe kp1 (hk₁ _ _ hget) hns (by rw [mlook]; rfl) fun h2 tk2 t2 q1 q2 q3 => ?_)
    obtain ⟨cd0, hcl⟩ : ∃ cd, PySem.W.clsIn K C = some cd ∧ PySem.HandSPX.refsVE cd.mro = true ∧ cd.hasDict = true := by
      refine ⟨{ name := nm, bases := bs, mro := .ref C :: bm, ns := N, qualname := q, hasDict := true, slotNames := sn, subclasses := sub, abstract := ab, collection := col, hasDel := false }, ?_, hbm, rfl⟩
      unfold PySem.W.clsIn; rw [hC] <;> rfl
    refine wpAt_of_wpAny (flds_run (hp := hp) X hcl.1 hcl.2.1 hcl.2.2 T.oex.sa he hLe hk hself (by show List.lookup _ _ = _; rw [mlook]; rfl) FF (fun y => ((fs.zip us).lookup y).getD .none) (dv := none) (done := []) (fun y hy => ?_) (by simp; omega) q1 q2 q3 rfl fun h3 tk3 dv3 j1 j2 j3 => ?_)
    · obtain ⟨a, b, c⟩ := hfld y hy
      refine ⟨a, b, c, ?_⟩
      show List.lookup _ _ = _
      rw [mlook, fl y hy]; exact val y hy
    · refine ⟨rfl, hq h3 tk3 _ t2 dv3 j1 he j2 ?_⟩
      rw [List.append_nil, zip_vals (fun y => ((fs.zip us).lookup y).getD Value.none) fs us hl hnd.2 val] at j3
      cases dv3 with
      | none =>
        have z : (fs.zip us).reverse = [] := j3
        have y := zip_keys fs us hl
        rw [List.reverse_eq_nil_iff.mp z] at y
        exact y.symm
      | some dx =>
        obtain ⟨a, b, c, mA, r1, r2, r3⟩ := j3
        exact ⟨a, b, mA, r1, fun y => by rw [r3 y, lookup_rev y _ (by rw [zip_keys fs us hl]; exact hnd.2)]⟩
end

theorem relO_zip : ∀ (fs : List Str) {vs : List V} {us : List Value}, Vals vs us → ∀ f, RelO ((fs.zip vs).lookup f) ((fs.zip us).lookup f)
  | [], _, _, _, _ => True.intro
  | _ :: _, _, _, .nil, _ => True.intro
  | k :: fs, _, _, .cons r rs, f => by
    simp only [List.zip_cons_cons, List.lookup]
    by_cases e : f = k
    · subst e; simp only [beq_self_eq_true]; exact r
    · have e' : (f == k) = false := by simpa using e
      rw [e']
      exact relO_zip fs rs f
/-- C(e, ..), C an own error class -/
def tMkX (C : Addr) (fs : List Str) (ta : TA) : L2.St → Hp → XK → Prop := fun σ H Q => ta σ H fun vs H1 => vs.length = fs.length ∧ ∀ dx, H1 dx = none → Q (.ref C) (some dx) (upd H1 dx (.xd (fs.zip vs)))
theorem pmk_x {X : Cx} {x : Str} {C : Addr} {fs : List Str} {e : Expr} {es : List Expr} {p pos : Pos} {ta : TA} (T : XCls X.prog X.K X.mg C fs) (hne : fs ≠ []) (hr : Room 1 X.A) (hm : X.mg x = some (.ref C)) (ha : PA X (e :: es) ta) (hg : Gl X x := by rfl)
    (hdb : (x == ("__debug__" : Str)) = false := by decide) (he : starEach (e :: es) X.env = (false, eval e X.env) :: starEach es X.env := by rfl) (hpl : (backTo pos (starEach es X.env)).any (·.1) = false := by rfl) :
    L2N.PMk X (.Call (.Name x p) (e :: es) [] pos) (tMkX C fs ta) := by
  intro pins s σ H Q I h
  refine wpAny_Call_Name_kw (ld_glob I hg hm ?_ hdb)
  refine PySem.W.callWith_K (h₀ := X.base) I.ok.mod.kin T.oex.kC (thn (ha.run pos pins s σ H _ I h) fun us s1 ⟨vs, H1, I1, r1, hz, q1⟩ => ⟨I1.kIn, ?_⟩) he hpl
  show wpAny _ _ (call (.ref C) us) _ _ _
  have hl : us.length = fs.length := by rw [← r1.length, hz]
  obtain ⟨mb, hmb, hbt⟩ := I1.mod.blt
  refine wpAny_call (call_x T I1.kIn (I1.mod.glob.keeps I1.bk) ⟨mb, hmb.keeps I1.bk, hbt⟩ I1.nolimit (hr.make C us []).depth hl fun h' tk e1 t1 dv k1 he1 hx hd => ?_)
  cases dv with
  | none => exact absurd hd hne
  | some dx =>
    obtain ⟨hdz, hde, mA, hns, hmA⟩ := hd
    obtain ⟨G, g1', g2'⟩ := restrict h' fun b => decide (b ≠ e1)
    have gk : ∀ b, b ≠ e1 → G.get? b = h'.get? b := fun b hb => g1' b (decide_eq_true hb)
    have ge : G.get? e1 = none := g2' e1 (by simp)
    have kG : ∀ b o, s1.heap.get? b = some o → G.get? b = some o := fun b o z => (gk b (Nat.ne_of_lt (Nat.lt_of_lt_of_le (Heap.lt_size z) he1))).trans (k1 b o z)
    have J := I1.laid (t' := tk) (a := dx) (o := .xd (fs.zip vs)) (h' := G) kG hdz ⟨mA, hns.at fun o y => (gk dx hde).trans y, fun f => by rw [hmA f]; exact relO_zip fs r1 f⟩
    refine ⟨e1, _, _, _, _, .ref C, some dx, rfl, J, fun b o z => ?_, ge, hx, ⟨rfl, rfl, fun vs0 e0 => by cases e0; rfl⟩, rfl, rfl, ?_, rfl, I1.bare, raises_own T.oex.exC T.oex.tyC, q1 dx (I1.hok.fresh hdz)⟩
    · by_cases hb : b = e1
      · have z' : G.get? b = some o := z
        rw [hb, ge] at z'; cases z'
      · exact (gk b hb).symm.trans z
    · rw [upd_ne (Ne.symm hde)]; exact I1.hok.fresh he1
end PD

namespace PD
open PySem PySem.Spec L2

/-! ### things that nobody can change -/
mutual
def immD : D → Bool
  | .non => true
  | .bl _ => true
  | .int _ => true
  | .str _ => true
  | .tup ds => immDs ds
  | _ => false
def immDs : List D → Bool
  | [] => true
  | d :: ds => immD d && immDs ds
end
mutual
def immO : O → Bool
  | .unk => true
  | .dat d => immD d
  | .lst os => immOs os
  | .tup os => immOs os
  | .dic _ os => immOs os
  | .obj _ _ os => immOs os
  | .raw _ => false
  | .dicT _ _ _ => false
def immOs : List O → Bool
  | [] => true
  | o :: os => immO o && immOs os
end
section
variable {K : PySem.W.Frag} {M M' H : Hp}
mutual
theorem Dv.rebase (k : ∀ a xs, SqT K M a xs → SqT K M' a xs) : ∀ {v : V} {d : D}, Dv K M v d → immD d = true → Dv K M' v d
  | _, _, .non, _ => .non
  | _, _, .bl b, _ => .bl b
  | _, _, .int i, _ => .int i
  | _, _, .str x, _ => .str x
  | _, _, .lst _ _, h => nomatch h
  | _, _, .tup h hs, e => .tup (k _ _ h) (Dvs.rebase k hs e)
  | _, _, .dic _ _ _, h => nomatch h
  | _, _, .obj _ _ _ _, h => nomatch h
  | _, _, .exn0, h => nomatch h
  | _, _, .exn1 _ _ _, h => nomatch h
theorem Dvs.rebase (k : ∀ a xs, SqT K M a xs → SqT K M' a xs) : ∀ {vs : List V} {ds : List D}, Dvs K M vs ds → immDs ds = true → Dvs K M' vs ds
  | _, _, .nil, _ => .nil
  | _, _, .cons h hs, e => by
    unfold immDs at e
    rw [Bool.and_eq_true] at e
    exact .cons (Dv.rebase k h e.1) (Dvs.rebase k hs e.2)
end
mutual
theorem Ow.rebase (k : ∀ a xs, SqT K M a xs → SqT K M' a xs) (k2 : ∀ a xs, M a = some (.tup xs) → M' a = some (.tup xs)) : ∀ {o : O} {v : Option V} {fp : List Addr}, Ow K M H o v fp → immO o = true → Ow K M' H o v fp
  | _, _, _, .unk, _ => .unk
  | _, _, _, .dat h, e => .dat (h.rebase k e)
  | _, _, _, .lst h hs, e => .lst h (Ows.rebase k k2 hs e)
  | _, _, _, .tup h hs, e => .tup (k2 _ _ h) (Ows.rebase k k2 hs e)
  | _, _, _, .dic h q hs, e => .dic h q (Ows.rebase k k2 hs e)
  | _, _, _, .obj h h2 q hs, e => .obj h h2 q (Ows.rebase k k2 hs e)
  | _, _, _, .raw h m, _ => .raw h m
theorem Ows.rebase (k : ∀ a xs, SqT K M a xs → SqT K M' a xs) (k2 : ∀ a xs, M a = some (.tup xs) → M' a = some (.tup xs)) : ∀ {os : List O} {vs : List (Option V)} {fp : List Addr}, Ows K M H os vs fp → immOs os = true → Ows K M' H os vs fp
  | _, _, _, .nil, _ => .nil
  | _, _, _, .cons h hs, e => by
    unfold immOs at e
    rw [Bool.and_eq_true] at e
    exact .cons (Ow.rebase k k2 h e.1) (Ows.rebase k k2 hs e.2)
end
mutual
theorem Ow.muts : ∀ {o : O} {v : Option V} {fp : List Addr}, Ow K M H o v fp → ∀ a ∈ fp, ∃ u, H a = some u ∧ MutO u
  | _, _, _, .unk, _, h => nomatch h
  | _, _, _, .dat _, _, h => nomatch h
  | _, _, _, .lst h hs, a, ha => by
    rcases List.mem_cons.mp ha with rfl | ha
    · exact ⟨_, h, .inl ⟨_, rfl⟩⟩
    · exact Ows.muts hs a ha
  | _, _, _, .tup h hs, a, ha => Ows.muts hs a ha
  | _, _, _, .dic h _ hs, a, ha => by
    rcases List.mem_cons.mp ha with rfl | ha
    · exact ⟨_, h, .inr (.inl ⟨_, rfl⟩)⟩
    · exact Ows.muts hs a ha
  | _, _, _, .obj h h2 _ hs, a, ha => by
    rcases List.mem_cons.mp ha with rfl | ha
    · exact ⟨_, h, .inr (.inr (.inl ⟨_, _, _, rfl⟩))⟩
    · rcases List.mem_cons.mp ha with rfl | ha
      · exact ⟨_, h2, .inr (.inr (.inr (.inl ⟨_, rfl⟩)))⟩
      · exact Ows.muts hs a ha
  | _, _, _, .raw h m, a, ha => ⟨_, by rw [List.mem_singleton.mp ha]; exact h, m⟩
  | _, _, _, .dicT h _ _, a, ha => by
    rcases List.mem_singleton.mp ha with rfl
    exact ⟨_, h, .inr (.inr (.inr (.inr ⟨_, rfl⟩)))⟩
theorem Ows.muts : ∀ {os : List O} {vs : List (Option V)} {fp : List Addr}, Ows K M H os vs fp → ∀ a ∈ fp, ∃ u, H a = some u ∧ MutO u
  | _, _, _, .nil, _, h => nomatch h
  | _, _, _, .cons h hs, a, ha => (List.mem_append.mp ha).elim (Ow.muts h a) (Ows.muts hs a)
end
theorem mut_tup {u : HO} (h : MutO u) {xs : List V} : u ≠ .tup xs ∧ ∀ o, u ≠ .frz o (.tup xs) := by
  refine ⟨fun z => ?_, fun _ z => ?_⟩ <;> (subst z; rcases h with ⟨_, h⟩ | ⟨_, h⟩ | ⟨_, _, _, h⟩ | ⟨_, h⟩ | ⟨_, h⟩ <;> cases h)
mutual
theorem Ow.det {M1 M2 : Hp} (s1 : Same M1 H) (s2 : Same M2 H) : ∀ {o : O} {v : Option V} {f g : List Addr}, Ow K M1 H o v f → Ow K M2 H o v g → f = g
  | _, _, _, _, .unk, .unk => rfl
  | _, _, _, _, .dat _, .dat _ => rfl
  | _, _, _, _, .lst h hs, .lst h' hs' => by rw [h] at h'; cases h'; rw [Ows.det s1 s2 hs hs']
  | _, _, _, _, .tup h hs, .tup h' hs' => by
    have a := s1 _ _ h
    rw [s2 _ _ h'] at a; cases a
    rw [Ows.det s1 s2 hs hs']
  | _, _, _, _, .dic h _ hs, .dic h' _ hs' => by rw [h] at h'; cases h'; rw [Ows.det s1 s2 hs hs']
  | _, _, _, _, .obj h _ _ hs, .obj h' _ _ hs' => by rw [h] at h'; cases h'; rw [Ows.det s1 s2 hs hs']
  | _, _, _, _, .raw _ _, .raw _ _ => rfl
  | _, _, _, _, .dicT _ _ _, .dicT _ _ _ => rfl
theorem Ows.det {M1 M2 : Hp} (s1 : Same M1 H) (s2 : Same M2 H) : ∀ {os : List O} {vs : List (Option V)} {f g : List Addr}, Ows K M1 H os vs f → Ows K M2 H os vs g → f = g
  | _, _, _, _, .nil, .nil => rfl
  | _, _, _, _, .cons h hs, .cons h' hs' => by rw [Ow.det s1 s2 h h', Ows.det s1 s2 hs hs']
end
/-- own things looked at, for a while -/
theorem Rep.look {ρ fo : List O} {σ fv : List (Option V)} (R : Rep K M H (ρ ++ fo) (σ ++ fv)) (l : σ.length = ρ.length) :
    ∃ Ma, Same M Ma ∧ Rep K Ma H (ρ.map O.vw ++ []) (σ ++ []) ∧
      (∀ M2 H', Same Ma M2 → Same M2 H' → ∃ M3, Same M M3 ∧ Rep K M3 H' (ρ ++ fo) (σ ++ fv) ∧ ∀ v d, Dv K M2 v d → immD d = true → Dv K M3 v d) ∧
      (∀ M2 H' o v, Same Ma M2 → Rep K M2 H' (ρ.map O.vw ++ [o]) (σ ++ [v]) → immO o = true → ∃ M3, Same M M3 ∧ Rep K M3 H' (ρ ++ o :: fo) (σ ++ v :: fv)) ∧
      (∀ (i : Nat) (o : O) (v : Option V) (f : List Addr), ρ[i]? = some o → σ[i]? = some v → Ow K M H o v f → ∀ a ∈ f, Ma a = H a) := by
  obtain ⟨sm, fp, w, nd, nm⟩ := R
  obtain ⟨fa, fb, e, w1, w2⟩ := w.split l
  have s1 : Same M (fun a => if a ∈ fp then H a else M a) := fun b y q => by
    have : b ∉ fp := fun z => by rw [nm b z] at q; cases q
    show (if b ∈ fp then H b else M b) = some y
    rw [if_neg this]; exact q
  have s2 : Same (fun a => if a ∈ fp then H a else M a) H := fun b y q => by
    have q : (if b ∈ fp then H b else M b) = some y := q
    split at q
    · exact q
    · exact sm b y q
  have base : ∀ M2 H' : Hp, Same (fun a => if a ∈ fp then H a else M a) M2 → Same M2 H' → ∃ M3, Same M M3 ∧ Same M3 H' ∧ Ows K M3 H' (ρ ++ fo) (σ ++ fv) fp ∧ (∀ a ∈ fp, M3 a = none ∧ M2 a ≠ none) ∧ (∀ a, M2 a = none → M3 a = none) ∧
      (∀ a xs, SqT K M2 a xs → SqT K M3 a xs) ∧ ∀ a xs, M2 a = some (.tup xs) → M3 a = some (.tup xs) := fun M2 H' k1 k2 => by
    have at2 : ∀ a ∈ fp, ∃ u, M2 a = some u ∧ H a = some u ∧ MutO u := fun a ha => by
      obtain ⟨u, hu, mu⟩ := w.muts a ha
      exact ⟨u, k1 _ _ (show (if a ∈ fp then H a else M a) = some u by rw [if_pos ha]; exact hu), hu, mu⟩
    have nt : ∀ a xs, M2 a = some (.tup xs) → a ∉ fp := fun a xs q ha => by
      obtain ⟨u, hu, _, mu⟩ := at2 a ha
      rw [hu] at q; cases q
      exact (mut_tup mu (xs := xs)).1 rfl
    have nf : ∀ a xs o, M2 a = some (.frz o (.tup xs)) → a ∉ fp := fun a xs o q ha => by
      obtain ⟨u, hu, _, mu⟩ := at2 a ha
      rw [hu] at q; cases q
      exact (mut_tup mu (xs := xs)).2 o rfl
    have s3 : Same M (fun a => if a ∈ fp then none else M2 a) := fun b y q => by
      have : b ∉ fp := fun z => by rw [nm b z] at q; cases q
      show (if b ∈ fp then none else M2 b) = some y
      rw [if_neg this]
      exact k1 _ _ (s1 _ _ q)
    refine ⟨_, s3, fun b y q => ?_, w.frame s3 fun a ha => ?_, fun a ha => ⟨if_pos ha, ?_⟩, fun a ha => ?_, fun a xs hq => ?_, fun a xs hq => (if_neg (nt a xs hq)).trans hq⟩
    · have q : (if b ∈ fp then none else M2 b) = some y := q
      split at q
      · cases q
      · exact k2 _ _ q
    · obtain ⟨u, hu, hh, _⟩ := at2 a ha
      rw [hh]; exact k2 _ _ hu
    · obtain ⟨u, hu, _⟩ := at2 a ha
      rw [hu]; exact fun z => nomatch z
    · show (if a ∈ fp then none else M2 a) = none
      split
      · rfl
      · exact ha
    · rcases hq with (h | ⟨o, h⟩) | h
      · exact .inl (.inl ((if_neg (nt a xs h)).trans h))
      · exact .inl (.inr ⟨o, (if_neg (nf a xs o h)).trans h⟩)
      · exact .inr h
  refine ⟨_, s1, ⟨s2, [], ?_, List.nodup_nil, fun a ha => nomatch ha⟩, fun M2 H' k1 k2 => ?_, fun M2 H' o v k1 R2 io => ?_, fun i o v f eo ev h a ha => ?_⟩
  · rw [List.append_nil, List.append_nil]
    exact Ows.view s1 w1 fun a ha => if_pos (by rw [e]; exact List.mem_append_left _ ha)
  · obtain ⟨M3, a1, a2, a3, a4, a5, a6, a7⟩ := base M2 H' k1 k2
    exact ⟨M3, a1, ⟨a2, fp, a3, nd, fun a ha => (a4 a ha).1⟩, fun v d dv im => dv.rebase a6 im⟩
  · obtain ⟨t1, gp, u, gnd, gnm⟩ := R2
    obtain ⟨M3, a1, a2, a3, a4, a5, a6, a7⟩ := base M2 H' k1 t1
    obtain ⟨ga, gb, e2, u1, u2⟩ := u.split (by simpa using l)
    cases u2 with
    | cons u3 u4 =>
      cases u4
      rename_i g1
      have u5 := u3.rebase a6 a7 io
      subst e2
      obtain ⟨fa', fb', e3, w3, w4⟩ := a3.split l
      refine ⟨M3, a1, a2, fa' ++ (g1 ++ fb'), w3.append (.cons u5 w4), ?_, fun a ha => ?_⟩
      · rw [List.nodup_iff_count]
        intro b
        rw [List.nodup_iff_count] at nd gnd
        have c1 := nd b
        have c2 := gnd b
        rw [e3] at c1
        simp only [List.count_append, List.append_nil] at c1 c2 ⊢
        by_cases hb : b ∈ g1
        · have hn := gnm b (by simp [hb])
          have : b ∉ fp := fun z => (a4 b z).2 hn
          rw [e3, List.mem_append] at this
          have z1 := List.count_eq_zero.mpr fun z => this (.inl z)
          have z2 := List.count_eq_zero.mpr fun z => this (.inr z)
          omega
        · have z1 := List.count_eq_zero.mpr hb
          omega
      · simp only [List.mem_append] at ha
        rcases ha with ha | ha | ha
        · exact (a4 a (by rw [e3]; simp [ha])).1
        · exact a5 a (gnm a (by simp [ha]))
        · exact (a4 a (by rw [e3]; simp [ha])).1
  · obtain ⟨v', ga, g, gb, ev', e2, h', _⟩ := w1.at_ eo
    rw [ev] at ev'; cases ev'
    rw [Ow.det sm sm h h'] at ha
    exact if_pos (by rw [e, e2]; simp [ha])
end
section
variable {X : Cx} {W : WX} {pos : Pos} {e : Expr}
end

/-! ### expressions that take things out of slots -/
def tM (K : PySem.W.Frag) (f : Ev → Option (O × Ev)) : TE := fun σ H Q => ∃ M ρ fo fv o ρ1, Rep K M H (ρ ++ fo) (σ ++ fv) ∧ σ.length = ρ.length ∧ f ρ = some (o, ρ1) ∧
  ∀ M' H' v, Same M M' → Rep K M' H' (ρ1 ++ o :: fo) (σ ++ some v :: fv) → Q v H'
def mv (k : Nat) (ρ : Ev) : Option (O × Ev) := match ρ[k]? with
  | some o => if o.known = true then some (o, ρ.set k .unk) else none
  | none => none
section
variable {K : PySem.W.Frag} {M H : Hp}
end
section
variable {X : Cx} {W : WX} {J : List Nat} {pos p : Pos} {e : Expr} {es : List Expr} {f : Ev → Option (O × Ev)} {g : Ev → Option (List O × Ev)}
theorem mName {k : Nat} {x : Str} (hv : PE X (.Name x p) (tVar k)) : PE X (.Name x p) (tM X.K (mv k)) := PE.imp hv fun σ H Q ⟨M, ρ, fo, fv, o, ρ1, R, l, e, kk⟩ => by
  unfold mv at e
  split at e
  · rename_i o' eo
    split at e
    · rename_i ho
      cases e
      have lf := R.lens l
      have R' : Rep X.K M H (ρ ++ ([] ++ fo)) (σ ++ ([] ++ fv)) := R
      obtain ⟨v, f1, ft, ev, h1, _, _, _, _⟩ := R'.own l rfl eo
      obtain ⟨x', rfl⟩ := h1.known ho
      exact ⟨x', ev, kk M H x' (Same.refl _) ((Rep.pull (l := []) (lv := []) R rfl l lf eo ev).swap (by simp [l]))⟩
    · cases e
  · cases e
def rtM (f : Ev → Option (O × Ev)) (ρ : Ev) : Option Fl := (f ρ).map fun p => .rt p.1 p.2
theorem Lk.lens {σ0 : L2.St} {σ : L2.St} {ρ ρ1 : Ev} (l : Lk J σ0 σ ρ) (h : ρ1.length = ρ.length) : Lk J σ0 σ ρ1 := ⟨by rw [l.1, h], l.2⟩
theorem sRetM (h : PE X e (tM X.K f)) : PS X (.Return (some e) pos) (tS X.K W J (rtM f)) := PS.imp (ps_ret h) fun E σ H ⟨M, ρ, fo, fv, r, σ0, R, l, e, k⟩ => by
  unfold rtM at e
  cases q : f ρ with
  | none => rw [q] at e; cases e
  | some p =>
    rw [q] at e
    cases e
    have lf := R.lens l.1
    refine ⟨M, ρ, fo, fv, p.1, p.2, R, l.1, q, fun M1 H1 v s1 R1 => ?_⟩
    have l1 : p.2.length = ρ.length := by have a := R1.length; have b := l.1; simp at a; omega
    exact k M1 H1 σ v s1 R1 (l.lens l1)
end

/-! ### defs that give new things, called -/
section
variable {X : Cx} {k n : Nat} {f : Addr} {fd : FuncData} {ps : List Str} {x : Str} {p pos : Pos} {e : Expr} {es : List Expr} {ga : Ev → Option (List D)}
end
end PD

namespace PD
open PySem PySem.Spec L2

/-! ### places inside own things -/
def kidV (H : Hp) (v : V) (k : Nat) : Option V := match v with
  | .ref a => match H a with
    | some (.lst xs) => xs[k]?
    | some (.tup xs) => xs[k]?
    | some (.dK kvs) => (kvs.map (·.2))[k]?
    | some (.ins _ _ fs) => (fs.map (·.2))[k]?
    | _ => none
  | _ => none
def atV (H : Hp) : V → List Nat → Option V
  | v, [] => some v
  | v, k :: p => (kidV H v k).bind fun u => atV H u p
def O.kid (o : O) (k : Nat) : Option O := match o with
  | .lst os => os[k]?
  | .tup os => os[k]?
  | .dic _ os => os[k]?
  | .obj _ _ os => os[k]?
  | _ => none
def O.setKid (o : O) (k : Nat) (y : O) : O := match o with
  | .lst os => .lst (os.set k y)
  | .tup os => .tup (os.set k y)
  | .dic ks os => .dic ks (os.set k y)
  | .obj C ks os => .obj C ks (os.set k y)
  | o => o
def O.sub : O → List Nat → Option O
  | o, [] => some o
  | o, k :: p => (o.kid k).bind fun o1 => o1.sub p
def O.put : O → List Nat → O → O
  | _, [], y => y
  | o, k :: p, y => match o.kid k with
    | some o1 => o.setKid k (o1.put p y)
    | none => o
section
variable {K : PySem.W.Frag} {M H : Hp}
theorem sub_known : ∀ {p : List Nat} {o o' : O}, o.sub p = some o' → o'.known = true → o.known = true
  | [], o, o', e, h => by cases e; exact h
  | k :: p, o, o', e, h => by
    unfold O.sub at e
    cases o with
    | unk => cases e
    | _ => rfl
/-- one step down -/
theorem Ow.kid {o o1 : O} {v : V} {f : List Addr} {k : Nat} (w : Ow K M H o (some v) f) (s : Same M H) (nd : f.Nodup) (e : o.kid k = some o1) (h : o1.known = true) :
    ∃ v1 f1, kidV H v k = some v1 ∧ Ow K M H o1 (some v1) f1 ∧ (∀ b, f1.count b ≤ f.count b) ∧ ∀ (M' H' : Hp) (y : O) (f2 : List Addr), Same M M' → Same M' H' → (∀ b ∈ f, b ∉ f1 → H' b = H b) → Ow K M' H' y (some v1) f2 →
      ∃ g, Ow K M' H' (o.setKid k y) (some v) g ∧ ∀ b, g.count b + f1.count b = f.count b + f2.count b := by
  rw [List.nodup_iff_count] at nd
  cases w with
  | unk => cases e
  | raw _ _ => cases e
  | dicT _ _ _ => cases e
  | dat _ => cases e
  | lst ha ws =>
    rename_i a xs os fp
    obtain ⟨v', fa, f1, fb, ev, ef, h1, up⟩ := ws.at_ e
    obtain ⟨x, rfl⟩ := h1.known h
    have hx : xs[k]? = some x := by rw [List.getElem?_map] at ev; cases q : xs[k]? with | none => rw [q] at ev; cases ev | some z => rw [q] at ev; cases ev; rfl
    refine ⟨x, f1, ?_, h1, fun b => by rw [ef]; simp only [List.count_cons, List.count_append]; omega, fun M' H' y f2 s1 s2 kk hy => ?_⟩
    · unfold kidV; simp only [ha]; exact hx
    have na : a ∉ f1 := fun z => by
      have := nd a
      have c := List.count_pos_iff.mpr z
      rw [ef] at this
      simp only [List.count_cons, List.count_append, beq_self_eq_true, if_true] at this
      omega
    have out : ∀ b ∈ fa ++ fb, H' b = H b := fun b hb => kk b (by rw [ef]; rcases List.mem_append.mp hb with hb | hb <;> simp [hb]) fun z => by
      have := nd b
      have c := List.count_pos_iff.mpr z
      have c2 := List.count_pos_iff.mpr hb
      rw [ef] at this
      simp only [List.count_cons, List.count_append] at this c2
      omega
    exact ⟨_, .lst ((kk a List.mem_cons_self na).trans ha) (up s1 out hy), fun b => by rw [ef]; simp only [List.count_cons, List.count_append]; omega⟩
  | tup ha ws =>
    rename_i a xs os
    obtain ⟨v', fa, f1, fb, ev, ef, h1, up⟩ := ws.at_ e
    obtain ⟨x, rfl⟩ := h1.known h
    have hx : xs[k]? = some x := by rw [List.getElem?_map] at ev; cases q : xs[k]? with | none => rw [q] at ev; cases ev | some z => rw [q] at ev; cases ev; rfl
    refine ⟨x, f1, ?_, h1, fun b => by rw [ef]; simp only [List.count_append]; omega, fun M' H' y f2 s1 s2 kk hy => ?_⟩
    · unfold kidV; simp only [s _ _ ha]; exact hx
    have out : ∀ b ∈ fa ++ fb, H' b = H b := fun b hb => kk b (by rw [ef]; rcases List.mem_append.mp hb with hb | hb <;> simp [hb]) fun z => by
      have := nd b
      have c := List.count_pos_iff.mpr z
      have c2 := List.count_pos_iff.mpr hb
      rw [ef] at this
      simp only [List.count_append] at this c2
      omega
    exact ⟨_, .tup (s1 _ _ ha) (up s1 out hy), fun b => by rw [ef]; simp only [List.count_append]; omega⟩
  | dic ha hk ws =>
    rename_i a kvs ks os fp
    obtain ⟨v', fa, f1, fb, ev, ef, h1, up⟩ := ws.at_ e
    obtain ⟨x, rfl⟩ := h1.known h
    have hx : (kvs.map (·.2))[k]? = some x := by rw [List.getElem?_map] at ev ⊢; cases q : kvs[k]? with | none => rw [q] at ev; cases ev | some z => rw [q] at ev; cases ev; rfl
    refine ⟨x, f1, ?_, h1, fun b => by rw [ef]; simp only [List.count_cons, List.count_append]; omega, fun M' H' y f2 s1 s2 kk hy => ?_⟩
    · unfold kidV; simp only [ha]; exact hx
    have na : a ∉ f1 := fun z => by
      have := nd a
      have c := List.count_pos_iff.mpr z
      rw [ef] at this
      simp only [List.count_cons, List.count_append, beq_self_eq_true, if_true] at this
      omega
    have out : ∀ b ∈ fa ++ fb, H' b = H b := fun b hb => kk b (by rw [ef]; rcases List.mem_append.mp hb with hb | hb <;> simp [hb]) fun z => by
      have := nd b
      have c := List.count_pos_iff.mpr z
      have c2 := List.count_pos_iff.mpr hb
      rw [ef] at this
      simp only [List.count_cons, List.count_append] at this c2
      omega
    exact ⟨_, .dic ((kk a List.mem_cons_self na).trans ha) hk (up s1 out hy), fun b => by rw [ef]; simp only [List.count_cons, List.count_append]; omega⟩
  | obj ha hd hk ws =>
    rename_i a C dx kvs ks os fp
    obtain ⟨v', fa, f1, fb, ev, ef, h1, up⟩ := ws.at_ e
    obtain ⟨x, rfl⟩ := h1.known h
    have hx : (kvs.map (·.2))[k]? = some x := by rw [List.getElem?_map] at ev ⊢; cases q : kvs[k]? with | none => rw [q] at ev; cases ev | some z => rw [q] at ev; cases ev; rfl
    refine ⟨x, f1, ?_, h1, fun b => by rw [ef]; simp only [List.count_cons, List.count_append]; omega, fun M' H' y f2 s1 s2 kk hy => ?_⟩
    · unfold kidV; simp only [ha]; exact hx
    have na : a ∉ f1 ∧ dx ∉ f1 := by
      constructor
      · intro z
        have := nd a
        have c := List.count_pos_iff.mpr z
        rw [ef] at this
        simp only [List.count_cons, List.count_append, beq_self_eq_true, if_true] at this
        omega
      · intro z
        have := nd dx
        have c := List.count_pos_iff.mpr z
        rw [ef] at this
        simp only [List.count_cons, List.count_append, beq_self_eq_true, if_true] at this
        omega
    have out : ∀ b ∈ fa ++ fb, H' b = H b := fun b hb => kk b (by rw [ef]; rcases List.mem_append.mp hb with hb | hb <;> simp [hb]) fun z => by
      have := nd b
      have c := List.count_pos_iff.mpr z
      have c2 := List.count_pos_iff.mpr hb
      rw [ef] at this
      simp only [List.count_cons, List.count_append] at this c2
      omega
    exact ⟨_, .obj ((kk a (by simp) na.1).trans ha) ((kk dx (by simp) na.2).trans hd) hk (up s1 out hy), fun b => by rw [ef]; simp only [List.count_cons, List.count_append]; omega⟩
theorem nodup_le {f1 f : List Addr} (h : ∀ b, f1.count b ≤ f.count b) (nd : f.Nodup) : f1.Nodup := by
  rw [List.nodup_iff_count] at nd ⊢
  exact fun b => Nat.le_trans (h b) (nd b)
theorem Ow.sub : ∀ (p : List Nat) {o o' : O} {v : V} {f : List Addr}, Ow K M H o (some v) f → Same M H → f.Nodup → o.sub p = some o' → o'.known = true →
    ∃ v1 f1, atV H v p = some v1 ∧ Ow K M H o' (some v1) f1 ∧ (∀ b, f1.count b ≤ f.count b) ∧ ∀ (M' H' : Hp) (y : O) (f2 : List Addr), Same M M' → Same M' H' → (∀ b ∈ f, b ∉ f1 → H' b = H b) → Ow K M' H' y (some v1) f2 →
      ∃ g, Ow K M' H' (o.put p y) (some v) g ∧ ∀ b, g.count b + f1.count b = f.count b + f2.count b
  | [], o, o', v, f, w, s, nd, e, h => by
    cases e
    exact ⟨v, f, rfl, w, fun b => Nat.le_refl _, fun M' H' y f2 s1 s2 kk hy => ⟨f2, hy, fun b => Nat.add_comm _ _⟩⟩
  | k :: p, o, o', v, f, w, s, nd, e, h => by
    unfold O.sub at e
    cases q : o.kid k with
    | none => rw [q] at e; cases e
    | some o1 =>
      rw [q, Option.bind_some] at e
      obtain ⟨v1, f1, ev, h1, c1, up1⟩ := w.kid s nd q (sub_known e h)
      obtain ⟨v2, f2, ev2, h2, c2, up2⟩ := Ow.sub p h1 s (nodup_le c1 nd) e h
      refine ⟨v2, f2, ?_, h2, fun b => Nat.le_trans (c2 b) (c1 b), fun M' H' y f3 s1 s2 kk hy => ?_⟩
      · unfold atV; rw [ev]; exact ev2
      obtain ⟨g1, w1, d1⟩ := up2 M' H' y f3 s1 s2 (fun b hb hn => kk b (List.count_pos_iff.mp (Nat.lt_of_lt_of_le (List.count_pos_iff.mpr hb) (c1 b))) hn) hy
      obtain ⟨g2, w2, d2⟩ := up1 M' H' _ g1 s1 s2 (fun b hb hn => kk b hb fun z => hn (List.count_pos_iff.mp (Nat.lt_of_lt_of_le (List.count_pos_iff.mpr z) (c2 b)))) w1
      refine ⟨g2, ?_, fun b => by have a1 := d1 b; have a2 := d2 b; omega⟩
      unfold O.put
      rw [q]
      exact w2
end

def plN (_ : Ev) : Option (List Nat) := some []
section
variable {X : Cx} {W : WX} {J : List Nat} {pos p apos cpos : Pos} {a b e : Expr} {i : Nat} {pf : Ev → Option (List Nat)} {fb g : Ev → Option D} {f : Ev → Option O}
end
end PD

namespace PD
open PySem PySem.Spec L2

/-! ### numbers -/
section
variable {X : Cx} {W : WX} {J : List Nat} {pos p : Pos} {a b e : Expr}
def mulW : D → D → Option D := i2 (fun i j => decide (i.natAbs.log2 + j.natAbs.log2 < 1000000)) fun i j => .int (i * j)
def mulA : D → D → Option D := orD mulI mulW
theorem oMulW : OpR X (binaryOp .Mult) (rD X.K mulW) := op_i2 op_mulW (fun i j h => by simpa [CMulW] using h) fun _ _ _ => .int _
theorem oMulA : OpR X (binaryOp .Mult) (rD X.K mulA) := op_orD oMul oMulW
/-! x op= e -/
/-! sums, least and greatest of a list of ints -/
theorem dvs_rep {K : PySem.W.Frag} {M : Hp} {vs : List V} {ds : List D} (h : Dvs K M vs ds) : ∀ n : Nat, Dvs K M (List.replicate n vs).flatten (List.replicate n ds).flatten
  | 0 => .nil
  | n + 1 => by
    simp only [List.replicate_succ, List.flatten_cons]
    exact h.append (dvs_rep h n)
end
end PD

namespace PD
open PySem PySem.Spec L2

/-! ### comprehensions whose items are things of their own -/
section
variable {K : PySem.W.Frag} {M H : Hp}
end
section
variable {X : Cx} {W : WX} {J : List Nat} {pos : Pos} {tg iter elt : Expr} {ifs : List Expr} {scope : Scope} {fi : Ev → Option (List D)} {is kn : List Nat} {g : D → Ev → Option Ev} {t : Ev → Option Bool} {f : Ev → Option O}
variable {own : List (Str × Nat)}
end
end PD

namespace PD
open PySem PySem.Spec L2 PyProof.Rows

/-! ### enumerate(tuple) -/
section
variable {prog : Program} {w : World} {A : Around} {E : Value → Shared → Prop} {s : Shared}
end
section
variable {X : Cx} {pos p tpos : Pos} {e : Expr} {f : Ev → Option D} {elts : List Expr} {kk : Nat}
end
end PD

namespace PD
open PySem PySem.Spec L2
section
variable {X : Cx} {W : WX} {J : List Nat} {pos : Pos} {a b e : Expr} {fa fb : Ev → Option D}
/-! ### k not in d -/
def ndinD (x y : D) : Option D := match y with
  | .dic ks ds => if ds.length = ks.length then (keyD x).map fun k => .bl (!(dlook k ks ds).isSome) else none
  | _ => none
theorem ndin_of {K : PySem.W.Frag} {σ : L2.St} {H : Hp} {Q : VK} (h : tP K (b2 fa fb ndinD) σ H Q) : tDNotIn (tP K fa) (tP K fb) σ H Q := by
  obtain ⟨M, ρ, fo, fv, d, R, l, e, k⟩ := h
  obtain ⟨x, y, ea, eb, eg⟩ := b2_some e
  refine ⟨M, ρ, fo, fv, x, R, l, ea, fun M1 H1 v1 s1 R1 d1 => ⟨M1, ρ, fo, fv, y, R1, l, eb, fun M2 H2 v2 s2 R2 d2 => ?_⟩⟩
  unfold ndinD at eg
  split at eg
  · rename_i ks ds
    split at eg
    · cases q : keyD x with
      | none => rw [q] at eg; cases eg
      | some kk =>
        rw [q] at eg
        cases eg
        cases d2 with
        | dic h1 hk hd =>
          subst hk
          have hv := dlook_val (k := kk) hd
          rw [key_of d1 q]
          refine ⟨_, _, rfl, dget_rd (Rd.up R2.same h1), ?_⟩
          cases q2 : dlook kk _ ds with
          | none => rw [q2] at hv; rw [show valV _ kk = none from hv]; exact k M2 H2 _ (s1.trans s2) R2 (by simp only [q2]; exact .bl _)
          | some z => rw [q2] at hv; obtain ⟨v, ev, _⟩ := hv; rw [ev]; exact k M2 H2 _ (s1.trans s2) R2 (by simp only [q2]; exact .bl _)
    · cases eg
  · cases eg
theorem tNdin' (hu : X.A.units + 64 < cLine) (ha : PE X a (tP X.K fa)) (hb : PE X b (tP X.K fb)) (hm : behindInMarks .NotIn b = false := by rfl) : PT X (.Compare a [.NotIn] [b] pos) (tT X.K (asB (b2 fa fb ndinD))) :=
  PT.imp (pt_cmp (pc_dnotin (by omega) ha hb) hm) fun σ H Q ⟨M, ρ, fo, fv, b, R, l, e, k⟩ => ndin_of (K := X.K) (Q := fun x H' => ∃ k, x = .bl k ∧ Q k H') ⟨M, ρ, fo, fv, .bl b, R, l, asB_some e, fun M' H' v s R' dv => by cases dv; exact ⟨b, rfl, k M' H' s R'⟩⟩

/-! ### {k: v} -/
end
section
variable {X : Cx} {k n : Nat} {f : Addr} {fd : FuncData} {ps : List Str} {x : Str} {p pos : Pos} {ga : Ev → Option (List D)}
end
end PD

namespace PD
open PySem PySem.Spec L2

/-! ### raise C(..) -/
def raiS (C : Addr) (fs : List Str) (ga : Ev → Option (List D)) (ρ : Ev) : Option Fl := (ga ρ).bind fun ds => if ds.length = fs.length then some (.ex ⟨.ref C, some (fs, ds)⟩ ρ) else none
theorem zip_snd' {α β : Type} : ∀ {ks : List α} {vs : List β}, vs.length = ks.length → (ks.zip vs).map (·.2) = vs
  | [], [], _ => rfl
  | k :: ks, v :: vs, h => by
    simp only [List.zip_cons_cons, List.map_cons]
    rw [zip_snd' (by simpa using h)]
  | [], _ :: _, h => by simp at h
  | _ :: _, [], h => by simp at h
theorem zip_fst' {α β : Type} : ∀ {ks : List α} {vs : List β}, vs.length = ks.length → (ks.zip vs).map (·.1) = ks
  | [], [], _ => rfl
  | k :: ks, v :: vs, h => by
    simp only [List.zip_cons_cons, List.map_cons]
    rw [zip_fst' (by simpa using h)]
  | [], _ :: _, h => by simp at h
  | _ :: _, [], h => by simp at h
section
variable {X : Cx} {W : WX} {J : List Nat} {pos p q : Pos} {e : Expr} {es : List Expr} {ga : Ev → Option (List D)}
theorem sRaise {x : Str} {C : Addr} {fs : List Str} (hc : X.calm = true) (tk : L2N.Takes X W) (T : XCls X.prog X.K X.mg C fs) (hne : fs ≠ []) (hr : Room 1 X.A) (hm : X.mg x = some (.ref C)) (ha : PA X (e :: es) (tAr X.K ga)) (hg : Gl X x := by rfl)
    (hdb : (x == ("__debug__" : Str)) = false := by decide) (he : starEach (e :: es) X.env = (false, eval e X.env) :: starEach es X.env := by rfl) (hpl : (backTo q (starEach es X.env)).any (·.1) = false := by rfl) :
    PS X (.Raise (some (.Call (.Name x p) (e :: es) [] q)) none pos) (tS X.K W J (raiS C fs ga)) :=
  PS.imp (L2N.ps_raise hc tk (pmk_x T hne hr hm ha hg hdb he hpl)) fun E σ H ⟨M, ρ, fo, fv, r, σ0, R, l, e, k⟩ => by
    unfold raiS at e
    cases q : ga ρ with
    | none => rw [q] at e; cases e
    | some ds =>
      rw [q, Option.bind_some] at e
      split at e
      · rename_i hl
        cases e
        refine ⟨M, ρ, fo, fv, ds, R, l.1, q, fun M1 H1 vs s1 R1 d1 => ?_⟩
        have hv : vs.length = fs.length := by rw [d1.length]; exact hl
        refine ⟨hv, fun dx hdx => ?_⟩
        have s2 := same_updM (u := .xd (fs.zip vs)) (R1.same.free hdx)
        refine k _ _ σ _ _ (s1.trans s2) (R1.growM hdx) l ⟨rfl, .inr ⟨fs, ds, dx, fs.zip vs, rfl, rfl, upd_same, zip_fst' hv, ?_⟩⟩
        rw [zip_snd' hv]
        exact d1.mono s2
      · cases e
end

/-! ### defs that may raise -/
section
variable {P : Program} {w : World} {K : PySem.W.Frag} {mg : Str → Option Value} {base : Heap}
theorem fnX {x qual : Str} {st : Stmt} {f : Addr} {fd : FuncData} {N ps : List Str} {k : Nat} {b : Ev → Option Fl} (F : Fun K x qual st f fd) (S : FnScope N ps (defScope st))
    (hb : ∀ (cdv : Value) (A : Around) (outer : List Env) (s : Shared) (H : Hp) (E : XK), Room k (A.deeper (PyProof.Rows.envOfC qual (defScope st) s.heap.objs.size f cdv)) →
      PSs (cxOf (L2N.CX P w) P w K mg base N qual (defScope st) f cdv A outer s H E) (defBody st) (tS K (fun cls d _ H => E cls d H) [] b)) : FnOk P w K mg base (L2N.CX P w) (k + 1) f fd ps (spX K ps.length (runX N.length b)) := by
  obtain ⟨oc, od, kV, doc, pm, an, cdv, ct, osl, rfl, lk, hcd⟩ := F.ex
  refine fn_of lk hcd S (fun vs H Q E h => ?_) fun A outer s H vs Q E hr h => ⟨_, hb cdv A outer s H E hr, ?_⟩
  · obtain ⟨_, _, _, _, _, hl, _⟩ := h
    exact hl
  obtain ⟨M, fo, fv, ds, r, hl, R, dv, e, k⟩ := h
  obtain ⟨R1, l1⟩ := R.enter (N := N) dv
  unfold runX at e
  cases q : b (env0 N.length ds) with
  | none => rw [q] at e; cases e
  | some z =>
    rw [q, Option.bind_some] at e
    refine ⟨M, _, fo, fv, z, L2.start N vs, R1, ⟨l1, fun _ z => nomatch z⟩, q, ?_⟩
    cases z with
    | nx ρ =>
      cases e
      exact fun M1 H1 σ1 s1 R1 l1 => k M1 H1 _ s1 ((R1.push l1.1 .non).dropL l1.1)
    | rt o' ρ =>
      cases e
      exact fun M1 H1 σ1 v s1 R1 l1 => k M1 H1 v s1 (R1.dropL l1.1)
    | bk ρ => cases e
    | ct ρ => cases e
    | ex y ρ =>
      cases e
      exact fun M1 H1 σ1 cls d s1 R1 l1 ex => k M1 H1 cls d s1 (R1.dropL l1.1) ex
end

/-! ### such defs, called -/
def okO : Rz → Option O
  | .ok o => some o
  | .ex _ => none
/-- a reading that may raise -/
def tXc (K : PySem.W.Frag) (W : WX) (f : Ev → Option Rz) : TE := fun σ H Q => ∃ M ρ fo fv r, Rep K M H (ρ ++ fo) (σ ++ fv) ∧ σ.length = ρ.length ∧ f ρ = some r ∧ match r with
  | .ok o => ∀ M' H' v, Same M M' → Rep K M' H' (ρ ++ o :: fo) (σ ++ some v :: fv) → Q v H'
  | .ex x => ∀ M' H' cls d, Same M M' → Rep K M' H' (ρ ++ fo) (σ ++ fv) → ExR K M' x cls d → W cls d σ H'
section
variable {X : Cx} {W : WX} {J : List Nat} {k n : Nat} {f : Addr} {fd : FuncData} {ps : List Str} {x : Str} {p pos : Pos} {e : Expr} {es : List Expr} {ga : Ev → Option (List D)} {m : List D → Option Rz} {g : Ev → Option Rz}
theorem passX : Passes (L2N.CX X.prog X.w) X E0 := fun _ _ _ _ _ _ _ h => by
  obtain ⟨_, _, _, _, _, _, _, _, _, _, _, _, z⟩ := h
  exact z.elim
def stX (i : Nat) (f : Ev → Option Rz) (ρ : Ev) : Option Fl := (f ρ).bind fun r => match r with
  | .ok o => some (.nx (ρ.set i o))
  | .ex x => some (.ex x ρ)
def drpX (f : Ev → Option Rz) (ρ : Ev) : Option Fl := (f ρ).map fun r => match r with
  | .ok _ => .nx ρ
  | .ex x => .ex x ρ
theorem sSetX {i : Nat} {y : Str} {pos' : Pos} (hN : X.N.Nodup) (he : PE X e (tXc X.K W g)) (hJ : i ∉ J := by decide) (hi : X.N[i]? = some y := by rfl) (hx : Loc X.env.scope y := by first | exact Or.inl rfl | exact Or.inr rfl) (hs : swapsWith e (some (.Name y pos')) pos.line X.env = pure false := by rfl)
    (hf : X.fn y = true ∨ X.env.scope.names.lookup y = some .local := by first | exact .inl rfl | exact .inr rfl) : PS X (.Assign [.Name y pos'] e pos) (tS X.K W J (stX i g)) := PS.imp (ps_set (i := i) hN hi hx he hs hf) fun E σ H ⟨M, ρ, fo, fv, r, σ0, R, l, e, k⟩ => by
  unfold stX at e
  cases q : g ρ with
  | none => rw [q] at e; cases e
  | some z =>
    rw [q, Option.bind_some] at e
    refine ⟨M, ρ, fo, fv, z, R, l.1, q, ?_⟩
    cases z with
    | ok o => cases e; exact fun M1 H1 v s1 R1 => k M1 H1 _ s1 (R1.into l.1) (l.set hJ _ _)
    | ex y => cases e; exact fun M1 H1 cls d s1 R1 ex => k M1 H1 σ cls d s1 R1 l ex
theorem sExprX (he : PE X e (tXc X.K W g)) (hs : swapsWith e none pos.line X.env = pure false := by rfl) : PS X (.Expr e pos) (tS X.K W J (drpX g)) := PS.imp (ps_expr he hs) fun E σ H ⟨M, ρ, fo, fv, r, σ0, R, l, e, k⟩ => by
  unfold drpX at e
  cases q : g ρ with
  | none => rw [q] at e; cases e
  | some z =>
    rw [q] at e
    refine ⟨M, ρ, fo, fv, z, R, l.1, q, ?_⟩
    cases z with
    | ok o => cases e; exact fun M1 H1 v s1 R1 => k M1 H1 σ s1 (R1.drop l.1) l
    | ex y => cases e; exact fun M1 H1 cls d s1 R1 ex => k M1 H1 σ cls d s1 R1 l ex
end

/-! ### try: .. except C as n: .. -/
def exnD (a : Addr) (da : Addr) (x : Exn) : D := match x.fs with
  | none => .exn a none x.cls [] []
  | some (ks, ds) => .exn a (some da) x.cls ks ds
def exnA (da : Addr) (x : Exn) : Option Addr := x.fs.map fun _ => da
def unX (i : Nat) : Fl → Option Fl
  | .nx ρ => some (.nx (ρ.set i .unk))
  | .bk ρ => some (.bk (ρ.set i .unk))
  | .ct ρ => some (.ct (ρ.set i .unk))
  | .rt o ρ => some (.rt o (ρ.set i .unk))
  | .ex _ _ => none
open Classical in
/-- the suite, whatever object the exception is -/
noncomputable def suiteS (i : Nat) (sm : Addr → Option Addr → Value → Ev → Option Fl) (x : Exn) (ρ : Ev) : Option Fl :=
  if h : ∃ r, ∀ a da, (sm a (exnA da x) x.cls (ρ.set i (.dat (exnD a da x)))).bind (unX i) = some r then some h.choose else none
theorem suiteS_of {i : Nat} {sm : Addr → Option Addr → Value → Ev → Option Fl} {x : Exn} {ρ : Ev} {r : Fl} (h : ∀ a da, (sm a (exnA da x) x.cls (ρ.set i (.dat (exnD a da x)))).bind (unX i) = some r) : suiteS i sm x ρ = some r := by
  have hx : ∃ r, ∀ a da, (sm a (exnA da x) x.cls (ρ.set i (.dat (exnD a da x)))).bind (unX i) = some r := ⟨r, h⟩
  unfold suiteS
  rw [dif_pos hx]
  have := hx.choose_spec (0 : Nat) (0 : Nat)
  rw [h] at this
  rw [← Option.some.inj this]
theorem suiteS_some {i : Nat} {sm : Addr → Option Addr → Value → Ev → Option Fl} {x : Exn} {ρ : Ev} {r : Fl} (h : suiteS i sm x ρ = some r) (a da : Addr) : ∃ r1, sm a (exnA da x) x.cls (ρ.set i (.dat (exnD a da x))) = some r1 ∧ unX i r1 = some r := by
  unfold suiteS at h
  split at h
  · rename_i hx
    have := hx.choose_spec a da
    rw [h] at this
    cases q : sm a (exnA da x) x.cls (ρ.set i (.dat (exnD a da x))) with
    | none => rw [q] at this; cases this
    | some r1 => rw [q] at this; exact ⟨r1, rfl, this⟩
  · cases h
/-- which classes a clause takes -/
def mtc (tb : List (Addr × Bool)) : Value → Option Bool
  | .ref C => tb.lookup C
  | _ => none
noncomputable def tryS (tb : List (Addr × Bool)) (i : Nat) (b : Ev → Option Fl) (sm : Addr → Option Addr → Value → Ev → Option Fl) (ρ : Ev) : Option Fl := (b ρ).bind fun r => match r with
  | .ex x ρ1 => (mtc tb x.cls).bind fun t => if t = true then suiteS i sm x ρ1 else some (.ex x ρ1)
  | r => some r
section
variable {X : Cx} {W : WX} {J : List Nat} {x n : Str} {c : Value} {i : Nat} {body suite : List Stmt} {b₀ : Stmt} {np pos pos' : Pos} {b : Ev → Option Fl} {sm : Addr → Option Addr → Value → Ev → Option Fl} {tb : List (Addr × Bool)}
theorem exR_dv {K : PySem.W.Frag} {M : Hp} {y : Exn} {cls : Value} {d : Option Addr} (h : ExR K M y cls d) (a : Addr) : cls = y.cls ∧ ∃ da, d = exnA da y ∧ Dv K M (.ref a) (exnD a da y) := by
  obtain ⟨h1, h2⟩ := h
  refine ⟨h1, ?_⟩
  rcases h2 with ⟨e1, e2⟩ | ⟨ks, ds, da, fvs, e1, e2, hm, hk, hd⟩
  · exact ⟨(0 : Nat), by unfold exnA; rw [e1, e2]; rfl, by unfold exnD; rw [e1]; exact .exn0⟩
  · exact ⟨da, by unfold exnA; rw [e1, e2]; rfl, by unfold exnD; rw [e1]; exact .exn1 hm hk hd⟩
theorem sTryAs (hs : X.stack = X.env :: X.outer) (hf : X.env.frame = some X.env.locals) (hN : X.N.Nodup) (hc : Names X x c) (tk : L2N.Takes X W) (hm : ∀ C t, tb.lookup C = some t → PySem.W.exmOne X.K (.ref C) c = some t)
    (hb : ∀ (W : WX) (pn : List (Addr × Obj)) (xe : Value → Shared → Prop), L2N.Takes (X.tr pn xe) W → PassesOwn (model X.prog X.w) X.A X.env xe → PSs (X.tr pn xe) body (tS X.K W J b))
    (hsu : ∀ (a : Addr) (oe : Obj) (cls : Value) (d : Option Addr) (pn : List (Addr × Obj)), L2N.Zn cls d oe → (∃ vs, oe.data = .fields vs) → PSs (X.suite a ((a, oe) :: pn)) (b₀ :: suite) (tS X.K W0 J (sm a d cls)))
    (hJ : i ∉ J := by decide) (hi : X.N[i]? = some n := by rfl) (hln : X.env.kindOf n = some .local := by rfl) :
    PS X (.Try body [.ExceptHandler (some (.Name x np)) (some n) (b₀ :: suite) pos'] [] [] pos) (tS X.K W J (tryS tb i b sm)) :=
  PS.imp (L2N.ps_try_as (i := i) (tb := fun W => tS X.K W J b) (ts := fun a cls d => tS X.K W0 J (sm a d cls)) hs hf hN hi hln hc tk hb hsu) fun E σ H ⟨M, ρ, fo, fv, r, σ0, R, l, e, k⟩ => by
    unfold tryS at e
    cases q : b ρ with
    | none => rw [q] at e; cases e
    | some r1 =>
      rw [q, Option.bind_some] at e
      refine ⟨M, ρ, fo, fv, r1, σ0, R, l, q, ?_⟩
      cases r1 with
      | nx ρ1 => cases e; exact k
      | rt o ρ1 => cases e; exact k
      | bk ρ1 => cases e; exact k
      | ct ρ1 => cases e; exact k
      | ex y ρ1 =>
        intro M1 H1 σ1 cls d s1 R1 l1 ex
        have e : ((mtc tb y.cls).bind fun t => if t = true then suiteS i sm y ρ1 else some (.ex y ρ1)) = some r := e
        cases qm : mtc tb y.cls with
        | none => rw [qm] at e; cases e
        | some t =>
          rw [qm, Option.bind_some] at e
          have hcls := ex.1
          have ht : PySem.W.exmOne X.K cls c = some t := by
            rw [hcls]
            unfold mtc at qm
            split at qm
            · rename_i C hC
              rw [hC]; exact hm C t qm
            · cases qm
          refine ⟨t, ht, fun tt a ha => ?_, fun tf => ?_⟩
          · subst tt
            rw [if_pos rfl] at e
            obtain ⟨_, da, ed, dv⟩ := exR_dv ex a
            obtain ⟨r2, e4, e3⟩ := suiteS_some e a da
            rw [← ed, ← hcls] at e4
            refine ⟨M1, ρ1.set i (.dat (exnD a da y)), fo, fv, r2, σ0, R1.setD l1.1 dv, l1.set hJ _ _, e4, ?_⟩
            cases r2 with
            | nx ρ2 =>
              cases e3
              exact fun M2 H2 σ2 s2 R2 l2 => k M2 H2 _ (s1.trans s2) (R2.setU l2.1 none) (l2.set hJ _ _)
            | bk ρ2 =>
              cases e3
              exact fun M2 H2 σ2 s2 R2 l2 => k M2 H2 _ (s1.trans s2) (R2.setU l2.1 none) (l2.set hJ _ _)
            | ct ρ2 =>
              cases e3
              exact fun M2 H2 σ2 s2 R2 l2 => k M2 H2 _ (s1.trans s2) (R2.setU l2.1 none) (l2.set hJ _ _)
            | rt o ρ2 =>
              cases e3
              intro M2 H2 σ2 v s2 R2 l2
              have hσ : σ2.set i (σ2.getD i none) = σ2 := by
                by_cases hi : i < σ2.length
                · rw [List.getD_eq_getElem?_getD, List.getElem?_eq_getElem hi, Option.getD_some, List.set_getElem_self]
                · exact List.set_eq_of_length_le (by omega)
              have R3 := R2.setU l2.1 (i := i) (σ2.getD i none)
              have l3 := l2.set hJ (σ2.getD i none) .unk
              rw [hσ] at R3 l3
              exact k M2 H2 σ2 v (s1.trans s2) R3 l3
            | ex _ _ => cases e3
          · subst tf
            rw [if_neg Bool.false_ne_true] at e
            cases e
            exact k M1 H1 σ1 cls d s1 R1 l1 ex
end

/-! ### what a suite asks of the exception -/
def fldE (a : Addr) (d : Option Addr) (cls : Value) (cs : List Addr) (f : Str) (x : D) : Option D := match x, cls with
  | .exn a' d' _ ks vs, .ref C => if a' = a ∧ d' = d ∧ C ∈ cs then (ks.zip vs).lookup f else none
  | _, _ => none
def isiE (a : Addr) (cls : Value) (tb : List (Addr × Bool)) (x : D) : Option D := match x, cls with
  | .exn a' _ _ _ _, .ref C => if a' = a then (tb.lookup C).map .bl else none
  | _, _ => none
theorem look_dvs {K : PySem.W.Frag} {M : Hp} {f : Str} : ∀ {fs : List (Str × V)} {ds : List D} {d : D}, Dvs K M (fs.map (·.2)) ds → ((fs.map (·.1)).zip ds).lookup f = some d → ∃ v, fs.lookup f = some v ∧ Dv K M v d
  | [], [], _, .nil, e => by cases e
  | (k, v) :: fs, d0 :: ds, d, .cons h hs, e => by
    simp only [List.map_cons, List.zip_cons_cons, List.lookup_cons] at e ⊢
    cases q : f == k with
    | true =>
      simp only [q] at e ⊢
      cases e
      exact ⟨v, rfl, h⟩
    | false =>
      simp only [q] at e ⊢
      exact look_dvs hs e
section
variable {X : Cx} {a : Addr} {oe : Obj} {cls : Value} {d : Option Addr} {pn : List (Addr × Obj)} {pos p q : Pos} {e : Expr} {fa : Ev → Option D}
theorem pNever {K : PySem.W.Frag} {Y : Cx} {f : Ev → Option D} (h : ∀ ρ, f ρ = none) : PE Y e (tP K f) := ⟨fun p s σ H Q I ⟨M, ρ, fo, fv, d, R, l, e, k⟩ => by rw [h ρ] at e; cases e⟩
theorem pFldX {cs : List Addr} {f : Str} (hcs : ∀ C ∈ cs, XfC X.K C ∧ PySem.W.findIn X.K (.ref C) f = some none) (hz : Zc cls d oe) (hf : ∃ vs, oe.data = .fields vs) (he : PE (X.suite a ((a, oe) :: pn)) e (tP X.K fa)) (hb : attributeBase e f X.env (eval e X.env) = eval e X.env := by rfl) :
    PE (X.suite a ((a, oe) :: pn)) (.Attribute e f pos) (tP X.K (b1 fa (fldE a d cls cs f))) := by
  have hn : (∀ C ∈ cs, cls ≠ .ref C) → PE (X.suite a ((a, oe) :: pn)) (.Attribute e f pos) (tP X.K (b1 fa (fldE a d cls cs f))) := fun h => pNever fun ρ => by
    unfold b1
    cases fa ρ with
    | none => rfl
    | some z =>
      show fldE a d cls cs f z = none
      unfold fldE
      split
      · rename_i C
        rw [if_neg fun z => h C z.2.2 rfl]
      · rfl
  by_cases hC : ∃ C ∈ cs, cls = .ref C
  · obtain ⟨C, hm, hcl⟩ := hC
    obtain ⟨T, hno⟩ := hcs C hm
    refine PE.imp (pe_xf T hno hz hf he hb) fun σ H Q ⟨M, ρ, fo, fv, d0, R, l, e, k⟩ => ?_
    obtain ⟨y, ea, eg⟩ := b1_some e
    refine ⟨M, ρ, fo, fv, y, R, l, ea, fun M1 H1 v s1 R1 dv => ?_⟩
    unfold fldE at eg
    split at eg
    · split at eg
      · rename_i hc
        obtain ⟨rfl, rfl, _⟩ := hc
        cases dv with
        | exn0 => cases eg
        | exn1 hM hk hd =>
          subst hk
          obtain ⟨v1, e1, d1⟩ := look_dvs hd eg
          exact ⟨rfl, hcl, _, _, v1, rfl, R1.same _ _ hM, e1, k M1 H1 v1 s1 R1 d1⟩
      · cases eg
    · cases eg
  · exact hn fun C hm e => hC ⟨C, hm, e⟩
/-- isinstance(e, y) -/
def rIsX (K : PySem.W.Frag) (D a : Addr) (d : Option Addr) : List V → Hp → VK → Prop := fun xs H Q => ∃ (c : V) (cv : Value) (b : Bool), xs = [.ref a, c] ∧ (∀ u, RelV c u → u = cv) ∧ (∀ dd, d = some dd → ∃ fs, H dd = some (.xd fs)) ∧ PySem.W.kitOne K (.ref D) cv = some b ∧ Q (.bl b) H
theorem call_isEX {C0 : Addr} (C : ExcC X.K C0) (hz : Zc (.ref C0) d oe) (hf : ∃ vs, oe.data = .fields vs) : CallR (X.suite a ((a, oe) :: pn)) (.builtin "isinstance") (rIsX X.K C0 a d) := by
  intro pins s σ H xs us Q I r h
  obtain ⟨c, cv, b, rfl, hcv, hdd, e, q⟩ := h
  cases r with
  | cons rx rr => cases rr with
    | cons rt rr =>
      cases rr
      cases rx
      have ec := hcv _ rt
      subst ec
      obtain ⟨hget, _⟩ := I.pin (a, oe) (List.mem_append_left _ List.mem_cons_self)
      obtain ⟨vs, hv⟩ := hf
      obtain ⟨od, J⟩ : ∃ od, PySem.W.InstAt s.heap a oe C0 od := by
        cases hd : d with
        | none =>
          refine ⟨none, hget, hz.1, by unfold PySem.W.notCls; rw [hv] <;> rfl, ?_⟩
          rw [hz.2, hd]; trivial
        | some dd =>
          obtain ⟨fs, hfs⟩ := hdd dd hd
          have hx : ObjOk X.prog X.w H s.heap dd (.xd fs) := I.hok dd _ hfs
          obtain ⟨mA, hns, hr⟩ := hx
          obtain ⟨od, ho, hl⟩ := lookIn_ns hns
          refine ⟨some od, hget, hz.1, by unfold PySem.W.notCls; rw [hv] <;> rfl, ?_⟩
          rw [hz.2, hd]; exact ho
      have hcl : (PySem.W.clsIn X.K C0).isSome = true := by
        obtain ⟨cd, hc, _⟩ := PySem.W.any_some C.hd
        rw [hc]; rfl
      exact PySem.W.kia_one (PySem.W.kitx_exc hcl C.hg C.hk C.hs C.ha C.hn C.ht C.hm) I.kIn J e (fun z => nomatch z) fun tk => ⟨.bl b, H, I.kept (t' := tk) fun _ _ z => z, rfl, q⟩
theorem pIsXv {cs : List (Addr × Bool)} {y : Expr} {c : V} {cv : Value} (htb : ∀ C t, cs.lookup C = some t → ExcC X.K C ∧ PySem.W.kitOne X.K (.ref C) cv = some t) (hcv : ∀ u, RelV c u → u = cv) (hz : Zc cls d oe) (hf : ∃ vs, oe.data = .fields vs) (he : PE (X.suite a ((a, oe) :: pn)) e (tP X.K fa)) (hy : PE (X.suite a ((a, oe) :: pn)) y (tC c)) (hm : X.mg "isinstance" = none)
    (hg : Gl (X.suite a ((a, oe) :: pn)) "isinstance") (hs : starEach [e, y] X.env = (false, eval e X.env) :: starEach [y] X.env) (hs2 : starEach [y] X.env = (false, eval y X.env) :: starEach [] X.env) (hpl : (backTo pos (starEach [y] X.env)).any (·.1) = false) :
    PE (X.suite a ((a, oe) :: pn)) (.Call (.Name "isinstance" p) [e, y] [] pos) (tP X.K (b1 fa (fun x => match x with | .exn a' d' c' ks vs => if d' = d then isiE a cls cs (.exn a' d' c' ks vs) else none | _ => none))) := by
  have hn : (∀ C t, cs.lookup C = some t → cls ≠ .ref C) → PE (X.suite a ((a, oe) :: pn)) (.Call (.Name "isinstance" p) [e, y] [] pos) (tP X.K (b1 fa (fun x => match x with | .exn a' d' c' ks vs => if d' = d then isiE a cls cs (.exn a' d' c' ks vs) else none | _ => none))) := fun h => pNever fun ρ => by
    unfold b1
    cases fa ρ with
    | none => rfl
    | some z =>
      rw [Option.bind_some]
      split
      · split
        · unfold isiE
          split
          · rename_i C' _
            split
            · cases q : cs.lookup C' with
              | none => rfl
              | some t => exact absurd rfl (h C' t q)
            · rfl
          · rfl
        · rfl
      · rfl
  by_cases hC : ∃ C t, cs.lookup C = some t ∧ cls = .ref C
  · obtain ⟨C0, t, hl, rfl⟩ := hC
    obtain ⟨TC, hk⟩ := htb C0 t hl
    refine PE.imp (pe_callB (call_isEX TC hz hf) hg hm (by decide +kernel) (pa_cons he (pa_cons hy pa_nil hs2) hs) (by decide) (by decide) hs hpl) fun σ H Q ⟨M, ρ, fo, fv, d0, R, l, e, k⟩ => ?_
    obtain ⟨z, ea, eg⟩ := b1_some e
    refine ⟨M, ρ, fo, fv, z, R, l, ea, fun M1 H1 v s1 R1 dv => ?_⟩
    split at eg
    · split at eg
      · rename_i hdd
        subst hdd
        unfold isiE at eg
        simp only at eg
        split at eg
        · rename_i haa
          rw [hl] at eg
          cases eg
          have hv : v = .ref a := by rw [← haa]; cases dv <;> rfl
          refine ⟨c, cv, t, by rw [hv], hcv, fun dd hdd => ?_, hk, k M1 H1 _ s1 R1 (.bl _)⟩
          cases dv with
          | exn0 => cases hdd
          | exn1 hM _ _ => cases hdd; exact ⟨_, R1.same _ _ hM⟩
        · cases eg
      · cases eg
    · cases eg
  · exact hn fun C t hl e => hC ⟨C, t, hl, e⟩
def isX (a : Addr) (d : Option Addr) (cls : Value) (cs : List (Addr × Bool)) (x : D) : Option D := match x with
  | .exn a' d' c' ks vs => if d' = d then isiE a cls cs (.exn a' d' c' ks vs) else none
  | _ => none
theorem pIsXo {cs : List (Addr × Bool)} {y : Str} {C1 : Addr} (htb : ∀ C t, cs.lookup C = some t → ExcC X.K C ∧ PySem.W.kitOne X.K (.ref C) (.ref C1) = some t) (hmC : X.mg y = some (.ref C1)) (hz : Zc cls d oe) (hf : ∃ vs, oe.data = .fields vs) (he : PE (X.suite a ((a, oe) :: pn)) e (tP X.K fa)) (hm : X.mg "isinstance" = none)
    (hg : Gl (X.suite a ((a, oe) :: pn)) "isinstance" := by rfl) (hgT : Gl (X.suite a ((a, oe) :: pn)) y := by rfl) (hd : (y == ("__debug__" : Str)) = false := by decide) (hs : starEach [e, .Name y q] X.env = (false, eval e X.env) :: starEach [.Name y q] X.env := by rfl) (hs2 : starEach [.Name y q] X.env = (false, eval (.Name y q) X.env) :: starEach [] X.env := by rfl) (hpl : (backTo pos (starEach [.Name y q] X.env)).any (·.1) = false := by rfl) :
    PE (X.suite a ((a, oe) :: pn)) (.Call (.Name "isinstance" p) [e, .Name y q] [] pos) (tP X.K (b1 fa (isX a d cls cs))) :=
  pIsXv (c := .ref C1) (cv := .ref C1) htb (fun _ r => r) hz hf he (pe_glob (v := .ref C1) hgT hmC rfl hd) hm hg hs hs2 hpl
theorem pIsXt {cs : List (Addr × Bool)} {y : Str} {T : String} (htb : ∀ C t, cs.lookup C = some t → ExcC X.K C ∧ PySem.W.kitOne X.K (.ref C) (.type T) = some t) (hmT : X.mg y = none) (hz : Zc cls d oe) (hf : ∃ vs, oe.data = .fields vs) (he : PE (X.suite a ((a, oe) :: pn)) e (tP X.K fa)) (hm : X.mg "isinstance" = none)
    (hv : bootBuiltins y = some (.type T) := by decide +kernel) (hg : Gl (X.suite a ((a, oe) :: pn)) "isinstance" := by rfl) (hgT : Gl (X.suite a ((a, oe) :: pn)) y := by rfl) (hn : y ≠ "__name__" := by decide) (hd : (y == ("__debug__" : Str)) = false := by decide) (hs : starEach [e, .Name y q] X.env = (false, eval e X.env) :: starEach [.Name y q] X.env := by rfl) (hs2 : starEach [.Name y q] X.env = (false, eval (.Name y q) X.env) :: starEach [] X.env := by rfl) (hpl : (backTo pos (starEach [.Name y q] X.env)).any (·.1) = false := by rfl) :
    PE (X.suite a ((a, oe) :: pn)) (.Call (.Name "isinstance" p) [e, .Name y q] [] pos) (tP X.K (b1 fa (isX a d cls cs))) :=
  pIsXv (c := .ty T) (cv := .type T) htb (fun _ r => r) hz hf he (pe_bltn (v := .ty T) hgT hmT hv rfl hn hd) hm hg hs hs2 hpl
end
end PD

namespace PD
open PySem PySem.Spec L2
/-- the text of an own error's __init__ -/
structure XSt (qual : Str) (st : Stmt) (fs : List Str) : Prop where
  ar : ∃ ar, ((defArgs st).posonlyargs ++ (defArgs st).args).head? = some ar ∧ ar.arg = "self"
  n1 : (defScope st).names.lookup ("super" : Str) = some .globalImplicit
  n2 : (defScope st).names.lookup ("__class__" : Str) = some .free
  n3 : (defScope st).kind = .function
  n4 : (defScope st).names.lookup ("self" : Str) = some .local
  n5 : (defScope st).isCoroutine = false
  n6 : (defScope st).isGenerator = false
  n7 : ∀ y ∈ (defScope st).names, y.2 ≠ .cell
  body : ∃ p0 p1 p2 p3 p4 p5 x j rest, defBody st = superSt p0 p1 p2 p3 p4 p5 x j :: rest ∧ SupEv qual (defScope st) p0 p1 p2 p3 p4 x j ∧ Flds rest fs
  binds : ∀ (nm : Str) (cc : Addr) (kV doc pm cd ct : Value) (an : Option Addr) (us : List Value), us.length = fs.length + 1 → bindArgs (PySem.W.fnX nm qual (defArgs st) (defBody st) (defScope st) [("__class__", cc)] .none kV doc pm an cd ct) ⟨us, []⟩ = pure ((("self" : Str) :: fs).zip us)
  loc : ∀ y ∈ fs, (defScope st).names.lookup y = some .local ∧ (y == ("__debug__" : Str)) = false
  nd : (("self" : Str) :: fs).Nodup
  few : fs.length ≤ 800
section
variable {prog : Program} {K : PySem.W.Frag} {mg : Str → Option Value} {C f cc cda D N : Addr} {fs : List Str} {qual nm cn cq : Str} {st : Stmt} {bs bm sub : List Value} {sn : List Str} {ab : Bool} {col : Option Bool} {dd an od cdd cld : Option Addr} {k0 k1 k2 k3 k5 : Option Value} {kV doc pm ct oc ccl cl : Value} {osl ccs csl : Array (Option Value)} {vs : Array Value} {file : Str} {tf : Tok} {cdD : ClassData}
theorem xcls_mk (S : XSt qual st fs) (hL : K.lookup C = some (excClassObj cn cq C N bs bm true sn sub ab col dd k0 k1 k2 k3 k5 "ValueError.__new__")) (hbm : PySem.HandSPX.refsVE bm = true) (sa : PySem.W.findIn K (.ref C) "__setattr__" = some (some (.builtin "object.__setattr__"))) (exC : PySem.W.subIn K (.ref C) (.type "BaseException") = some true) (tyC : PySem.W.typeIn K (.ref C) = some (.type "type")) (kC : PySem.W.keepIn K (.ref C) = true)
    (ve : PySem.W.subIn K (.ref C) (.type "ValueError") = some true) (hin : PySem.W.findIn K (.ref C) "__init__" = some (some (.ref f))) (hty : PySem.W.typeIn K (.ref f) = some (.type "function"))
    (lk : K.lookup f = some ⟨oc, od, .func (PySem.W.fnX nm qual (defArgs st) (defBody st) (defScope st) [("__class__", cc)] .none kV doc pm an (.ref cda) ct), osl⟩) (hcode : PySem.W.codeIn K (.ref cda) qual = true)
    (hcda : K.lookup cda = some ⟨ccl, cdd, .fields vs, ccs⟩) (hvs : vs[2]? = some (.str file tf)) (hfile : ((prog.main.file : Str) == file) = true) (hcc : K.lookup cc = some ⟨cl, cld, .cell (some (.ref D)), csl⟩) (hD : PySem.W.clsIn K D = some cdD) (hmro : PySem.W.mroIn K C (.ref D) = some true)
    (hst : PySem.W.nsIn K cStatics "thirdparty.any" = some none) (hsup : PySem.W.ks_superIn K C D "__init__" = some (some (.builtin "ValueError.__init__"))) (hno : ∀ y ∈ fs, PySem.W.findIn K (.ref C) y = some none) (sup : mg "super" = none) (top : (prog.main.scope.names.lookup ("super" : Str)).isSome = false) : XCls prog K mg C fs := by
  obtain ⟨ar, a1, a2⟩ := S.ar
  obtain ⟨p0, p1, p2, p3, p4, p5, x, j, rest, b1, b2, b3⟩ := S.body
  exact ⟨⟨⟨cn, cq, N, bs, bm, sn, sub, ab, col, dd, k0, k1, k2, k3, k5, hL, hbm⟩, sa, exC, tyC, kC⟩, ve,
    ⟨f, cc, cda, D, qual, nm, defArgs st, defBody st, defScope st, .none, kV, doc, pm, ct, oc, ccl, cl, an, od, cdd, cld, osl, ccs, csl, vs, file, tf, cdD, ar, p0, p1, p2, p3, p4, p5, x, j, rest, hin, hty, lk, hcode, a1, a2, hcda, hvs, hfile, hcc, hD, hmro, hst, hsup,
      S.n1, S.n2, S.n3, S.n4, S.n5, S.n6, S.n7, b1, b2, b3, fun us hl => S.binds _ _ _ _ _ _ _ _ us hl, fun y hy => ⟨hno y hy, S.loc y hy⟩, S.nd, S.few⟩, sup, top⟩
end
end PD
namespace PD
open PySem PySem.Spec L2
theorem tb_all {P : Addr → Bool → Prop} : ∀ {tb : List (Addr × Bool)}, (∀ p ∈ tb, P p.1 p.2) → ∀ C t, tb.lookup C = some t → P C t
  | [], _, _, _, e => by cases e
  | (k, b) :: tb, h, C, t, e => by
    rw [List.lookup_cons] at e
    cases q : C == k with
    | true =>
      rw [q] at e
      have hk : C = k := by simpa using q
      cases e
      subst hk
      exact h _ List.mem_cons_self
    | false =>
      rw [q] at e
      exact tb_all (fun p hp => h p (List.mem_cons_of_mem _ hp)) C t e
theorem fa_nil {α : Type} {P : α → Prop} : ∀ p ∈ ([] : List α), P p := fun _ h => nomatch h
theorem fa_cons {α : Type} {P : α → Prop} {a : α} {l : List α} (h : P a) (hs : ∀ p ∈ l, P p) : ∀ p ∈ a :: l, P p := fun p hp => (List.mem_cons.mp hp).elim (fun e => e ▸ h) (hs p)
end PD
namespace PD
open PySem PySem.Spec L2
section
variable {X : Cx} {k n : Nat} {f : Addr} {fd : FuncData} {ps : List Str} {x : Str} {p pos : Pos} {ga g : Ev → Option (List D)} {m : List D → Option Rz} {e : Expr} {es : List Expr} {fe : Ev → Option D}
/-! ### n.bit_length() -/
/-! ### [.., *xs, ..] -/
end
end PD
namespace PD
open PySem PySem.Spec L2
section
variable {X : Cx} {a b : Expr} {pos : Pos} {fa fb : Ev → Option D}
/-! ### xs + ys, a new list -/
end
end PD
namespace PD
open PySem PySem.Spec L2
section
variable {X : Cx} {o e : Expr} {apos pos : Pos} {fa fb : Ev → Option D}
/-! ### xs.index(n), ints -/
end
end PD
namespace PD
open PySem PySem.Spec L2
section
variable {X : Cx} {W : WX} {J : List Nat} {a b : Expr} {pos px py pt pt2 : Pos} {ga : Ev → Option (List D)} {i j kt k2 : Nat} {x y : Str}
/-! ### a, b = e, f -/
end
end PD
namespace PD
open PySem PySem.Spec L2
section
variable {X : Cx} {W : WX} {J : List Nat} {pos : Pos} {tg iter elt : Expr} {ifs : List Expr} {scope : Scope} {own : List (Str × Nat)} {fi : Ev → Option (List D)} {is kn : List Nat} {g : D → Ev → Option Ev} {t : Ev → Option Bool} {f : Ev → Option D}
end
end PD

namespace PD
open PySem PySem.Spec L2
/-! ### dict(d): a copy of one's own -/
def dictO : List D → Option O
  | [.dic ks ds] => some (.dic ks (ds.map .dat))
  | _ => none
theorem Rep.newDK {K : PySem.W.Frag} {M H : Hp} {l r : List O} {lv rv : List (Option V)} (R : Rep K M H (l ++ r) (lv ++ rv)) (e : lv.length = l.length) {p : Addr} (hp : H p = none) {kvs : List (Key × V)} {ds : List D} (d : Dvs K M (kvs.map (·.2)) ds) :
    Rep K M (upd H p (.dK kvs)) (l ++ .dic (kvs.map (·.1)) (ds.map .dat) :: r) (lv ++ some (.ref p) :: rv) := by
  obtain ⟨s, fp, w, nd, nm⟩ := R
  have pn : p ∉ fp := fun z => w.dom p z hp
  have w' : Ows K M (upd H p (.dK kvs)) (l ++ r) (lv ++ rv) fp := w.frame (Same.refl _) fun a ha => upd_ne fun z => pn (z ▸ ha)
  obtain ⟨fa, fb, e1, wa, wb⟩ := w'.split e
  subst e1
  refine ⟨fun b u q => ?_, fa ++ ([p] ++ fb), wa.append (.cons (.dic upd_same rfl (by have := ows_dat (H := upd H p (.dK kvs)) d; rw [List.map_map] at this; exact this)) wb), ?_, fun a ha => ?_⟩
  · have q' := s b u q
    rw [upd_ne (ne_of_none q' hp)]; exact q'
  · rw [List.nodup_append] at nd ⊢
    obtain ⟨n1, n2, n3⟩ := nd
    refine ⟨n1, List.nodup_cons.mpr ⟨fun z => pn (List.mem_append_right _ z), n2⟩, fun a ha b hb => ?_⟩
    rcases List.mem_cons.mp hb with rfl | hb
    · exact fun z => pn (z ▸ List.mem_append_left _ ha)
    · exact n3 a ha b hb
  · rcases List.mem_append.mp ha with ha | ha
    · exact nm a (List.mem_append_left _ ha)
    · rcases List.mem_cons.mp ha with rfl | ha
      · cases q : M a with
        | none => rfl
        | some u => have := s a u q; rw [hp] at this; cases this
      · exact nm a (List.mem_append_right _ ha)
section
variable {X : Cx}
theorem cDict : CallR X (.type "dict") (rOs X.K dictO) := by
  intro pins s σ H vs us Q I r h
  obtain ⟨M, fo, fv, ds, o, R, dv, e, k⟩ := h
  unfold dictO at e
  split at e
  · cases e
    cases dv with
    | cons d1 dn =>
      cases dn
      cases d1 with
      | dic hM hk hd =>
        rw [Vals.ref1 r]
        refine d_copyOf I (Rd.up R.same hM) fun p s' hp I' => ⟨.ref p, _, I', rfl, ?_⟩
        subst hk
        exact k M _ _ (Same.refl _) (Rep.newDK (l := []) (lv := []) R rfl hp hd)
  · cases e
end
end PD

namespace PD
open PySem PySem.Spec L2
/-! ### for k in d: the data dict in slot i is locked while the loop runs -/
def keyO : Key → D
  | .inl i => .int i
  | .inr x => .str x
theorem keyO_dv {K : PySem.W.Frag} {M : Hp} (k : Key) : Dv K M (kV k) (keyO k) := by
  cases k with
  | inl i => exact .int i
  | inr x => exact .str x
def keysOf (i : Nat) (ρ : Ev) : Option (List D) := match ρ[i]? with
  | some (.dat (.dic ks _)) => some (ks.map keyO)
  | _ => none
structure LkTo (d : Addr) (kvs : List (Key × V)) (M M' : Hp) : Prop where
  ne : ∀ b, b ≠ d → M' b = M b
  l : Rd M d (.dK kvs)
  r : Rd M' d (.dK kvs)
theorem Rd.det {M : Hp} {a : Addr} {u v : HO} (h : Rd M a u) (h' : Rd M a v) (hu : ∀ o w, u ≠ .frz o w) (hv : ∀ o w, v ≠ .frz o w) : u = v := by
  rcases h with h | ⟨o, h⟩ <;> rcases h' with h' | ⟨o', h'⟩ <;> rw [h] at h' <;> cases h'
  · rfl
  · exact absurd rfl (hu _ _)
  · exact absurd rfl (hv _ _)
  · rfl
section
variable {K : PySem.W.Frag} {M M' H : Hp} {d : Addr} {kvs : List (Key × V)}
theorem LkTo.rd (h : LkTo d kvs M M') {a : Addr} {u : HO} (e : Rd M a u) (hu : ∀ o w, u ≠ .frz o w) : Rd M' a u := by
  by_cases z : a = d
  · subst z
    rw [Rd.det e h.l hu (fun _ _ z => nomatch z)]; exact h.r
  · unfold Rd; rw [h.ne a z]; exact e
theorem LkTo.eq (h : LkTo d kvs M M') {a : Addr} {u : HO} (e : M a = some u) (h1 : ∀ kvs, u ≠ .dK kvs) (h2 : ∀ o w, u ≠ .frz o w) : M' a = some u := by
  by_cases z : a = d
  · subst z
    rcases h.l with q | ⟨o, q⟩ <;> rw [e] at q <;> cases q
    · exact absurd rfl (h1 _)
    · exact absurd rfl (h2 _ _)
  · rw [h.ne a z]; exact e
theorem LkTo.sqx (h : LkTo d kvs M M') {a : Addr} {xs : List V} (e : SqX K M a xs) : SqX K M' a xs := by
  rcases e with e | e
  · exact .inl (h.rd e fun _ _ z => nomatch z)
  · exact .inr e
theorem LkTo.sqt (h : LkTo d kvs M M') {a : Addr} {xs : List V} (e : SqT K M a xs) : SqT K M' a xs := by
  rcases e with e | e
  · exact .inl (h.rd (u := .tup xs) e fun _ _ z => nomatch z)
  · exact .inr e
theorem LkTo.no (h : LkTo d kvs M M') {a : Addr} (e : M' a = none) : M a = none := by
  by_cases z : a = d
  · subst z
    rcases h.r with q | ⟨o, q⟩ <;> rw [e] at q <;> cases q
  · rw [← h.ne a z]; exact e
mutual
theorem Dv.relock (h : LkTo d kvs M M') : ∀ {v : V} {x : D}, Dv K M v x → Dv K M' v x
  | _, _, .non => .non
  | _, _, .bl b => .bl b
  | _, _, .int i => .int i
  | _, _, .str x => .str x
  | _, _, .lst q hs => .lst (h.sqx q) (Dvs.relock h hs)
  | _, _, .tup q hs => .tup (h.sqt q) (Dvs.relock h hs)
  | _, _, .dic q e hs => .dic (h.rd q fun _ _ z => nomatch z) e (Dvs.relock h hs)
  | _, _, .obj q q2 e hs => .obj (h.eq q (fun _ z => nomatch z) fun _ _ z => nomatch z) (h.eq q2 (fun _ z => nomatch z) fun _ _ z => nomatch z) e (Dvs.relock h hs)
  | _, _, .exn0 => .exn0
  | _, _, .exn1 q e hs => .exn1 (h.eq q (fun _ z => nomatch z) fun _ _ z => nomatch z) e (Dvs.relock h hs)
  | _, _, .tagM q hs => .tagM (fun a e => q a (h.no e)) (Dv.relock h hs)
  | _, _, .tagP q hs => .tagP (fun M2 l => q M2 fun a xs e => l a xs (h.eq e (fun _ z => nomatch z) fun _ _ z => nomatch z)) (Dv.relock h hs)
  | _, _, .dicT q t hs => .dicT (h.eq q (fun _ z => nomatch z) fun _ _ z => nomatch z) (t.map fun _ _ z => h.sqt z) (Dvs.relock h hs)
theorem Dvs.relock (h : LkTo d kvs M M') : ∀ {vs : List V} {ds : List D}, Dvs K M vs ds → Dvs K M' vs ds
  | _, _, .nil => .nil
  | _, _, .cons q hs => .cons (Dv.relock h q) (Dvs.relock h hs)
end
mutual
theorem Ow.relock (h : LkTo d kvs M M') : ∀ {o : O} {v : Option V} {fp : List Addr}, Ow K M H o v fp → Ow K M' H o v fp
  | _, _, _, .unk => .unk
  | _, _, _, .dat q => .dat (q.relock h)
  | _, _, _, .lst q hs => .lst q (Ows.relock h hs)
  | _, _, _, .tup q hs => .tup (h.eq q (fun _ z => nomatch z) fun _ _ z => nomatch z) (Ows.relock h hs)
  | _, _, _, .dic q e hs => .dic q e (Ows.relock h hs)
  | _, _, _, .obj q q2 e hs => .obj q q2 e (Ows.relock h hs)
  | _, _, _, .raw q m => .raw q m
  | _, _, _, .dicT q t hs => .dicT q (t.map fun _ _ z => h.sqt z) (hs.relock h)
theorem Ows.relock (h : LkTo d kvs M M') : ∀ {os : List O} {vs : List (Option V)} {fp : List Addr}, Ows K M H os vs fp → Ows K M' H os vs fp
  | _, _, _, .nil => .nil
  | _, _, _, .cons q hs => .cons (Ow.relock h q) (Ows.relock h hs)
end
/-- the whole state, locked or unlocked at d -/
theorem Rep.relock {os : List O} {vs : List (Option V)} {u u' : HO} (R : Rep K M H os vs) (hu : M d = some u) (h : LkTo d kvs M (upd M d u')) : Rep K (upd M d u') (upd H d u') os vs := by
  obtain ⟨s, fp, w, nd, nm⟩ := R
  have hd : d ∉ fp := fun z => by rw [nm d z] at hu; cases hu
  refine ⟨fun b q e => ?_, fp, (w.relock h).frame (Same.refl _) fun a ha => upd_ne fun z => hd (z ▸ ha), nd, fun a ha => ?_⟩
  · by_cases z : b = d
    · subst z; rw [upd_same] at e ⊢; exact e
    · rw [upd_ne z] at e ⊢; exact s b q e
  · rw [upd_ne (fun z : a = d => hd (by rw [← z]; exact ha))]; exact nm a ha
end
theorem PS.or {X : Cx} {e : Stmt} {t t' : TS} (h : PS X e t) (h' : PS X e t') : PS X e (fun E σ H => t E σ H ∨ t' E σ H) := ⟨fun p s σ H D I w => w.elim (h.run p s σ H D I) (h'.run p s σ H D I)⟩
theorem yld_keys {K : PySem.W.Frag} {M : Hp} {a : Addr} {o : Obj} {kvs : List (Key × V)} (h : M a = some (.frz o (.dK kvs))) : Yld K M [] (Itk a o kvs) ((kvs.map (·.1)).map keyO) := fun i M1 H os vs s1 R _ => by
  have q : H a = some (.frz o (.dK kvs)) := R.same _ _ (s1 _ _ h)
  have hl : ((kvs.map (·.1)).map keyO).length = kvs.length := by simp
  refine ⟨fun hi => ⟨q, by omega⟩, fun hi => ⟨q, by omega⟩, fun e he x H' y => ?_⟩
  obtain ⟨rfl, k, v, e1, rfl⟩ := y
  rw [List.getElem?_map, List.getElem?_map, e1] at he
  cases he
  exact ⟨M1, Same.refl _, R, keyO_dv k⟩
section
variable {X : Cx} {W : WX} {J : List Nat} {pos p : Pos} {tg : Expr} {i : Nat} {x : Str}
/-- the name's own value -/
def tSl (i : Nat) : TE := fun σ H Q => ∃ v, σ[i]? = some (some v) ∧ Q v H
def tIL (K : PySem.W.Frag) (i : Nat) : TI := fun σ H R => ∃ M ρ fo fv a o kvs, Rep K M H (ρ ++ fo) (σ ++ fv) ∧ σ.length = ρ.length ∧ σ[i]? = some (some (.ref a)) ∧ M a = some (.frz o (.dK kvs)) ∧
  ∀ J, Yld K M [] J ((kvs.map (·.1)).map keyO) → R J H
theorem iKeysL {e : Expr} (h : PE X e (tSl i)) : PI X tg e (tIL X.K i) := PI.imp (pi_keys h) fun σ H R ⟨M, ρ, fo, fv, a, o, kvs, R0, l, es, hM, k⟩ => ⟨_, es, a, o, rfl, .inl ⟨kvs, R0.same _ _ hM, k _ (yld_keys hM)⟩⟩
/-- the loop, the dict being locked -/
def tSL (K : PySem.W.Frag) (W : WX) (J : List Nat) (i : Nat) (gg : D → Ev → Option Ev) (b : Ev → Option Fl) : TS := fun E σ H => ∃ M ρ fo fv r σ0 a o kvs, Rep K M H (ρ ++ fo) (σ ++ fv) ∧ Lk J σ0 σ ρ ∧ σ[i]? = some (some (.ref a)) ∧ M a = some (.frz o (.dK kvs)) ∧
  loop gg b ((kvs.map (·.1)).map keyO) ρ = some r ∧ ends K W J σ0 M fo fv E r
theorem sForL {iter : Expr} {body : List Stmt} {is : List Nat} {g : D → Ev → Option Ev} {b : Ev → Option Fl} (hp : PassesOwn (model X.prog X.w) X.A X.env X.xe) (hc : X.calm = true) (hi : PI X tg iter (tIL X.K i)) (hg : PG X tg (tG X.K is g)) (hb : PSs X body (tS X.K W J b)) (hJ : ∀ i ∈ is, i ∉ J := by decide)
    (hs : ∀ x, foldedSetIterable iter X.env x = pure x := by intro _; rfl) : PS X (.For tg iter body [] pos) (tSL X.K W J i g b) := PS.imp (ps_for hp hc hi hg hb hs) fun E σ H ⟨M, ρ, fo, fv, r, σ0, a, o, kvs, R, l, es, hM, e, k⟩ => by
  obtain ⟨ds, hds⟩ : ∃ ds, (kvs.map (·.1)).map keyO = ds := ⟨_, rfl⟩
  rw [hds] at e
  have s0 : Same M M := Same.refl _
  refine ⟨M, ρ, fo, fv, a, o, kvs, R, l.1, es, hM, fun JJ y => ?_⟩
  rw [hds] at y
  refine ⟨fun i m σ H => m = ds.length - i ∧ i ≤ ds.length ∧ ∃ M1 ρ1, Same M M1 ∧ Rep X.K M1 H (ρ1 ++ fo) (σ ++ fv) ∧ Lk J σ0 σ ρ1 ∧ loop g b (ds.drop i) ρ1 = some r, ⟨ds.length, by omega, Nat.zero_le _, M, ρ, Same.refl _, R, l, by simpa using e⟩, ?_⟩
  rintro i m σ H ⟨rfl, hi, M1, ρ1, s1, R1, l1, e1⟩
  obtain ⟨go, stop, yl⟩ := y i M1 H _ _ s1 R1 (fun r hr => nomatch hr)
  by_cases hlt : i < ds.length
  · have ed : ds.drop i = ds[i] :: ds.drop (i + 1) := List.drop_eq_getElem_cons hlt
    rw [ed] at e1
    unfold loop at e1
    cases q1 : g ds[i] ρ1 with
    | none => rw [q1] at e1; cases e1
    | some ρ2 =>
      rw [q1, Option.bind_some] at e1
      cases q2 : b ρ2 with
      | none => rw [q2] at e1; cases e1
      | some r2 =>
        rw [q2, Option.bind_some] at e1
        refine .inr ⟨go hlt, fun σ' H' => ∃ M1 ρ1, Same M M1 ∧ Rep X.K M1 H' (ρ1 ++ fo) (σ' ++ fv) ∧ Lk J σ0 σ' ρ1 ∧ loop g b (ds.drop (i + 1)) ρ1 = some r, fun σ' H' h => ⟨ds.length - (i + 1), by omega, rfl, hlt, h⟩, fun x H' hy => ?_⟩
        obtain ⟨M2, s2, R2, d2⟩ := yl ds[i] (List.getElem?_eq_getElem hlt) x H' hy
        refine ⟨M2, ρ1, fo, fv, ds[i], ρ2, R2, l1.1, d2, q1, fun σ3 a3 l3 r3 R3 => ?_⟩
        have s02 : Same M M2 := s0.trans (s1.trans s2)
        refine ⟨M2, ρ2, fo, fv, r2, σ0, R3, l1.to l3 r3 a3 hJ, q2, ?_⟩
        cases r2 with
        | nx ρ4 => exact fun M4 H4 σ4 s4 R4 l4 => ⟨M4, ρ4, s1.trans (s2.trans s4), R4, l4, e1⟩
        | ct ρ4 => exact fun M4 H4 σ4 s4 R4 l4 => ⟨M4, ρ4, s1.trans (s2.trans s4), R4, l4, e1⟩
        | bk ρ4 => cases e1; exact fun M4 H4 σ4 s4 R4 l4 => k M4 H4 σ4 (s02.trans s4) R4 l4
        | rt o ρ4 => cases e1; exact fun M4 H4 σ4 v s4 R4 l4 => k M4 H4 σ4 v (s02.trans s4) R4 l4
        | ex x ρ4 => cases e1; exact fun M4 H4 σ4 cls d s4 R4 l4 => k M4 H4 σ4 cls d (s02.trans s4) R4 l4
  · have ei : i = ds.length := by omega
    rw [ei, List.drop_length] at e1
    cases e1
    exact .inl ⟨stop ei, k M1 H σ (s0.trans s1) R1 l1⟩

def noEx : Fl → Option Fl
  | .ex _ _ => none
  | r => some r
def forK (i : Nat) (g : D → Ev → Option Ev) (b : Ev → Option Fl) (ρ : Ev) : Option Fl := (keysOf i ρ).bind fun ds => (loop g b ds ρ).bind noEx
theorem noEx_eq {r r' : Fl} (h : noEx r = some r') : r = r' ∧ ∀ x ρ, r ≠ .ex x ρ := by
  cases r with
  | ex x ρ => cases h
  | nx ρ => cases h; exact ⟨rfl, fun _ _ z => nomatch z⟩
  | rt o ρ => cases h; exact ⟨rfl, fun _ _ z => nomatch z⟩
  | bk ρ => cases h; exact ⟨rfl, fun _ _ z => nomatch z⟩
  | ct ρ => cases h; exact ⟨rfl, fun _ _ z => nomatch z⟩
theorem sForK {iter : Expr} {body : List Stmt} {is : List Nat} {g : D → Ev → Option Ev} {b : Ev → Option Fl} (hp : PassesOwn (model X.prog X.w) X.A X.env X.xe) (hc : X.calm = true) (hn : PE X iter (tSl i)) (hg : PG X tg (tG X.K is g)) (hb : PSs X body (tS X.K W J b)) (hJ : ∀ i ∈ is, i ∉ J := by decide)
    (hs : ∀ x, foldedSetIterable iter X.env x = pure x := by intro _; rfl) : PS X (.For tg iter body [] pos) (tS X.K W J (forK i g b)) :=
  PS.imp (PS.or (sForL hp hc (iKeysL hn) hg hb hJ hs) (ps_lock (sForL hp hc (iKeysL hn) hg hb hJ hs))) fun E σ H ⟨M, ρ, fo, fv, r, σ0, R, l, e, k⟩ => by
    unfold forK at e
    cases qk : keysOf i ρ with
    | none => rw [qk] at e; cases e
    | some ds =>
      rw [qk, Option.bind_some] at e
      unfold keysOf at qk
      split at qk
      · rename_i ks vs e'
        cases qk
        cases ql : loop g b (ks.map keyO) ρ with
        | none => rw [ql] at e; cases e
        | some r1 =>
          rw [ql, Option.bind_some] at e
          obtain ⟨rfl, nx⟩ := noEx_eq e
          obtain ⟨v, ev, dv⟩ := R.slot l.1 e'
          cases dv with
          | @dic a kvs _ _ hM hk hd =>
            subst hk
            rcases hM with hM | ⟨o, hM⟩
            · refine .inr ⟨a, .dK kvs, R.same _ _ hM, trivial, fun od => ⟨upd M a (.frz od (.dK kvs)), ρ, fo, fv, r1, σ0, a, od, kvs, R.relock hM ⟨fun b hb => upd_ne hb, .inl hM, .inr ⟨od, upd_same⟩⟩, l, ev, upd_same, ql, ?_⟩⟩
              have back : ∀ {M' H' : Hp} {os : List O} {ws : List (Option V)}, Same (upd M a (.frz od (.dK kvs))) M' → Rep X.K M' H' os ws → H' a = some (.frz od (.dK kvs)) ∧ Same M (upd M' a (.dK kvs)) ∧ Rep X.K (upd M' a (.dK kvs)) (upd H' a (.dK kvs)) os ws := fun {M' H' os ws} s' R' => by
                have hm : M' a = some (.frz od (.dK kvs)) := s' _ _ upd_same
                refine ⟨R'.same _ _ hm, fun b u hb => ?_, R'.relock hm ⟨fun b hb => upd_ne hb, .inr ⟨od, hm⟩, .inl upd_same⟩⟩
                by_cases z : b = a
                · subst z; rw [hM] at hb; cases hb; exact upd_same
                · rw [upd_ne z]; exact s' _ _ (by rw [upd_ne z]; exact hb)
              cases r1 with
              | nx ρ1 => exact fun M' H' σ' s' R' l' => let ⟨a1, a2, a3⟩ := back s' R'; ⟨a1, k _ _ σ' a2 a3 l'⟩
              | bk ρ1 => exact fun M' H' σ' s' R' l' => let ⟨a1, a2, a3⟩ := back s' R'; ⟨a1, k _ _ σ' a2 a3 l'⟩
              | ct ρ1 => exact fun M' H' σ' s' R' l' => let ⟨a1, a2, a3⟩ := back s' R'; ⟨a1, k _ _ σ' a2 a3 l'⟩
              | rt o ρ1 => exact fun M' H' σ' v s' R' l' => let ⟨a1, a2, a3⟩ := back s' R'; ⟨a1, k _ _ σ' v a2 a3 l'⟩
              | ex x ρ1 => exact absurd rfl (nx _ _)
            · exact .inl ⟨M, ρ, fo, fv, r1, σ0, a, o, kvs, R, l, ev, hM, ql, k⟩
      · cases qk
theorem pSlot (i : Nat) {x : Str} {pos : Pos} (hN : X.N[i]? = some x := by rfl) (hv : Vis X.env.scope x := by first | exact Or.inl rfl | exact Or.inr (Or.inl rfl) | exact Or.inr (Or.inr rfl)) (hd : (x == ("__debug__" : Str)) = false := by decide)
    (hcd : (x == ("__classdict__" : Str)) = false := by decide) : PE X (.Name x pos) (tSl i) := pe_var hN hv hd hcd
end
end PD

namespace PD
open PySem PySem.Spec L2

/-! ### the evaluator for the newer parts -/
section
variable {ρ r : Ev} {fa fb : Ev → Option D} {c : Ev → Option Bool} {fo : Ev → Option O} {x y : D} {i : Nat} {o : O}
theorem ew_mulW {i j : Int} (h : i.natAbs.log2 + j.natAbs.log2 < 1000000) : mulA (.int i) (.int j) = some (.int (i * j)) := by
  have e : mulW (.int i) (.int j) = some (.int (i * j)) := by
    show (if decide (i.natAbs.log2 + j.natAbs.log2 < 1000000) = true then some (D.int (i * j)) else none) = _
    rw [if_pos (decide_eq_true h)]
  unfold mulA orD
  split
  · rename_i d q
    have : mulI (.int i) (.int j) = some (.int (i * j)) ∨ mulI (.int i) (.int j) = none := by
      by_cases hm : okMul i j = true
      · exact .inl (if_pos hm)
      · exact .inr (if_neg hm)
    rcases this with z | z
    · rw [z] at q; exact q.symm ▸ rfl
    · rw [z] at q; cases q
  · exact e
end
/-! ### running the newer statements -/
section
variable {f g b : Ev → Option Fl} {ρ : Ev} {Q : Fl → Prop} {i : Nat}
theorem Rn.rtM {e : Ev → Option (O × Ev)} {o : O} {ρ' : Ev} (h : e ρ = some (o, ρ')) (k : Q (.rt o ρ')) : Rn (PD.rtM e) ρ Q := ⟨_, by unfold PD.rtM; rw [h]; rfl, k⟩
end
/-! ### comprehensions of own things, over typed lists -/
section
variable {ρ : Ev} {fi : Ev → Option (List D)} {gt : D → Ev → Option Ev} {t : Ev → Option Bool} {f : Ev → Option O} {vs : List Nat}
end
/-! ### own dicts of data -/
def O.dicD (ks : List Key) (ds : List D) : O := .dic ks (ds.map .dat)
theorem toD_dicD (ks : List Key) (ds : List D) : (O.dicD ks ds).toD = some (.dic ks ds) := by
  unfold O.dicD O.toD
  rw [toDs_dat]; rfl
theorem ew_vwk (ks : List Key) (ds : List D) : O.vw (O.dicD ks ds) = .dat (.dic ks ds) := by
  unfold O.vw
  rw [toD_dicD]
theorem dlook_find {α : Type} (κ : α → Key) (φ : α → D) (k : Key) : ∀ xs : List α, dlook k (xs.map κ) (xs.map φ) = (xs.find? fun x => decide (κ x = k)).map φ
  | [] => rfl
  | x :: xs => by
    rw [List.map_cons, List.map_cons, List.find?_cons]
    unfold dlook
    by_cases h : κ x = k
    · rw [if_pos h, decide_eq_true h]; rfl
    · rw [if_neg h, decide_eq_false h]; exact dlook_find κ φ k xs
theorem Rn.dputN {i : Nat} {ρ : Ev} {Q : Fl → Prop} {fk fv : Ev → Option D} {y d : D} {k : Key} {ks : List Key} {ds : List D} (h0 : ρ[i]? = some (O.dicD ks ds)) (hv : fv ρ = some d) (hy : fk ρ = some y) (hk : keyD y = some k) (hn : k ∉ ks) (hl : ds.length < 1000000)
    (q : Q (.nx (ρ.set i (O.dicD (ks ++ [k]) (ds ++ [d]))))) : Rn (dput i fk fv) ρ Q := by
  refine ⟨_, ?_, q⟩
  have e : (ks.any fun k' => decide (k' = k)) = false := by
    rw [List.any_eq_false]
    intro x hx
    simp only [decide_eq_true_eq]
    exact fun z => hn (z ▸ hx)
  unfold dput
  rw [hv, Option.bind_some, hy, Option.bind_some, hk, Option.bind_some, h0]
  simp only [O.dicD]
  rw [if_pos (by rw [List.length_map]; exact Nat.lt_of_lt_of_le hl (by decide))]
  unfold putKD
  rw [e]
  simp only [Bool.false_eq_true, if_false, List.map_append, List.map_cons, List.map_nil]
end PD

namespace PD
open PySem PySem.Spec L2
/-! ### what all laws draw with -/
end PD

namespace PD
open PySem PySem.Spec L2
/-! ### == of plain data: ints, texts, None, lists and tuples of them, not deeper than k -/
mutual
def D.plain (k : Nat) : D → Bool
  | .non => true
  | .int _ => true
  | .str x => PyData.canLay0 (.str x)
  | .lst ds => decide (D.deeps ds < k) && D.plains k ds
  | .tup ds => decide (D.deeps ds < k) && D.plains k ds
  | _ => false
def D.plains (k : Nat) : List D → Bool
  | [] => true
  | d :: ds => D.plain k d && D.plains k ds
def D.deep : D → Nat
  | .lst ds => D.deeps ds + 1
  | .tup ds => D.deeps ds + 1
  | _ => 0
def D.deeps : List D → Nat
  | [] => 0
  | d :: ds => max d.deep (D.deeps ds)
end
end PD

namespace PD
open PySem PySem.Spec L2
/-! ### running what may raise -/
section
variable {f g b : Ev → Option Fl} {ρ : Ev} {Q : Fl → Prop} {i : Nat} {h : Ev → Option Rz}
theorem Rn.drpX {o : O} (e : h ρ = some (.ok o)) (k : Q (.nx ρ)) : Rn (PD.drpX h) ρ Q := ⟨_, by unfold PD.drpX; rw [e]; rfl, k⟩
/-- the body raises, the suite takes it -/
theorem Rn.tryX {tb : List (Addr × Bool)} {sm : Addr → Option Addr → Value → Ev → Option Fl} {x : Exn} {ρ1 : Ev} {r2 : Fl} (e : b ρ = some (.ex x ρ1)) (hm : mtc tb x.cls = some true) (hs : ∀ a da, Rn (sm a (exnA da x) x.cls) (ρ1.set i (.dat (exnD a da x))) fun r => unX i r = some r2) (k : Q r2) : Rn (tryS tb i b sm) ρ Q := by
  refine ⟨r2, ?_, k⟩
  unfold tryS
  rw [e, Option.bind_some]
  show ((mtc tb x.cls).bind fun t => if t = true then suiteS i sm x ρ1 else some (.ex x ρ1)) = _
  rw [hm, Option.bind_some, if_pos rfl, suiteS_of fun a da => (by obtain ⟨r, e1, e2⟩ := hs a da; rw [e1]; exact e2)]
theorem Rn.tryN {tb : List (Addr × Bool)} {sm : Addr → Option Addr → Value → Ev → Option Fl} {ρ1 : Ev} (e : b ρ = some (.nx ρ1)) (k : Q (.nx ρ1)) : Rn (tryS tb i b sm) ρ Q := ⟨_, by unfold tryS; rw [e]; rfl, k⟩
theorem mtc1 (C : Addr) (t : Bool) : mtc [(C, t)] (.ref C) = some t := by
  show List.lookup C [(C, t)] = _
  rw [List.lookup_cons]; simp
theorem runX_ok {n : Nat} {ds : List D} {z : Rz} (h : Rn b (env0 n ds) fun r => outX r = some z) : runX n b ds = some z := by
  obtain ⟨r, e, h1⟩ := h
  unfold runX
  rw [e]; exact h1
end
end PD

namespace PD
open PySem PySem.Spec PyProof.Rows L2
/-! ### zip of two lists -/
section
variable {X : Cx} {pos p tpos : Pos} {e e2 : Expr} {elts : List Expr} {kk : Nat} {ga : Ev → Option (List D)}
/-! ### // by any divisor but 0, below 2 ^ 9000 -/
end
end PD

namespace PD
open PySem PySem.Spec PyProof.Rows L2
/-! ### x = a place inside an own thing; x.append(e): both statements at once -/
section
variable {X : Cx} {W : WX} {J : List Nat} {pos pos' pos1 apos cpos px : Pos} {b e : Expr} {i j : Nat} {pf : Ev → Option (List Nat)} {f : Ev → Option O}
end
end PD

namespace PD
open PySem PySem.Spec PyProof.Rows L2
/-! ### (a, b, ..) = a call that may raise -/
section
variable {X : Cx} {W : WX} {J : List Nat} {pos : Pos} {tg e : Expr} {h : Ev → Option Rz}
end
section
variable {ρ : Ev} {Q : Fl → Prop} {h : Ev → Option Rz} {t : D → Ev → Option Ev} {f : Ev → Option Fl}
end
end PD

namespace PD
open PySem PySem.Spec PyProof.Rows L2
/-! ### for x in t: if isinstance(x, list): x.append(e) -- t an own tuple -/
def grow (y : O) : O → O
  | .lst os => .lst (os ++ [y])
  | o => o
section
variable {X : Cx} {W : WX} {J : List Nat} {pos epos ipos fpos apos cpos p0 pt px px' pi pl : Pos} {e : Expr} {i j : Nat} {f : Ev → Option O} {y : O}
end
end PD

namespace PD
open PySem PySem.Spec PyProof.Rows L2
/-! ### f(k=v, ..), f may raise -/
section
variable {X : Cx} {W : WX} {x : Str} {f : Addr} {fd : FuncData} {ps : List Str} {k n : Nat} {p pos : Pos} {m : List D → Option Rz} {ga : Ev → Option (List D)}
end
end PD

namespace PD
open PySem PySem.Spec PyProof.Rows L2 HotX L2H

/-! ### an iterator ends while an exception is handled -/
section
variable {prog : Program} {w : World} {A : Around} {E : Value → Shared → Prop} {s : Shared}
/-! ### the items of an unpacking -/
end

/-! ### the rules: turns, iterators, targets -/
section
variable {X : Cx} {pins : List (Addr × Obj)} {σ : L2.St} {H : Hp} {s : Shared}
theorem PIH.imp {tg e : Expr} {t t' : TI} (h : PIH X tg e t) (i : ∀ σ H R, t' σ H R → t σ H R) : PIH X tg e t' := ⟨fun p s σ H R I w => h.run p s σ H R I (i σ H R w)⟩
theorem PIH.or {tg e : Expr} {t t' : TI} (h : PIH X tg e t) (h' : PIH X tg e t') : PIH X tg e (fun σ H R => t σ H R ∨ t' σ H R) := ⟨fun p s σ H R I w => w.elim (h.run p s σ H R I) (h'.run p s σ H R I)⟩
/-! ### sum, any, all -/
end
end PD

namespace PD
open PySem PySem.Spec PyProof.Rows L2 HotX L2H

/-! ### a comprehension's block while an exception is handled: the handled one stays pinned -/
section
variable {X : Cx} {pins : List (Addr × Obj)} {σ : L2.St} {H : Hp} {s : Shared}
variable {elt tg iter : Expr} {ifs : List Expr} {scope : Scope} {own : List (Str × Nat)} {wi : TI} {g : TG} {tt : TT} {te : TE} {p : Addr × Obj} {fp : List Addr} {it D : Addr} {J : It} {tn : Nat → Heap → Prop} {W : Nat → Nat → Hp → Prop} {Q : VK} {vs : List Nat} {s0 : Shared} {H0 : Hp} {ce : Env}
end
section
variable {X : Cx} {elt tg iter : Expr} {ifs : List Expr} {scope : Scope} {own : List (Str × Nat)} {wi : TI} {g : TG} {tt : TT} {te : TE} {pos spos py : Pos}
end
end PD

namespace PD
open PySem PySem.Spec PyProof.Rows L2 HotX L2H
/-! ### texts and ranges walked while an exception is handled -/
section
variable {prog : Program} {w : World} {A : Around} {E : Value → Shared → Prop} {s : Shared}
end
section
variable {X : Cx} {pins : List (Addr × Obj)} {σ : L2.St} {H : Hp} {s : Shared}
end

/-! ### the rules by data -/
section
variable {X : Cx} {W : WX} {J : List Nat} {pos : Pos} {tg e : Expr} {f : Ev → Option D}
end
section
variable {X : Cx} {W : WX} {J : List Nat} {pos : Pos} {tg iter elt : Expr} {ifs : List Expr} {scope : Scope} {fi : Ev → Option (List D)} {is kn : List Nat} {g : D → Ev → Option Ev} {t : Ev → Option Bool} {f : Ev → Option D}
end
section
variable {X : Cx}
end
theorem _root_.L2H.RoomH.units {k : Nat} {A : Around} (r : RoomH k A) : A.units + 64 < cLine := by have := r.un; omega
section
variable {P : Program} {w : World} {K : PySem.W.Frag} {mg : Str → Option Value} {base : Heap} {x qual : Str} {st : Stmt} {f : Addr} {fd : FuncData} {N ps : List Str} {k : Nat} {b : Ev → Option Fl}
theorem FnH.imp {sp sp' : Sp} {CX : CXT} (F : FnH P w K mg base CX k f fd ps sp) (h : ∀ vs H Q E, sp' vs H Q E → sp vs H Q E) : FnH P w K mg base CX k f fd ps sp' :=
  ⟨fun vs H Q E z => F.len vs H Q E (h _ _ _ _ z), fun A outer s H args us vs Q E p hr hot hp e0 hb r hsp => F.run A outer s H args us vs Q E p hr hot hp e0 hb r (h _ _ _ _ hsp)⟩
end
section
variable {X : Cx} {pos p : Pos} {e : Expr} {es : List Expr} {ga : Ev → Option (List D)} {k : Nat} {f : Addr} {fd : FuncData} {ps : List Str} {x : Str} {n : Nat}
theorem takesN0 {X : Cx} : L2N.Takes X W0 := fun _ _ ⟨_, _, _, _, _, _, _, _, _, _, _, _, _, _, _, _, z⟩ => z.elim
end
end PD

namespace PD
open PySem PySem.Spec PyProof.Rows L2
/-! ### marks taken off -/
section
variable {K : PySem.W.Frag} {M : Hp}
end
/-! ### lists of ints that are new since M0 -/
def newL (M0 : Hp) (L : List Int) : Hp → V → Prop := fun M v => ∃ a, v = .ref a ∧ M0 a = none ∧ M a = some (.lst (L.map .int))
abbrev inL (L : List Int) : O := O.lst ((L.map D.int).map .dat)
abbrev newD (M0 : Hp) (L : List Int) : D := .tagP (newL M0 L) (.lst (L.map .int))
section
variable {K : PySem.W.Frag} {M H : Hp}
end
end PD

namespace PD
open PySem PySem.Spec L2
/-! ### a comprehension with two clauses -/
section
variable {fi fi1 : Ev → Option (List D)} {is is1 vs vs1 : List Nat} {g g1 : D → Ev → Option Ev} {t t1 : Ev → Option Bool} {f : Ev → Option D}
end
section
variable {X : Cx} {W : WX} {J : List Nat} {pos spos py : Pos} {tg iter tg1 iter1 elt : Expr} {ifs ifs1 : List Expr} {scope : Scope} {fi fi1 : Ev → Option (List D)} {is is1 : List Nat} {g g1 : D → Ev → Option Ev} {t t1 : Ev → Option Bool} {f : Ev → Option D}
/-! ### the truth of data -/
end
end PD

namespace PD
open PySem PySem.Spec PyProof.Rows L2
/-! ### calls of a def whose first argument knows since when things are new -/
def tag0 (M0 : Hp) : List D → List D
  | d :: ds => .tagM M0 d :: ds
  | [] => []
abbrev newLs (M0 : Hp) (Ls : List (List Int)) : O := .lst (Ls.map fun L => .dat (newD M0 L))
/-- what the def gives, whatever is frozen: lists of ints, all new -/
def GivesNew (m : List D → Option O) (n : Nat) (ds : List D) (Ls : List (List Int)) : Prop := ds.length = n ∧ ∀ M0, m (tag0 M0 ds) = some (newLs M0 Ls)
open Classical in
noncomputable def cN (ga : Ev → Option (List D)) (n : Nat) (m : List D → Option O) (ρ : Ev) : Option O := (ga ρ).bind fun ds => if h : ∃ Ls, GivesNew m n ds Ls ∧ Ls.Nodup then some (.lst (h.choose.map inL)) else none
section
variable {X : Cx} {W : WX} {J : List Nat} {pos p : Pos} {e : Expr} {es : List Expr} {ga : Ev → Option (List D)} {k : Nat} {f : Addr} {fd : FuncData} {ps : List Str} {x : Str} {n : Nat}
end
end PD

namespace PD
open PySem PySem.Spec PyProof.Rows L2
/-! ### for x in t: x.append(e) -- t an own list of own lists -/
section
variable {X : Cx} {W : WX} {J : List Nat} {epos fpos apos cpos p0 pt px : Pos} {e : Expr} {i j : Nat} {f : Ev → Option O} {y : O}
end
end PD

namespace PySem
namespace F
end F
end PySem
namespace PD
open PySem PySem.Spec PyProof.Rows L2
/-! ### list(zip(a, b)) -/
/-- a zip over two lists: untouched, or with its last tuple out -/
def ZSt (z TI TO i1 i2 a b : Addr) (its1 its2 : Array Value) (i : Nat) (h : Heap) : Prop :=
  ((IsZip h z TI TO .none ∧ ∃ p q, IsPair h TO p q) ∨ ∃ T f oT, IsZipHeld h z TI TO T f ∧ h.get? T = some oT ∧ T ≠ z ∧ T ≠ i1 ∧ T ≠ i2) ∧ IsPair h TI (.ref i1) (.ref i2) ∧ h.IsListIter i1 a i ∧ h.IsListIter i2 b i ∧ h.IsList a its1 ∧ h.IsList b its2
theorem ZSt.end_ {prog : Program} {w : World} {A : Around} {E : Value → Shared → Prop} {s : Shared} {z TI TO i1 i2 a b : Addr} {its1 its2 : Array Value} {i : Nat} {Q : Option Value → Shared → Prop} (hh : A.handled = none) (D : ZipApart z TI TO i1 i2 a b) (st : ZSt z TI TO i1 i2 a b its1 its2 i s.heap)
    (hend : its1[i]? = none ∨ its2[i]? = none)
    (hQ : ∀ h', (∀ c o, c ∉ [z, TI, TO, i1, i2] → s.heap.get? c = some o → h'.get? c = some o) → Q none { s with heap := h' }) :
    wpAny (model prog w) A (pyNext (.ref z)) Q E s := by
  obtain ⟨h0, hTI, h1, h2, l1, l2⟩ := st
  rcases h0 with ⟨hz, p, q, hTO⟩ | ⟨T, f, oT, hz, hT, t1, t2, t3⟩
  · exact wpAny_pyNext_zip_end hh D hz hTI hTO h1 h2 l1 l2 hend fun h' hk => hQ h' fun c o hc e => hk c o (fun q => hc (by simp [q])) (fun q => hc (by simp [q])) (fun q => hc (by simp [q])) (fun q => hc (by simp [q])) e
  · exact wpAny_pyNext_zip_end_held hh D hz hT hTI h1 h2 l1 l2 hend fun h' hk => hQ h' fun c o hc e => hk c o (fun q => hc (by simp [q])) (fun q => hc (by simp [q])) (fun q => hc (by simp [q])) e
/-- what the loop has made after i turns: the tuples -/
inductive Zs (xs ys : List V) (G0 : Hp) (S : Addr) : Nat → Hp → List V → Prop
  | nil : Zs xs ys G0 S 0 G0 []
  | snoc {i : Nat} {G : Hp} {vs : List V} {x y : V} {T : Addr} : Zs xs ys G0 S i G vs → xs[i]? = some x → ys[i]? = some y → G T = none → T ≠ S → Zs xs ys G0 S (i + 1) (upd G T (.tup [x, y])) (vs ++ [.ref T])
theorem Zs.len {xs ys : List V} {G0 G : Hp} {S : Addr} {i : Nat} {vs : List V} (h : Zs xs ys G0 S i G vs) : vs.length = i := by
  induction h with
  | nil => rfl
  | snoc _ _ _ _ _ ih => rw [List.length_append, ih]; rfl
section
variable {X : Cx} {A : Around} {pins : List (Addr × Obj)} {σ : L2.St} {z TI TO i1 i2 a b S : Addr} {xs ys : List V} {its1 its2 : List Value} {n : Nat} {G0 : Hp} {R : Result → Shared → Prop} {res : Value}
end
section
variable {X : Cx} {pins : List (Addr × Obj)} {σ : L2.St} {z TI TO i1 i2 a b : Addr} {xs ys : List V} {its1 its2 : List Value} {n : Nat} {H : Hp} {Q : VK}
end
section
variable {X : Cx} {e e2 : Expr} {ta : TA} {p p2 pos pos2 : Pos}
end
end PD

namespace PD
open PySem PySem.Spec PyProof.Rows L2
/-! ### d.get(k), d.get(k, z) -/
section
variable {X : Cx} {a b c : Expr} {fa fb fc : Ev → Option D} {apos cpos : Pos}
end
end PD

namespace PD
open PySem PySem.Spec PyProof.Rows L2
/-! ### C(e, .., k=v, ..) -/
section
variable {X : Cx} {pos p : Pos} {e : Expr} {es : List Expr} {kws : List Keyword} {ga gk : Ev → Option (List D)} {k n : Nat} {f C : Addr} {fd : FuncData} {ps ks : List Str} {x : Str} {g : List Value → List Value → List Value}
end
/-! ### an __init__ with defaults -/
section
variable {P : Program} {w : World} {K : PySem.W.Frag} {mg : Str → Option Value} {base : Heap}
end
end PD

namespace PD
open PySem PySem.Spec PyProof.Rows L2
/-! ### max(l, default=z), min(l, default=z) -/
section
variable {X : Cx} {pos p : Pos} {e : Expr} {es : List Expr} {kws : List Keyword} {ga gk : Ev → Option (List D)} {x : Str} {id : String} {op : Int → Int → Int}
end
end PD

namespace PD
open PySem PySem.Spec PyProof.Rows L2
/-! ### a zip over any two drawers, its last tuple still out -/
section
variable {prog : Program} {w : World} {A : Around} {E : Value → Shared → Prop} {s : Shared} {z TI TO T i1 i2 : Addr} {fp1 fp2 : List Addr} {n1 n2 i : Nat} {P1 P2 : Nat → Value → Prop} {St1 St2 : Nat → Heap → Prop} {f : Bool} {oT : Obj}
end
end PD

namespace PD
open PySem PySem.Spec PyProof.Rows L2
/-! ### dict(zip(t, u)) of two tuples -/
section
variable {X : Cx} {e e2 : Expr} {ta : TA} {p p2 pos pos2 : Pos}
end
section
variable {X : Cx} {e e2 : Expr} {p p2 pos pos2 : Pos}
end
end PD

namespace PD
open PySem PySem.Spec PyProof.Rows L2
/-! ### {k: v for .. in ..} -/
theorem Rep.putAt {K : PySem.W.Frag} {M H : Hp} {ρ fo : List O} {σ fv : List (Option V)} (R : Rep K M H (ρ ++ fo) (σ ++ fv)) (l : σ.length = ρ.length) {i : Nat} {ks : List Key} {os : List O} (eo : ρ[i]? = some (.dic ks os)) :
    ∃ a kvs, σ[i]? = some (some (.ref a)) ∧ H a = some (.dK kvs) ∧ kvs.length = os.length ∧ ∀ k v d, Dv K M v d → Rep K M (upd H a (.dK (putK kvs k v))) (ρ.set i (.dic (putKD k d ks os).1 (putKD k d ks os).2) ++ fo) (σ ++ fv) := by
  have R2' : Rep K M H (ρ ++ ([] ++ fo)) (σ ++ ([] ++ fv)) := R
  obtain ⟨w', f1', ft', ew', h1', h2', nd, nm, up⟩ := R2'.own l rfl eo
  cases h2'
  cases h1' with
  | @dic a kvs' _ _ fp' ha' hk' ws' =>
    have hlk : kvs'.length = os.length := by rw [← ws'.length, List.length_map]
    refine ⟨a, kvs', ew', ha', hlk, fun kk v d dv => ?_⟩
    have hd : ∀ b ∈ fp', b ≠ a := fun b hb z => by
      subst z
      rw [List.nodup_iff_count] at nd
      have := nd b
      simp only [List.append_nil, List.count_cons, beq_self_eq_true, if_true] at this
      have := List.count_pos_iff.mpr hb
      omega
    have ma : M a = none := nm a (by simp)
    have sm : Same M (upd H a (.dK (putK kvs' kk v))) := fun b u z => by
      rw [upd_ne (fun y => by subst y; rw [ma] at z; cases z)]; exact R.same b u z
    obtain ⟨fp2, w2, c2⟩ := putKD_ows (k := kk) dv (ws'.frame (Same.refl _) (H' := upd H a (.dK (putK kvs' kk v))) fun b hb => upd_ne (hd b hb))
    refine up M _ _ (a :: fp2) (Same.refl _) sm (fun b hb _ => upd_ne fun z => hb (by simp [z])) (.dic upd_same ?_ ?_) (fun b => ?_) fun b hb _ => hb
    · rw [putKD_keys (d := d) (os := os), hk']
    · rw [hk'] at w2; exact w2
    · have := c2 b
      simp only [List.count_cons, List.count_nil] at this ⊢
      omega
section
variable {X : Cx} {pos : Pos} {tg iter kx vx : Expr} {ifs : List Expr} {scope : Scope} {own : List (Str × Nat)} {fi : Ev → Option (List D)} {is kn : List Nat} {g : D → Ev → Option Ev} {t : Ev → Option Bool} {fk fv : Ev → Option D}
end
end PD

namespace PD
open PySem PySem.Spec PyProof.Rows L2
/-! ### a call as a statement -/
def doV (f : Ev → Option D) (ρ : Ev) : Option Fl := (f ρ).map fun _ => .nx ρ
section
variable {X : Cx} {W : WX} {J : List Nat} {pos : Pos} {e : Expr} {f : Ev → Option D}
end
end PD

namespace PD
open PySem PySem.Spec PyProof.Rows L2
/-! ### x = {k: v for .. in ..} on one line -/
section
variable {X : Cx} {elt tg iter kx vx : Expr} {ifs : List Expr} {scope : Scope} {own : List (Str × Nat)} {pos spos py : Pos}
variable {W : WX} {J : List Nat} {fi : Ev → Option (List D)} {is kn : List Nat} {g : D → Ev → Option Ev} {t : Ev → Option Bool} {fk fv : Ev → Option D}
end
/-! ### a, b, c = e, f, g -/
section
variable {X : Cx} {W : WX} {J : List Nat} {a b c : Expr} {pos px py pz pt pt2 : Pos} {ga : Ev → Option (List D)} {i j m kt k2 : Nat} {x y z : Str}
end
end PD

namespace PD
open PySem PySem.Spec PyProof.Rows L2
/-! ### xs[::-1], a new list -/
section
variable {X : Cx} {pos : Pos} {e : Expr} {fa : Ev → Option D}
end
end PD

namespace PD
open PySem PySem.Spec PyProof.Rows L2
/-! ### list(d): the keys of a dict -/
end PD

/-! a def to which things of one's own are given away (they may be its result) -/
namespace PD
open PySem PySem.Spec L2 L2H
section
variable {P : Program} {w : World} {K : PySem.W.Frag} {mg : Str → Option Value} {base : Heap}
end
section
variable {X : Cx} {k n : Nat} {f : Addr} {fd : FuncData} {ps : List Str} {x : Str} {p pos : Pos} {e : Expr} {es : List Expr} {g : Ev → Option (List O × Ev)}
end
/-! ### is, is not: two truth values -/
/-! ### what stands at a place of a thing of one's own, if it is data -/
end PD

/-! expressions that may raise, anywhere within an expression -/
namespace PD
open PySem PySem.Spec L2 L2H
inductive Rd where
  | ok (d : D) | ex (x : Exn)
inductive Rs where
  | ok (ds : List D) | ex (x : Exn)
def tXe (K : PySem.W.Frag) (W : WX) (f : Ev → Option Rd) : TE := fun σ H Q => ∃ M ρ fo fv r, Rep K M H (ρ ++ fo) (σ ++ fv) ∧ σ.length = ρ.length ∧ f ρ = some r ∧ match r with
  | .ok d => ∀ M' H' v, Same M M' → Rep K M' H' (ρ ++ fo) (σ ++ fv) → Dv K M' v d → Q v H'
  | .ex x => ∀ M' H' cls d, Same M M' → Rep K M' H' (ρ ++ fo) (σ ++ fv) → ExR K M' x cls d → W cls d σ H'
def tAXe (K : PySem.W.Frag) (W : WX) (f : Ev → Option Rs) : TA := fun σ H Q => ∃ M ρ fo fv r, Rep K M H (ρ ++ fo) (σ ++ fv) ∧ σ.length = ρ.length ∧ f ρ = some r ∧ match r with
  | .ok ds => ∀ M' H' vs, Same M M' → Rep K M' H' (ρ ++ fo) (σ ++ fv) → Dvs K M' vs ds → Q vs H'
  | .ex x => ∀ M' H' cls d, Same M M' → Rep K M' H' (ρ ++ fo) (σ ++ fv) → ExR K M' x cls d → W cls d σ H'
def eV (f : Ev → Option D) (ρ : Ev) : Option Rd := (f ρ).map .ok
def e1 (f : Ev → Option Rd) (h : D → Option D) (ρ : Ev) : Option Rd := (f ρ).bind fun r => match r with
  | .ok d => (h d).map .ok
  | .ex x => some (.ex x)
def e2 (f g : Ev → Option Rd) (h : D → D → Option D) (ρ : Ev) : Option Rd := (f ρ).bind fun r => match r with
  | .ok d => (g ρ).bind fun r2 => match r2 with
    | .ok e => (h d e).map .ok
    | .ex x => some (.ex x)
  | .ex x => some (.ex x)
def eNil (_ : Ev) : Option Rs := some (.ok [])
def eCons (f : Ev → Option Rd) (g : Ev → Option Rs) (ρ : Ev) : Option Rs := (f ρ).bind fun r => match r with
  | .ok d => (g ρ).bind fun r2 => match r2 with
    | .ok ds => some (.ok (d :: ds))
    | .ex x => some (.ex x)
  | .ex x => some (.ex x)
def eMX (C : Addr) (nm : Str) (fo : Ev → Option Rd) (ga : Ev → Option Rs) (n : Nat) (m : List D → Option Rz) (ρ : Ev) : Option Rz := (fo ρ).bind fun r => match r with
  | .ok (.obj C' ks ds) => if C' = C ∧ (ks.zip ds).lookup nm = none then (ga ρ).bind fun r2 => match r2 with
    | .ok as => if as.length + 1 = n then m (.obj C' ks ds :: as) else none
    | .ex x => some (.ex x) else none
  | .ok _ => none
  | .ex x => some (.ex x)
section
variable {X : Cx} {W : WX} {J : List Nat} {a b e : Expr} {es : List Expr} {pos p : Pos} {f g : Ev → Option Rd} {gs : Ev → Option Rs}
theorem xV {f : Ev → Option D} (h : PE X e (tP X.K f)) : PE X e (tXe X.K W (eV f)) := PE.imp h fun σ H Q ⟨M, ρ, fo, fv, r, R, l, e, k⟩ => by
  unfold eV at e
  cases q : f ρ with
  | none => rw [q] at e; cases e
  | some d => rw [q] at e; cases e; exact ⟨M, ρ, fo, fv, d, R, l, q, k⟩
theorem xNil : PA X [] (tAXe X.K W eNil) := PA.imp pa_nil fun σ H Q ⟨M, ρ, fo, fv, r, R, l, e, k⟩ => by
  cases e
  exact k M H [] (Same.refl _) R .nil
theorem xCons (ha : PE X a (tXe X.K W f)) (hr : PA X es (tAXe X.K W gs)) (hs : starEach (a :: es) X.env = (false, eval a X.env) :: starEach es X.env := by rfl) : PA X (a :: es) (tAXe X.K W (eCons f gs)) := PA.imp (pa_cons ha hr hs) fun σ H Q ⟨M, ρ, fo, fv, r, R, l, e, k⟩ => by
  unfold eCons at e
  cases q : f ρ with
  | none => rw [q] at e; cases e
  | some r1 =>
    rw [q, Option.bind_some] at e
    refine ⟨M, ρ, fo, fv, r1, R, l, q, ?_⟩
    cases r1 with
    | ex y => cases e; exact k
    | ok d =>
      intro M1 H1 v s1 R1 d1
      simp only at e
      cases q2 : gs ρ with
      | none => rw [q2] at e; cases e
      | some r2 =>
        rw [q2, Option.bind_some] at e
        refine ⟨M1, ρ, fo, fv, r2, R1, l, q2, ?_⟩
        cases r2 with
        | ex y => cases e; exact fun M2 H2 cls d s2 R2 ex => k M2 H2 cls d (s1.trans s2) R2 ex
        | ok ds => cases e; exact fun M2 H2 vs s2 R2 d2 => k M2 H2 (v :: vs) (s1.trans s2) R2 (.cons (d1.mono s2) d2)
end
section
variable {X : Cx} {W : WX} {J : List Nat} {k n : Nat} {f : Addr} {fd : FuncData} {ps : List Str} {x : Str} {p pos : Pos} {e : Expr} {es : List Expr} {ga : Ev → Option Rs}
end
end PD

/-! methods that may raise; methods of what may raise -/
namespace PD
open PySem PySem.Spec L2 L2H
def tMethE (C : Addr) (nm : Str) (sp : Sp) (E : L2.St → XK) (to : TE) (tg : TA) : TE := fun σ H Q =>
  to σ H fun y H1 => ∃ q dx fv, y = .ref q ∧ H1 q = some (.ins C dx fv) ∧ fv.lookup nm = none ∧ tg σ H1 fun ys H2 => sp (y :: ys) H2 Q (E σ)
theorem eM_split {C : Addr} {nm : Str} {fo : Ev → Option Rd} {ga : Ev → Option Rs} {n : Nat} {m : List D → Option Rz} {ρ : Ev} {r : Rz} (h : eMX C nm fo ga n m ρ = some r) :
    ∃ r1, fo ρ = some r1 ∧ match r1 with
      | .ex x => r = .ex x
      | .ok d => ∃ ks ds, d = .obj C ks ds ∧ (ks.zip ds).lookup nm = none ∧ ∃ r2, ga ρ = some r2 ∧ match r2 with
        | .ex x => r = .ex x
        | .ok as => as.length + 1 = n ∧ m (d :: as) = some r := by
  unfold eMX at h
  cases q : fo ρ with
  | none => rw [q] at h; cases h
  | some r1 =>
    rw [q, Option.bind_some] at h
    refine ⟨r1, rfl, ?_⟩
    cases r1 with
    | ex x => cases h; rfl
    | ok d =>
      cases d with
      | obj C' ks ds =>
        simp only at h
        split at h
        · rename_i hc
          obtain ⟨rfl, hno⟩ := hc
          refine ⟨ks, ds, rfl, hno, ?_⟩
          cases q2 : ga ρ with
          | none => rw [q2] at h; cases h
          | some r2 =>
            rw [q2, Option.bind_some] at h
            refine ⟨r2, rfl, ?_⟩
            cases r2 with
            | ex x => cases h; rfl
            | ok as =>
              simp only at h
              split at h
              · rename_i hn; exact ⟨hn, h⟩
              · cases h
        · cases h
      | _ => cases h
section
variable {X : Cx} {W : WX} {k n : Nat} {f C : Addr} {fd : FuncData} {ps : List Str} {nm : Str} {o e : Expr} {es : List Expr} {apos pos : Pos} {fo : Ev → Option Rd} {ga : Ev → Option Rs} {pl : Sem Bool}
theorem pe_methE {CX : CXT} {sp : Sp} {E : L2.St → XK} {to : TE} {tg : TA} (ho : PE X o to) (c : Cls X.K C) (hm : Meth X.K C nm f) (F : FnOk X.prog X.w X.K X.mg X.base CX k f fd ps sp) (hr : Room k X.A) (hb : Binds X.K fd ps []) (hx : ∀ σ, PassesAt CX X σ (E σ)) (ha : PA X (e :: es) tg)
    (hst : starEach (e :: es) X.env = (false, eval e X.env) :: starEach es X.env) (hpl : (backTo pos (starEach es X.env)).any (·.1) = false)
    (ht : eval (.Call (.Attribute o nm apos) (e :: es) [] pos) X.env = (do
      let ov ← eval o X.env
      standAt apos.atName
      let (f, first) ← holding [ov] (getMethod ov nm pl)
      callWith pos f first (backTo pos (starEach (e :: es) X.env)) (backToKw pos (keywordEach [] X.env)))) :
    PE X (.Call (.Attribute o nm apos) (e :: es) [] pos) (tMethE C nm sp E to tg) := ⟨fun pn st σ H Q inv h => by
  refine PySem.W.methodCall_KW (pl := pl) ?_ ht
  refine thn (ho.run pn st σ H _ inv h) fun u st1 hu => ?_
  obtain ⟨y, H1, inv1, ry, q, dx, fv, ey, eq, lk, z⟩ := hu
  subst ey
  cases (show u = Value.ref q from ry)
  refine getmeth_ok inv1 eq c hm lk ?_
  refine PySem.W.callWith_K (first := [.ref q]) (h₀ := X.base) inv1.ok.mod.kin hm.kp ?_ hst hpl
  refine thn (ha.run pos pn st1 σ H1 _ inv1 z) fun us st2 hus => ?_
  obtain ⟨ys, H2, inv2, rys, z2⟩ := hus
  exact ⟨inv2.kIn, run_fnS (us := .ref q :: us) (vs := .ref q :: ys) F hr hb (hx σ) inv2 (.cons rfl rys) z2⟩⟩
/-- o.m(..), the method may raise -/
theorem xMethE {m : List D → Option Rz} (tk : L2N.Takes X W) (c : Cls X.K C) (hm : Meth X.K C nm f) (F : FnOk X.prog X.w X.K X.mg X.base (L2N.CX X.prog X.w) k f fd ps (spX X.K n m)) (hr : Room k X.A) (hb : Binds X.K fd ps []) (he : PE X o (tXe X.K W fo)) (ha : PA X (e :: es) (tAXe X.K W ga))
    (hst : starEach (e :: es) X.env = (false, eval e X.env) :: starEach es X.env := by rfl) (hpl : (backTo pos (starEach es X.env)).any (·.1) = false := by rfl)
    (ht : eval (.Call (.Attribute o nm apos) (e :: es) [] pos) X.env = (do
      let ov ← eval o X.env
      standAt apos.atName
      let (f, first) ← holding [ov] (getMethod ov nm pl)
      callWith pos f first (backTo pos (starEach (e :: es) X.env)) (backToKw pos (keywordEach [] X.env))) := by rfl) :
    PE X (.Call (.Attribute o nm apos) (e :: es) [] pos) (tXc X.K W (eMX C nm fo ga n m)) :=
  PE.imp (pe_methE (E := WE W) he c hm F hr hb (fun σ => L2N.passAt tk σ) ha hst hpl ht) fun σ H Q ⟨M, ρ, fr, fv, r, R, l, e, kk⟩ => by
    obtain ⟨r1, q, z⟩ := eM_split e
    refine ⟨M, ρ, fr, fv, r1, R, l, q, ?_⟩
    cases r1 with
    | ex x => cases z; exact kk
    | ok d =>
      obtain ⟨ks, ds, rfl, hno, r2, q2, z2⟩ := z
      intro M1 H1 v1 s1 R1 d1
      have d1' := d1
      cases d1 with
      | obj ha hdx hk hs =>
        subst hk
        refine ⟨_, _, _, rfl, R1.same _ _ ha, fld_none hs hno, M1, ρ, fr, fv, r2, R1, l, q2, ?_⟩
        cases r2 with
        | ex x => cases z2; exact fun M2 H2 cls dd s2 R2 ex => kk M2 H2 cls dd (s1.trans s2) R2 ex
        | ok as =>
          obtain ⟨hn, hm⟩ := z2
          intro M2 H2 vs s2 R2 d2
          refine ⟨M2, ρ ++ fr, σ ++ fv, _, r, ?_, R2, .cons (d1'.mono s2) d2, hm, ?_⟩
          · rw [List.length_cons, d2.length]; exact hn
          · cases r with
            | ok o => exact fun M3 H3 v s3 R3 => kk M3 H3 v (s1.trans (s2.trans s3)) (R3.swap l)
            | ex y => exact fun M3 H3 cls dd s3 R3 ex => kk M3 H3 cls dd (s1.trans (s2.trans s3)) R3 ex
end
end PD

/-! methods that change their object, a thing of one's own -/
namespace PD
open PySem PySem.Spec L2 L2H
section
variable {K : PySem.W.Frag} {M H : Hp}
end
section
variable {X : Cx} {W : WX} {J : List Nat} {k n i : Nat} {f C : Addr} {fd : FuncData} {ps : List Str} {nm : Str} {x : Str} {e : Expr} {es : List Expr} {p apos pos : Pos} {ga : Ev → Option (List D)} {pl : Sem Bool} {m : List O → Option (O × List O)}
end
end PD

/-! defs with defaults that may raise; their calls -/
namespace PD
open PySem PySem.Spec L2 L2H
section
variable {P : Program} {w : World} {K : PySem.W.Frag} {mg : Str → Option Value} {base : Heap}
end
/-! ### the calls -/
section
variable {X : Cx} {W : WX} {k n j : Nat} {f : Addr} {fd : FuncData} {ps ks : List Str} {x : Str} {p pos : Pos} {e : Expr} {es : List Expr} {kws : List Keyword} {ga : Ev → Option Rs} {m : List D → Option Rz} {dvs : List V} {dds : List D}
end
end PD

/-! defs with a keyword-only default that raise nothing; their calls with the default left out -/
namespace PD
open PySem PySem.Spec L2 L2H
section
variable {P : Program} {w : World} {K : PySem.W.Frag} {mg : Str → Option Value} {base : Heap}
end
section
variable {X : Cx} {k n j : Nat} {f : Addr} {fd : FuncData} {ps ks : List Str} {x : Str} {p pos : Pos} {e : Expr} {es : List Expr} {kws : List Keyword} {ga gk : Ev → Option (List D)} {m : List D → Option D} {dvs : List V} {dds : List D}
end
end PD

/-! dicts whose keys are tuples of any depth: d[k], k in d, d[k] = v -/
namespace PD
open PySem PySem.Spec PyProof.Rows L2
section
variable {K : PySem.W.Frag} {M : Hp}
end
section
variable {X : Cx} {pins : List (Addr × Obj)} {σ : L2.St} {H : Hp} {s : Shared}
mutual
theorem NK.isk (I : Inv X pins σ H s) : ∀ {v : V} {k : NestedKey} {u : Value}, NK X.K H v k → RelV v u → NestedIs s.heap k u
  | _, _, u, .non, r => by rw [show u = Value.none from r]; exact .none
  | _, _, u, .bl b, r => by rw [show u = Value.bool b from r]; exact .bool rfl
  | _, _, u, .int i, r => by obtain ⟨t, rfl⟩ := (show ∃ t, u = Value.int i t from r); exact .int i t
  | _, _, u, .str x, r => by obtain ⟨t, rfl⟩ := (show ∃ t, u = Value.str x t from r); exact .text x t
  | _, _, u, .tup (a := a) h hs, r => by
    rw [show u = Value.ref a from r]
    obtain ⟨its, rv, ⟨o, ho, hc, n, hd⟩, _⟩ := I.tuple h
    exact .tup ho hc hd (NKs.isk I hs (by simpa using rv))
theorem NKs.isk (I : Inv X pins σ H s) : ∀ {vs : List V} {ks : List NestedKey} {us : List Value}, NKs X.K H vs ks → Vals vs us → NestedAll s.heap ks us
  | _, _, _, .nil, .nil => .nil
  | _, _, _, .cons h hs, .cons r rs => .cons (NK.isk I h r) (NKs.isk I hs rs)
end
end
/-! ### what stands at a key -/
def tlook (k : NestedKey) : List NestedKey → List D → Option D
  | k' :: ks, d :: ds => if k' = k then some d else tlook k ks ds
  | _, _ => none
theorem atKey_cons (x : TE3) (xs : List TE3) (k : NestedKey) : atKey (x :: xs) k = if x.1 = k then some x.2 else atKey xs k := by
  unfold atKey
  rw [List.find?_cons]
  by_cases h : x.1 = k
  · simp [h]
  · simp [h]
theorem tlook_val {K : PySem.W.Frag} {M : Hp} {k : NestedKey} : ∀ {xs : List TE3} {vs : List V} {ds : List D}, Vals vs (xs.map (·.2.2)) → Dvs K M vs ds → match tlook k (xs.map (·.1)) ds with
    | some d => ∃ p v, atKey xs k = some p ∧ RelV v p.2 ∧ Dv K M v d
    | none => atKey xs k = none
  | [], _, _, .nil, .nil => rfl
  | x :: xs, _, _, .cons (a := v) r rs, .cons (d := d) h hs => by
    have ih := tlook_val (k := k) rs hs
    show match (if x.1 = k then some d else tlook k (xs.map (·.1)) _) with | some d => _ | none => _
    rw [atKey_cons]
    by_cases e : x.1 = k
    · rw [if_pos e, if_pos e]; exact ⟨x.2, v, rfl, r, h⟩
    · rw [if_neg e, if_neg e]; exact ih
/-! ### the rules' readings -/
/-- the tuple dict at a, and the tuple that is asked for -/
structure TAt (X : Cx) (H : Hp) (a b : Addr) (k : NestedKey) (xs : List TE3) : Prop where
  at_ : H a = some (TDo X.w a xs)
  ok : ∃ ks vs, TDk X.K H a xs ks vs
  key : NK X.K H (.ref b) k
  deep : k.depth ≤ 8
section
variable {X : Cx} {pins : List (Addr × Obj)} {σ : L2.St} {H : Hp} {s : Shared} {a b : Addr} {k : NestedKey} {xs : List TE3} {A : Around} {E : Value → Shared → Prop}
theorem TAt.is (I : Inv X pins σ H s) (t : TAt X H a b k xs) : (nestedKind X.prog X.w).is s.heap k b := ⟨NK.isk I t.key rfl, t.deep⟩
end
end PD

/-! dicts whose keys are tuples: the rules of the layer -/
namespace PD
open PySem PySem.Spec PyProof.Rows L2
/-! ### k in d, k not in d -/
section
variable {X : Cx} {W : World}
/-! ### d[k] -/
end
end PD

/-! dicts whose keys are tuples: made, written into -/
namespace PD
open PySem PySem.Spec PyProof.Rows L2
section
variable {K : PySem.W.Frag} {M H : Hp}
theorem TDk.zero {a : Addr} (h : (a == sysModules) = false) : TDk K M a [] [] [] := ⟨Nat.zero_le _, h, List.nodup_nil, rfl, (fun x hx => nomatch hx), .nil⟩
def putT (k : NestedKey) (d : D) (ks : List NestedKey) (ds : List D) : List NestedKey × List D := if (tlook k ks ds).isSome then (ks, List.zipWith (fun k' o => if k' = k then d else o) ks ds) else (ks ++ [k], ds ++ [d])
theorem zip_put {k : NestedKey} {r : Value} {v : V} {d : D} (rv : RelV v r) (dv : Dv K M v d) : ∀ {xs : List TE3} {vs : List V} {ds : List D}, Vals vs (xs.map (·.2.2)) → Dvs K M vs ds →
    ∃ vs', Vals vs' ((xs.map (putAt k r)).map (·.2.2)) ∧ Dvs K M vs' (List.zipWith (fun k' o => if k' = k then d else o) (xs.map (·.1)) ds)
  | [], _, _, .nil, .nil => ⟨[], .nil, .nil⟩
  | x :: xs, _, _, .cons (a := v0) r0 rs, .cons h hs => by
    obtain ⟨vs', a, b⟩ := zip_put rv dv rs hs
    by_cases e : x.1 = k
    · refine ⟨v :: vs', .cons ?_ a, ?_⟩
      · unfold putAt; rw [if_pos e]; exact rv
      · simp only [List.map_cons, List.zipWith_cons_cons]
        rw [if_pos e]; exact .cons dv b
    · refine ⟨v0 :: vs', .cons ?_ a, ?_⟩
      · unfold putAt; rw [if_neg e]; exact r0
      · simp only [List.map_cons, List.zipWith_cons_cons]
        rw [if_neg e]; exact .cons h b
theorem putAt_key (k : NestedKey) (r : Value) (x : TE3) : (putAt k r x).1 = x.1 ∧ (putAt k r x).2.1 = x.2.1 := by
  unfold putAt
  split <;> exact ⟨rfl, rfl⟩
theorem TDk.put {a b : Addr} {xs : List TE3} {ks : List NestedKey} {vs : List V} {ds : List D} {k : NestedKey} {r : Value} {v : V} {d : D} (t : TDk K M a xs ks vs) (hv : Dvs K M vs ds) (nk : NK K M (.ref b) k) (dp : k.depth ≤ 8) (rv : RelV v r) (dv : Dv K M v d) (hl : ds.length < sizeLine) :
    ∃ vs', TDk K M a (storedH xs k b r) (putT k d ks ds).1 vs' ∧ Dvs K M vs' (putT k d ks ds).2 := by
  have hl' : xs.length < sizeLine := by
    have h1 := t.vals.length
    have h2 := hv.length
    rw [List.length_map] at h1
    omega
  have hlook := tlook_val (k := k) t.vals hv
  rw [t.eq] at hlook
  unfold putT
  cases q : tlook k ks ds with
  | some d0 =>
    rw [q] at hlook
    obtain ⟨p, _, hp, _⟩ := hlook
    rw [storedH_old hp]
    obtain ⟨vs', a1, a2⟩ := zip_put (k := k) rv dv t.vals hv
    rw [t.eq] at a2
    have ek : (xs.map (putAt k r)).map (·.1) = xs.map (·.1) := by
      rw [List.map_map]
      exact List.map_congr_left fun x _ => (putAt_key k r x).1
    refine ⟨vs', ⟨by rw [List.length_map]; exact t.few, t.nsys, by rw [ek]; exact t.nd, by rw [ek]; exact t.eq, fun x hx => ?_, a1⟩, a2⟩
    obtain ⟨y, hy, rfl⟩ := List.mem_map.mp hx
    have := putAt_key k r y
    rw [this.1, this.2]
    exact t.keys y hy
  | none =>
    rw [q] at hlook
    rw [storedH_new (show atKey xs k = none from hlook)]
    have hk : k ∉ xs.map (·.1) := fun z => by
      obtain ⟨y, hy, e⟩ := List.mem_map.mp z
      have : (atKey xs k).isSome = true := by
        unfold atKey
        rw [Option.isSome_map, List.find?_isSome]
        exact ⟨y, hy, by simpa using e⟩
      rw [show atKey xs k = none from hlook] at this
      cases this
    refine ⟨vs ++ [v], ⟨by simp; omega, t.nsys, ?_, by rw [List.map_append, t.eq]; rfl, fun x hx => ?_, by rw [List.map_append]; exact t.vals.append (.cons rv .nil)⟩, hv.append (.cons dv .nil)⟩
    · rw [List.map_append]
      rw [List.nodup_append]
      exact ⟨t.nd, by simp, fun x hx y hy e => hk (by simp at hy; rw [← hy, ← e]; exact hx)⟩
    · rcases List.mem_append.mp hx with z | z
      · exact t.keys x z
      · rcases List.mem_singleton.mp z with rfl
        exact ⟨nk, dp⟩
/-- an own dict's entry is put, in the middle of the roots -/
theorem Rep.putT {l r : List O} {lv rv : List (Option V)} {w : World} {a b : Addr} {ks : List NestedKey} {ds : List D} {k : NestedKey} {rr : Value} {v : V} {d : D} {xs : List TE3} (R : Rep K M H (l ++ .dicT w ks ds :: r) (lv ++ some (.ref a) :: rv)) (e : lv.length = l.length)
    (hx : H a = some (TDo w a xs)) (hk : ∃ vs, TDk K M a xs ks vs ∧ Dvs K M vs ds) (nk : NK K M (.ref b) k) (dp : k.depth ≤ 8) (rv' : RelV v rr) (dv : Dv K M v d) (hl : ds.length < sizeLine) :
    Rep K M (upd H a (TDo w a (storedH xs k b rr))) (l ++ .dicT w (PD.putT k d ks ds).1 (PD.putT k d ks ds).2 :: r) (lv ++ some (.ref a) :: rv) := by
  obtain ⟨fa, f, fb, w1, w2, w3, nd, nm⟩ := R.mid e
  obtain ⟨vs, t, hv⟩ := hk
  have hf : f = [a] := by
    generalize hz : O.dicT w ks ds = z at w2
    cases w2 <;> cases hz
    rfl
  subst hf
  have ma : M a = none := nm a (by simp)
  have na : a ∉ fa ++ fb := fun z => by
    rw [List.nodup_append] at nd
    obtain ⟨n1, n2, n3⟩ := nd
    rw [List.nodup_append] at n2
    rcases List.mem_append.mp z with z | z
    · exact n3 a z a (by simp) rfl
    · exact n2.2.2 a (by simp) a z rfl
  obtain ⟨vs', t', hv'⟩ := t.put hv nk dp rv' dv hl
  have n1 : ∀ c ∈ fa, (upd H a (TDo w a (storedH xs k b rr))) c = H c := fun c hc => upd_ne fun z => na (by subst z; exact List.mem_append_left _ hc)
  have n3 : ∀ c ∈ fb, (upd H a (TDo w a (storedH xs k b rr))) c = H c := fun c hc => upd_ne fun z => na (by subst z; exact List.mem_append_right _ hc)
  refine ⟨fun c u q => ?_, fa ++ ([a] ++ fb), (w1.frame (Same.refl _) n1).append (.cons (.dicT upd_same t' hv') (w3.frame (Same.refl _) n3)), nd, nm⟩
  rw [upd_ne (fun z => by subst z; rw [ma] at q; cases q)]
  exact R.same c u q
end
/-! ### {} -/
section
variable {X : Cx} {W : World} {J : List Nat} {WW : WX}
/-! ### {k: v} -/
/-! ### d[k] = v, d in a slot -/
end
end PD

/-! {k: v for .. in ..} whose keys are tuples -/
namespace PD
open PySem PySem.Spec PyProof.Rows L2
section
variable {X : Cx} {pos : Pos} {tg iter kx vx : Expr} {ifs : List Expr} {scope : Scope} {own : List (Str × Nat)} {wi : TI} {g : TG} {tt : TT} {tk tv : TE}
/-! ### the mirror -/
end
section
variable {X : Cx} {pos : Pos} {tg iter kx vx : Expr} {ifs : List Expr} {scope : Scope} {own : List (Str × Nat)} {fi : Ev → Option (List D)} {is kn : List Nat} {g : D → Ev → Option Ev} {t : Ev → Option Bool} {fk fv : Ev → Option D}
end
end PD

namespace PD
open PySem PySem.Spec PyProof.Rows L2
/-! ### x = {k: v for .. in ..} whose keys are tuples, on one line -/
section
variable {X : Cx} {elt tg iter kx vx : Expr} {ifs : List Expr} {scope : Scope} {own : List (Str × Nat)} {pos spos py : Pos}
variable {WW : WX} {W : World} {J : List Nat} {fi : Ev → Option (List D)} {is kn : List Nat} {g : D → Ev → Option Ev} {t : Ev → Option Bool} {fk fv : Ev → Option D}
end
/-! ### x in l, items of any depth -/
section
variable {X : Cx}
end
end PD

namespace PD
open PySem PySem.Spec PyProof.Rows L2 RZ
/-! ### for x, y in zip(a, b): two lists or two tuples -/
section
variable {X : Cx} {pos p tpos : Pos} {e e2 : Expr} {elts : List Expr} {kk : Nat} {ga : Ev → Option (List D)}
end
end PD

/-! t[lo:hi] of a tuple: the whole of it is t itself -/
namespace PD
open PySem PySem.Spec L2
section
variable {X : Cx}
end
end PD

/-! pairs of things of one's own: taken apart, one of them taken; own things out of a def with a keyword-only default -/
namespace PD
open PySem PySem.Spec L2 L2H
section
variable {K : PySem.W.Frag} {M H : Hp}
end
section
variable {X : Cx} {W : WX} {J : List Nat} {pos p1 p2 p3 : Pos} {e : Expr} {f : Ev → Option O}
end
section
variable {X : Cx} {k j nk : Nat} {f : Addr} {fd : FuncData} {ps ks : List Str} {x : Str} {p pos : Pos} {kws : List Keyword} {gk : Ev → Option (List D)} {m : List D → Option O} {dvs : List V} {dds : List D}
end
end PD

/-! lists and tuples in which a part may raise; calls by keyword with a told number of keywords -/
namespace PD
open PySem PySem.Spec L2 L2H
section
variable {X : Cx} {W : WX} {k n j nk : Nat} {f : Addr} {fd : FuncData} {ps ks : List Str} {x : Str} {p pos : Pos} {e : Expr} {es : List Expr} {kws : List Keyword} {gs : Ev → Option Rs} {m : List D → Option Rz} {dvs : List V} {dds : List D}
end
end PD

/-! places: a field of an object of one's own; d[k] = v at a place, keys that are tuples -/
namespace PD
open PySem PySem.Spec PyProof.Rows L2
section
variable {X : Cx} {W : World} {WW : WX} {J : List Nat} {i : Nat} {pf : Ev → Option (List Nat)} {C : Addr} {a o b value : Expr} {pos pp : Pos} {fk fvl : Ev → Option D}
end
end PD

/-! C(e, ..), whose __init__ has a keyword-only default left out -/
namespace PD
open PySem PySem.Spec L2 L2H
section
variable {X : Cx} {k n j : Nat} {f C : Addr} {fd : FuncData} {ps : List Str} {x : Str} {p pos : Pos} {e : Expr} {es : List Expr} {ga : Ev → Option (List D)} {dvs : List V} {dds : List D}
end
end PD

/-! f(..) if c else g(..): things of one's own -/
namespace PD
open PySem PySem.Spec L2
section
variable {X : Cx} {c a b : Expr} {pos : Pos} {fc : Ev → Option Bool} {f g : Ev → Option O}
end
end PD

/-! len(d) of a dict whose keys are tuples; l.index(x) at any depth; max(t) of a tuple of ints -/
namespace PD
open PySem PySem.Spec PyProof.Rows L2
section
variable {X : Cx} {W : World}
end
section
variable {X : Cx} {o e : Expr} {apos pos : Pos} {fa fb : Ev → Option D}
/-! ### xs.index(x), items of any depth -/
end
/-! ### max(t), t a tuple of ints -/
section
open Sem (wp)
variable {prog : Program} {w : World} {A : Around} {E : Value → Shared → Prop} {s : Shared} {l : Addr}
end
section
variable {X : Cx}
end
end PD

/-! for x, y in zip(a, b): each of the two a list or a tuple -/
namespace PD
open PySem PySem.Spec PyProof.Rows L2 RZ
def SqB (t : Bool) (K : PySem.W.Frag) (H : Hp) (a : Addr) (xs : List V) : Prop := match t with
  | true => SqT K H a xs
  | false => SqL K H a xs
def ItB (t : Bool) (h : Heap) (i l : Addr) (n : Nat) : Prop := match t with
  | true => h.IsTupleIter i l n
  | false => h.IsListIter i l n
def HoB (t : Bool) (h : Heap) (l : Addr) (its : Array Value) : Prop := match t with
  | true => h.IsTuple l its
  | false => h.IsList l its
def obB (t : Bool) (l : Addr) : Obj := match t with
  | true => { cls := .type "tuple_iterator", data := .fields #[.ref l, .int 0 0] }
  | false => { cls := .type "list_iterator", data := .fields #[.ref l, .int 0 0] }
theorem ItB.at {t : Bool} {h h' : Heap} {i l : Addr} {n : Nat} (x : ItB t h i l n) (e : ∀ o, h.get? i = some o → h'.get? i = some o) : ItB t h' i l n := by
  cases t with
  | true => exact Heap.IsTupleIter.at x e
  | false => exact Heap.IsListIter.at x e
theorem ItB.obj {t : Bool} {h : Heap} {i l : Addr} {n : Nat} (x : ItB t h i l n) : ∃ o, h.get? i = some o ∧ ∀ v, o.data ≠ .cell v := by
  cases t with
  | true =>
    obtain ⟨o, e, _, d⟩ := (show h.IsTupleIter i l n from x)
    exact ⟨o, e, fun v q => by rw [d] at q; cases q⟩
  | false =>
    obtain ⟨o, e, _, d⟩ := (show h.IsListIter i l n from x)
    exact ⟨o, e, fun v q => by rw [d] at q; cases q⟩
theorem ItB.zero {t : Bool} {h : Heap} {i l : Addr} (e : h.get? i = some (obB t l)) : ItB t h i l 0 := by
  cases t with
  | true => exact ⟨_, e, rfl, rfl⟩
  | false => exact ⟨_, e, rfl, rfl⟩
theorem HoB.lt {t : Bool} {h : Heap} {l : Addr} {its : Array Value} (x : HoB t h l its) : l < h.objs.size := by
  cases t with
  | true => obtain ⟨_, e, _⟩ := (show h.IsTuple l its from x); exact Heap.lt_size e
  | false => obtain ⟨_, e, _⟩ := (show h.IsList l its from x); exact Heap.lt_size e
section
variable {X : Cx} {pins : List (Addr × Obj)} {σ : L2.St} {H : Hp} {s : Shared} {a : Addr} {xs ys : List V}
end
theorem SqB.mono {t : Bool} {K : PySem.W.Frag} {H H' : Hp} {a : Addr} {xs : List V} (s : Same H H') (h : SqB t K H a xs) : SqB t K H' a xs := by
  cases t with
  | true => exact sqT_same s h
  | false =>
    rcases (show SqL K H a xs from h) with h | h
    · exact .inl (Rd.up s h)
    · exact .inr h
/-! the printed rule: two of a kind go the old way, so that old laws of zipA stand; else the mixed way -/
section
variable {X : Cx} {pos p tpos : Pos} {e e2 : Expr} {elts : List Expr} {kk : Nat} {ga : Ev → Option (List D)}
end
end PD

/-! sorted(t) of a tuple -/
namespace PD
open PySem PySem.Spec L2 PySem.W PyProof.Rows
section
variable {X : Cx} {W : WX} {J : List Nat} {pos p : Pos}
end
end PD

/-! sorted(set(l)) of a list of ints; list(range(n)) -/
namespace PD
open PySem PySem.Spec L2 PySem.W PyProof.Rows
section
variable {P : Program} {w : World} {A : Around} {E : Value → Shared → Prop} {s : Shared}
end
end PD

/-! sorted(set(l)) of a list of ints; list(range(n)): in expressions -/
namespace PD
open PySem PySem.Spec L2 PySem.W PyProof.Rows
section
variable {X : Cx} {W : WX} {J : List Nat} {p1 p2 p3 pos : Pos} {e : Expr} {f : Ev → Option D}
abbrev setU (w : World) (p : Addr) (ns : List Int) (c : Nat) : HO := .ext fun h => SetR w h p (fun j => decide (j ∈ ns)) c
/-! list(range(n)) -/
theorem cRng1 : CallR X (.type "range") (fun xs H Q => ∃ i, xs = [V.int i] ∧ ∀ p, H p = none → Q (.ref p) (upd H p (.rng 0 i))) := by
  intro pins s σ H xs us Q I r ⟨i, ex, k⟩
  subst ex
  obtain ⟨u, eu, rx⟩ := vals1 r
  subst eu
  obtain ⟨t, rfl⟩ := rx
  have hf := I.hok.fresh (Nat.le_refl s.heap.objs.size)
  exact call_range_1 ⟨.ref s.heap.objs.size, upd H s.heap.objs.size (.rng 0 i), I.laid (t' := s.toks + 1 + 1) (fun b o e => Heap.get?_push_of_some _ e) (Nat.le_refl _) ⟨_, _, _, Heap.get?_push_size _ rfl⟩, rfl, k _ hf⟩
def rngV (n : Nat) : List V := (List.range n).map fun i : Nat => V.int (i : Int)
theorem rng_size (n : Nat) : Builtin.Range.rangeSize 0 (n : Int) 1 = (n : Int) := by
  unfold Builtin.Range.rangeSize
  rw [if_pos (by omega)]
  split
  · rw [Int.ediv_one]; omega
  · omega
theorem cLstRng (hc : X.calm = true) : CallR X (.type "list") (fun xs H Q => ∃ p, ∃ n : Nat, xs = [.ref p] ∧ H p = some (.rng 0 n) ∧ n ≤ 1000000 ∧ ∀ q, H q = none → Q (.ref q) (upd H q (.lst (rngV n)))) := by
  intro pins s σ H xs us Q I r ⟨p, n, ex, hp, hn, k⟩
  subst ex
  rw [Vals.ref1 r]
  obtain ⟨t, u, v, hr⟩ := (show ObjOk X.prog X.w H s.heap p (.rng 0 n) from I.hok p _ hp)
  have hf := I.hok.fresh (Nat.le_refl s.heap.objs.size)
  refine call_list_range (a := 0) (b := n) (c := 1) (n := n) (I.ok.hd hc) hr (small_one (by omega) (by omega) (by omega) (by omega)) (rng_size n) (by omega) fun h' tk acc c hk hq hi => ?_
  refine ⟨.ref s.heap.objs.size, upd H s.heap.objs.size (.lst (rngV n)), I.laid (t' := tk) hk (Nat.le_refl _) ⟨by unfold rngV; rw [List.length_map, List.length_range]; exact Nat.le_trans hn line_big, acc.toList, c, ?_, by simpa using hq⟩, rfl, k _ hf⟩
  have key : ∀ (l : List Value) (lo : Nat), (∀ j v, l[j]? = some v → ∃ t, v = Value.int ((lo + j : Nat) : Int) t) → Vals ((List.range' lo l.length).map fun i : Nat => V.int (i : Int)) l := fun l => by
    induction l with
    | nil => exact fun _ _ => .nil
    | cons v l ih =>
      intro lo h
      obtain ⟨t, e⟩ := h 0 v rfl
      subst e
      refine .cons ⟨t, rfl⟩ (ih (lo + 1) fun j v hj => ?_)
      obtain ⟨t, e⟩ := h (j + 1) v (by simpa using hj)
      exact ⟨t, by rw [e]; congr 2; omega⟩
  have hl : acc.toList.length = n := by rw [Array.length_toList]; exact hi.1
  have := key acc.toList 0 fun j v hj => by
    obtain ⟨t, e⟩ := hi.2 j v (by rw [← Array.getElem?_toList]; exact hj)
    exact ⟨t, by rw [e]; congr 1; omega⟩
  rw [hl] at this
  unfold rngV
  rw [List.range_eq_range']
  exact this
def lstRngO (f : Ev → Option D) (ρ : Ev) : Option O := match f ρ with
  | some (.int i) => if 0 ≤ i ∧ i ≤ 1000000 then some (O.dats ((List.range i.toNat).map fun k : Nat => .int (k : Int))) else none
  | _ => none
theorem rng_dvs {K : PySem.W.Frag} {M : Hp} (n : Nat) : Dvs K M (rngV n) ((List.range n).map fun k : Nat => .int (k : Int)) := by
  have := ints_dvs (K := K) (M := M) ((List.range n).map fun k : Nat => (k : Int))
  rw [List.map_map, List.map_map] at this
  exact this
theorem oLstRng (hc : X.calm = true) (h1 : X.mg "list" = none) (h2 : X.mg "range" = none) (he : PE X e (tP X.K f)) (g1 : Gl X "list" := by rfl) (g2 : Gl X "range" := by rfl)
    (s1 : starEach [e] X.env = (false, eval e X.env) :: starEach [] X.env := by rfl) (s2 : starEach [.Call (.Name "range" p2) [e] [] p3] X.env = (false, eval (.Call (.Name "range" p2) [e] [] p3) X.env) :: starEach [] X.env := by rfl) :
    PE X (.Call (.Name "list" p1) [.Call (.Name "range" p2) [e] [] p3] [] pos) (tO X.K (lstRngO f)) :=
  PE.imp (pe_callTy (cLstRng hc) g1 h1 (by decide +kernel) (pa_cons (pe_callTy cRng1 g2 h2 (by decide +kernel) (pa_cons he pa_nil s1) (by decide) (by decide) s1 rfl) pa_nil s2) (by decide) (by decide) s2 rfl) fun σ H Q ⟨M, ρ, fo, fv, o, R, l, e, k⟩ => by
    unfold lstRngO at e
    split at e
    · rename_i i ef
      split at e
      · rename_i hi
        cases e
        obtain ⟨n, rfl⟩ := Int.eq_ofNat_of_zero_le hi.1
        refine ⟨M, ρ, fo, fv, .int n, R, l, ef, fun M1 H1 v s1 R1 d1 => ?_⟩
        cases d1
        refine ⟨(n : Int), rfl, fun p hp => ⟨p, n, rfl, upd_same, by omega, fun q hq => ?_⟩⟩
        exact k M1 _ (.ref q) s1 (Rep.newL (R1.grow hp) l hq (rng_dvs n))
      · cases e
    · cases e
end
end PD

/-! as many arguments as parameters -/
namespace PD
open PySem
section
variable {M : List Value → Prop}
theorem args1 (h : ∀ a, M [a]) : ∀ us : List Value, us.length = 1 → M us
  | [a], _ => h a
theorem args2 (h : ∀ a b, M [a, b]) : ∀ us : List Value, us.length = 2 → M us
  | [a, b], _ => h a b
theorem args3 (h : ∀ a b c, M [a, b, c]) : ∀ us : List Value, us.length = 3 → M us
  | [a, b, c], _ => h a b c
theorem args4 (h : ∀ a b c d, M [a, b, c, d]) : ∀ us : List Value, us.length = 4 → M us
  | [a, b, c, d], _ => h a b c d
theorem args5 (h : ∀ a b c d e, M [a, b, c, d, e]) : ∀ us : List Value, us.length = 5 → M us
  | [a, b, c, d, e], _ => h a b c d e
end
end PD

/-! static methods; methods called by keyword; t * n of a tuple; min of a list of texts -/
namespace PD
open PySem PySem.Spec L2 L2H
/-- C.m is a staticmethod: its record at p, its def at g -/
structure SMet (K : PySem.W.Frag) (C : Addr) (m : Str) (p g : Addr) : Prop where
  rd : PySem.W.readsIn K C (.type "type") = true
  ga : PySem.W.specialIn K (.ref C) "__getattribute__" = some (some (.builtin "type.__getattribute__"))
  at_ : PySem.W.findCls K (.ref C) (.type "type") m = some (.get (.builtin "staticmethod.__get__") (.ref p) .none (.ref C))
  rc : ∃ rest, PySem.W.recIn K p "staticmethod" = some (.ref g :: rest)
  kp : PySem.W.keepIn K (.ref g) = true
/-- .. reached through an instance of C -/
structure SInst (K : PySem.W.Frag) (C : Addr) (m : Str) (p g : Addr) : Prop where
  pg : PySem.W.plainGet K C Str.empty = true
  ic : PySem.W.isClsIn K C = true
  at_ : PySem.W.findIn K (.ref C) m = some (some (.ref p))
  ty : PySem.W.typeIn K (.ref p) = some (.type "staticmethod")
  get : PySem.W.specialIn K (.ref p) "__get__" = some (some (.builtin "staticmethod.__get__"))
  tk : PySem.W.takesIn K (.ref p) = some false
  cp : PySem.W.copiedNames.contains m = false
  rc : ∃ rest, PySem.W.recIn K p "staticmethod" = some (.ref g :: rest)
  kp : PySem.W.keepIn K (.ref g) = true
theorem SInst.get' {K : PySem.W.Frag} {C : Addr} {m : Str} {p g : Addr} (k : SInst K C m p g) : PySem.W.plainGet K C m = true := k.pg
section
variable {X : Cx} {pins : List (Addr × Obj)} {σ : L2.St} {H : Hp} {s : Shared} {a C p g : Addr} {m : Str} {A : Around} {E : Value → Shared → Prop} {pl : Sem Bool}
theorem getsm_ok {b : Bool} {Q : Value → Shared → Prop} (I : Inv X pins σ H s) (k : SMet X.K C m p g) (h : ∀ s', Inv X pins σ H s' → Q (.ref g) s') : wpAny (model X.prog X.w) A (getAttr (.ref C) m b) Q E s := by
  obtain ⟨rest, hp⟩ := k.rc
  refine PySem.W.cls_bind I.kIn k.rd k.at_ ?_
  exact wpAny_call (PySem.W.sm_get (s := { s with toks := s.toks + 1 }) I.kIn hp (PySem.W.handed_on rfl (h _ (I.tok _))))
theorem getmethsm_ok {Q : Value × List Value → Shared → Prop} (I : Inv X pins σ H s) (k : SMet X.K C m p g) (h : ∀ s', Inv X pins σ H s' → Q (.ref g, []) s') : wpAny (model X.prog X.w) A (getMethod (.ref C) m pl) Q E s :=
  PySem.W.method_cls I.kIn k.ga (getsm_ok I k h)
theorem getmethsi_ok {dx : Addr} {fs : List (Str × V)} {Q : Value × List Value → Shared → Prop} (I : Inv X pins σ H s) (e : H a = some (.ins C dx fs)) (hl : fs.lookup m = none) (k : SInst X.K C m p g)
    (h : ∀ s', Inv X pins σ H s' → Q (.ref g, []) s') : wpAny (model X.prog X.w) A (getMethod (.ref a) m pl) Q E s := by
  obtain ⟨rest, hp⟩ := k.rc
  obtain ⟨mA, O, r, _, _, _⟩ := ins_get I.hok e
  have hn : mA m = none := RelO.none_of (by rw [← hl]; exact r m)
  obtain ⟨od, J, hlo⟩ := O.look
  have hlk : PySem.W.lookIn m od = some none := by rw [hlo, hn]
  refine PySem.W.method_usual (r := some (.ref p)) I.kIn J (PySem.W.plainGet_of k.get').1 (PySem.W.plainGet_of k.get').2 k.at_ ?_ ?_
  · show ((PySem.W.typeIn X.K (.ref p)).any fun t => t != .type "function" && t != .type "method_descriptor" && t != .type "wrapper_descriptor") = true
    rw [k.ty]
    first
    | rfl
    | decide +kernel
  · refine PySem.W.get_bind I.kIn J (PySem.W.plainGet_of k.get').1 (ClX.find_cm k.ic k.at_ k.get k.tk k.cp hlk) (PySem.W.plainGet_of k.get').2 ?_
    exact wpAny_call (PySem.W.sm_get (s := { s with toks := s.toks + 1 }) I.kIn hp (PySem.W.handed_on rfl (h _ (I.tok _))))
end
section
variable {X : Cx} {k n : Nat} {C p g f : Addr} {fd : FuncData} {ps : List Str} {nm y : Str} {o e : Expr} {es : List Expr} {apos pos q : Pos} {ga : Ev → Option (List D)} {m : List D → Option D} {pl : Sem Bool}
/-- C.m(e, ..) of a staticmethod -/
theorem pStat (c : SMet X.K C nm p g) (F : FnOk X.prog X.w X.K X.mg X.base CX0 k g fd ps (spP X.K n m)) (hr : Room k X.A) (hb : Binds X.K fd ps []) (hmC : X.mg y = some (.ref C)) (ha : PA X (e :: es) (tAr X.K ga)) (hgT : Gl X y := by rfl) (hd : (y == ("__debug__" : Str)) = false := by decide)
    (hst : starEach (e :: es) X.env = (false, eval e X.env) :: starEach es X.env := by rfl) (hpl : (backTo pos (starEach es X.env)).any (·.1) = false := by rfl)
    (ht : eval (.Call (.Attribute (.Name y q) nm apos) (e :: es) [] pos) X.env = (do
      let ov ← eval (.Name y q) X.env
      standAt apos.atName
      let (f, first) ← holding [ov] (getMethod ov nm pl)
      callWith pos f first (backTo pos (starEach (e :: es) X.env)) (backToKw pos (keywordEach [] X.env))) := by rfl) :
    PE X (.Call (.Attribute (.Name y q) nm apos) (e :: es) [] pos) (tP X.K (cB ga (len? n m))) := ⟨fun pins s σ H Q I h => by
  have hcl : PE X (.Name y q) (tC (.ref C)) := pe_glob hgT hmC rfl hd
  refine PySem.W.methodCall_KW (pl := pl) (thn (hcl.run pins s σ H (fun x H1 => x = .ref C ∧ H1 = H) I ⟨rfl, rfl⟩) fun u s1 ⟨x, H1, I1, rx, ex, eH⟩ => ?_) ht
  subst ex eH
  obtain rfl : u = Value.ref C := rx
  refine getmethsm_ok I1 c fun s2 I2 => ?_
  obtain ⟨M, ρ, fo, fv, d, R, l, ee, kk⟩ := h
  unfold cB at ee
  cases q2 : ga ρ with
  | none => rw [q2] at ee; cases ee
  | some ds =>
    rw [q2, Option.bind_some] at ee
    unfold len? at ee
    split at ee
    · rename_i hn
      refine PySem.W.callWith_K (first := []) (h₀ := X.base) I2.ok.mod.kin c.kp (thn (ha.run pos pins s2 σ _ (fun vs H2 => spP X.K n m vs H2 Q E0) I2 ⟨M, ρ, fo, fv, ds, R, l, q2, fun M1 H1 vs s1 R1 d1 => ?_⟩) fun us s3 ⟨vs, H2, I3, r, z⟩ => ⟨I3.kIn, ?_⟩) hst hpl
      · exact ⟨by rw [d1.length]; exact hn, M1, ρ ++ fo, σ ++ fv, ds, d, R1, d1, ee, fun M2 H2 v s2 R2 d2 => kk M2 H2 v (s1.trans s2) R2 d2⟩
      · rw [List.nil_append]
        exact run_fn (dvs := []) F hr hb .nil pass0 I3 r (by rw [List.append_nil]; exact z)
    · cases ee⟩
/-- C.m(k=v, ..) -/
theorem pStatK {kws : List Keyword} {ks : List Str} {gg : List Value → List Value → List Value} (c : SMet X.K C nm p g) (F : FnOk X.prog X.w X.K X.mg X.base CX0 k g fd ps (spP X.K n m)) (hr : Room k X.A) (hb : KBn X.K fd ps 0 ks gg (fun vs zs => vs ++ zs)) (hn : ks.length = n) (hmC : X.mg y = some (.ref C)) (hkw : PK X kws (tAr X.K ga)) (hgT : Gl X y := by rfl) (hd : (y == ("__debug__" : Str)) = false := by decide)
    (hall : (backToKw pos (keywordEach kws X.env)).all (·.1.isSome) = true := by rfl) (hks : (backToKw pos (keywordEach kws X.env)).filterMap (·.1) = ks := by rfl)
    (hpl : ((backTo pos (starEach [] X.env)).any (·.1) || (backToKw pos (keywordEach kws X.env)).any (·.1.isNone)) = false := by rfl)
    (ht : eval (.Call (.Attribute (.Name y q) nm apos) [] kws pos) X.env = (do
      let ov ← eval (.Name y q) X.env
      standAt apos.atName
      let (f, first) ← holding [ov] (getMethod ov nm pl)
      callWith pos f first (backTo pos (starEach [] X.env)) (backToKw pos (keywordEach kws X.env))) := by rfl) :
    PE X (.Call (.Attribute (.Name y q) nm apos) [] kws pos) (tP X.K (cB ga (len? n m))) := ⟨fun pins s σ H Q I h => by
  have hcl : PE X (.Name y q) (tC (.ref C)) := pe_glob hgT hmC rfl hd
  refine PySem.W.methodCall_KW (pl := pl) (thn (hcl.run pins s σ H (fun x H1 => x = .ref C ∧ H1 = H) I ⟨rfl, rfl⟩) fun u s1 ⟨x, H1, I1, rx, ex, eH⟩ => ?_) ht
  subst ex eH
  obtain rfl : u = Value.ref C := rx
  refine getmethsm_ok I1 c fun s2 I2 => ?_
  obtain ⟨M, ρ, fo, fv, d, R, l, ee, kk⟩ := h
  unfold cB at ee
  cases q2 : ga ρ with
  | none => rw [q2] at ee; cases ee
  | some ds =>
    rw [q2, Option.bind_some] at ee
    unfold len? at ee
    split at ee
    · rename_i hn2
      refine PySem.W.callWith_KW0 (first := []) (h₀ := X.base) I2.ok.mod.kin c.kp hall (thn (hkw.run pos pins s2 σ _ (fun vs H2 => vs.length = ks.length ∧ spP X.K n m vs H2 Q E0) I2 ⟨M, ρ, fo, fv, ds, R, l, q2, fun M1 H1 vs s1 R1 d1 => ?_⟩) fun us s3 ⟨vs, H2, I3, r, hl3, z⟩ => ⟨I3.kIn, ?_⟩) hpl
      · exact ⟨by rw [d1.length, hn2, hn], by rw [d1.length]; exact hn2, M1, ρ ++ fo, σ ++ fv, ds, d, R1, d1, ee, fun M2 H2 v s2 R2 d2 => kk M2 H2 v (s1.trans s2) R2 d2⟩
      · rw [hks]
        exact run_fnN (us := []) (vs := []) F hr hb pass0 I3 .nil r rfl hl3 (by rw [List.nil_append]; exact z)
    · cases ee⟩
def sC (C : Addr) (nm : Str) (fo : Ev → Option D) (ga : Ev → Option (List D)) (n : Nat) (m : List D → Option D) (ρ : Ev) : Option D := (fo ρ).bind fun x => match x with
  | .obj C' ks ds => if C' = C ∧ (ks.zip ds).lookup nm = none then (ga ρ).bind fun as => if as.length = n then m as else none else none
  | _ => none
/-- o.m(e, ..) of a staticmethod -/
theorem pStatI {fo : Ev → Option D} (c : SInst X.K C nm p g) (F : FnOk X.prog X.w X.K X.mg X.base CX0 k g fd ps (spP X.K n m)) (hr : Room k X.A) (hb : Binds X.K fd ps []) (ho : PE X o (tP X.K fo)) (ha : PA X (e :: es) (tAr X.K ga))
    (hst : starEach (e :: es) X.env = (false, eval e X.env) :: starEach es X.env := by rfl) (hpl : (backTo pos (starEach es X.env)).any (·.1) = false := by rfl)
    (ht : eval (.Call (.Attribute o nm apos) (e :: es) [] pos) X.env = (do
      let ov ← eval o X.env
      standAt apos.atName
      let (f, first) ← holding [ov] (getMethod ov nm pl)
      callWith pos f first (backTo pos (starEach (e :: es) X.env)) (backToKw pos (keywordEach [] X.env))) := by rfl) :
    PE X (.Call (.Attribute o nm apos) (e :: es) [] pos) (tP X.K (sC C nm fo ga n m)) := ⟨fun pins s σ H Q I h => by
  obtain ⟨M, ρ, fr, fv, d, R, l, ee, kk⟩ := h
  unfold sC at ee
  cases q0 : fo ρ with
  | none => rw [q0] at ee; cases ee
  | some x =>
    rw [q0, Option.bind_some] at ee
    cases x with
    | obj C' ks ds =>
      change (if C' = C ∧ (ks.zip ds).lookup nm = none then (ga ρ).bind fun as => if as.length = n then m as else none else none) = some d at ee
      split at ee
      · rename_i hc
        obtain ⟨rfl, hno⟩ := hc
        cases q2 : ga ρ with
        | none => rw [q2] at ee; cases ee
        | some as =>
          rw [q2, Option.bind_some] at ee
          split at ee
          · rename_i hn
            refine PySem.W.methodCall_KW (pl := pl) (thn (ho.run pins s σ H (fun x H1 => ∃ M1, Same M M1 ∧ Rep X.K M1 H1 (ρ ++ fr) (σ ++ fv) ∧ Dv X.K M1 x (.obj C' ks ds)) I ⟨M, ρ, fr, fv, _, R, l, q0, fun M1 H1 v1 s1 R1 d1 => ⟨M1, s1, R1, d1⟩⟩) fun u s1 ⟨x, H1, I1, rx, M1, t1, R1, d1⟩ => ?_) ht
            cases d1 with
            | obj hA hdx hk hs =>
              subst hk

              obtain rfl : u = Value.ref _ := rx
              refine getmethsi_ok I1 (R1.same _ _ hA) (fld_none hs hno) c fun s2 I2 => ?_
              refine PySem.W.callWith_K (first := []) (h₀ := X.base) I2.ok.mod.kin c.kp (thn (ha.run pos pins s2 σ _ (fun vs H2 => spP X.K n m vs H2 Q E0) I2 ⟨M1, ρ, fr, fv, as, R1, l, q2, fun M2 H2 vs s1 R1 d1 => ?_⟩) fun us s3 ⟨vs, H2, I3, r, z⟩ => ⟨I3.kIn, ?_⟩) hst hpl
              · exact ⟨by rw [d1.length]; exact hn, M2, ρ ++ fr, σ ++ fv, as, d, R1, d1, ee, fun M3 H3 v s2 R2 d2 => kk M3 H3 v (t1.trans (s1.trans s2)) R2 d2⟩
              · rw [List.nil_append]
                exact run_fn (dvs := []) F hr hb .nil pass0 I3 r (by rw [List.append_nil]; exact z)
          · cases ee
      · cases ee
    | _ => cases ee⟩
end
/-! ### methods, called by keyword; methods that may raise, as values -/
section
variable {X : Cx} {CX : CXT} {k n : Nat} {C f : Addr} {fd : FuncData} {ps ks : List Str} {nm : Str} {o e : Expr} {es : List Expr} {kws : List Keyword} {apos pos : Pos} {fo : Ev → Option D} {ga : Ev → Option (List D)} {pl : Sem Bool} {sp : Sp} {E : XK} {gg : List Value → List Value → List Value}
def tMK (C : Addr) (nm : Str) (j : Nat) (sp : Sp) (E : XK) (to : TE) (tg : TA) : TE := fun σ H Q =>
  to σ H fun y H1 => ∃ q dx fv, y = .ref q ∧ H1 q = some (.ins C dx fv) ∧ fv.lookup nm = none ∧ tg σ H1 fun ys H2 => ys.length = j ∧ sp (y :: ys) H2 Q E
theorem pe_mk {to : TE} {tg : TA} (ho : PE X o to) (c : Cls X.K C) (hm : Meth X.K C nm f) (F : FnOk X.prog X.w X.K X.mg X.base CX k f fd ps sp) (hr : Room k X.A) (hb : KBn X.K fd ps 1 ks gg (fun vs zs => vs ++ zs)) (hx : Passes CX X E) (hkw : PK X kws tg)
    (hall : (backToKw pos (keywordEach kws X.env)).all (·.1.isSome) = true) (hks : (backToKw pos (keywordEach kws X.env)).filterMap (·.1) = ks)
    (hpl : ((backTo pos (starEach [] X.env)).any (·.1) || (backToKw pos (keywordEach kws X.env)).any (·.1.isNone)) = false)
    (ht : eval (.Call (.Attribute o nm apos) [] kws pos) X.env = (do
      let ov ← eval o X.env
      standAt apos.atName
      let (f, first) ← holding [ov] (getMethod ov nm pl)
      callWith pos f first (backTo pos (starEach [] X.env)) (backToKw pos (keywordEach kws X.env)))) :
    PE X (.Call (.Attribute o nm apos) [] kws pos) (tMK C nm ks.length sp E to tg) := ⟨fun pn st σ H Q inv h => by
  refine PySem.W.methodCall_KW (pl := pl) ?_ ht
  refine thn (ho.run pn st σ H _ inv h) fun u st1 hu => ?_
  obtain ⟨y, H1, inv1, ry, q, dx, fv, ey, eq, lk, z⟩ := hu
  subst ey
  cases (show u = Value.ref q from ry)
  refine getmeth_ok inv1 eq c hm lk ?_
  refine PySem.W.callWith_KW0 (first := [.ref q]) (h₀ := X.base) inv1.ok.mod.kin hm.kp hall (thn (hkw.run pos pn st1 σ H1 _ inv1 z) fun us st2 hus => ?_) hpl
  obtain ⟨ys, H2, inv2, rys, hl, z2⟩ := hus
  refine ⟨inv2.kIn, ?_⟩
  rw [hks]
  exact run_fnN (us := [.ref q]) (vs := [.ref q]) F hr hb hx inv2 (.cons rfl .nil) rys rfl hl z2⟩
/-- o.m(k=v, ..) -/
theorem pMethK {m : List D → Option D} (c : Cls X.K C) (hm : Meth X.K C nm f) (F : FnOk X.prog X.w X.K X.mg X.base CX0 k f fd ps (spP X.K n m)) (hr : Room k X.A) (hb : KBn X.K fd ps 1 ks gg (fun vs zs => vs ++ zs)) (hn : ks.length + 1 = n) (ho : PE X o (tP X.K fo)) (hkw : PK X kws (tAr X.K ga))
    (hall : (backToKw pos (keywordEach kws X.env)).all (·.1.isSome) = true := by rfl) (hks : (backToKw pos (keywordEach kws X.env)).filterMap (·.1) = ks := by rfl)
    (hpl : ((backTo pos (starEach [] X.env)).any (·.1) || (backToKw pos (keywordEach kws X.env)).any (·.1.isNone)) = false := by rfl)
    (ht : eval (.Call (.Attribute o nm apos) [] kws pos) X.env = (do
      let ov ← eval o X.env
      standAt apos.atName
      let (f, first) ← holding [ov] (getMethod ov nm pl)
      callWith pos f first (backTo pos (starEach [] X.env)) (backToKw pos (keywordEach kws X.env))) := by rfl) :
    PE X (.Call (.Attribute o nm apos) [] kws pos) (tP X.K (mC C nm fo ga n m)) := PE.imp (pe_mk (E := E0) ho c hm F hr hb pass0 hkw hall hks hpl ht) fun σ H Q h => by
  obtain ⟨M, ρ, fr, fv, d, R, l, e, kk⟩ := h
  unfold mC at e
  cases q : fo ρ with
  | none => rw [q] at e; cases e
  | some x =>
    rw [q, Option.bind_some] at e
    cases x with
    | obj C' ks' ds =>
      change (if C' = C ∧ (ks'.zip ds).lookup nm = none then (ga ρ).bind fun as => if as.length + 1 = n then m (.obj C' ks' ds :: as) else none else none) = some d at e
      split at e
      · rename_i hc
        obtain ⟨rfl, hno⟩ := hc
        cases q2 : ga ρ with
        | none => rw [q2] at e; cases e
        | some as =>
          rw [q2, Option.bind_some] at e
          split at e
          · rename_i hl
            refine ⟨M, ρ, fr, fv, _, R, l, q, fun M1 H1 v1 s1 R1 d1 => ?_⟩
            have d1' := d1
            cases d1 with
            | obj ha hdx hk hs =>
              subst hk
              refine ⟨_, _, _, rfl, R1.same _ _ ha, fld_none hs hno, M1, ρ, fr, fv, as, R1, l, q2, fun M2 H2 vs s2 R2 d2 => ⟨by rw [d2.length]; omega, by rw [List.length_cons, d2.length]; exact hl, M2, ρ ++ fr, σ ++ fv, _, d, R2, .cons (d1'.mono s2) d2, e, fun M3 H3 v s3 R3 d3 => kk M3 H3 v (s1.trans (s2.trans s3)) R3 d3⟩⟩
          · cases e
      · cases e
    | _ => cases e
/-- o.m(..), the method may raise; where it does not -/
def mX (C : Addr) (nm : Str) (fo : Ev → Option D) (ga : Ev → Option (List D)) (n : Nat) (m : List D → Option Rz) (ρ : Ev) : Option O := (fo ρ).bind fun x => match x with
  | .obj C' ks ds => if C' = C ∧ (ks.zip ds).lookup nm = none then (ga ρ).bind fun as => if as.length + 1 = n then (m (.obj C' ks ds :: as)).bind okO else none else none
  | _ => none
theorem mX_split {C : Addr} {nm : Str} {fo : Ev → Option D} {ga : Ev → Option (List D)} {n : Nat} {m : List D → Option Rz} {ρ : Ev} {r : O} (h : mX C nm fo ga n m ρ = some r) :
    ∃ ks ds as, fo ρ = some (.obj C ks ds) ∧ (ks.zip ds).lookup nm = none ∧ ga ρ = some as ∧ as.length + 1 = n ∧ m (.obj C ks ds :: as) = some (.ok r) := by
  unfold mX at h
  cases q : fo ρ with
  | none => rw [q] at h; cases h
  | some d =>
    rw [q, Option.bind_some] at h
    cases d with
    | obj C' ks ds =>
      change (if C' = C ∧ (ks.zip ds).lookup nm = none then (ga ρ).bind fun as => if as.length + 1 = n then (m (.obj C' ks ds :: as)).bind okO else none else none) = some r at h
      split at h
      · rename_i hc
        obtain ⟨rfl, hno⟩ := hc
        cases q2 : ga ρ with
        | none => rw [q2] at h; cases h
        | some as =>
          rw [q2, Option.bind_some] at h
          split at h
          · rename_i hl
            cases q3 : m (.obj C' ks ds :: as) with
            | none => rw [q3] at h; cases h
            | some z =>
              rw [q3, Option.bind_some] at h
              cases z with
              | ok o => cases h; exact ⟨ks, ds, as, rfl, hno, rfl, hl, q3⟩
              | ex y => cases h
          · cases h
      · cases h
    | _ => cases h
theorem oMethXK {m : List D → Option Rz} (c : Cls X.K C) (hm : Meth X.K C nm f) (F : FnOk X.prog X.w X.K X.mg X.base (L2N.CX X.prog X.w) k f fd ps (spX X.K n m)) (hr : Room k X.A) (hb : KBn X.K fd ps 1 ks gg (fun vs zs => vs ++ zs)) (hn : ks.length + 1 = n) (ho : PE X o (tP X.K fo)) (hkw : PK X kws (tAr X.K ga))
    (hall : (backToKw pos (keywordEach kws X.env)).all (·.1.isSome) = true := by rfl) (hks : (backToKw pos (keywordEach kws X.env)).filterMap (·.1) = ks := by rfl)
    (hpl : ((backTo pos (starEach [] X.env)).any (·.1) || (backToKw pos (keywordEach kws X.env)).any (·.1.isNone)) = false := by rfl)
    (ht : eval (.Call (.Attribute o nm apos) [] kws pos) X.env = (do
      let ov ← eval o X.env
      standAt apos.atName
      let (f, first) ← holding [ov] (getMethod ov nm pl)
      callWith pos f first (backTo pos (starEach [] X.env)) (backToKw pos (keywordEach kws X.env))) := by rfl) :
    PE X (.Call (.Attribute o nm apos) [] kws pos) (tO X.K (mX C nm fo ga n m)) := PE.imp (pe_mk (E := E0) ho c hm F hr hb passX hkw hall hks hpl ht) fun σ H Q h => by
  obtain ⟨M, ρ, fr, fv, r, R, l, e, kk⟩ := h
  obtain ⟨ks', ds, as, q, hno, q2, hl, q3⟩ := mX_split e
  refine ⟨M, ρ, fr, fv, _, R, l, q, fun M1 H1 v1 s1 R1 d1 => ?_⟩
  have d1' := d1
  cases d1 with
  | obj ha hdx hk hs =>
    subst hk
    refine ⟨_, _, _, rfl, R1.same _ _ ha, fld_none hs hno, M1, ρ, fr, fv, as, R1, l, q2, fun M2 H2 vs s2 R2 d2 => ⟨by rw [d2.length]; omega, M2, ρ ++ fr, σ ++ fv, _, .ok r, by rw [List.length_cons, d2.length]; exact hl, R2, .cons (d1'.mono s2) d2, q3, fun M3 H3 v s3 R3 => kk M3 H3 v (s1.trans (s2.trans s3)) (R3.swap l)⟩⟩
end
end PD

/-! t * n of a tuple; min of a list of texts -/
namespace PD
open PySem PySem.Spec L2 L2H
section
variable {X : Cx}
def repTD (x y : D) : Option D := match x, y with
  | .tup ds, .int k => if ds ≠ [] ∧ 2 ≤ k ∧ k ≤ 1000 ∧ ds.length ≤ 1000 then some (.tup (List.replicate k.toNat ds).flatten) else none
  | _, _ => none
theorem oRepT : OpR X (binaryOp .Mult) (rD X.K repTD) := OpR.imp op_repT fun x y H Q ⟨M, fo, fv, dx, dy, d, R, d1, d2, e, kk⟩ => by
  unfold repTD at e
  split at e
  · rename_i ds j
    split at e
    · rename_i hc
      cases e
      cases d2
      cases d1 with
      | @tup a ws _ h1 g1 =>
        refine ⟨a, j, ws, rfl, rfl, sqT_same R.same h1, fun z => hc.1 (by have := g1.length; rw [z] at this; exact List.length_eq_zero_iff.mp this.symm), hc.2.1, hc.2.2.1, by rw [g1.length]; exact hc.2.2.2, fun p hp => ?_⟩
        have s2 := same_updM (u := .tup (List.replicate j.toNat ws).flatten) (R.same.free hp)
        exact kk _ _ _ s2 (R.growM hp) (.tup (.inl (.inl upd_same)) ((dvs_rep g1 j.toNat).mono s2))
    · cases e
  · cases e
/-! ### min of a list of texts -/
/-- the least text -/
def minS (x : Str) (xs : List Str) : Str := xs.foldl (fun a y => if PySem.W.dataLt (.str y) (.str a) = true then y else a) x
theorem minD_strs (x : Str) : ∀ xs : List Str, PySem.W.minD (.str x) (xs.map .str) = .str (minS x xs) := fun xs => by
  unfold PySem.W.minD minS
  induction xs generalizing x with
  | nil => rfl
  | cons y ys ih =>
    rw [List.map_cons, List.foldl_cons, List.foldl_cons, ← ih]
    congr 1
    split <;> rfl
theorem depth_strs : ∀ xs : List Str, PyData.depthAll (xs.map .str) = 0
  | [] => rfl
  | x :: xs => by
    show max 0 (PyData.depthAll (xs.map .str)) = 0
    rw [depth_strs xs]; rfl
theorem strs_dvs2 {K : PySem.W.Frag} {M : Hp} : ∀ {ss : List Str} {vs : List V}, Dvs K M vs (ss.map .str) → vs = ss.map V.str
  | [], _, .nil => rfl
  | s :: ss, _, .cons d ds => by
    cases d
    rw [List.map_cons, strs_dvs2 ds]
def minTD : List D → Option D
  | [.lst ds] => (strsD ds).bind fun ss => match ss with
    | [] => none
    | x :: xs => some (.str (minS x xs))
  | _ => none
theorem cMinT (hc : X.calm = true) (hu : X.A.units + 64 < cLine) : CallR X (.builtin "min") (rDs X.K minTD) := by
  intro pins s σ H xs us Q I r ⟨M, fo, fv, ds, d, R, dv, e, k⟩
  unfold minTD at e
  split at e
  · rename_i es
    cases q : strsD es with
    | none => rw [q] at e; cases e
    | some ss =>
      rw [q, Option.bind_some] at e
      cases ss with
      | nil => cases e
      | cons x ys =>
        cases e
        have es' := strs_some q
        subst es'
        obtain ⟨v, rfl, d1⟩ := one_of dv
        cases d1 with
        | lst hs hd =>
          have := strs_dvs2 hd
          subst this
          obtain ⟨its, rv, hl, _⟩ := I.list (seqX R.same hs)
          rw [Vals.ref1 r]
          have hr : ReadsAll s.heap its.toArray.toList (PyData.str x :: ys.map .str) [] := by
            show ReadsAll s.heap its _ []
            exact PyProof.Rows.strs_readAll s.heap (xs := x :: ys) rv.strs
          refine PySem.W.min_list_data (I.ok.hd hc) hl.isList hr ⟨fun a ha b hb => ?_, fun a ha => ?_⟩ ?_ fun i v h' tk bs hi hrd hk => ?_
          · obtain ⟨a', _, rfl⟩ := List.mem_map.mp (show a ∈ (x :: ys).map PyData.str from ha)
            obtain ⟨b', _, rfl⟩ := List.mem_map.mp (show b ∈ (x :: ys).map PyData.str from hb)
            rfl
          · obtain ⟨a', _, rfl⟩ := List.mem_map.mp (show a ∈ (x :: ys).map PyData.str from ha)
            exact fun z => nomatch z
          · have := depth_strs (x :: ys)
            rw [List.map_cons] at this
            rw [this]; omega
          · rw [minD_strs] at hrd
            cases hrd with
            | str _ t => exact ⟨.str _, H, I.kept hk, ⟨_, rfl⟩, k M H _ (Same.refl _) R (.str _)⟩
  · cases e
end
end PD

namespace K02
open PySem PySem.Spec L2 L2H PD
def topS (i : Nat) : Stmt := PySem.Challenge.pw_playhall_k02_whole_shift_algebra.main.body.getD i (.Pass ⟨0, 0, 0, 0⟩)
def clsS (i j : Nat) : Stmt := match topS i with
  | .ClassDef (body := b) .. => b.getD j (.Pass ⟨0, 0, 0, 0⟩)
  | _ => .Pass ⟨0, 0, 0, 0⟩
/-- where the classes stand -/
structure Cs where
  Shift : Addr
  Blocked : Addr
  HallError : Addr
  NoCounter : Addr
abbrev s_law_same : Stmt := topS 12
theorem sc_law_same : FnScope ["_law_actual", "_law_expected", "_law_k"] ["_law_actual", "_law_expected"] (defScope s_law_same) := ⟨rfl, rfl, rfl, by decide +kernel, rfl, by decide +kernel, by decide +kernel⟩
abbrev s_law_same_dict : Stmt := topS 13
theorem sc_law_same_dict : FnScope ["_law_actual", "_law_expected", "_law_label"] ["_law_actual", "_law_expected"] (defScope s_law_same_dict) := ⟨rfl, rfl, rfl, by decide +kernel, rfl, by decide +kernel, by decide +kernel⟩
abbrev sShift_gap : Stmt := clsS 7 7
theorem scShift_gap : FnScope ["self", "values", "counter", "low", "high", "amount"] ["self", "values"] (defScope sShift_gap) := ⟨rfl, rfl, rfl, by decide +kernel, rfl, by decide +kernel, by decide +kernel⟩
abbrev sShift_applied : Stmt := clsS 7 8
theorem scShift_applied : FnScope ["self", "values", "blocking", "changed", "counter", "low", "high", "amount"] ["self", "values"] (defScope sShift_applied) := ⟨rfl, rfl, rfl, by decide +kernel, rfl, by decide +kernel, by decide +kernel⟩
abbrev s_law_base : Stmt := topS 21
theorem sc_law_base : FnScope ["_law_shift", "_law_own_values", "e"] ["_law_shift", "_law_own_values"] (defScope s_law_base) := ⟨rfl, rfl, rfl, by decide +kernel, rfl, by decide +kernel, by decide +kernel⟩
abbrev s_law_applied : Stmt := topS 22
theorem sc_law_applied : FnScope ["_law_shift", "_law_own_values", "_law_bad_here", "_law_behind", "_law_expected", "_law_passed", "_law_told", "_law_actual", "e"] ["_law_shift", "_law_own_values", "_law_bad_here", "_law_behind"] (defScope s_law_applied) := ⟨rfl, rfl, rfl, by decide +kernel, rfl, by decide +kernel, by decide +kernel⟩
abbrev sShift_init : Stmt := clsS 7 0
theorem scShift_init : FnScope ["self", "rows", "row"] ["self", "rows"] (defScope sShift_init) := ⟨rfl, rfl, rfl, by decide +kernel, rfl, by decide +kernel, by decide +kernel⟩
abbrev sShift_mul : Stmt := clsS 7 4
theorem scShift_mul : FnScope ["self", "other", "rows", "counter", "low", "high", "amount", "before_last"] ["self", "other"] (defScope sShift_mul) := ⟨rfl, rfl, rfl, by decide +kernel, rfl, by decide +kernel, by decide +kernel⟩
abbrev sShift_invert : Stmt := clsS 7 3
theorem scShift_invert : FnScope ["self", "counter", "low", "high", "amount"] ["self"] (defScope sShift_invert) := ⟨rfl, rfl, rfl, by decide +kernel, rfl, by decide +kernel, by decide +kernel⟩
abbrev s_law_moved : Stmt := topS 20
theorem sc_law_moved : FnScope ["_law_rows_here", "_law_own_values", "_law_times", "_law_result", "_law_label", "_law_low", "_law_high", "_law_amount"] ["_law_rows_here", "_law_own_values", "_law_times"] (defScope s_law_moved) := ⟨rfl, rfl, rfl, by decide +kernel, rfl, by decide +kernel, by decide +kernel⟩
abbrev s_law_bad : Stmt := topS 19
theorem sc_law_bad : FnScope ["_law_rows_here", "_law_own_values", "_law_times", "_law_bad_here", "_law_checked", "_law_label", "_law_low", "_law_high", "_law_amount", "_law_outside", "_law_k"] ["_law_rows_here", "_law_own_values", "_law_times"] (defScope s_law_bad) := ⟨rfl, rfl, rfl, by decide +kernel, rfl, by decide +kernel, by decide +kernel⟩
abbrev srow_of_both : Stmt := topS 6
theorem scrow_of_both : FnScope ["first", "second", "counter", "low", "high", "amount"] ["first", "second"] (defScope srow_of_both) := ⟨rfl, rfl, rfl, by decide +kernel, rfl, by decide +kernel, by decide +kernel⟩
abbrev sShift_add : Stmt := clsS 7 2
theorem scShift_add : FnScope ["self", "other", "rows", "row"] ["self", "other"] (defScope sShift_add) := ⟨rfl, rfl, rfl, by decide +kernel, rfl, by decide +kernel, by decide +kernel⟩
abbrev sShift_sum_of : Stmt := clsS 7 6
theorem scShift_sum_of : FnScope ["shifts", "total", "shift"] ["shifts"] (defScope sShift_sum_of) := ⟨rfl, rfl, rfl, by decide +kernel, rfl, by decide +kernel, by decide +kernel⟩
abbrev sShift_eq : Stmt := clsS 7 5
theorem scShift_eq : FnScope ["self", "other"] ["self", "other"] (defScope sShift_eq) := ⟨rfl, rfl, rfl, by decide +kernel, rfl, by decide +kernel, by decide +kernel⟩
abbrev s_law_equal : Stmt := topS 23
theorem sc_law_equal : FnScope ["_law_left", "_law_right"] ["_law_left", "_law_right"] (defScope s_law_equal) := ⟨rfl, rfl, rfl, by decide +kernel, rfl, by decide +kernel, by decide +kernel⟩
abbrev s_law_algebra : Stmt := topS 24
theorem sc_law_algebra : FnScope ["_law_one", "_law_other", "_law_third", "_law_many", "_law_more", "_law_total", "_law_parts"] ["_law_one", "_law_other", "_law_third", "_law_many", "_law_more"] (defScope s_law_algebra) := ⟨rfl, rfl, rfl, by decide +kernel, rfl, by decide +kernel, by decide +kernel⟩
abbrev s_law_count : Stmt := topS 15
theorem sc_law_count : FnScope ["_law_numbers", "_law_kind", "_law_value", "_law_k"] ["_law_numbers"] (defScope s_law_count) := ⟨rfl, rfl, rfl, by decide +kernel, rfl, by decide +kernel, by decide +kernel⟩
abbrev s_law_row : Stmt := topS 10
theorem sc_law_row : FnScope ["_law_cell_here", "_law_many", "_law_row_here", "_law_seed", "_law_rest", "_law_k", "_law_mixed"] ["_law_cell_here", "_law_many"] (defScope s_law_row) := ⟨rfl, rfl, rfl, by decide +kernel, rfl, by decide +kernel, by decide +kernel⟩
abbrev s_law_cell : Stmt := topS 9
theorem sc_law_cell : FnScope ["_law_script", "_law_k"] ["_law_script", "_law_k"] (defScope s_law_cell) := ⟨rfl, rfl, rfl, by decide +kernel, rfl, by decide +kernel, by decide +kernel⟩
abbrev s_law_number : Stmt := topS 14
theorem sc_law_number : FnScope ["_law_numbers", "_law_most", "_law_sign", "_law_kind", "_law_value", "_law_k"] ["_law_numbers", "_law_most"] (defScope s_law_number) := ⟨rfl, rfl, rfl, by decide +kernel, rfl, by decide +kernel, by decide +kernel⟩
abbrev s_law_rows : Stmt := topS 18
theorem sc_law_rows : FnScope ["_law_row_here", "_law_pool_here", "_law_own_values", "_law_rows_here", "_law_scale", "_law_k", "_law_at", "_law_low", "_law_high", "_law_amount"] ["_law_row_here", "_law_pool_here", "_law_own_values"] (defScope s_law_rows) := ⟨rfl, rfl, rfl, by decide +kernel, rfl, by decide +kernel, by decide +kernel⟩
abbrev s_law_values : Stmt := topS 17
theorem sc_law_values : FnScope ["_law_row_here", "_law_pool_here", "_law_own_values", "_law_k"] ["_law_row_here", "_law_pool_here"] (defScope s_law_values) := ⟨rfl, rfl, rfl, by decide +kernel, rfl, by decide +kernel, by decide +kernel⟩
abbrev s_law_word : Stmt := topS 11
theorem sc_law_word : FnScope ["_law_number_here", "_law_rest", "_law_word_here", "_law_k"] ["_law_number_here"] (defScope s_law_word) := ⟨rfl, rfl, rfl, by decide +kernel, rfl, by decide +kernel, by decide +kernel⟩
abbrev s_law_pool : Stmt := topS 16
theorem sc_law_pool : FnScope ["_law_row_here", "_law_first", "_law_second", "_law_pool_here", "_law_label"] ["_law_row_here"] (defScope s_law_pool) := ⟨rfl, rfl, rfl, by decide +kernel, rfl, by decide +kernel, by decide +kernel⟩
abbrev slaw : Stmt := topS 25
theorem sclaw : FnScope ["_law_script", "_law_pool_here", "_law_own_values", "_law_first", "_law_second", "_law_last", "_law_many", "_law_more", "_law_one", "_law_other", "_law_third", "_law_bad_here", "_law_behind"] ["_law_script"] (defScope slaw) := ⟨rfl, rfl, rfl, by decide +kernel, rfl, by decide +kernel, by decide +kernel⟩
abbrev sBlocked_init : Stmt := clsS 4 0
theorem xsBlocked : XSt "Blocked.__init__" sBlocked_init ["counter"] := { ar := ⟨_, rfl, rfl⟩, n1 := rfl, n2 := rfl, n3 := rfl, n4 := rfl, n5 := rfl, n6 := rfl, n7 := by decide +kernel, body := ⟨_, _, _, _, _, _, _, _, _, rfl, fun _ _ _ _ => ⟨_, rfl⟩, .cons (.nil)⟩, binds := fun _ _ _ _ _ _ _ _ us hl => match us, hl with | [_, _], _ => rfl, loc := by decide +kernel, nd := by decide, few := by decide }
/-- _law_same: 0 _law_actual, 1 _law_expected, 2 _law_k -/
noncomputable abbrev b_law_same (c : Cs) (self_ : List D → Option D) : Ev → Option Fl :=
    (sq (ifS (asB (b2 (gv 1) kN isN)) (rtV (b2 (gv 0) kN isN)) skip)
    (sq (ifS (asB (b1 (gv 1) (isiD "bool"))) (rtV (andV (b1 (gv 0) (isiD "bool")) (b2 (gv 0) (gv 1) eqD))) skip)
    (sq (ifS (asB (b1 (gv 1) (isiD "int"))) (rtV (andV (b1 (gv 0) (isiD "int")) (andV (notV (b1 (gv 0) (isiD "bool"))) (b2 (gv 0) (gv 1) eqD)))) skip)
    (sq (ifS (asB (b1 (gv 1) (isiD "str"))) (rtV (andV (b1 (gv 0) (isiD "str")) (b2 (gv 0) (gv 1) eqD))) skip)
    (sq (ifS (andT (asB (b1 (gv 1) (isiD "tuple"))) (notT (asB (b1 (gv 0) (isiD "tuple"))))) (rtV (kB false)) skip)
    (sq (ifS (orT (andT (asB (b1 (gv 1) (isiD "list"))) (notT (asB (b1 (gv 0) (isiD "list"))))) (asB (b2 (cB (aCons (gv 0) aNil) lenD) (cB (aCons (gv 1) aNil) lenD) neD))) (rtV (kB false)) skip)
    (sq (forS (rng1 (cB (aCons (gv 1) aNil) lenD)) (gN 2) (ifS (notT (asB (cB (aCons (b2 (gv 0) (gv 2) ixD) (aCons (b2 (gv 1) (gv 2) ixD) aNil)) (len? 2 (self_))))) (rtV (kB false)) skip))
    (rtV (kB true)))))))))
noncomputable def m_law_same (c : Cs) : Nat → List D → Option D
  | 0 => fun _ => none
  | n + 1 => runP 3 (b_law_same c (m_law_same c n))
/-- _law_same_dict: 0 _law_actual, 1 _law_expected, 2 _law_label -/
noncomputable abbrev b_law_same_dict (c : Cs) : Ev → Option Fl :=
    (sq (ifS (orT (notT (asB (b1 (gv 0) (isiD "dict")))) (asB (b2 (cB (aCons (gv 0) aNil) lenD) (cB (aCons (gv 1) aNil) lenD) neD))) (rtV (kB false)) skip)
    (sq (forK 1 (gN 2) (ifS (orT (asB (b2 (gv 2) (gv 0) ndinD)) (notT (asB (cB (aCons (b2 (gv 0) (gv 2) dgetD) (aCons (b2 (gv 1) (gv 2) dgetD) aNil)) (len? 2 (m_law_same c 3)))))) (rtV (kB false)) skip))
    (rtV (kB true))))
noncomputable def m_law_same_dict (c : Cs) : List D → Option D := runP 3 (b_law_same_dict c)
/-- Shift_gap: 0 self, 1 values, 2 counter, 3 low, 4 high, 5 amount -/
noncomputable abbrev bShift_gap (c : Cs) : Ev → Option Fl :=
    (sq (forS (iOf (b1 (gv 0) (fldD c.Shift "rows"))) (gT 4 (gsC (gN 2) (gsC (gN 3) (gsC (gN 4) (gsC (gN 5) gsN))))) (ifS (notT (asB (chn (gv 3) (b2 (gv 1) (gv 2) dgetD) (gv 4) leI leI))) (rtV (gv 2)) skip))
    (rtV kN))
noncomputable def mShift_gap (c : Cs) : List D → Option D := runP 6 (bShift_gap c)
/-- Shift_applied: 0 self, 1 values, 2 blocking, 3 changed, 4 counter, 5 low, 6 high, 7 amount -/
noncomputable abbrev bShift_applied (c : Cs) : Ev → Option Fl :=
    (sq (stV 2 (mC c.Shift "gap" (gv 0) (aCons (gv 1) aNil) 2 (mShift_gap c)))
    (sq (ifS (asB (b2 (gv 2) kN notN)) (raiS c.Blocked ["counter"] (aCons (gv 2) aNil)) skip)
    (sq (stO 3 (cO (aCons (gv 1) aNil) dictO))
    (sq (forS (iOf (b1 (gv 0) (fldD c.Shift "rows"))) (gT 4 (gsC (gN 4) (gsC (gN 5) (gsC (gN 6) (gsC (gN 7) gsN))))) (dput 3 (gv 4) (b2 (dgetO 3 (gv 4)) (gv 7) addA)))
    (rtM (mv 3))))))
noncomputable def mShift_applied (c : Cs) : List D → Option Rz := runX 8 (bShift_applied c)
/-- _law_base: 0 _law_shift, 1 _law_own_values, 2 e -/
noncomputable abbrev b_law_base (c : Cs) : Ev → Option Fl :=
    (sq (tryS [(c.Blocked, true)] 2
    (drpX (eMX c.Shift "applied" (eV (gv 0)) (eCons (eV (gv 1)) eNil) 2 (mShift_applied c)))
    (fun a d cls => (rtV (andV (b1 (gv 2) (isX a d cls [(c.Blocked, true)])) (andV (b1 (gv 2) (isX a d cls [(c.Blocked, true)])) (notV (b1 (gv 2) (isX a d cls [(c.Blocked, false)]))))))))
    (rtV (kB false)))
noncomputable def m_law_base (c : Cs) : List D → Option D := runP 3 (b_law_base c)
/-- _law_applied: 0 _law_shift, 1 _law_own_values, 2 _law_bad_here, 3 _law_behind, 4 _law_expected, 5 _law_passed, 6 _law_told, 7 _law_actual, 8 e -/
noncomputable abbrev b_law_applied (c : Cs) : Ev → Option Fl :=
    (sq (stV 4 kN)
    (sq (ifS (asB (b2 (cB (aCons (gv 2) aNil) lenD) (kI 0) gtI)) (stV 4 (cB (aCons (gv 2) aNil) minTD)) skip)
    (sq (stV 5 (frz (cO (aCons (gv 1) aNil) dictO)))
    (sq (ifS (orT (notT (asB (cB (aCons (mC c.Shift "gap" (gv 0) (aCons (gv 5) aNil) 2 (mShift_gap c)) (aCons (gv 4) aNil)) (len? 2 (m_law_same c 3))))) (notT (asB (cB (aCons (mC c.Shift "gap" (gv 0) (aCons (gv 5) aNil) 2 (mShift_gap c)) (aCons (gv 4) aNil)) (len? 2 (m_law_same c 3)))))) (rtV (kB false)) skip)
    (sq (stV 6 kN)
    (sq (stO 7 (thaw kN))
    (sq (tryS [(c.Blocked, true)] 8
    (stX 7 (eMX c.Shift "applied" (eV (gv 0)) (eCons (eV (gv 5)) eNil) 2 (mShift_applied c)))
    (fun a d cls => (stV 6 (b1 (gv 8) (fldE a d cls [c.Blocked] "counter")))))
    (sq (ifS (orT (notT (asB (cB (aCons (gv 5) (aCons (gv 1) aNil)) (len? 2 (m_law_same_dict c))))) (notT (asB (cB (aCons (gv 6) (aCons (gv 4) aNil)) (len? 2 (m_law_same c 3)))))) (rtV (kB false)) skip)
    (sq (ifS (asB (b2 (gv 4) kN notN)) (fz 7 (rtV (andV (b2 (gv 7) kN isN) (cB (aCons (gv 0) (aCons (gv 5) aNil)) (len? 2 (m_law_base c)))))) skip)
    (sq (ifS (vwT (notT (asB (cB (aCons (gv 7) (aCons (gv 3) aNil)) (len? 2 (m_law_same_dict c)))))) (rtV (kB false)) skip)
    (sq (dput 7 (kS "zzzzzzzzzzzz") (kI 8))
    (rtV (andV (cB (aCons (gv 5) (aCons (gv 1) aNil)) (len? 2 (m_law_same_dict c))) (cB (aCons (frz (mX c.Shift "applied" (gv 0) (aCons (gv 5) aNil) 2 (mShift_applied c))) (aCons (gv 3) aNil)) (len? 2 (m_law_same_dict c))))))))))))))))
noncomputable def m_law_applied (c : Cs) : List D → Option D := runP 9 (b_law_applied c)
/-- Shift_init: 0 self, 1 rows, 2 row -/
noncomputable abbrev bShift_init (c : Cs) : Ev → Option Fl :=
    (put c.Shift 0 "rows" (thaw (cB (aCons (frz (cO (aCons (lcD (iOf (gv 1)) (gN 2) yes (cB (aCons (gv 2) aNil) tupD) [2]) aNil) srtO)) aNil) tupD)))
noncomputable def mShift_init (c : Cs) : List D → Option O := runI c.Shift 3 (bShift_init c)
/-- Shift_mul: 0 self, 1 other, 2 rows, 3 counter, 4 low, 5 high, 6 amount, 7 before_last -/
noncomputable abbrev bShift_mul (c : Cs) : Ev → Option Fl :=
    (sq (ifS (asB (b2 (gv 1) (kI 0) eqD)) (rtV (frz (cO (aCons (mkLst aNil) aNil) (lenO? 1 (mShift_init c))))) skip)
    (sq (stO 2 (mkLstO aNil))
    (sq (forS (iOf (b1 (gv 0) (fldD c.Shift "rows"))) (gT 4 (gsC (gN 3) (gsC (gN 4) (gsC (gN 5) (gsC (gN 6) gsN))))) (sq (stV 7 (b2 (b2 (gv 1) (kI 1) subI) (gv 6) mulI))
    (app 2 (mkTup (aCons (gv 3) (aCons (b2 (gv 4) (cB (aCons (kI 0) (aCons (gv 7) aNil)) min2) subI) (aCons (b2 (gv 5) (cB (aCons (kI 0) (aCons (gv 7) aNil)) max2) subI) (aCons (b2 (gv 1) (gv 6) mulI) aNil))))))))
    (fz 2 (rtV (frz (cO (aCons (gv 2) aNil) (lenO? 1 (mShift_init c)))))))))
noncomputable def mShift_mul (c : Cs) : List D → Option D := runP 8 (bShift_mul c)
/-- Shift_invert: 0 self, 1 counter, 2 low, 3 high, 4 amount -/
noncomputable abbrev bShift_invert (c : Cs) : Ev → Option Fl :=
    (rtV (frz (cO (aCons (lcD (iOf (b1 (gv 0) (fldD c.Shift "rows"))) (gT 4 (gsC (gN 1) (gsC (gN 2) (gsC (gN 3) (gsC (gN 4) gsN))))) yes (mkTup (aCons (gv 1) (aCons (b2 (gv 2) (gv 4) addA) (aCons (b2 (gv 3) (gv 4) addA) (aCons (b1 (gv 4) negI) aNil))))) [1, 2, 3, 4]) aNil) (lenO? 1 (mShift_init c)))))
noncomputable def mShift_invert (c : Cs) : List D → Option D := runP 5 (bShift_invert c)
/-- _law_moved: 0 _law_rows_here, 1 _law_own_values, 2 _law_times, 3 _law_result, 4 _law_label, 5 _law_low, 6 _law_high, 7 _law_amount -/
noncomputable abbrev b_law_moved (c : Cs) : Ev → Option Fl :=
    (sq (stO 3 (cO (aCons (gv 1) aNil) dictO))
    (sq (forS (iOf (gv 0)) (gT 4 (gsC (gN 4) (gsC (gN 5) (gsC (gN 6) (gsC (gN 7) gsN))))) (dput 3 (gv 4) (b2 (dgetO 3 (gv 4)) (b2 (gv 2) (gv 7) mulI) addA)))
    (fz 3 (rtV (gv 3)))))
noncomputable def m_law_moved (c : Cs) : List D → Option D := runP 8 (b_law_moved c)
/-- _law_bad: 0 _law_rows_here, 1 _law_own_values, 2 _law_times, 3 _law_bad_here, 4 _law_checked, 5 _law_label, 6 _law_low, 7 _law_high, 8 _law_amount, 9 _law_outside, 10 _law_k -/
noncomputable abbrev b_law_bad (c : Cs) : Ev → Option Fl :=
    (sq (stO 3 (mkLstO aNil))
    (sq (stV 4 (mkLst (aCons (kI 0) (aCons (b2 (gv 2) (kI 1) subI) aNil))))
    (sq (ifS (asB (b2 (gv 2) (kI 10) ltI)) (stV 4 (frz (lstRngO (gv 2)))) skip)
    (sq (forS (iOf (gv 0)) (gT 4 (gsC (gN 5) (gsC (gN 6) (gsC (gN 7) (gsC (gN 8) gsN))))) (sq (stV 9 (lcD (iOf (gv 4)) (gN 10) (orT (asB (b2 (b2 (b2 (gv 1) (gv 5) dgetD) (b2 (gv 10) (gv 8) mulI) addA) (gv 6) ltI)) (asB (b2 (b2 (b2 (gv 1) (gv 5) dgetD) (b2 (gv 10) (gv 8) mulI) addA) (gv 7) gtI))) (gv 10) [10]))
    (ifS (asB (b2 (cB (aCons (gv 9) aNil) lenD) (kI 0) gtI)) (app 3 (gv 5)) skip)))
    (fz 3 (rtV (gv 3)))))))
noncomputable def m_law_bad (c : Cs) : List D → Option D := runP 11 (b_law_bad c)
/-- row_of_both: 0 first, 1 second, 2 counter, 3 low, 4 high, 5 amount -/
noncomputable abbrev brow_of_both (c : Cs) : Ev → Option Fl :=
    (sq (asg (gv 0) (gT 4 (gsC (gN 2) (gsC (gN 3) (gsC (gN 4) (gsC (gN 5) gsN))))))
    (rtV (mkTup (aCons (gv 2) (aCons (cB (aCons (gv 3) (aCons (b2 (b2 (gv 1) (kI 1) ixD) (gv 5) subI) aNil)) max2) (aCons (cB (aCons (gv 4) (aCons (b2 (b2 (gv 1) (kI 2) ixD) (gv 5) subI) aNil)) min2) (aCons (b2 (gv 5) (b2 (gv 1) (kI 3) ixD) addA) aNil)))))))
noncomputable def mrow_of_both (c : Cs) : List D → Option D := runP 6 (brow_of_both c)
/-- Shift_add: 0 self, 1 other, 2 rows, 3 row -/
noncomputable abbrev bShift_add (c : Cs) : Ev → Option Fl :=
    (sq (stO 2 dic0)
    (sq (forS (iOf (b1 (gv 0) (fldD c.Shift "rows"))) (gN 3) (dput 2 (b2 (gv 3) (kI 0) ixD) (gv 3)))
    (sq (forS (iOf (b1 (gv 1) (fldD c.Shift "rows"))) (gN 3) (ifS (vwT (asB (b2 (b2 (gv 3) (kI 0) ixD) (gv 2) dinD))) (dput 2 (b2 (gv 3) (kI 0) ixD) (cB (aCons (dgetO 2 (b2 (gv 3) (kI 0) ixD)) (aCons (gv 3) aNil)) (len? 2 (mrow_of_both c)))) (dput 2 (b2 (gv 3) (kI 0) ixD) (gv 3))))
    (fz 2 (rtV (frz (cO (aCons (frz (valsO (gv 2))) aNil) (lenO? 1 (mShift_init c)))))))))
noncomputable def mShift_add (c : Cs) : List D → Option D := runP 4 (bShift_add c)
/-- Shift_sum_of: 0 shifts, 1 total, 2 shift -/
noncomputable abbrev bShift_sum_of (c : Cs) : Ev → Option Fl :=
    (sq (stV 1 (frz (cO (aCons (mkLst aNil) aNil) (lenO? 1 (mShift_init c)))))
    (sq (forS (iOf (gv 0)) (gN 2) (stV 1 (b2 (gv 1) (gv 2) (orD addA (opC c.Shift (mShift_add c))))))
    (rtV (gv 1))))
noncomputable def mShift_sum_of (c : Cs) : List D → Option D := runP 3 (bShift_sum_of c)
/-- Shift_eq: 0 self, 1 other -/
noncomputable abbrev bShift_eq (c : Cs) : Ev → Option Fl :=
    (rtV (andV (b1 (gv 1) (isiC [(c.Shift, true)])) (b2 (b1 (gv 0) (fldD c.Shift "rows")) (b1 (gv 1) (fldD c.Shift "rows")) eqD)))
noncomputable def mShift_eq (c : Cs) : List D → Option D := runP 2 (bShift_eq c)
/-- _law_equal: 0 _law_left, 1 _law_right -/
noncomputable abbrev b_law_equal (c : Cs) : Ev → Option Fl :=
    (rtV (andV (cB (aCons (b1 (gv 0) (fldD c.Shift "rows")) (aCons (b1 (gv 1) (fldD c.Shift "rows")) aNil)) (len? 2 (m_law_same c 3))) (cB (aCons (b2 (gv 0) (gv 1) (orD eqD (eqC c.Shift [] (mShift_eq c)))) (aCons (kB true) aNil)) (len? 2 (m_law_same c 3)))))
noncomputable def m_law_equal (c : Cs) : List D → Option D := runP 2 (b_law_equal c)
/-- _law_algebra: 0 _law_one, 1 _law_other, 2 _law_third, 3 _law_many, 4 _law_more, 5 _law_total, 6 _law_parts -/
noncomputable abbrev b_law_algebra (c : Cs) : Ev → Option Fl :=
    (sq (stV 5 (b2 (b2 (gv 0) (gv 1) (orD addA (opC c.Shift (mShift_add c)))) (gv 2) (orD addA (opC c.Shift (mShift_add c)))))
    (sq (ifS (orT (notT (asB (cB (aCons (gv 5) (aCons (b2 (gv 0) (b2 (gv 1) (gv 2) (orD addA (opC c.Shift (mShift_add c)))) (orD addA (opC c.Shift (mShift_add c)))) aNil)) (len? 2 (m_law_equal c))))) (notT (asB (cB (aCons (b1 (b2 (gv 0) (gv 1) (orD addA (opC c.Shift (mShift_add c)))) (inC c.Shift (mShift_invert c))) (aCons (b2 (b1 (gv 1) (inC c.Shift (mShift_invert c))) (b1 (gv 0) (inC c.Shift (mShift_invert c))) (orD addA (opC c.Shift (mShift_add c)))) aNil)) (len? 2 (m_law_equal c)))))) (rtV (kB false)) skip)
    (sq (ifS (orT (notT (asB (cB (aCons (b1 (b1 (gv 0) (inC c.Shift (mShift_invert c))) (inC c.Shift (mShift_invert c))) (aCons (gv 0) aNil)) (len? 2 (m_law_equal c))))) (notT (asB (cB (aCons (b2 (gv 0) (b2 (gv 3) (gv 4) (orD addA (opC c.Shift (mShift_add c)))) (orD mulA (opCI c.Shift (mShift_mul c)))) (aCons (b2 (b2 (gv 0) (gv 3) (orD mulA (opCI c.Shift (mShift_mul c)))) (b2 (gv 0) (gv 4) (orD mulA (opCI c.Shift (mShift_mul c)))) (orD addA (opC c.Shift (mShift_add c)))) aNil)) (len? 2 (m_law_equal c)))))) (rtV (kB false)) skip)
    (sq (stV 6 (mkLst (aCons (gv 0) (aCons (gv 1) (aCons (gv 2) aNil)))))
    (sq (ifS (orT (notT (asB (cB (aCons (cB (aCons (gv 6) aNil) (len? 1 (mShift_sum_of c))) (aCons (gv 5) aNil)) (len? 2 (m_law_equal c))))) (notT (asB (cB (aCons (cB (aCons (b2 (mkTup (aCons (gv 0) (aCons (gv 1) (aCons (gv 2) aNil)))) (kI 20) repTD) aNil) (len? 1 (mShift_sum_of c))) (aCons (b2 (gv 5) (kI 20) (orD mulI (opCI c.Shift (mShift_mul c)))) aNil)) (len? 2 (m_law_equal c)))))) (rtV (kB false)) skip)
    (sq (ifS (notT (asB (cB (aCons (sC c.Shift "sum_of" (gv 0) (aCons (mkLst (aCons (gv 1) (aCons (gv 2) aNil))) aNil) 1 (mShift_sum_of c)) (aCons (b2 (gv 1) (gv 2) (orD addA (opC c.Shift (mShift_add c)))) aNil)) (len? 2 (m_law_equal c))))) (rtV (kB false)) skip)
    (rtV (andV (b2 (cB (aCons (gv 6) aNil) lenD) (kI 3) (orD eqD (eqC c.Shift [] (mShift_eq c)))) (andV (cB (aCons (b1 (cB (aCons (mkLst aNil) aNil) (len? 1 (mShift_sum_of c))) (fldD c.Shift "rows")) (aCons (mkTup aNil) aNil)) (len? 2 (m_law_same c 3))) (cB (aCons (cB (aCons (mkLst (aCons (gv 1) aNil)) aNil) (len? 1 (mShift_sum_of c))) (aCons (gv 1) aNil)) (len? 2 (m_law_equal c))))))))))))
noncomputable def m_law_algebra (c : Cs) : List D → Option D := runP 7 (b_law_algebra c)
/-- _law_count: 0 _law_numbers, 1 _law_kind, 2 _law_value, 3 _law_k -/
noncomputable abbrev b_law_count (c : Cs) : Ev → Option Fl :=
    (sq (stV 1 (b2 (cB (aCons (b2 (gv 0) (kI 0) ixD) aNil) intD) (kI 3) modI))
    (sq (ifS (asB (b2 (gv 1) (kI 0) eqD)) (rtV (b2 (cB (aCons (b2 (gv 0) (kI 1) ixD) aNil) intD) (kI 5) modI)) skip)
    (sq (ifS (asB (b2 (gv 1) (kI 1) eqD)) (rtV (cB (aCons (b2 (gv 0) (kI 1) ixD) aNil) intD)) skip)
    (sq (stV 2 (kI 0))
    (sq (forS (rng1 (kI 7)) (gN 3) (stV 2 (b2 (b2 (gv 2) (kI 1000) mulI) (cB (aCons (b2 (gv 0) (b2 (kI 1) (gv 3) addA) ixD) aNil) intD) addA)))
    (rtV (b2 (cB (aCons (gv 2) aNil) intD) (b2 (b2 (kI 10) (kI 20) powI) (kI 1) addA) modI)))))))
noncomputable def m_law_count (c : Cs) : List D → Option D := runP 4 (b_law_count c)
/-- _law_row: 0 _law_cell_here, 1 _law_many, 2 _law_row_here, 3 _law_seed, 4 _law_rest, 5 _law_k, 6 _law_mixed -/
noncomputable abbrev b_law_row (c : Cs) : Ev → Option Fl :=
    (sq (stO 2 (mkLstO aNil))
    (sq (stV 3 (b2 (cB (aCons (gv 0) aNil) intD) (kI 2147483629) modI))
    (sq (stV 4 (b2 (gv 0) (b2 (kI 10) (kI 18) powI) subI))
    (sq (forS (rng1 (gv 1)) (gN 5) (sq (stV 3 (b2 (cB (aCons (b2 (b2 (b2 (gv 3) (kI 48271) mulI) (b2 (kI 977) (gv 5) mulI) addA) (kI 12345) addA) aNil) intD) (kI 2147483647) modI))
    (sq (stV 6 (b2 (cB (aCons (b2 (b2 (b2 (gv 3) (kI 69621) mulI) (b2 (kI 31) (gv 5) mulI) addA) (kI 7) addA) aNil) intD) (kI 2147483629) modI))
    (sq (app 2 (ifV (asB (b2 (gv 0) (b2 (kI 10) (kI 18) powI) geI)) (b2 (cB (aCons (gv 4) aNil) intD) (kI 1000) modI) (b2 (cB (aCons (b2 (gv 6) (kI 4099) divI) aNil) intD) (kI 1000) modI)))
    (stV 4 (b2 (gv 4) (kI 1000) divI))))))
    (fz 2 (rtV (gv 2)))))))
noncomputable def m_law_row (c : Cs) : List D → Option D := runP 7 (b_law_row c)
/-- _law_cell: 0 _law_script, 1 _law_k -/
noncomputable abbrev b_law_cell (c : Cs) : Ev → Option Fl :=
    (rtV (ifV (asB (b2 (gv 1) (cB (aCons (gv 0) aNil) lenD) ltI)) (cB (aCons (b2 (gv 0) (gv 1) ixD) aNil) intD) (kI 0)))
noncomputable def m_law_cell (c : Cs) : List D → Option D := runP 2 (b_law_cell c)
/-- _law_number: 0 _law_numbers, 1 _law_most, 2 _law_sign, 3 _law_kind, 4 _law_value, 5 _law_k -/
noncomputable abbrev b_law_number (c : Cs) : Ev → Option Fl :=
    (sq (stV 2 (b2 (kI 1) (b2 (kI 2) (b2 (cB (aCons (b2 (b2 (gv 0) (kI 0) ixD) (kI 4) divI) aNil) intD) (kI 2) modI) mulI) subI))
    (sq (stV 3 (b2 (cB (aCons (b2 (gv 0) (kI 0) ixD) aNil) intD) (kI 4) modI))
    (sq (ifS (orT (asB (b2 (gv 1) (kI 0) eqD)) (asB (b2 (gv 3) (kI 0) eqD))) (rtV (b2 (b2 (cB (aCons (b2 (gv 0) (kI 1) ixD) aNil) intD) (kI 11) modI) (kI 5) subI)) skip)
    (sq (ifS (asB (b2 (gv 3) (kI 1) eqD)) (rtV (b2 (gv 2) (cB (aCons (b2 (gv 0) (kI 1) ixD) aNil) intD) mulI)) skip)
    (sq (stV 4 (kI 0))
    (sq (forS (rng1 (kI 13)) (gN 5) (stV 4 (b2 (b2 (gv 4) (kI 1000) mulI) (cB (aCons (b2 (gv 0) (b2 (kI 1) (gv 5) addA) ixD) aNil) intD) addA)))
    (sq (ifS (orT (asB (b2 (gv 1) (kI 1) eqD)) (asB (b2 (gv 3) (kI 2) eqD))) (stV 4 (b2 (cB (aCons (gv 4) aNil) intD) (b2 (kI 10) (kI 18) powI) modI)) skip)
    (rtV (b2 (gv 2) (gv 4) mulI)))))))))
noncomputable def m_law_number (c : Cs) : List D → Option D := runP 6 (b_law_number c)
/-- _law_rows: 0 _law_row_here, 1 _law_pool_here, 2 _law_own_values, 3 _law_rows_here, 4 _law_scale, 5 _law_k, 6 _law_at, 7 _law_low, 8 _law_high, 9 _law_amount -/
noncomputable abbrev b_law_rows (c : Cs) : Ev → Option Fl :=
    (sq (stO 3 (mkLstO aNil))
    (sq (stV 4 (b2 (mkLst (aCons (kI 1) (aCons (kI 1) (aCons (b2 (kI 10) (kI 20) powI) (aCons (kI 1) aNil))))) (b2 (cB (aCons (b2 (gv 0) (kI 0) ixD) aNil) intD) (kI 4) modI) ixD))
    (sq (forS (rng1 (cB (aCons (gv 1) aNil) lenD)) (gN 5) (sq (stV 6 (b2 (kI 1) (b2 (kI 43) (gv 5) mulI) addA))
    (sq (stV 7 (b2 (b2 (gv 2) (b2 (gv 1) (gv 5) ixD) dgetD) (b2 (gv 4) (b2 (b2 (cB (aCons (b2 (gv 0) (b2 (gv 6) (kI 1) addA) ixD) aNil) intD) (kI 7) modI) (kI 1) subI) mulI) subI))
    (sq (stV 8 (b2 (b2 (gv 2) (b2 (gv 1) (gv 5) ixD) dgetD) (b2 (gv 4) (b2 (b2 (cB (aCons (b2 (gv 0) (b2 (gv 6) (kI 2) addA) ixD) aNil) intD) (kI 7) modI) (kI 1) subI) mulI) addA))
    (sq (stV 9 (b2 (b2 (cB (aCons (b2 (gv 0) (b2 (gv 6) (kI 3) addA) ixD) aNil) intD) (kI 9) modI) (kI 4) subI))
    (sq (ifS (asB (b2 (b2 (cB (aCons (b2 (gv 0) (kI 0) ixD) aNil) intD) (kI 4) modI) (kI 3) eqD)) (sq (stV 7 (cB (aCons (slc (gv 0) (part (b2 (gv 6) (kI 1) addA)) (part (b2 (gv 6) (kI 15) addA))) (aCons (kI 1) aNil)) (len? 2 (m_law_number c))))
    (sq (stV 8 (cB (aCons (slc (gv 0) (part (b2 (gv 6) (kI 15) addA)) (part (b2 (gv 6) (kI 29) addA))) (aCons (kI 1) aNil)) (len? 2 (m_law_number c))))
    (stV 9 (cB (aCons (slc (gv 0) (part (b2 (gv 6) (kI 29) addA)) (part (b2 (gv 6) (kI 43) addA))) (aCons (kI 1) aNil)) (len? 2 (m_law_number c)))))) skip)
    (ifS (asB (b2 (b2 (cB (aCons (b2 (gv 0) (gv 6) ixD) aNil) intD) (kI 3) modI) (kI 0) gtI)) (app 3 (mkTup (aCons (b2 (gv 1) (gv 5) ixD) (aCons (gv 7) (aCons (gv 8) (aCons (gv 9) aNil)))))) skip)))))))
    (fz 3 (rtV (gv 3))))))
noncomputable def m_law_rows (c : Cs) : List D → Option D := runP 10 (b_law_rows c)
/-- _law_values: 0 _law_row_here, 1 _law_pool_here, 2 _law_own_values, 3 _law_k -/
noncomputable abbrev b_law_values (c : Cs) : Ev → Option Fl :=
    (sq (stO 2 dic0)
    (sq (forS (rng1 (cB (aCons (gv 1) aNil) lenD)) (gN 3) (dput 2 (b2 (gv 1) (gv 3) ixD) (cB (aCons (slc (gv 0) (part (b2 (kI 1) (b2 (kI 14) (gv 3) mulI) addA)) (part (b2 (kI 15) (b2 (kI 14) (gv 3) mulI) addA))) (aCons (b2 (cB (aCons (b2 (gv 0) (kI 0) ixD) aNil) intD) (kI 2) modI) aNil)) (len? 2 (m_law_number c)))))
    (sq (dput 2 (kS "zzzzzzzzzzzz") (kI 7))
    (fz 2 (rtV (gv 2))))))
noncomputable def m_law_values (c : Cs) : List D → Option D := runP 4 (b_law_values c)
/-- _law_word: 0 _law_number_here, 1 _law_rest, 2 _law_word_here, 3 _law_k -/
noncomputable abbrev b_law_word (c : Cs) : Ev → Option Fl :=
    (sq (stV 1 (b2 (cB (aCons (gv 0) aNil) intD) (kI 1) addA))
    (sq (stV 2 (kS ""))
    (sq (forS (rng1 (kI 12)) (gN 3) (sq (stV 2 (b2 (ifV (asB (b2 (gv 1) (kI 0) gtI)) (b2 (kS "abcdefghijklmnopqrstuvwxyz") (b2 (cB (aCons (b2 (gv 1) (kI 1) subI) aNil) intD) (kI 26) modI) ixD) (kS "")) (gv 2) addA))
    (stV 1 (b2 (b2 (gv 1) (kI 1) subI) (kI 26) divI))))
    (rtV (gv 2)))))
noncomputable def m_law_word (c : Cs) : List D → Option D := runP 4 (b_law_word c)
/-- _law_pool: 0 _law_row_here, 1 _law_first, 2 _law_second, 3 _law_pool_here, 4 _law_label -/
noncomputable abbrev b_law_pool (c : Cs) : Ev → Option Fl :=
    (sq (stV 1 (cB (aCons (b2 (b2 (gv 0) (kI 0) ixD) (b2 (kI 1000) (b2 (cB (aCons (b2 (gv 0) (kI 1) ixD) aNil) intD) (kI 30) modI) mulI) addA) aNil) (len? 1 (m_law_word c))))
    (sq (stV 2 (cB (aCons (b2 (gv 0) (kI 2) ixD) aNil) (len? 1 (m_law_word c))))
    (sq (ifS (asB (b2 (b2 (cB (aCons (b2 (gv 0) (kI 3) ixD) aNil) intD) (kI 3) modI) (kI 1) eqD)) (stV 2 (slc (b2 (gv 2) (kS "klmnopqrstuv") addA) noPart (part (kI 12)))) skip)
    (sq (stO 3 (mkLstO aNil))
    (sq (forS (iOf (mkLst (aCons (gv 1) (aCons (b2 (b2 (gv 1) (kS ".") addA) (gv 2) addA) (aCons (gv 2) (aCons (b2 (b2 (gv 2) (kS ".") addA) (gv 1) addA) (aCons (b2 (gv 1) (kS "a") addA) aNil))))))) (gN 4) (ifS (vwT (asB (b2 (gv 4) (gv 3) ninD))) (app 3 (gv 4)) skip))
    (fz 3 (rtV (gv 3))))))))
noncomputable def m_law_pool (c : Cs) : List D → Option D := runP 5 (b_law_pool c)
/-- law: 0 _law_script, 1 _law_pool_here, 2 _law_own_values, 3 _law_first, 4 _law_second, 5 _law_last, 6 _law_many, 7 _law_more, 8 _law_one, 9 _law_other, 10 _law_third, 11 _law_bad_here, 12 _law_behind -/
noncomputable abbrev blaw (c : Cs) : Ev → Option Fl :=
    (sq (stV 1 (cB (aCons (cB (aCons (cB (aCons (gv 0) (aCons (kI 0) aNil)) (len? 2 (m_law_cell c))) (aCons (kI 4) aNil)) (len? 2 (m_law_row c))) aNil) (len? 1 (m_law_pool c))))
    (sq (stV 2 (cB (aCons (cB (aCons (cB (aCons (gv 0) (aCons (kI 1) aNil)) (len? 2 (m_law_cell c))) (aCons (kI 71) aNil)) (len? 2 (m_law_row c))) (aCons (gv 1) aNil)) (len? 2 (m_law_values c))))
    (sq (stV 3 (cB (aCons (cB (aCons (cB (aCons (gv 0) (aCons (kI 2) aNil)) (len? 2 (m_law_cell c))) (aCons (kI 216) aNil)) (len? 2 (m_law_row c))) (aCons (gv 1) (aCons (gv 2) aNil))) (len? 3 (m_law_rows c))))
    (sq (stV 4 (cB (aCons (cB (aCons (cB (aCons (gv 0) (aCons (kI 3) aNil)) (len? 2 (m_law_cell c))) (aCons (kI 216) aNil)) (len? 2 (m_law_row c))) (aCons (gv 1) (aCons (gv 2) aNil))) (len? 3 (m_law_rows c))))
    (sq (stV 5 (cB (aCons (cB (aCons (cB (aCons (gv 0) (aCons (kI 4) aNil)) (len? 2 (m_law_cell c))) (aCons (kI 216) aNil)) (len? 2 (m_law_row c))) (aCons (gv 1) (aCons (gv 2) aNil))) (len? 3 (m_law_rows c))))
    (sq (stV 6 (cB (aCons (cB (aCons (cB (aCons (gv 0) (aCons (kI 5) aNil)) (len? 2 (m_law_cell c))) (aCons (kI 8) aNil)) (len? 2 (m_law_row c))) aNil) (len? 1 (m_law_count c))))
    (sq (stV 7 (cB (aCons (cB (aCons (cB (aCons (gv 0) (aCons (kI 6) aNil)) (len? 2 (m_law_cell c))) (aCons (kI 8) aNil)) (len? 2 (m_law_row c))) aNil) (len? 1 (m_law_count c))))
    (sq (stV 8 (frz (cO (aCons (gv 3) aNil) (lenO? 1 (mShift_init c)))))
    (sq (stV 9 (frz (cO (aCons (gv 4) aNil) (lenO? 1 (mShift_init c)))))
    (sq (stV 10 (frz (cO (aCons (gv 5) aNil) (lenO? 1 (mShift_init c)))))
    (sq (ifS (notT (asB (cB (aCons (gv 8) (aCons (gv 9) (aCons (gv 10) (aCons (gv 6) (aCons (gv 7) aNil))))) (len? 5 (m_law_algebra c))))) (rtV (kB false)) skip)
    (sq (stV 11 (cB (aCons (gv 3) (aCons (gv 2) (aCons (kI 1) aNil))) (len? 3 (m_law_bad c))))
    (sq (stV 12 (cB (aCons (gv 3) (aCons (gv 2) (aCons (kI 1) aNil))) (len? 3 (m_law_moved c))))
    (sq (ifS (orT (notT (asB (cB (aCons (gv 8) (aCons (gv 2) (aCons (gv 11) (aCons (gv 12) aNil)))) (len? 4 (m_law_applied c))))) (notT (asB (cB (aCons (b1 (gv 8) (inC c.Shift (mShift_invert c))) (aCons (gv 12) (aCons (gv 11) (aCons (gv 2) aNil)))) (len? 4 (m_law_applied c)))))) (rtV (kB false)) skip)
    (sq (stV 11 (b2 (gv 11) (cB (aCons (gv 4) (aCons (gv 12) (aCons (kI 1) aNil))) (len? 3 (m_law_bad c))) (orD addA (opC c.Shift (mShift_add c)))))
    (sq (stV 12 (cB (aCons (gv 4) (aCons (gv 12) (aCons (kI 1) aNil))) (len? 3 (m_law_moved c))))
    (sq (ifS (orT (notT (asB (cB (aCons (b2 (gv 8) (gv 9) (orD addA (opC c.Shift (mShift_add c)))) (aCons (gv 2) (aCons (gv 11) (aCons (gv 12) aNil)))) (len? 4 (m_law_applied c))))) (notT (asB (cB (aCons (b1 (b2 (gv 8) (gv 9) (orD addA (opC c.Shift (mShift_add c)))) (inC c.Shift (mShift_invert c))) (aCons (gv 12) (aCons (gv 11) (aCons (gv 2) aNil)))) (len? 4 (m_law_applied c)))))) (rtV (kB false)) skip)
    (sq (stV 11 (b2 (gv 11) (cB (aCons (gv 5) (aCons (gv 12) (aCons (kI 1) aNil))) (len? 3 (m_law_bad c))) (orD addA (opC c.Shift (mShift_add c)))))
    (sq (stV 12 (cB (aCons (gv 5) (aCons (gv 12) (aCons (kI 1) aNil))) (len? 3 (m_law_moved c))))
    (sq (ifS (notT (asB (cB (aCons (cB (aCons (mkLst (aCons (gv 8) (aCons (gv 9) (aCons (gv 10) aNil)))) aNil) (len? 1 (mShift_sum_of c))) (aCons (gv 2) (aCons (gv 11) (aCons (gv 12) aNil)))) (len? 4 (m_law_applied c))))) (rtV (kB false)) skip)
    (sq (stV 11 (cB (aCons (gv 3) (aCons (gv 2) (aCons (gv 6) aNil))) (len? 3 (m_law_bad c))))
    (sq (stV 12 (cB (aCons (gv 3) (aCons (gv 2) (aCons (gv 6) aNil))) (len? 3 (m_law_moved c))))
    (sq (ifS (orT (notT (asB (cB (aCons (b2 (gv 8) (gv 6) (orD mulA (opCI c.Shift (mShift_mul c)))) (aCons (gv 2) (aCons (gv 11) (aCons (gv 12) aNil)))) (len? 4 (m_law_applied c))))) (notT (asB (cB (aCons (b1 (b2 (gv 8) (gv 6) (orD mulA (opCI c.Shift (mShift_mul c)))) (inC c.Shift (mShift_invert c))) (aCons (gv 12) (aCons (gv 11) (aCons (gv 2) aNil)))) (len? 4 (m_law_applied c)))))) (rtV (kB false)) skip)
    (rtV (cB (aCons (b1 (gv 8) (fldD c.Shift "rows")) (aCons (cB (aCons (frz (cO (aCons (gv 3) aNil) srtO)) aNil) tupD) aNil)) (len? 2 (m_law_same c 3)))))))))))))))))))))))))))
noncomputable def mlaw (c : Cs) : List D → Option D := runP 13 (blaw c)
section
variable {P : Program} {w : World} {K : PySem.W.Frag} {mg : Str → Option Value} {base : Heap} {c : Cs}
set_option genInjectivity false in
set_option genSizeOf false in
/-- what the top has written -/
structure Tx (K : PySem.W.Frag) (mg : Str → Option Value) (c : Cs) where
  n_ValueError : mg "ValueError" = none
  n_bool : mg "bool" = none
  n_dict : mg "dict" = none
  n_int : mg "int" = none
  n_isinstance : mg "isinstance" = none
  n_len : mg "len" = none
  n_list : mg "list" = none
  n_max : mg "max" = none
  n_min : mg "min" = none
  n_range : mg "range" = none
  n_sorted : mg "sorted" = none
  n_str : mg "str" = none
  n_tuple : mg "tuple" = none
  f_law_same : Addr
  fd_law_same : FuncData
  F_law_same : Fun K "_law_same" "_law_same" s_law_same f_law_same fd_law_same
  g_law_same : mg "_law_same" = some (.ref f_law_same)
  b_law_same : Binds K fd_law_same ["_law_actual", "_law_expected"] []
  f_law_same_dict : Addr
  fd_law_same_dict : FuncData
  F_law_same_dict : Fun K "_law_same_dict" "_law_same_dict" s_law_same_dict f_law_same_dict fd_law_same_dict
  g_law_same_dict : mg "_law_same_dict" = some (.ref f_law_same_dict)
  b_law_same_dict : Binds K fd_law_same_dict ["_law_actual", "_law_expected"] []
  fShift_gap : Addr
  fdShift_gap : FuncData
  FShift_gap : Fun K "gap" "Shift.gap" sShift_gap fShift_gap fdShift_gap
  bShift_gap : Binds K fdShift_gap ["self", "values"] []
  kShift_gap : KBn K fdShift_gap ["self", "values"] 1 ["values"] (fun us ws => us ++ ws) (fun vs zs => vs ++ zs)
  fShift_applied : Addr
  fdShift_applied : FuncData
  FShift_applied : Fun K "applied" "Shift.applied" sShift_applied fShift_applied fdShift_applied
  bShift_applied : Binds K fdShift_applied ["self", "values"] []
  kShift_applied : KBn K fdShift_applied ["self", "values"] 1 ["values"] (fun us ws => us ++ ws) (fun vs zs => vs ++ zs)
  f_law_base : Addr
  fd_law_base : FuncData
  F_law_base : Fun K "_law_base" "_law_base" s_law_base f_law_base fd_law_base
  g_law_base : mg "_law_base" = some (.ref f_law_base)
  b_law_base : Binds K fd_law_base ["_law_shift", "_law_own_values"] []
  f_law_applied : Addr
  fd_law_applied : FuncData
  F_law_applied : Fun K "_law_applied" "_law_applied" s_law_applied f_law_applied fd_law_applied
  g_law_applied : mg "_law_applied" = some (.ref f_law_applied)
  b_law_applied : Binds K fd_law_applied ["_law_shift", "_law_own_values", "_law_bad_here", "_law_behind"] []
  fShift_init : Addr
  fdShift_init : FuncData
  FShift_init : Fun K "__init__" "Shift.__init__" sShift_init fShift_init fdShift_init
  bShift_init : Binds K fdShift_init ["self", "rows"] []
  fShift_mul : Addr
  fdShift_mul : FuncData
  FShift_mul : Fun K "__mul__" "Shift.__mul__" sShift_mul fShift_mul fdShift_mul
  bShift_mul : Binds K fdShift_mul ["self", "other"] []
  fShift_invert : Addr
  fdShift_invert : FuncData
  FShift_invert : Fun K "__invert__" "Shift.__invert__" sShift_invert fShift_invert fdShift_invert
  bShift_invert : Binds K fdShift_invert ["self"] []
  f_law_moved : Addr
  fd_law_moved : FuncData
  F_law_moved : Fun K "_law_moved" "_law_moved" s_law_moved f_law_moved fd_law_moved
  g_law_moved : mg "_law_moved" = some (.ref f_law_moved)
  b_law_moved : Binds K fd_law_moved ["_law_rows_here", "_law_own_values", "_law_times"] []
  f_law_bad : Addr
  fd_law_bad : FuncData
  F_law_bad : Fun K "_law_bad" "_law_bad" s_law_bad f_law_bad fd_law_bad
  g_law_bad : mg "_law_bad" = some (.ref f_law_bad)
  b_law_bad : Binds K fd_law_bad ["_law_rows_here", "_law_own_values", "_law_times"] []
  frow_of_both : Addr
  fdrow_of_both : FuncData
  Frow_of_both : Fun K "row_of_both" "row_of_both" srow_of_both frow_of_both fdrow_of_both
  grow_of_both : mg "row_of_both" = some (.ref frow_of_both)
  brow_of_both : Binds K fdrow_of_both ["first", "second"] []
  fShift_add : Addr
  fdShift_add : FuncData
  FShift_add : Fun K "__add__" "Shift.__add__" sShift_add fShift_add fdShift_add
  bShift_add : Binds K fdShift_add ["self", "other"] []
  fShift_sum_of : Addr
  fdShift_sum_of : FuncData
  FShift_sum_of : Fun K "sum_of" "Shift.sum_of" sShift_sum_of fShift_sum_of fdShift_sum_of
  bShift_sum_of : Binds K fdShift_sum_of ["shifts"] []
  kShift_sum_of : KBn K fdShift_sum_of ["shifts"] 0 ["shifts"] (fun us ws => us ++ ws) (fun vs zs => vs ++ zs)
  fShift_eq : Addr
  fdShift_eq : FuncData
  FShift_eq : Fun K "__eq__" "Shift.__eq__" sShift_eq fShift_eq fdShift_eq
  bShift_eq : Binds K fdShift_eq ["self", "other"] []
  f_law_equal : Addr
  fd_law_equal : FuncData
  F_law_equal : Fun K "_law_equal" "_law_equal" s_law_equal f_law_equal fd_law_equal
  g_law_equal : mg "_law_equal" = some (.ref f_law_equal)
  b_law_equal : Binds K fd_law_equal ["_law_left", "_law_right"] []
  f_law_algebra : Addr
  fd_law_algebra : FuncData
  F_law_algebra : Fun K "_law_algebra" "_law_algebra" s_law_algebra f_law_algebra fd_law_algebra
  g_law_algebra : mg "_law_algebra" = some (.ref f_law_algebra)
  b_law_algebra : Binds K fd_law_algebra ["_law_one", "_law_other", "_law_third", "_law_many", "_law_more"] []
  f_law_count : Addr
  fd_law_count : FuncData
  F_law_count : Fun K "_law_count" "_law_count" s_law_count f_law_count fd_law_count
  g_law_count : mg "_law_count" = some (.ref f_law_count)
  b_law_count : Binds K fd_law_count ["_law_numbers"] []
  f_law_row : Addr
  fd_law_row : FuncData
  F_law_row : Fun K "_law_row" "_law_row" s_law_row f_law_row fd_law_row
  g_law_row : mg "_law_row" = some (.ref f_law_row)
  b_law_row : Binds K fd_law_row ["_law_cell_here", "_law_many"] []
  f_law_cell : Addr
  fd_law_cell : FuncData
  F_law_cell : Fun K "_law_cell" "_law_cell" s_law_cell f_law_cell fd_law_cell
  g_law_cell : mg "_law_cell" = some (.ref f_law_cell)
  b_law_cell : Binds K fd_law_cell ["_law_script", "_law_k"] []
  f_law_number : Addr
  fd_law_number : FuncData
  F_law_number : Fun K "_law_number" "_law_number" s_law_number f_law_number fd_law_number
  g_law_number : mg "_law_number" = some (.ref f_law_number)
  b_law_number : Binds K fd_law_number ["_law_numbers", "_law_most"] []
  f_law_rows : Addr
  fd_law_rows : FuncData
  F_law_rows : Fun K "_law_rows" "_law_rows" s_law_rows f_law_rows fd_law_rows
  g_law_rows : mg "_law_rows" = some (.ref f_law_rows)
  b_law_rows : Binds K fd_law_rows ["_law_row_here", "_law_pool_here", "_law_own_values"] []
  f_law_values : Addr
  fd_law_values : FuncData
  F_law_values : Fun K "_law_values" "_law_values" s_law_values f_law_values fd_law_values
  g_law_values : mg "_law_values" = some (.ref f_law_values)
  b_law_values : Binds K fd_law_values ["_law_row_here", "_law_pool_here"] []
  f_law_word : Addr
  fd_law_word : FuncData
  F_law_word : Fun K "_law_word" "_law_word" s_law_word f_law_word fd_law_word
  g_law_word : mg "_law_word" = some (.ref f_law_word)
  b_law_word : Binds K fd_law_word ["_law_number_here"] []
  f_law_pool : Addr
  fd_law_pool : FuncData
  F_law_pool : Fun K "_law_pool" "_law_pool" s_law_pool f_law_pool fd_law_pool
  g_law_pool : mg "_law_pool" = some (.ref f_law_pool)
  b_law_pool : Binds K fd_law_pool ["_law_row_here"] []
  flaw : Addr
  fdlaw : FuncData
  Flaw : Fun K "law" "law" slaw flaw fdlaw
  glaw : mg "law" = some (.ref flaw)
  blaw : Binds K fdlaw ["_law_script"] []
  gShift : mg "Shift" = some (.ref c.Shift)
  cxShift : ClsX K c.Shift
  clShift : Cls K c.Shift
  naShift_rows : NoAttr K c.Shift "rows"
  meShift_gap : Meth K c.Shift "gap" fShift_gap
  meShift_applied : Meth K c.Shift "applied" fShift_applied
  mkShift : Mk K c.Shift fShift_init
  opShift_mul : OpOfI K c.Shift .Mult fShift_mul
  meShift_invert : Meth K c.Shift "__invert__" fShift_invert
  opShift_add : OpOf K c.Shift .Add fShift_add
  spShift_sum_of : Addr
  stShift_sum_of : SMet K c.Shift "sum_of" spShift_sum_of fShift_sum_of
  isShift : IsC K c.Shift [(c.Shift, true)]
  eqShift : EqOf K c.Shift fShift_eq []
  siShift_sum_of : SInst K c.Shift "sum_of" spShift_sum_of fShift_sum_of
  gBlocked : mg "Blocked" = some (.ref c.Blocked)
  gHallError : mg "HallError" = some (.ref c.HallError)
  gNoCounter : mg "NoCounter" = some (.ref c.NoCounter)
  xBlocked : XCls PySem.Challenge.pw_playhall_k02_whole_shift_algebra K mg c.Blocked ["counter"]
  ecBlocked : ExcC K c.Blocked
  kiBlocked_Blocked : PySem.W.kitOne K (.ref c.Blocked) (.ref c.Blocked) = some true
  kiBlocked_ValueError : PySem.W.kitOne K (.ref c.Blocked) (.type "ValueError") = some true
  kiBlocked_NoCounter : PySem.W.kitOne K (.ref c.Blocked) (.ref c.NoCounter) = some false
  emBlocked_HallError : PySem.W.exmOne K (.ref c.Blocked) (.ref c.HallError) = some true
  xfBlocked : XfC K c.Blocked
  noBlocked_counter : PySem.W.findIn K (.ref c.Blocked) "counter" = some none
  emBlocked_Blocked : PySem.W.exmOne K (.ref c.Blocked) (.ref c.Blocked) = some true
theorem Tx.ok_law_same (T : Tx K mg c) : ∀ n : Nat, FnOk PySem.Challenge.pw_playhall_k02_whole_shift_algebra w K mg base CX0 (1 + n) T.f_law_same T.fd_law_same ["_law_actual", "_law_expected"] (spP K 2 (m_law_same c n))
  | 0 => fnNone
  | n + 1 => by
    have ih := Tx.ok_law_same T n
    exact fnP T.F_law_same sc_law_same fun cdv A outer s H E hr =>
    (sCons (sIf (tCmp oIs (pVar 1) pNon) (sOne (sRet (pCmp oIs (pVar 0) pNon))) sNil)
      (sCons (sIf (tVal (pIsi (pVar 1) T.n_isinstance T.n_bool)) (sOne (sRet (pAnd (pIsi (pVar 0) T.n_isinstance T.n_bool) (pOne (pCmp (oEq hr.units) (pVar 0) (pVar 1)))))) sNil)
      (sCons (sIf (tVal (pIsi (pVar 1) T.n_isinstance T.n_int)) (sOne (sRet (pAnd (pIsi (pVar 0) T.n_isinstance T.n_int) (pAnd (pNot (pIsi (pVar 0) T.n_isinstance T.n_bool)) (pOne (pCmp (oEq hr.units) (pVar 0) (pVar 1))))))) sNil)
      (sCons (sIf (tVal (pIsi (pVar 1) T.n_isinstance T.n_str)) (sOne (sRet (pAnd (pIsi (pVar 0) T.n_isinstance T.n_str) (pOne (pCmp (oEq hr.units) (pVar 0) (pVar 1)))))) sNil)
      (sCons (sIf (tW (tAndW (tVal (pIsi (pVar 1) T.n_isinstance T.n_tuple)) (tAnd1 (tNotT (tVal (pIsi (pVar 0) T.n_isinstance T.n_tuple)))))) (sOne (sRet pBl)) sNil)
      (sCons (sIf (tW (tOrW (tW (tAndW (tVal (pIsi (pVar 1) T.n_isinstance T.n_list)) (tAnd1 (tNotT (tVal (pIsi (pVar 0) T.n_isinstance T.n_list)))))) (tOr1 (tCmp (oNe hr.units) (pCallB cLen T.n_len (by decide +kernel) (qCons (pVar 0) qNil)) (pCallB cLen T.n_len (by decide +kernel) (qCons (pVar 1) qNil)))))) (sOne (sRet pBl)) sNil)
      (sCons (sFor PassesOwn.never rfl (iRange1 (pCallB cLen T.n_len (by decide +kernel) (qCons (pVar 1) qNil)) T.n_range) (gName' (i := 2) sc_law_same.nd) (sOne (sIf (tNotT (tVal (pCall ih (hr.mono (by first | decide | exact Nat.le_refl _ | omega)) T.g_law_same T.F_law_same.kp T.b_law_same (qCons (pIx oIx (pVar 0) (pVar 2)) (qCons (pIx oIx (pVar 1) (pVar 2)) qNil))))) (sOne (sRet pBl)) sNil)))
      (sOne (sRet pBl)))))))))
theorem Tx.ok_law_same_dict (T : Tx K mg c) : FnOk PySem.Challenge.pw_playhall_k02_whole_shift_algebra w K mg base CX0 5 T.f_law_same_dict T.fd_law_same_dict ["_law_actual", "_law_expected"] (spP K 2 (m_law_same_dict c)) :=
  fnP T.F_law_same_dict sc_law_same_dict fun cdv A outer s H E hr =>
    (sCons (sIf (tW (tOrW (tNotT (tVal (pIsi (pVar 0) T.n_isinstance T.n_dict))) (tOr1 (tCmp (oNe hr.units) (pCallB cLen T.n_len (by decide +kernel) (qCons (pVar 0) qNil)) (pCallB cLen T.n_len (by decide +kernel) (qCons (pVar 1) qNil)))))) (sOne (sRet pBl)) sNil)
      (sCons (sForK PassesOwn.never rfl (pSlot 1) (gName' (i := 2) sc_law_same_dict.nd) (sOne (sIf (tW (tOrW (tNdin' hr.units (pVar 2) (pVar 0)) (tOr1 (tNotT (tVal (pCall (T.ok_law_same 3) (hr.mono (by first | decide | exact Nat.le_refl _ | omega)) T.g_law_same T.F_law_same.kp T.b_law_same (qCons (pDget hr.units (pVar 0) (pVar 2)) (qCons (pDget hr.units (pVar 1) (pVar 2)) qNil)))))))) (sOne (sRet pBl)) sNil)))
      (sOne (sRet pBl))))
theorem Tx.okShift_gap (T : Tx K mg c) : FnOk PySem.Challenge.pw_playhall_k02_whole_shift_algebra w K mg base CX0 1 T.fShift_gap T.fdShift_gap ["self", "values"] (spP K 2 (mShift_gap c)) :=
  fnP T.FShift_gap scShift_gap fun cdv A outer s H E hr =>
    (sCons (sFor PassesOwn.never rfl (iSeq (pFld T.clShift T.naShift_rows (pVar 0))) (gTup' rfl (gsCons' (gName' (i := 2) scShift_gap.nd) (gsCons' (gName' (i := 3) scShift_gap.nd) (gsCons' (gName' (i := 4) scShift_gap.nd) (gsCons' (gName' (i := 5) scShift_gap.nd) gsNil'))))) (sOne (sIf (tNotT (tChain' oLe oLe (pVar 3) (pDget hr.units (pVar 1) (pVar 2)) (pVar 4))) (sOne (sRet (pVar 2))) sNil)))
      (sOne (sRet pNon)))
theorem Tx.okShift_applied (T : Tx K mg c) : FnOk PySem.Challenge.pw_playhall_k02_whole_shift_algebra w K mg base (L2N.CX PySem.Challenge.pw_playhall_k02_whole_shift_algebra w) 2 T.fShift_applied T.fdShift_applied ["self", "values"] (spX K 2 (mShift_applied c)) :=
  fnX T.FShift_applied scShift_applied fun cdv A outer s H E hr =>
    (sCons (sSet (i := 2) scShift_applied.nd (pMeth T.clShift T.meShift_gap T.okShift_gap (hr.mono (by first | decide | exact Nat.le_refl _ | omega)) T.bShift_gap (pVar 0) (qCons (pVar 1) qNil)))
      (sCons (sIf (tCmp oIsNot (pVar 2) pNon) (sOne (sRaise rfl (L2N.takes_of rfl rfl rfl rfl) T.xBlocked (by simp) (hr.mono (by first | decide | omega)) T.gBlocked (qCons (pVar 2) qNil))) sNil)
      (sCons (sSetO (i := 3) scShift_applied.nd (oCallT cDict T.n_dict (by decide +kernel) (qCons (pVar 1) qNil)))
      (sCons (sFor (passes_of rfl) rfl (iSeq (pFld T.clShift T.naShift_rows (pVar 0))) (gTup' rfl (gsCons' (gName' (i := 4) scShift_applied.nd) (gsCons' (gName' (i := 5) scShift_applied.nd) (gsCons' (gName' (i := 6) scShift_applied.nd) (gsCons' (gName' (i := 7) scShift_applied.nd) gsNil'))))) (sOne (sDput (i := 3) hr.units (pv 3) (pVar 4) (pOp oAddA (pDgetO (i := 3) hr.units (pv 3) (pVar 4)) (pVar 7)))))
      (sOne (sRetM (mName (pv 3))))))))
theorem Tx.ok_law_base (T : Tx K mg c) : FnOk PySem.Challenge.pw_playhall_k02_whole_shift_algebra w K mg base CX0 3 T.f_law_base T.fd_law_base ["_law_shift", "_law_own_values"] (spP K 2 (m_law_base c)) :=
  fnP T.F_law_base sc_law_base fun cdv A outer s H E hr =>
    (sCons (sTryAs (i := 2) rfl rfl sc_law_base.nd ⟨rfl, by decide, .inl T.gHallError⟩ takesN0 (tb_all (P := fun C t => PySem.W.exmOne _ (.ref C) (.ref c.HallError) = some t) (fa_cons T.emBlocked_HallError fa_nil)) (fun W pn xe tk po => (sOne (sExprX (xMethE tk T.clShift T.meShift_applied T.okShift_applied (hr.mono (by first | decide | exact Nat.le_refl _ | omega)) T.bShift_applied (xV (pVar 0)) (xCons (xV (pVar 1)) xNil)))))
      (fun a oe cls d pn hz hf => (sOne (sRet (pAnd (pIsXo (tb_all (P := fun C t => ExcC _ C ∧ PySem.W.kitOne _ (.ref C) (.ref c.Blocked) = some t) (fa_cons ⟨T.ecBlocked, T.kiBlocked_Blocked⟩ fa_nil)) T.gBlocked hz.zc hf (pVar 2) T.n_isinstance) (pAnd (pIsXt (tb_all (P := fun C t => ExcC _ C ∧ PySem.W.kitOne _ (.ref C) (.type "ValueError") = some t) (fa_cons ⟨T.ecBlocked, T.kiBlocked_ValueError⟩ fa_nil)) T.n_ValueError hz.zc hf (pVar 2) T.n_isinstance) (pOne (pNot (pIsXo (tb_all (P := fun C t => ExcC _ C ∧ PySem.W.kitOne _ (.ref C) (.ref c.NoCounter) = some t) (fa_cons ⟨T.ecBlocked, T.kiBlocked_NoCounter⟩ fa_nil)) T.gNoCounter hz.zc hf (pVar 2) T.n_isinstance)))))))))
      (sOne (sRet pBl)))
theorem Tx.ok_law_applied (T : Tx K mg c) : FnOk PySem.Challenge.pw_playhall_k02_whole_shift_algebra w K mg base CX0 6 T.f_law_applied T.fd_law_applied ["_law_shift", "_law_own_values", "_law_bad_here", "_law_behind"] (spP K 4 (m_law_applied c)) :=
  fnP T.F_law_applied sc_law_applied fun cdv A outer s H E hr =>
    (sCons (sSet (i := 4) sc_law_applied.nd pNon)
      (sCons (sIf (tCmp oGt (pCallB cLen T.n_len (by decide +kernel) (qCons (pVar 2) qNil)) pInt) (sOne (sSet (i := 4) sc_law_applied.nd (pCallB (cMinT rfl hr.units) T.n_min (by decide +kernel) (qCons (pVar 2) qNil)))) sNil)
      (sCons (sSet (i := 5) sc_law_applied.nd (pO (oCallT cDict T.n_dict (by decide +kernel) (qCons (pVar 1) qNil))))
      (sCons (sIf (tW (tOrW (tNotT (tVal (pCall (T.ok_law_same 3) (hr.mono (by first | decide | exact Nat.le_refl _ | omega)) T.g_law_same T.F_law_same.kp T.b_law_same (qCons (pMeth T.clShift T.meShift_gap T.okShift_gap (hr.mono (by first | decide | exact Nat.le_refl _ | omega)) T.bShift_gap (pVar 0) (qCons (pVar 5) qNil)) (qCons (pVar 4) qNil))))) (tOr1 (tNotT (tVal (pCall (T.ok_law_same 3) (hr.mono (by first | decide | exact Nat.le_refl _ | omega)) T.g_law_same T.F_law_same.kp T.b_law_same (qCons (pMethK T.clShift T.meShift_gap T.okShift_gap (hr.mono (by first | decide | exact Nat.le_refl _ | omega)) T.kShift_gap rfl (pVar 0) (kCons (pVar 5) kNil)) (qCons (pVar 4) qNil)))))))) (sOne (sRet pBl)) sNil)
      (sCons (sSet (i := 6) sc_law_applied.nd pNon)
      (sCons (sSetO (i := 7) sc_law_applied.nd (oP pNon))
      (sCons (sTryAs (i := 8) rfl rfl sc_law_applied.nd ⟨rfl, by decide, .inl T.gBlocked⟩ takesN0 (tb_all (P := fun C t => PySem.W.exmOne _ (.ref C) (.ref c.Blocked) = some t) (fa_cons T.emBlocked_Blocked fa_nil)) (fun W pn xe tk po => (sOne (sSetX (i := 7) sc_law_applied.nd (xMethE tk T.clShift T.meShift_applied T.okShift_applied (hr.mono (by first | decide | exact Nat.le_refl _ | omega)) T.bShift_applied (xV (pVar 0)) (xCons (xV (pVar 5)) xNil)))))
      (fun a oe cls d pn hz hf => (sOne (sSet (i := 6) sc_law_applied.nd (pFldX (fa_cons ⟨T.xfBlocked, T.noBlocked_counter⟩ fa_nil) hz.zc hf (pVar 8))))))
      (sCons (sIf (tW (tOrW (tNotT (tVal (pCall T.ok_law_same_dict (hr.mono (by first | decide | exact Nat.le_refl _ | omega)) T.g_law_same_dict T.F_law_same_dict.kp T.b_law_same_dict (qCons (pVar 5) (qCons (pVar 1) qNil))))) (tOr1 (tNotT (tVal (pCall (T.ok_law_same 3) (hr.mono (by first | decide | exact Nat.le_refl _ | omega)) T.g_law_same T.F_law_same.kp T.b_law_same (qCons (pVar 6) (qCons (pVar 4) qNil)))))))) (sOne (sRet pBl)) sNil)
      (sCons (sIf (tCmp oIsNot (pVar 4) pNon) (sOne (sFz (i := 7) (sRet (pAnd (pCmp oIs (pVar 7) pNon) (pOne (pCall T.ok_law_base (hr.mono (by first | decide | exact Nat.le_refl _ | omega)) T.g_law_base T.F_law_base.kp T.b_law_base (qCons (pVar 0) (qCons (pVar 5) qNil)))))))) sNil)
      (sCons (sIf (tVw (tNotT (tVal (pCall T.ok_law_same_dict (hr.mono (by first | decide | exact Nat.le_refl _ | omega)) T.g_law_same_dict T.F_law_same_dict.kp T.b_law_same_dict (qCons (pVar 7) (qCons (pVar 3) qNil)))))) (sOne (sRet pBl)) sNil)
      (sCons (sDput (i := 7) hr.units (pv 7) pStr pInt)
      (sOne (sRet (pAnd (pCall T.ok_law_same_dict (hr.mono (by first | decide | exact Nat.le_refl _ | omega)) T.g_law_same_dict T.F_law_same_dict.kp T.b_law_same_dict (qCons (pVar 5) (qCons (pVar 1) qNil))) (pOne (pCall T.ok_law_same_dict (hr.mono (by first | decide | exact Nat.le_refl _ | omega)) T.g_law_same_dict T.F_law_same_dict.kp T.b_law_same_dict (qCons (pO (oMethXK T.clShift T.meShift_applied T.okShift_applied (hr.mono (by first | decide | exact Nat.le_refl _ | omega)) T.kShift_applied rfl (pVar 0) (kCons (pVar 5) kNil))) (qCons (pVar 3) qNil))))))))))))))))))
theorem Tx.okShift_init (T : Tx K mg c) : FnOk PySem.Challenge.pw_playhall_k02_whole_shift_algebra w K mg base CX0 1 T.fShift_init T.fdShift_init ["self", "rows"] (spI K c.Shift 2 (mShift_init c)) :=
  fnI T.FShift_init scShift_init fun cdv A outer s H E hr =>
    (sOne (sPut (i := 0) T.clShift T.naShift_rows (pv 0) (oP (pCallT cTup T.n_tuple (by decide +kernel) (qCons (pO (oCallB (cSorted hr.units) T.n_sorted (by decide +kernel) (qCons (pLc [("row", 2)] rfl scShift_init.nd (iSeq (pVar 1)) (blkOk_by (N := ["self", "rows", "row"]) (sc := defScope sShift_init) (by decide +kernel)) (fun _ _ _ _ _ => (gName' (i := 2) scShift_init.nd)) (fun _ _ _ _ _ => ptsNil) (fun _ _ _ _ _ => (pCallT cTup T.n_tuple (by decide +kernel) (qCons (pVar 2) qNil))) (gN_ok 2)) qNil))) qNil)))))
theorem Tx.okShift_mul (T : Tx K mg c) : FnOk PySem.Challenge.pw_playhall_k02_whole_shift_algebra w K mg base CX0 3 T.fShift_mul T.fdShift_mul ["self", "other"] (spP K 2 (mShift_mul c)) :=
  fnP T.FShift_mul scShift_mul fun cdv A outer s H E hr =>
    (sCons (sIf (tCmp (oEq hr.units) (pVar 1) pInt) (sOne (sRet (pO (oMake T.mkShift T.okShift_init (hr.mono (by first | decide | exact Nat.le_refl _ | omega)) T.gShift T.bShift_init (qCons (pLst qNil) qNil))))) sNil)
      (sCons (sSetO (i := 2) scShift_mul.nd (oLst qNil))
      (sCons (sFor PassesOwn.never rfl (iSeq (pFld T.clShift T.naShift_rows (pVar 0))) (gTup' rfl (gsCons' (gName' (i := 3) scShift_mul.nd) (gsCons' (gName' (i := 4) scShift_mul.nd) (gsCons' (gName' (i := 5) scShift_mul.nd) (gsCons' (gName' (i := 6) scShift_mul.nd) gsNil'))))) (sCons (sSet (i := 7) scShift_mul.nd (pOp oMul (pOp oSub (pVar 1) pInt) (pVar 6)))
      (sOne (sApp (i := 2) (pv 2) (pTup (qCons (pVar 3) (qCons (pOp oSub (pVar 4) (pCallB (cMin2 rfl) T.n_min (by decide +kernel) (qCons pInt (qCons (pVar 7) qNil)))) (qCons (pOp oSub (pVar 5) (pCallB (cMax2 rfl) T.n_max (by decide +kernel) (qCons pInt (qCons (pVar 7) qNil)))) (qCons (pOp oMul (pVar 1) (pVar 6)) qNil)))))))))
      (sOne (sFz (i := 2) (sRet (pO (oMake T.mkShift T.okShift_init (hr.mono (by first | decide | exact Nat.le_refl _ | omega)) T.gShift T.bShift_init (qCons (pVar 2) qNil)))))))))
theorem Tx.okShift_invert (T : Tx K mg c) : FnOk PySem.Challenge.pw_playhall_k02_whole_shift_algebra w K mg base CX0 3 T.fShift_invert T.fdShift_invert ["self"] (spP K 1 (mShift_invert c)) :=
  fnP T.FShift_invert scShift_invert fun cdv A outer s H E hr =>
    (sOne (sRet (pO (oMake T.mkShift T.okShift_init (hr.mono (by first | decide | exact Nat.le_refl _ | omega)) T.gShift T.bShift_init (qCons (pLc [("counter", 1), ("low", 2), ("high", 3), ("amount", 4)] rfl scShift_invert.nd (iSeq (pFld T.clShift T.naShift_rows (pVar 0))) (blkOk_by (N := ["self", "counter", "low", "high", "amount"]) (sc := defScope sShift_invert) (by decide +kernel)) (fun _ _ _ _ _ => (gTup' rfl (gsCons' (gName' (i := 1) scShift_invert.nd) (gsCons' (gName' (i := 2) scShift_invert.nd) (gsCons' (gName' (i := 3) scShift_invert.nd) (gsCons' (gName' (i := 4) scShift_invert.nd) gsNil')))))) (fun _ _ _ _ _ => ptsNil) (fun _ _ _ _ _ => (pTup (qCons (pVar 1) (qCons (pOp oAddA (pVar 2) (pVar 4)) (qCons (pOp oAddA (pVar 3) (pVar 4)) (qCons (pUn oNeg (pVar 4)) qNil)))))) (gT_ok (gsC_ok (gN_ok 1) (gsC_ok (gN_ok 2) (gsC_ok (gN_ok 3) (gsC_ok (gN_ok 4) gsN_ok)))))) qNil)))))
theorem Tx.ok_law_moved (T : Tx K mg c) : FnOk PySem.Challenge.pw_playhall_k02_whole_shift_algebra w K mg base CX0 1 T.f_law_moved T.fd_law_moved ["_law_rows_here", "_law_own_values", "_law_times"] (spP K 3 (m_law_moved c)) :=
  fnP T.F_law_moved sc_law_moved fun cdv A outer s H E hr =>
    (sCons (sSetO (i := 3) sc_law_moved.nd (oCallT cDict T.n_dict (by decide +kernel) (qCons (pVar 1) qNil)))
      (sCons (sFor PassesOwn.never rfl (iSeq (pVar 0)) (gTup' rfl (gsCons' (gName' (i := 4) sc_law_moved.nd) (gsCons' (gName' (i := 5) sc_law_moved.nd) (gsCons' (gName' (i := 6) sc_law_moved.nd) (gsCons' (gName' (i := 7) sc_law_moved.nd) gsNil'))))) (sOne (sDput (i := 3) hr.units (pv 3) (pVar 4) (pOp oAddA (pDgetO (i := 3) hr.units (pv 3) (pVar 4)) (pOp oMul (pVar 2) (pVar 7))))))
      (sOne (sFz (i := 3) (sRet (pVar 3))))))
theorem Tx.ok_law_bad (T : Tx K mg c) : FnOk PySem.Challenge.pw_playhall_k02_whole_shift_algebra w K mg base CX0 1 T.f_law_bad T.fd_law_bad ["_law_rows_here", "_law_own_values", "_law_times"] (spP K 3 (m_law_bad c)) :=
  fnP T.F_law_bad sc_law_bad fun cdv A outer s H E hr =>
    (sCons (sSetO (i := 3) sc_law_bad.nd (oLst qNil))
      (sCons (sSet (i := 4) sc_law_bad.nd (pLst (qCons pInt (qCons (pOp oSub (pVar 2) pInt) qNil))))
      (sCons (sIf (tCmp oLt (pVar 2) pInt) (sOne (sSet (i := 4) sc_law_bad.nd (pO (oLstRng rfl T.n_list T.n_range (pVar 2))))) sNil)
      (sCons (sFor PassesOwn.never rfl (iSeq (pVar 0)) (gTup' rfl (gsCons' (gName' (i := 5) sc_law_bad.nd) (gsCons' (gName' (i := 6) sc_law_bad.nd) (gsCons' (gName' (i := 7) sc_law_bad.nd) (gsCons' (gName' (i := 8) sc_law_bad.nd) gsNil'))))) (sCons (sLcD (i := 9) [("_law_k", 10)] rfl sc_law_bad.nd (iSeq (pVar 4)) (blkOk_by (N := ["_law_rows_here", "_law_own_values", "_law_times", "_law_bad_here", "_law_checked", "_law_label", "_law_low", "_law_high", "_law_amount", "_law_outside", "_law_k"]) (sc := defScope s_law_bad) (by decide +kernel)) (fun _ _ _ _ _ => (gName' (i := 10) sc_law_bad.nd)) (fun _ _ _ _ _ => (ptsOne (tW (tOrW (tCmp oLt (pOp oAddA (pDget hr.units (pVar 1) (pVar 5)) (pOp oMul (pVar 10) (pVar 8))) (pVar 6)) (tOr1 (tCmp oGt (pOp oAddA (pDget hr.units (pVar 1) (pVar 5)) (pOp oMul (pVar 10) (pVar 8))) (pVar 7))))))) (fun _ _ _ _ _ => (pVar 10)) (gN_ok 10))
      (sOne (sIf (tCmp oGt (pCallB cLen T.n_len (by decide +kernel) (qCons (pVar 9) qNil)) pInt) (sOne (sApp (i := 3) (pv 3) (pVar 5))) sNil))))
      (sOne (sFz (i := 3) (sRet (pVar 3))))))))
theorem Tx.okrow_of_both (T : Tx K mg c) : FnOk PySem.Challenge.pw_playhall_k02_whole_shift_algebra w K mg base CX0 1 T.frow_of_both T.fdrow_of_both ["first", "second"] (spP K 2 (mrow_of_both c)) :=
  fnP T.Frow_of_both scrow_of_both fun cdv A outer s H E hr =>
    (sCons (sAsg (pVar 0) (gTup' rfl (gsCons' (gName' (i := 2) scrow_of_both.nd) (gsCons' (gName' (i := 3) scrow_of_both.nd) (gsCons' (gName' (i := 4) scrow_of_both.nd) (gsCons' (gName' (i := 5) scrow_of_both.nd) gsNil'))))))
      (sOne (sRet (pTup (qCons (pVar 2) (qCons (pCallB (cMax2 rfl) T.n_max (by decide +kernel) (qCons (pVar 3) (qCons (pOp oSub (pIx oIx (pVar 1) pInt) (pVar 5)) qNil))) (qCons (pCallB (cMin2 rfl) T.n_min (by decide +kernel) (qCons (pVar 4) (qCons (pOp oSub (pIx oIx (pVar 1) pInt) (pVar 5)) qNil))) (qCons (pOp oAddA (pVar 5) (pIx oIx (pVar 1) pInt)) qNil))))))))
theorem Tx.okShift_add (T : Tx K mg c) : FnOk PySem.Challenge.pw_playhall_k02_whole_shift_algebra w K mg base CX0 3 T.fShift_add T.fdShift_add ["self", "other"] (spP K 2 (mShift_add c)) :=
  fnP T.FShift_add scShift_add fun cdv A outer s H E hr =>
    (sCons (sSetO (i := 2) scShift_add.nd oDic0)
      (sCons (sFor PassesOwn.never rfl (iSeq (pFld T.clShift T.naShift_rows (pVar 0))) (gName' (i := 3) scShift_add.nd) (sOne (sDput (i := 2) hr.units (pv 2) (pIx oIx (pVar 3) pInt) (pVar 3))))
      (sCons (sFor PassesOwn.never rfl (iSeq (pFld T.clShift T.naShift_rows (pVar 1))) (gName' (i := 3) scShift_add.nd) (sOne (sIf (tVw (tDin' hr.units (pIx oIx (pVar 3) pInt) (pVar 2))) (sOne (sDput (i := 2) hr.units (pv 2) (pIx oIx (pVar 3) pInt) (pCall T.okrow_of_both (hr.mono (by first | decide | exact Nat.le_refl _ | omega)) T.grow_of_both T.Frow_of_both.kp T.brow_of_both (qCons (pDgetO (i := 2) hr.units (pv 2) (pIx oIx (pVar 3) pInt)) (qCons (pVar 3) qNil))))) (sOne (sDput (i := 2) hr.units (pv 2) (pIx oIx (pVar 3) pInt) (pVar 3))))))
      (sOne (sFz (i := 2) (sRet (pO (oMake T.mkShift T.okShift_init (hr.mono (by first | decide | exact Nat.le_refl _ | omega)) T.gShift T.bShift_init (qCons (pO (oVals rfl (pVar 2) T.n_list)) qNil)))))))))
theorem Tx.okShift_sum_of (T : Tx K mg c) : FnOk PySem.Challenge.pw_playhall_k02_whole_shift_algebra w K mg base CX0 4 T.fShift_sum_of T.fdShift_sum_of ["shifts"] (spP K 1 (mShift_sum_of c)) :=
  fnP T.FShift_sum_of scShift_sum_of fun cdv A outer s H E hr =>
    (sCons (sSet (i := 1) scShift_sum_of.nd (pO (oMake T.mkShift T.okShift_init (hr.mono (by first | decide | exact Nat.le_refl _ | omega)) T.gShift T.bShift_init (qCons (pLst qNil) qNil))))
      (sCons (sFor PassesOwn.never rfl (iSeq (pVar 0)) (gName' (i := 2) scShift_sum_of.nd) (sOne (sSet (i := 1) scShift_sum_of.nd (pOp (op_orD oAddA (oOpC T.opShift_add T.okShift_add (hr.mono (by first | decide | exact Nat.le_refl _ | omega)) T.bShift_add)) (pVar 1) (pVar 2)))))
      (sOne (sRet (pVar 1)))))
theorem Tx.okShift_eq (T : Tx K mg c) : FnOk PySem.Challenge.pw_playhall_k02_whole_shift_algebra w K mg base CX0 1 T.fShift_eq T.fdShift_eq ["self", "other"] (spP K 2 (mShift_eq c)) :=
  fnP T.FShift_eq scShift_eq fun cdv A outer s H E hr =>
    (sOne (sRet (pAnd (pIsiC T.isShift T.gShift (pVar 1) T.n_isinstance) (pOne (pCmp (oEq hr.units) (pFld T.clShift T.naShift_rows (pVar 0)) (pFld T.clShift T.naShift_rows (pVar 1)))))))
theorem Tx.ok_law_equal (T : Tx K mg c) : FnOk PySem.Challenge.pw_playhall_k02_whole_shift_algebra w K mg base CX0 5 T.f_law_equal T.fd_law_equal ["_law_left", "_law_right"] (spP K 2 (m_law_equal c)) :=
  fnP T.F_law_equal sc_law_equal fun cdv A outer s H E hr =>
    (sOne (sRet (pAnd (pCall (T.ok_law_same 3) (hr.mono (by first | decide | exact Nat.le_refl _ | omega)) T.g_law_same T.F_law_same.kp T.b_law_same (qCons (pFld T.clShift T.naShift_rows (pVar 0)) (qCons (pFld T.clShift T.naShift_rows (pVar 1)) qNil))) (pOne (pCall (T.ok_law_same 3) (hr.mono (by first | decide | exact Nat.le_refl _ | omega)) T.g_law_same T.F_law_same.kp T.b_law_same (qCons (pCmp (op_orD (oEq hr.units) (oEqC T.eqShift T.okShift_eq (hr.mono (by first | decide | exact Nat.le_refl _ | omega)) T.bShift_eq)) (pVar 0) (pVar 1)) (qCons pBl qNil)))))))
theorem Tx.ok_law_algebra (T : Tx K mg c) : FnOk PySem.Challenge.pw_playhall_k02_whole_shift_algebra w K mg base CX0 6 T.f_law_algebra T.fd_law_algebra ["_law_one", "_law_other", "_law_third", "_law_many", "_law_more"] (spP K 5 (m_law_algebra c)) :=
  fnP T.F_law_algebra sc_law_algebra fun cdv A outer s H E hr =>
    (sCons (sSet (i := 5) sc_law_algebra.nd (pOp (op_orD oAddA (oOpC T.opShift_add T.okShift_add (hr.mono (by first | decide | exact Nat.le_refl _ | omega)) T.bShift_add)) (pOp (op_orD oAddA (oOpC T.opShift_add T.okShift_add (hr.mono (by first | decide | exact Nat.le_refl _ | omega)) T.bShift_add)) (pVar 0) (pVar 1)) (pVar 2)))
      (sCons (sIf (tW (tOrW (tNotT (tVal (pCall T.ok_law_equal (hr.mono (by first | decide | exact Nat.le_refl _ | omega)) T.g_law_equal T.F_law_equal.kp T.b_law_equal (qCons (pVar 5) (qCons (pOp (op_orD oAddA (oOpC T.opShift_add T.okShift_add (hr.mono (by first | decide | exact Nat.le_refl _ | omega)) T.bShift_add)) (pVar 0) (pOp (op_orD oAddA (oOpC T.opShift_add T.okShift_add (hr.mono (by first | decide | exact Nat.le_refl _ | omega)) T.bShift_add)) (pVar 1) (pVar 2))) qNil))))) (tOr1 (tNotT (tVal (pCall T.ok_law_equal (hr.mono (by first | decide | exact Nat.le_refl _ | omega)) T.g_law_equal T.F_law_equal.kp T.b_law_equal (qCons (pUn (oInvC T.meShift_invert.at_ T.meShift_invert.fn T.okShift_invert (hr.mono (by first | decide | exact Nat.le_refl _ | omega)) T.bShift_invert) (pOp (op_orD oAddA (oOpC T.opShift_add T.okShift_add (hr.mono (by first | decide | exact Nat.le_refl _ | omega)) T.bShift_add)) (pVar 0) (pVar 1))) (qCons (pOp (op_orD oAddA (oOpC T.opShift_add T.okShift_add (hr.mono (by first | decide | exact Nat.le_refl _ | omega)) T.bShift_add)) (pUn (oInvC T.meShift_invert.at_ T.meShift_invert.fn T.okShift_invert (hr.mono (by first | decide | exact Nat.le_refl _ | omega)) T.bShift_invert) (pVar 1)) (pUn (oInvC T.meShift_invert.at_ T.meShift_invert.fn T.okShift_invert (hr.mono (by first | decide | exact Nat.le_refl _ | omega)) T.bShift_invert) (pVar 0))) qNil)))))))) (sOne (sRet pBl)) sNil)
      (sCons (sIf (tW (tOrW (tNotT (tVal (pCall T.ok_law_equal (hr.mono (by first | decide | exact Nat.le_refl _ | omega)) T.g_law_equal T.F_law_equal.kp T.b_law_equal (qCons (pUn (oInvC T.meShift_invert.at_ T.meShift_invert.fn T.okShift_invert (hr.mono (by first | decide | exact Nat.le_refl _ | omega)) T.bShift_invert) (pUn (oInvC T.meShift_invert.at_ T.meShift_invert.fn T.okShift_invert (hr.mono (by first | decide | exact Nat.le_refl _ | omega)) T.bShift_invert) (pVar 0))) (qCons (pVar 0) qNil))))) (tOr1 (tNotT (tVal (pCall T.ok_law_equal (hr.mono (by first | decide | exact Nat.le_refl _ | omega)) T.g_law_equal T.F_law_equal.kp T.b_law_equal (qCons (pOp (op_orD oMulA (oOpCI T.opShift_mul T.okShift_mul (hr.mono (by first | decide | exact Nat.le_refl _ | omega)) T.bShift_mul)) (pVar 0) (pOp (op_orD oAddA (oOpC T.opShift_add T.okShift_add (hr.mono (by first | decide | exact Nat.le_refl _ | omega)) T.bShift_add)) (pVar 3) (pVar 4))) (qCons (pOp (op_orD oAddA (oOpC T.opShift_add T.okShift_add (hr.mono (by first | decide | exact Nat.le_refl _ | omega)) T.bShift_add)) (pOp (op_orD oMulA (oOpCI T.opShift_mul T.okShift_mul (hr.mono (by first | decide | exact Nat.le_refl _ | omega)) T.bShift_mul)) (pVar 0) (pVar 3)) (pOp (op_orD oMulA (oOpCI T.opShift_mul T.okShift_mul (hr.mono (by first | decide | exact Nat.le_refl _ | omega)) T.bShift_mul)) (pVar 0) (pVar 4))) qNil)))))))) (sOne (sRet pBl)) sNil)
      (sCons (sSet (i := 6) sc_law_algebra.nd (pLst (qCons (pVar 0) (qCons (pVar 1) (qCons (pVar 2) qNil)))))
      (sCons (sIf (tW (tOrW (tNotT (tVal (pCall T.ok_law_equal (hr.mono (by first | decide | exact Nat.le_refl _ | omega)) T.g_law_equal T.F_law_equal.kp T.b_law_equal (qCons (pStatK T.stShift_sum_of T.okShift_sum_of (hr.mono (by first | decide | exact Nat.le_refl _ | omega)) T.kShift_sum_of rfl T.gShift (kCons (pVar 6) kNil)) (qCons (pVar 5) qNil))))) (tOr1 (tNotT (tVal (pCall T.ok_law_equal (hr.mono (by first | decide | exact Nat.le_refl _ | omega)) T.g_law_equal T.F_law_equal.kp T.b_law_equal (qCons (pStat T.stShift_sum_of T.okShift_sum_of (hr.mono (by first | decide | exact Nat.le_refl _ | omega)) T.bShift_sum_of T.gShift (qCons (pOp oRepT (pTup (qCons (pVar 0) (qCons (pVar 1) (qCons (pVar 2) qNil)))) pInt) qNil)) (qCons (pOp (op_orD oMul (oOpCI T.opShift_mul T.okShift_mul (hr.mono (by first | decide | exact Nat.le_refl _ | omega)) T.bShift_mul)) (pVar 5) pInt) qNil)))))))) (sOne (sRet pBl)) sNil)
      (sCons (sIf (tNotT (tVal (pCall T.ok_law_equal (hr.mono (by first | decide | exact Nat.le_refl _ | omega)) T.g_law_equal T.F_law_equal.kp T.b_law_equal (qCons (pStatI T.siShift_sum_of T.okShift_sum_of (hr.mono (by first | decide | exact Nat.le_refl _ | omega)) T.bShift_sum_of (pVar 0) (qCons (pLst (qCons (pVar 1) (qCons (pVar 2) qNil))) qNil)) (qCons (pOp (op_orD oAddA (oOpC T.opShift_add T.okShift_add (hr.mono (by first | decide | exact Nat.le_refl _ | omega)) T.bShift_add)) (pVar 1) (pVar 2)) qNil))))) (sOne (sRet pBl)) sNil)
      (sOne (sRet (pAnd (pCmp (op_orD (oEq hr.units) (oEqC T.eqShift T.okShift_eq (hr.mono (by first | decide | exact Nat.le_refl _ | omega)) T.bShift_eq)) (pCallB cLen T.n_len (by decide +kernel) (qCons (pVar 6) qNil)) pInt) (pAnd (pCall (T.ok_law_same 3) (hr.mono (by first | decide | exact Nat.le_refl _ | omega)) T.g_law_same T.F_law_same.kp T.b_law_same (qCons (pFld T.clShift T.naShift_rows (pStat T.stShift_sum_of T.okShift_sum_of (hr.mono (by first | decide | exact Nat.le_refl _ | omega)) T.bShift_sum_of T.gShift (qCons (pLst qNil) qNil))) (qCons (pTup qNil) qNil))) (pOne (pCall T.ok_law_equal (hr.mono (by first | decide | exact Nat.le_refl _ | omega)) T.g_law_equal T.F_law_equal.kp T.b_law_equal (qCons (pStat T.stShift_sum_of T.okShift_sum_of (hr.mono (by first | decide | exact Nat.le_refl _ | omega)) T.bShift_sum_of T.gShift (qCons (pLst (qCons (pVar 1) qNil)) qNil)) (qCons (pVar 1) qNil))))))))))))))
theorem Tx.ok_law_count (T : Tx K mg c) : FnOk PySem.Challenge.pw_playhall_k02_whole_shift_algebra w K mg base CX0 1 T.f_law_count T.fd_law_count ["_law_numbers"] (spP K 1 (m_law_count c)) :=
  fnP T.F_law_count sc_law_count fun cdv A outer s H E hr =>
    (sCons (sSet (i := 1) sc_law_count.nd (pOp oMod (pCallT cInt T.n_int (by decide +kernel) (qCons (pIx oIx (pVar 0) pInt) qNil)) pInt))
      (sCons (sIf (tCmp (oEq hr.units) (pVar 1) pInt) (sOne (sRet (pOp oMod (pCallT cInt T.n_int (by decide +kernel) (qCons (pIx oIx (pVar 0) pInt) qNil)) pInt))) sNil)
      (sCons (sIf (tCmp (oEq hr.units) (pVar 1) pInt) (sOne (sRet (pCallT cInt T.n_int (by decide +kernel) (qCons (pIx oIx (pVar 0) pInt) qNil)))) sNil)
      (sCons (sSet (i := 2) sc_law_count.nd pInt)
      (sCons (sFor PassesOwn.never rfl (iRange1 pInt T.n_range) (gName' (i := 3) sc_law_count.nd) (sOne (sSet (i := 2) sc_law_count.nd (pOp oAddA (pOp oMul (pVar 2) pInt) (pCallT cInt T.n_int (by decide +kernel) (qCons (pIx oIx (pVar 0) (pOp oAddA pInt (pVar 3))) qNil))))))
      (sOne (sRet (pOp oMod (pCallT cInt T.n_int (by decide +kernel) (qCons (pVar 2) qNil)) (pOp oAddA (pOp oPow pInt pInt) pInt)))))))))
theorem Tx.ok_law_row (T : Tx K mg c) : FnOk PySem.Challenge.pw_playhall_k02_whole_shift_algebra w K mg base CX0 1 T.f_law_row T.fd_law_row ["_law_cell_here", "_law_many"] (spP K 2 (m_law_row c)) :=
  fnP T.F_law_row sc_law_row fun cdv A outer s H E hr =>
    (sCons (sSetO (i := 2) sc_law_row.nd (oLst qNil))
      (sCons (sSet (i := 3) sc_law_row.nd (pOp oMod (pCallT cInt T.n_int (by decide +kernel) (qCons (pVar 0) qNil)) pInt))
      (sCons (sSet (i := 4) sc_law_row.nd (pOp oSub (pVar 0) (pOp oPow pInt pInt)))
      (sCons (sFor PassesOwn.never rfl (iRange1 (pVar 1) T.n_range) (gName' (i := 5) sc_law_row.nd) (sCons (sSet (i := 3) sc_law_row.nd (pOp oMod (pCallT cInt T.n_int (by decide +kernel) (qCons (pOp oAddA (pOp oAddA (pOp oMul (pVar 3) pInt) (pOp oMul pInt (pVar 5))) pInt) qNil)) pInt))
      (sCons (sSet (i := 6) sc_law_row.nd (pOp oMod (pCallT cInt T.n_int (by decide +kernel) (qCons (pOp oAddA (pOp oAddA (pOp oMul (pVar 3) pInt) (pOp oMul pInt (pVar 5))) pInt) qNil)) pInt))
      (sCons (sApp (i := 2) (pv 2) (pIf (tCmp oGe (pVar 0) (pOp oPow pInt pInt)) (pOp oMod (pCallT cInt T.n_int (by decide +kernel) (qCons (pVar 4) qNil)) pInt) (pOp oMod (pCallT cInt T.n_int (by decide +kernel) (qCons (pOp oDiv (pVar 6) pInt) qNil)) pInt)))
      (sOne (sSet (i := 4) sc_law_row.nd (pOp oDiv (pVar 4) pInt)))))))
      (sOne (sFz (i := 2) (sRet (pVar 2))))))))
theorem Tx.ok_law_cell (T : Tx K mg c) : FnOk PySem.Challenge.pw_playhall_k02_whole_shift_algebra w K mg base CX0 1 T.f_law_cell T.fd_law_cell ["_law_script", "_law_k"] (spP K 2 (m_law_cell c)) :=
  fnP T.F_law_cell sc_law_cell fun cdv A outer s H E hr =>
    (sOne (sRet (pIf (tCmp oLt (pVar 1) (pCallB cLen T.n_len (by decide +kernel) (qCons (pVar 0) qNil))) (pCallT cInt T.n_int (by decide +kernel) (qCons (pIx oIx (pVar 0) (pVar 1)) qNil)) pInt)))
theorem Tx.ok_law_number (T : Tx K mg c) : FnOk PySem.Challenge.pw_playhall_k02_whole_shift_algebra w K mg base CX0 1 T.f_law_number T.fd_law_number ["_law_numbers", "_law_most"] (spP K 2 (m_law_number c)) :=
  fnP T.F_law_number sc_law_number fun cdv A outer s H E hr =>
    (sCons (sSet (i := 2) sc_law_number.nd (pOp oSub pInt (pOp oMul pInt (pOp oMod (pCallT cInt T.n_int (by decide +kernel) (qCons (pOp oDiv (pIx oIx (pVar 0) pInt) pInt) qNil)) pInt))))
      (sCons (sSet (i := 3) sc_law_number.nd (pOp oMod (pCallT cInt T.n_int (by decide +kernel) (qCons (pIx oIx (pVar 0) pInt) qNil)) pInt))
      (sCons (sIf (tW (tOrW (tCmp (oEq hr.units) (pVar 1) pInt) (tOr1 (tCmp (oEq hr.units) (pVar 3) pInt)))) (sOne (sRet (pOp oSub (pOp oMod (pCallT cInt T.n_int (by decide +kernel) (qCons (pIx oIx (pVar 0) pInt) qNil)) pInt) pInt))) sNil)
      (sCons (sIf (tCmp (oEq hr.units) (pVar 3) pInt) (sOne (sRet (pOp oMul (pVar 2) (pCallT cInt T.n_int (by decide +kernel) (qCons (pIx oIx (pVar 0) pInt) qNil))))) sNil)
      (sCons (sSet (i := 4) sc_law_number.nd pInt)
      (sCons (sFor PassesOwn.never rfl (iRange1 pInt T.n_range) (gName' (i := 5) sc_law_number.nd) (sOne (sSet (i := 4) sc_law_number.nd (pOp oAddA (pOp oMul (pVar 4) pInt) (pCallT cInt T.n_int (by decide +kernel) (qCons (pIx oIx (pVar 0) (pOp oAddA pInt (pVar 5))) qNil))))))
      (sCons (sIf (tW (tOrW (tCmp (oEq hr.units) (pVar 1) pInt) (tOr1 (tCmp (oEq hr.units) (pVar 3) pInt)))) (sOne (sSet (i := 4) sc_law_number.nd (pOp oMod (pCallT cInt T.n_int (by decide +kernel) (qCons (pVar 4) qNil)) (pOp oPow pInt pInt)))) sNil)
      (sOne (sRet (pOp oMul (pVar 2) (pVar 4)))))))))))
theorem Tx.ok_law_rows (T : Tx K mg c) : FnOk PySem.Challenge.pw_playhall_k02_whole_shift_algebra w K mg base CX0 2 T.f_law_rows T.fd_law_rows ["_law_row_here", "_law_pool_here", "_law_own_values"] (spP K 3 (m_law_rows c)) :=
  fnP T.F_law_rows sc_law_rows fun cdv A outer s H E hr =>
    (sCons (sSetO (i := 3) sc_law_rows.nd (oLst qNil))
      (sCons (sSet (i := 4) sc_law_rows.nd (pIx oIx (pLst (qCons pInt (qCons pInt (qCons (pOp oPow pInt pInt) (qCons pInt qNil))))) (pOp oMod (pCallT cInt T.n_int (by decide +kernel) (qCons (pIx oIx (pVar 0) pInt) qNil)) pInt)))
      (sCons (sFor PassesOwn.never rfl (iRange1 (pCallB cLen T.n_len (by decide +kernel) (qCons (pVar 1) qNil)) T.n_range) (gName' (i := 5) sc_law_rows.nd) (sCons (sSet (i := 6) sc_law_rows.nd (pOp oAddA pInt (pOp oMul pInt (pVar 5))))
      (sCons (sSet (i := 7) sc_law_rows.nd (pOp oSub (pDget hr.units (pVar 2) (pIx oIx (pVar 1) (pVar 5))) (pOp oMul (pVar 4) (pOp oSub (pOp oMod (pCallT cInt T.n_int (by decide +kernel) (qCons (pIx oIx (pVar 0) (pOp oAddA (pVar 6) pInt)) qNil)) pInt) pInt))))
      (sCons (sSet (i := 8) sc_law_rows.nd (pOp oAddA (pDget hr.units (pVar 2) (pIx oIx (pVar 1) (pVar 5))) (pOp oMul (pVar 4) (pOp oSub (pOp oMod (pCallT cInt T.n_int (by decide +kernel) (qCons (pIx oIx (pVar 0) (pOp oAddA (pVar 6) pInt)) qNil)) pInt) pInt))))
      (sCons (sSet (i := 9) sc_law_rows.nd (pOp oSub (pOp oMod (pCallT cInt T.n_int (by decide +kernel) (qCons (pIx oIx (pVar 0) (pOp oAddA (pVar 6) pInt)) qNil)) pInt) pInt))
      (sCons (sIf (tCmp (oEq hr.units) (pOp oMod (pCallT cInt T.n_int (by decide +kernel) (qCons (pIx oIx (pVar 0) pInt) qNil)) pInt) pInt) (sCons (sSet (i := 7) sc_law_rows.nd (pCall T.ok_law_number (hr.mono (by first | decide | exact Nat.le_refl _ | omega)) T.g_law_number T.F_law_number.kp T.b_law_number (qCons (pSl (pVar 0) (poSome (pOp oAddA (pVar 6) pInt)) (poSome (pOp oAddA (pVar 6) pInt))) (qCons pInt qNil))))
      (sCons (sSet (i := 8) sc_law_rows.nd (pCall T.ok_law_number (hr.mono (by first | decide | exact Nat.le_refl _ | omega)) T.g_law_number T.F_law_number.kp T.b_law_number (qCons (pSl (pVar 0) (poSome (pOp oAddA (pVar 6) pInt)) (poSome (pOp oAddA (pVar 6) pInt))) (qCons pInt qNil))))
      (sOne (sSet (i := 9) sc_law_rows.nd (pCall T.ok_law_number (hr.mono (by first | decide | exact Nat.le_refl _ | omega)) T.g_law_number T.F_law_number.kp T.b_law_number (qCons (pSl (pVar 0) (poSome (pOp oAddA (pVar 6) pInt)) (poSome (pOp oAddA (pVar 6) pInt))) (qCons pInt qNil))))))) sNil)
      (sOne (sIf (tCmp oGt (pOp oMod (pCallT cInt T.n_int (by decide +kernel) (qCons (pIx oIx (pVar 0) (pVar 6)) qNil)) pInt) pInt) (sOne (sApp (i := 3) (pv 3) (pTup (qCons (pIx oIx (pVar 1) (pVar 5)) (qCons (pVar 7) (qCons (pVar 8) (qCons (pVar 9) qNil))))))) sNil))))))))
      (sOne (sFz (i := 3) (sRet (pVar 3)))))))
theorem Tx.ok_law_values (T : Tx K mg c) : FnOk PySem.Challenge.pw_playhall_k02_whole_shift_algebra w K mg base CX0 2 T.f_law_values T.fd_law_values ["_law_row_here", "_law_pool_here"] (spP K 2 (m_law_values c)) :=
  fnP T.F_law_values sc_law_values fun cdv A outer s H E hr =>
    (sCons (sSetO (i := 2) sc_law_values.nd oDic0)
      (sCons (sFor PassesOwn.never rfl (iRange1 (pCallB cLen T.n_len (by decide +kernel) (qCons (pVar 1) qNil)) T.n_range) (gName' (i := 3) sc_law_values.nd) (sOne (sDput (i := 2) hr.units (pv 2) (pIx oIx (pVar 1) (pVar 3)) (pCall T.ok_law_number (hr.mono (by first | decide | exact Nat.le_refl _ | omega)) T.g_law_number T.F_law_number.kp T.b_law_number (qCons (pSl (pVar 0) (poSome (pOp oAddA pInt (pOp oMul pInt (pVar 3)))) (poSome (pOp oAddA pInt (pOp oMul pInt (pVar 3))))) (qCons (pOp oMod (pCallT cInt T.n_int (by decide +kernel) (qCons (pIx oIx (pVar 0) pInt) qNil)) pInt) qNil))))))
      (sCons (sDput (i := 2) hr.units (pv 2) pStr pInt)
      (sOne (sFz (i := 2) (sRet (pVar 2)))))))
theorem Tx.ok_law_word (T : Tx K mg c) : FnOk PySem.Challenge.pw_playhall_k02_whole_shift_algebra w K mg base CX0 1 T.f_law_word T.fd_law_word ["_law_number_here"] (spP K 1 (m_law_word c)) :=
  fnP T.F_law_word sc_law_word fun cdv A outer s H E hr =>
    (sCons (sSet (i := 1) sc_law_word.nd (pOp oAddA (pCallT cInt T.n_int (by decide +kernel) (qCons (pVar 0) qNil)) pInt))
      (sCons (sSet (i := 2) sc_law_word.nd pStr)
      (sCons (sFor PassesOwn.never rfl (iRange1 pInt T.n_range) (gName' (i := 3) sc_law_word.nd) (sCons (sSet (i := 2) sc_law_word.nd (pOp oAddA (pIf (tCmp oGt (pVar 1) pInt) (pIx oIx pStr (pOp oMod (pCallT cInt T.n_int (by decide +kernel) (qCons (pOp oSub (pVar 1) pInt) qNil)) pInt)) pStr) (pVar 2)))
      (sOne (sSet (i := 1) sc_law_word.nd (pOp oDiv (pOp oSub (pVar 1) pInt) pInt)))))
      (sOne (sRet (pVar 2))))))
theorem Tx.ok_law_pool (T : Tx K mg c) : FnOk PySem.Challenge.pw_playhall_k02_whole_shift_algebra w K mg base CX0 2 T.f_law_pool T.fd_law_pool ["_law_row_here"] (spP K 1 (m_law_pool c)) :=
  fnP T.F_law_pool sc_law_pool fun cdv A outer s H E hr =>
    (sCons (sSet (i := 1) sc_law_pool.nd (pCall T.ok_law_word (hr.mono (by first | decide | exact Nat.le_refl _ | omega)) T.g_law_word T.F_law_word.kp T.b_law_word (qCons (pOp oAddA (pIx oIx (pVar 0) pInt) (pOp oMul pInt (pOp oMod (pCallT cInt T.n_int (by decide +kernel) (qCons (pIx oIx (pVar 0) pInt) qNil)) pInt))) qNil)))
      (sCons (sSet (i := 2) sc_law_pool.nd (pCall T.ok_law_word (hr.mono (by first | decide | exact Nat.le_refl _ | omega)) T.g_law_word T.F_law_word.kp T.b_law_word (qCons (pIx oIx (pVar 0) pInt) qNil)))
      (sCons (sIf (tCmp (oEq hr.units) (pOp oMod (pCallT cInt T.n_int (by decide +kernel) (qCons (pIx oIx (pVar 0) pInt) qNil)) pInt) pInt) (sOne (sSet (i := 2) sc_law_pool.nd (pSl (pOp oAddA (pVar 2) pStr) poNone (poSome pInt)))) sNil)
      (sCons (sSetO (i := 3) sc_law_pool.nd (oLst qNil))
      (sCons (sFor PassesOwn.never rfl (iSeq (pLst (qCons (pVar 1) (qCons (pOp oAddA (pOp oAddA (pVar 1) pStr) (pVar 2)) (qCons (pVar 2) (qCons (pOp oAddA (pOp oAddA (pVar 2) pStr) (pVar 1)) (qCons (pOp oAddA (pVar 1) pStr) qNil))))))) (gName' (i := 4) sc_law_pool.nd) (sOne (sIf (tVw (tCmp oNotIn (pVar 4) (pVar 3))) (sOne (sApp (i := 3) (pv 3) (pVar 4))) sNil)))
      (sOne (sFz (i := 3) (sRet (pVar 3)))))))))
theorem Tx.oklaw (T : Tx K mg c) : FnOk PySem.Challenge.pw_playhall_k02_whole_shift_algebra w K mg base CX0 7 T.flaw T.fdlaw ["_law_script"] (spP K 1 (mlaw c)) :=
  fnP T.Flaw sclaw fun cdv A outer s H E hr =>
    (sCons (sSet (i := 1) sclaw.nd (pCall T.ok_law_pool (hr.mono (by first | decide | exact Nat.le_refl _ | omega)) T.g_law_pool T.F_law_pool.kp T.b_law_pool (qCons (pCall T.ok_law_row (hr.mono (by first | decide | exact Nat.le_refl _ | omega)) T.g_law_row T.F_law_row.kp T.b_law_row (qCons (pCall T.ok_law_cell (hr.mono (by first | decide | exact Nat.le_refl _ | omega)) T.g_law_cell T.F_law_cell.kp T.b_law_cell (qCons (pVar 0) (qCons pInt qNil))) (qCons pInt qNil))) qNil)))
      (sCons (sSet (i := 2) sclaw.nd (pCall T.ok_law_values (hr.mono (by first | decide | exact Nat.le_refl _ | omega)) T.g_law_values T.F_law_values.kp T.b_law_values (qCons (pCall T.ok_law_row (hr.mono (by first | decide | exact Nat.le_refl _ | omega)) T.g_law_row T.F_law_row.kp T.b_law_row (qCons (pCall T.ok_law_cell (hr.mono (by first | decide | exact Nat.le_refl _ | omega)) T.g_law_cell T.F_law_cell.kp T.b_law_cell (qCons (pVar 0) (qCons pInt qNil))) (qCons pInt qNil))) (qCons (pVar 1) qNil))))
      (sCons (sSet (i := 3) sclaw.nd (pCall T.ok_law_rows (hr.mono (by first | decide | exact Nat.le_refl _ | omega)) T.g_law_rows T.F_law_rows.kp T.b_law_rows (qCons (pCall T.ok_law_row (hr.mono (by first | decide | exact Nat.le_refl _ | omega)) T.g_law_row T.F_law_row.kp T.b_law_row (qCons (pCall T.ok_law_cell (hr.mono (by first | decide | exact Nat.le_refl _ | omega)) T.g_law_cell T.F_law_cell.kp T.b_law_cell (qCons (pVar 0) (qCons pInt qNil))) (qCons pInt qNil))) (qCons (pVar 1) (qCons (pVar 2) qNil)))))
      (sCons (sSet (i := 4) sclaw.nd (pCall T.ok_law_rows (hr.mono (by first | decide | exact Nat.le_refl _ | omega)) T.g_law_rows T.F_law_rows.kp T.b_law_rows (qCons (pCall T.ok_law_row (hr.mono (by first | decide | exact Nat.le_refl _ | omega)) T.g_law_row T.F_law_row.kp T.b_law_row (qCons (pCall T.ok_law_cell (hr.mono (by first | decide | exact Nat.le_refl _ | omega)) T.g_law_cell T.F_law_cell.kp T.b_law_cell (qCons (pVar 0) (qCons pInt qNil))) (qCons pInt qNil))) (qCons (pVar 1) (qCons (pVar 2) qNil)))))
      (sCons (sSet (i := 5) sclaw.nd (pCall T.ok_law_rows (hr.mono (by first | decide | exact Nat.le_refl _ | omega)) T.g_law_rows T.F_law_rows.kp T.b_law_rows (qCons (pCall T.ok_law_row (hr.mono (by first | decide | exact Nat.le_refl _ | omega)) T.g_law_row T.F_law_row.kp T.b_law_row (qCons (pCall T.ok_law_cell (hr.mono (by first | decide | exact Nat.le_refl _ | omega)) T.g_law_cell T.F_law_cell.kp T.b_law_cell (qCons (pVar 0) (qCons pInt qNil))) (qCons pInt qNil))) (qCons (pVar 1) (qCons (pVar 2) qNil)))))
      (sCons (sSet (i := 6) sclaw.nd (pCall T.ok_law_count (hr.mono (by first | decide | exact Nat.le_refl _ | omega)) T.g_law_count T.F_law_count.kp T.b_law_count (qCons (pCall T.ok_law_row (hr.mono (by first | decide | exact Nat.le_refl _ | omega)) T.g_law_row T.F_law_row.kp T.b_law_row (qCons (pCall T.ok_law_cell (hr.mono (by first | decide | exact Nat.le_refl _ | omega)) T.g_law_cell T.F_law_cell.kp T.b_law_cell (qCons (pVar 0) (qCons pInt qNil))) (qCons pInt qNil))) qNil)))
      (sCons (sSet (i := 7) sclaw.nd (pCall T.ok_law_count (hr.mono (by first | decide | exact Nat.le_refl _ | omega)) T.g_law_count T.F_law_count.kp T.b_law_count (qCons (pCall T.ok_law_row (hr.mono (by first | decide | exact Nat.le_refl _ | omega)) T.g_law_row T.F_law_row.kp T.b_law_row (qCons (pCall T.ok_law_cell (hr.mono (by first | decide | exact Nat.le_refl _ | omega)) T.g_law_cell T.F_law_cell.kp T.b_law_cell (qCons (pVar 0) (qCons pInt qNil))) (qCons pInt qNil))) qNil)))
      (sCons (sSet (i := 8) sclaw.nd (pO (oMake T.mkShift T.okShift_init (hr.mono (by first | decide | exact Nat.le_refl _ | omega)) T.gShift T.bShift_init (qCons (pVar 3) qNil))))
      (sCons (sSet (i := 9) sclaw.nd (pO (oMake T.mkShift T.okShift_init (hr.mono (by first | decide | exact Nat.le_refl _ | omega)) T.gShift T.bShift_init (qCons (pVar 4) qNil))))
      (sCons (sSet (i := 10) sclaw.nd (pO (oMake T.mkShift T.okShift_init (hr.mono (by first | decide | exact Nat.le_refl _ | omega)) T.gShift T.bShift_init (qCons (pVar 5) qNil))))
      (sCons (sIf (tNotT (tVal (pCall T.ok_law_algebra (hr.mono (by first | decide | exact Nat.le_refl _ | omega)) T.g_law_algebra T.F_law_algebra.kp T.b_law_algebra (qCons (pVar 8) (qCons (pVar 9) (qCons (pVar 10) (qCons (pVar 6) (qCons (pVar 7) qNil)))))))) (sOne (sRet pBl)) sNil)
      (sCons (sSet (i := 11) sclaw.nd (pCall T.ok_law_bad (hr.mono (by first | decide | exact Nat.le_refl _ | omega)) T.g_law_bad T.F_law_bad.kp T.b_law_bad (qCons (pVar 3) (qCons (pVar 2) (qCons pInt qNil)))))
      (sCons (sSet (i := 12) sclaw.nd (pCall T.ok_law_moved (hr.mono (by first | decide | exact Nat.le_refl _ | omega)) T.g_law_moved T.F_law_moved.kp T.b_law_moved (qCons (pVar 3) (qCons (pVar 2) (qCons pInt qNil)))))
      (sCons (sIf (tW (tOrW (tNotT (tVal (pCall T.ok_law_applied (hr.mono (by first | decide | exact Nat.le_refl _ | omega)) T.g_law_applied T.F_law_applied.kp T.b_law_applied (qCons (pVar 8) (qCons (pVar 2) (qCons (pVar 11) (qCons (pVar 12) qNil))))))) (tOr1 (tNotT (tVal (pCall T.ok_law_applied (hr.mono (by first | decide | exact Nat.le_refl _ | omega)) T.g_law_applied T.F_law_applied.kp T.b_law_applied (qCons (pUn (oInvC T.meShift_invert.at_ T.meShift_invert.fn T.okShift_invert (hr.mono (by first | decide | exact Nat.le_refl _ | omega)) T.bShift_invert) (pVar 8)) (qCons (pVar 12) (qCons (pVar 11) (qCons (pVar 2) qNil)))))))))) (sOne (sRet pBl)) sNil)
      (sCons (sSet (i := 11) sclaw.nd (pOp (op_orD oAddA (oOpC T.opShift_add T.okShift_add (hr.mono (by first | decide | exact Nat.le_refl _ | omega)) T.bShift_add)) (pVar 11) (pCall T.ok_law_bad (hr.mono (by first | decide | exact Nat.le_refl _ | omega)) T.g_law_bad T.F_law_bad.kp T.b_law_bad (qCons (pVar 4) (qCons (pVar 12) (qCons pInt qNil))))))
      (sCons (sSet (i := 12) sclaw.nd (pCall T.ok_law_moved (hr.mono (by first | decide | exact Nat.le_refl _ | omega)) T.g_law_moved T.F_law_moved.kp T.b_law_moved (qCons (pVar 4) (qCons (pVar 12) (qCons pInt qNil)))))
      (sCons (sIf (tW (tOrW (tNotT (tVal (pCall T.ok_law_applied (hr.mono (by first | decide | exact Nat.le_refl _ | omega)) T.g_law_applied T.F_law_applied.kp T.b_law_applied (qCons (pOp (op_orD oAddA (oOpC T.opShift_add T.okShift_add (hr.mono (by first | decide | exact Nat.le_refl _ | omega)) T.bShift_add)) (pVar 8) (pVar 9)) (qCons (pVar 2) (qCons (pVar 11) (qCons (pVar 12) qNil))))))) (tOr1 (tNotT (tVal (pCall T.ok_law_applied (hr.mono (by first | decide | exact Nat.le_refl _ | omega)) T.g_law_applied T.F_law_applied.kp T.b_law_applied (qCons (pUn (oInvC T.meShift_invert.at_ T.meShift_invert.fn T.okShift_invert (hr.mono (by first | decide | exact Nat.le_refl _ | omega)) T.bShift_invert) (pOp (op_orD oAddA (oOpC T.opShift_add T.okShift_add (hr.mono (by first | decide | exact Nat.le_refl _ | omega)) T.bShift_add)) (pVar 8) (pVar 9))) (qCons (pVar 12) (qCons (pVar 11) (qCons (pVar 2) qNil)))))))))) (sOne (sRet pBl)) sNil)
      (sCons (sSet (i := 11) sclaw.nd (pOp (op_orD oAddA (oOpC T.opShift_add T.okShift_add (hr.mono (by first | decide | exact Nat.le_refl _ | omega)) T.bShift_add)) (pVar 11) (pCall T.ok_law_bad (hr.mono (by first | decide | exact Nat.le_refl _ | omega)) T.g_law_bad T.F_law_bad.kp T.b_law_bad (qCons (pVar 5) (qCons (pVar 12) (qCons pInt qNil))))))
      (sCons (sSet (i := 12) sclaw.nd (pCall T.ok_law_moved (hr.mono (by first | decide | exact Nat.le_refl _ | omega)) T.g_law_moved T.F_law_moved.kp T.b_law_moved (qCons (pVar 5) (qCons (pVar 12) (qCons pInt qNil)))))
      (sCons (sIf (tNotT (tVal (pCall T.ok_law_applied (hr.mono (by first | decide | exact Nat.le_refl _ | omega)) T.g_law_applied T.F_law_applied.kp T.b_law_applied (qCons (pStat T.stShift_sum_of T.okShift_sum_of (hr.mono (by first | decide | exact Nat.le_refl _ | omega)) T.bShift_sum_of T.gShift (qCons (pLst (qCons (pVar 8) (qCons (pVar 9) (qCons (pVar 10) qNil)))) qNil)) (qCons (pVar 2) (qCons (pVar 11) (qCons (pVar 12) qNil))))))) (sOne (sRet pBl)) sNil)
      (sCons (sSet (i := 11) sclaw.nd (pCall T.ok_law_bad (hr.mono (by first | decide | exact Nat.le_refl _ | omega)) T.g_law_bad T.F_law_bad.kp T.b_law_bad (qCons (pVar 3) (qCons (pVar 2) (qCons (pVar 6) qNil)))))
      (sCons (sSet (i := 12) sclaw.nd (pCall T.ok_law_moved (hr.mono (by first | decide | exact Nat.le_refl _ | omega)) T.g_law_moved T.F_law_moved.kp T.b_law_moved (qCons (pVar 3) (qCons (pVar 2) (qCons (pVar 6) qNil)))))
      (sCons (sIf (tW (tOrW (tNotT (tVal (pCall T.ok_law_applied (hr.mono (by first | decide | exact Nat.le_refl _ | omega)) T.g_law_applied T.F_law_applied.kp T.b_law_applied (qCons (pOp (op_orD oMulA (oOpCI T.opShift_mul T.okShift_mul (hr.mono (by first | decide | exact Nat.le_refl _ | omega)) T.bShift_mul)) (pVar 8) (pVar 6)) (qCons (pVar 2) (qCons (pVar 11) (qCons (pVar 12) qNil))))))) (tOr1 (tNotT (tVal (pCall T.ok_law_applied (hr.mono (by first | decide | exact Nat.le_refl _ | omega)) T.g_law_applied T.F_law_applied.kp T.b_law_applied (qCons (pUn (oInvC T.meShift_invert.at_ T.meShift_invert.fn T.okShift_invert (hr.mono (by first | decide | exact Nat.le_refl _ | omega)) T.bShift_invert) (pOp (op_orD oMulA (oOpCI T.opShift_mul T.okShift_mul (hr.mono (by first | decide | exact Nat.le_refl _ | omega)) T.bShift_mul)) (pVar 8) (pVar 6))) (qCons (pVar 12) (qCons (pVar 11) (qCons (pVar 2) qNil)))))))))) (sOne (sRet pBl)) sNil)
      (sOne (sRet (pCall (T.ok_law_same 3) (hr.mono (by first | decide | exact Nat.le_refl _ | omega)) T.g_law_same T.F_law_same.kp T.b_law_same (qCons (pFld T.clShift T.naShift_rows (pVar 8)) (qCons (pCallT cTup T.n_tuple (by decide +kernel) (qCons (pO (oCallB (cSorted hr.units) T.n_sorted (by decide +kernel) (qCons (pVar 3) qNil))) qNil)) qNil))))))))))))))))))))))))))))
end
theorem tx_mk {K : PySem.W.Frag} {h : Heap} {mg : Str → Option Value} (X : K.In h) (G : h.Ns mainGlobals mg)
    (z0 : PySem.W.nsIn K mainGlobals "ValueError" = some none)
    (z1 : PySem.W.nsIn K mainGlobals "bool" = some none)
    (z2 : PySem.W.nsIn K mainGlobals "dict" = some none)
    (z3 : PySem.W.nsIn K mainGlobals "int" = some none)
    (z4 : PySem.W.nsIn K mainGlobals "isinstance" = some none)
    (z5 : PySem.W.nsIn K mainGlobals "len" = some none)
    (z6 : PySem.W.nsIn K mainGlobals "list" = some none)
    (z7 : PySem.W.nsIn K mainGlobals "max" = some none)
    (z8 : PySem.W.nsIn K mainGlobals "min" = some none)
    (z9 : PySem.W.nsIn K mainGlobals "range" = some none)
    (z10 : PySem.W.nsIn K mainGlobals "sorted" = some none)
    (z11 : PySem.W.nsIn K mainGlobals "str" = some none)
    (z12 : PySem.W.nsIn K mainGlobals "tuple" = some none)
    {C0 : Addr} {cd0d : ClassData}
    (u0_g : PySem.W.nsIn K mainGlobals "Shift" = some (some (.ref C0)))
    (u0_a : PySem.W.plainGet K C0 Str.empty = true)
    (u0_b : PySem.W.hasDictIn K C0 = true)
    (u0_c : PySem.W.plainOver K C0 = true)
    (u0_d : PySem.W.findIn K (.ref C0) "__setattr__" = some (some (.builtin "object.__setattr__")))
    (u0_e : PySem.W.findIn K (.ref C0) "__class__" = some (some (.builtin "object.__class__")))
    (u0_f : PySem.W.specialIn K (.builtin "object.__class__") "__get__" = some (some (.builtin "getset_descriptor.__get__")))
    (u0_h : PySem.W.takesIn K (.builtin "object.__class__") = some true)
    (u0_i : PySem.W.mroIn K C0 (.type "object") = some true)
    (u0_j : PySem.W.typeIn K (.ref C0) = some (.type "type"))
    (u0_k : PySem.W.clsIn K C0 = some cd0d)
    (u0_l : PySem.W.keepIn K (.ref C0) = true)
    (v0_0 : PySem.W.findIn K (.ref C0) "rows" = some none)
    (v0_3 : PySem.W.makesIn K C0 = true)
    (v0_4 : PySem.W.selfFirst K C0 = true)
    {fo0_4 ro0_4 : Option Value}
    (w0_4 : PySem.W.findIn K (.ref C0) (dunderR (Operator.Mult).info.2) = some none)
    (p0_4 : PySem.W.findIn K (.type "int") (PySem.dunder (Operator.Mult).info.2) = some fo0_4)
    (q0_4 : PySem.W.findIn K (.type "int") (dunderR (Operator.Mult).info.2) = some ro0_4)
    (v0_6 : PySem.W.selfFirst K C0 = true)
    {f0 : Addr} {oc0 kV0 dc0 pm0 cd0 ct0 : Value} {od0 an0 : Option Addr} {sl0 : Array (Option Value)}
    (a0 : PySem.W.nsIn K mainGlobals "_law_same" = some (some (.ref f0)))
    (l0 : K.lookup f0 = some ⟨oc0, od0, .func (PySem.W.fnOf "_law_same" "_law_same" (defArgs s_law_same) (defBody s_law_same) (defScope s_law_same) .none kV0 dc0 pm0 an0 cd0 ct0), sl0⟩)
    (c0 : PySem.W.codeIn K cd0 "_law_same" = true)
    (k0 : PySem.W.keepIn K (.ref f0) = true)
    {f1 : Addr} {oc1 kV1 dc1 pm1 cd1 ct1 : Value} {od1 an1 : Option Addr} {sl1 : Array (Option Value)}
    (a1 : PySem.W.nsIn K mainGlobals "_law_same_dict" = some (some (.ref f1)))
    (l1 : K.lookup f1 = some ⟨oc1, od1, .func (PySem.W.fnOf "_law_same_dict" "_law_same_dict" (defArgs s_law_same_dict) (defBody s_law_same_dict) (defScope s_law_same_dict) .none kV1 dc1 pm1 an1 cd1 ct1), sl1⟩)
    (c1 : PySem.W.codeIn K cd1 "_law_same_dict" = true)
    (k1 : PySem.W.keepIn K (.ref f1) = true)
    {f2 : Addr} {oc2 kV2 dc2 pm2 cd2 ct2 : Value} {od2 an2 : Option Addr} {sl2 : Array (Option Value)}
    (a2 : PySem.W.findIn K (.ref C0) "gap" = some (some (.ref f2)))
    (a2_1 : PySem.W.isFn K (.ref f2) = true)
    (l2 : K.lookup f2 = some ⟨oc2, od2, .func (PySem.W.fnOf "gap" "Shift.gap" (defArgs sShift_gap) (defBody sShift_gap) (defScope sShift_gap) .none kV2 dc2 pm2 an2 cd2 ct2), sl2⟩)
    (c2 : PySem.W.codeIn K cd2 "Shift.gap" = true)
    (k2 : PySem.W.keepIn K (.ref f2) = true)
    {f3 : Addr} {oc3 kV3 dc3 pm3 cd3 ct3 : Value} {od3 an3 : Option Addr} {sl3 : Array (Option Value)}
    (a3 : PySem.W.findIn K (.ref C0) "applied" = some (some (.ref f3)))
    (a3_1 : PySem.W.isFn K (.ref f3) = true)
    (l3 : K.lookup f3 = some ⟨oc3, od3, .func (PySem.W.fnOf "applied" "Shift.applied" (defArgs sShift_applied) (defBody sShift_applied) (defScope sShift_applied) .none kV3 dc3 pm3 an3 cd3 ct3), sl3⟩)
    (c3 : PySem.W.codeIn K cd3 "Shift.applied" = true)
    (k3 : PySem.W.keepIn K (.ref f3) = true)
    {f4 : Addr} {oc4 kV4 dc4 pm4 cd4 ct4 : Value} {od4 an4 : Option Addr} {sl4 : Array (Option Value)}
    (a4 : PySem.W.nsIn K mainGlobals "_law_base" = some (some (.ref f4)))
    (l4 : K.lookup f4 = some ⟨oc4, od4, .func (PySem.W.fnOf "_law_base" "_law_base" (defArgs s_law_base) (defBody s_law_base) (defScope s_law_base) .none kV4 dc4 pm4 an4 cd4 ct4), sl4⟩)
    (c4 : PySem.W.codeIn K cd4 "_law_base" = true)
    (k4 : PySem.W.keepIn K (.ref f4) = true)
    {f5 : Addr} {oc5 kV5 dc5 pm5 cd5 ct5 : Value} {od5 an5 : Option Addr} {sl5 : Array (Option Value)}
    (a5 : PySem.W.nsIn K mainGlobals "_law_applied" = some (some (.ref f5)))
    (l5 : K.lookup f5 = some ⟨oc5, od5, .func (PySem.W.fnOf "_law_applied" "_law_applied" (defArgs s_law_applied) (defBody s_law_applied) (defScope s_law_applied) .none kV5 dc5 pm5 an5 cd5 ct5), sl5⟩)
    (c5 : PySem.W.codeIn K cd5 "_law_applied" = true)
    (k5 : PySem.W.keepIn K (.ref f5) = true)
    {f6 : Addr} {oc6 kV6 dc6 pm6 cd6 ct6 : Value} {od6 an6 : Option Addr} {sl6 : Array (Option Value)}
    (a6 : PySem.W.findIn K (.ref C0) "__init__" = some (some (.ref f6)))
    (a6_1 : PySem.W.isFn K (.ref f6) = true)
    (l6 : K.lookup f6 = some ⟨oc6, od6, .func (PySem.W.fnOf "__init__" "Shift.__init__" (defArgs sShift_init) (defBody sShift_init) (defScope sShift_init) .none kV6 dc6 pm6 an6 cd6 ct6), sl6⟩)
    (c6 : PySem.W.codeIn K cd6 "Shift.__init__" = true)
    (k6 : PySem.W.keepIn K (.ref f6) = true)
    {f7 : Addr} {oc7 kV7 dc7 pm7 cd7 ct7 : Value} {od7 an7 : Option Addr} {sl7 : Array (Option Value)}
    (a7 : PySem.W.findIn K (.ref C0) "__mul__" = some (some (.ref f7)))
    (a7_1 : PySem.W.isFn K (.ref f7) = true)
    (l7 : K.lookup f7 = some ⟨oc7, od7, .func (PySem.W.fnOf "__mul__" "Shift.__mul__" (defArgs sShift_mul) (defBody sShift_mul) (defScope sShift_mul) .none kV7 dc7 pm7 an7 cd7 ct7), sl7⟩)
    (c7 : PySem.W.codeIn K cd7 "Shift.__mul__" = true)
    (k7 : PySem.W.keepIn K (.ref f7) = true)
    {f8 : Addr} {oc8 kV8 dc8 pm8 cd8 ct8 : Value} {od8 an8 : Option Addr} {sl8 : Array (Option Value)}
    (a8 : PySem.W.findIn K (.ref C0) "__invert__" = some (some (.ref f8)))
    (a8_1 : PySem.W.isFn K (.ref f8) = true)
    (l8 : K.lookup f8 = some ⟨oc8, od8, .func (PySem.W.fnOf "__invert__" "Shift.__invert__" (defArgs sShift_invert) (defBody sShift_invert) (defScope sShift_invert) .none kV8 dc8 pm8 an8 cd8 ct8), sl8⟩)
    (c8 : PySem.W.codeIn K cd8 "Shift.__invert__" = true)
    (k8 : PySem.W.keepIn K (.ref f8) = true)
    {f9 : Addr} {oc9 kV9 dc9 pm9 cd9 ct9 : Value} {od9 an9 : Option Addr} {sl9 : Array (Option Value)}
    (a9 : PySem.W.nsIn K mainGlobals "_law_moved" = some (some (.ref f9)))
    (l9 : K.lookup f9 = some ⟨oc9, od9, .func (PySem.W.fnOf "_law_moved" "_law_moved" (defArgs s_law_moved) (defBody s_law_moved) (defScope s_law_moved) .none kV9 dc9 pm9 an9 cd9 ct9), sl9⟩)
    (c9 : PySem.W.codeIn K cd9 "_law_moved" = true)
    (k9 : PySem.W.keepIn K (.ref f9) = true)
    {f10 : Addr} {oc10 kV10 dc10 pm10 cd10 ct10 : Value} {od10 an10 : Option Addr} {sl10 : Array (Option Value)}
    (a10 : PySem.W.nsIn K mainGlobals "_law_bad" = some (some (.ref f10)))
    (l10 : K.lookup f10 = some ⟨oc10, od10, .func (PySem.W.fnOf "_law_bad" "_law_bad" (defArgs s_law_bad) (defBody s_law_bad) (defScope s_law_bad) .none kV10 dc10 pm10 an10 cd10 ct10), sl10⟩)
    (c10 : PySem.W.codeIn K cd10 "_law_bad" = true)
    (k10 : PySem.W.keepIn K (.ref f10) = true)
    {f11 : Addr} {oc11 kV11 dc11 pm11 cd11 ct11 : Value} {od11 an11 : Option Addr} {sl11 : Array (Option Value)}
    (a11 : PySem.W.nsIn K mainGlobals "row_of_both" = some (some (.ref f11)))
    (l11 : K.lookup f11 = some ⟨oc11, od11, .func (PySem.W.fnOf "row_of_both" "row_of_both" (defArgs srow_of_both) (defBody srow_of_both) (defScope srow_of_both) .none kV11 dc11 pm11 an11 cd11 ct11), sl11⟩)
    (c11 : PySem.W.codeIn K cd11 "row_of_both" = true)
    (k11 : PySem.W.keepIn K (.ref f11) = true)
    {f12 : Addr} {oc12 kV12 dc12 pm12 cd12 ct12 : Value} {od12 an12 : Option Addr} {sl12 : Array (Option Value)}
    (a12 : PySem.W.findIn K (.ref C0) "__add__" = some (some (.ref f12)))
    (a12_1 : PySem.W.isFn K (.ref f12) = true)
    (l12 : K.lookup f12 = some ⟨oc12, od12, .func (PySem.W.fnOf "__add__" "Shift.__add__" (defArgs sShift_add) (defBody sShift_add) (defScope sShift_add) .none kV12 dc12 pm12 an12 cd12 ct12), sl12⟩)
    (c12 : PySem.W.codeIn K cd12 "Shift.__add__" = true)
    (k12 : PySem.W.keepIn K (.ref f12) = true)
    {f13 : Addr} {oc13 kV13 dc13 pm13 cd13 ct13 : Value} {od13 an13 : Option Addr} {sl13 : Array (Option Value)}
    {pa13 : Addr} {rs13 : List Value}
    (a13 : PySem.W.findCls K (.ref C0) (.type "type") "sum_of" = some (.get (.builtin "staticmethod.__get__") (.ref pa13) .none (.ref C0)))
    (a13_1 : PySem.W.recIn K pa13 "staticmethod" = some (.ref f13 :: rs13))
    (a13_2 : PySem.W.readsIn K C0 (.type "type") = true)
    (a13_3 : PySem.W.specialIn K (.ref C0) "__getattribute__" = some (some (.builtin "type.__getattribute__")))
    (a13_4 : PySem.W.findIn K (.ref C0) "sum_of" = some (some (.ref pa13)))
    (a13_5 : PySem.W.typeIn K (.ref pa13) = some (.type "staticmethod"))
    (a13_6 : PySem.W.specialIn K (.ref pa13) "__get__" = some (some (.builtin "staticmethod.__get__")))
    (a13_7 : PySem.W.takesIn K (.ref pa13) = some false)
    (a13_8 : PySem.W.isClsIn K C0 = true)
    (l13 : K.lookup f13 = some ⟨oc13, od13, .func (PySem.W.fnOf "sum_of" "Shift.sum_of" (defArgs sShift_sum_of) (defBody sShift_sum_of) (defScope sShift_sum_of) .none kV13 dc13 pm13 an13 cd13 ct13), sl13⟩)
    (c13 : PySem.W.codeIn K cd13 "Shift.sum_of" = true)
    (k13 : PySem.W.keepIn K (.ref f13) = true)
    {f14 : Addr} {oc14 kV14 dc14 pm14 cd14 ct14 : Value} {od14 an14 : Option Addr} {sl14 : Array (Option Value)}
    (a14 : PySem.W.findIn K (.ref C0) "__eq__" = some (some (.ref f14)))
    (a14_1 : PySem.W.isFn K (.ref f14) = true)
    (l14 : K.lookup f14 = some ⟨oc14, od14, .func (PySem.W.fnOf "__eq__" "Shift.__eq__" (defArgs sShift_eq) (defBody sShift_eq) (defScope sShift_eq) .none kV14 dc14 pm14 an14 cd14 ct14), sl14⟩)
    (c14 : PySem.W.codeIn K cd14 "Shift.__eq__" = true)
    (k14 : PySem.W.keepIn K (.ref f14) = true)
    {f15 : Addr} {oc15 kV15 dc15 pm15 cd15 ct15 : Value} {od15 an15 : Option Addr} {sl15 : Array (Option Value)}
    (a15 : PySem.W.nsIn K mainGlobals "_law_equal" = some (some (.ref f15)))
    (l15 : K.lookup f15 = some ⟨oc15, od15, .func (PySem.W.fnOf "_law_equal" "_law_equal" (defArgs s_law_equal) (defBody s_law_equal) (defScope s_law_equal) .none kV15 dc15 pm15 an15 cd15 ct15), sl15⟩)
    (c15 : PySem.W.codeIn K cd15 "_law_equal" = true)
    (k15 : PySem.W.keepIn K (.ref f15) = true)
    {f16 : Addr} {oc16 kV16 dc16 pm16 cd16 ct16 : Value} {od16 an16 : Option Addr} {sl16 : Array (Option Value)}
    (a16 : PySem.W.nsIn K mainGlobals "_law_algebra" = some (some (.ref f16)))
    (l16 : K.lookup f16 = some ⟨oc16, od16, .func (PySem.W.fnOf "_law_algebra" "_law_algebra" (defArgs s_law_algebra) (defBody s_law_algebra) (defScope s_law_algebra) .none kV16 dc16 pm16 an16 cd16 ct16), sl16⟩)
    (c16 : PySem.W.codeIn K cd16 "_law_algebra" = true)
    (k16 : PySem.W.keepIn K (.ref f16) = true)
    {f17 : Addr} {oc17 kV17 dc17 pm17 cd17 ct17 : Value} {od17 an17 : Option Addr} {sl17 : Array (Option Value)}
    (a17 : PySem.W.nsIn K mainGlobals "_law_count" = some (some (.ref f17)))
    (l17 : K.lookup f17 = some ⟨oc17, od17, .func (PySem.W.fnOf "_law_count" "_law_count" (defArgs s_law_count) (defBody s_law_count) (defScope s_law_count) .none kV17 dc17 pm17 an17 cd17 ct17), sl17⟩)
    (c17 : PySem.W.codeIn K cd17 "_law_count" = true)
    (k17 : PySem.W.keepIn K (.ref f17) = true)
    {f18 : Addr} {oc18 kV18 dc18 pm18 cd18 ct18 : Value} {od18 an18 : Option Addr} {sl18 : Array (Option Value)}
    (a18 : PySem.W.nsIn K mainGlobals "_law_row" = some (some (.ref f18)))
    (l18 : K.lookup f18 = some ⟨oc18, od18, .func (PySem.W.fnOf "_law_row" "_law_row" (defArgs s_law_row) (defBody s_law_row) (defScope s_law_row) .none kV18 dc18 pm18 an18 cd18 ct18), sl18⟩)
    (c18 : PySem.W.codeIn K cd18 "_law_row" = true)
    (k18 : PySem.W.keepIn K (.ref f18) = true)
    {f19 : Addr} {oc19 kV19 dc19 pm19 cd19 ct19 : Value} {od19 an19 : Option Addr} {sl19 : Array (Option Value)}
    (a19 : PySem.W.nsIn K mainGlobals "_law_cell" = some (some (.ref f19)))
    (l19 : K.lookup f19 = some ⟨oc19, od19, .func (PySem.W.fnOf "_law_cell" "_law_cell" (defArgs s_law_cell) (defBody s_law_cell) (defScope s_law_cell) .none kV19 dc19 pm19 an19 cd19 ct19), sl19⟩)
    (c19 : PySem.W.codeIn K cd19 "_law_cell" = true)
    (k19 : PySem.W.keepIn K (.ref f19) = true)
    {f20 : Addr} {oc20 kV20 dc20 pm20 cd20 ct20 : Value} {od20 an20 : Option Addr} {sl20 : Array (Option Value)}
    (a20 : PySem.W.nsIn K mainGlobals "_law_number" = some (some (.ref f20)))
    (l20 : K.lookup f20 = some ⟨oc20, od20, .func (PySem.W.fnOf "_law_number" "_law_number" (defArgs s_law_number) (defBody s_law_number) (defScope s_law_number) .none kV20 dc20 pm20 an20 cd20 ct20), sl20⟩)
    (c20 : PySem.W.codeIn K cd20 "_law_number" = true)
    (k20 : PySem.W.keepIn K (.ref f20) = true)
    {f21 : Addr} {oc21 kV21 dc21 pm21 cd21 ct21 : Value} {od21 an21 : Option Addr} {sl21 : Array (Option Value)}
    (a21 : PySem.W.nsIn K mainGlobals "_law_rows" = some (some (.ref f21)))
    (l21 : K.lookup f21 = some ⟨oc21, od21, .func (PySem.W.fnOf "_law_rows" "_law_rows" (defArgs s_law_rows) (defBody s_law_rows) (defScope s_law_rows) .none kV21 dc21 pm21 an21 cd21 ct21), sl21⟩)
    (c21 : PySem.W.codeIn K cd21 "_law_rows" = true)
    (k21 : PySem.W.keepIn K (.ref f21) = true)
    {f22 : Addr} {oc22 kV22 dc22 pm22 cd22 ct22 : Value} {od22 an22 : Option Addr} {sl22 : Array (Option Value)}
    (a22 : PySem.W.nsIn K mainGlobals "_law_values" = some (some (.ref f22)))
    (l22 : K.lookup f22 = some ⟨oc22, od22, .func (PySem.W.fnOf "_law_values" "_law_values" (defArgs s_law_values) (defBody s_law_values) (defScope s_law_values) .none kV22 dc22 pm22 an22 cd22 ct22), sl22⟩)
    (c22 : PySem.W.codeIn K cd22 "_law_values" = true)
    (k22 : PySem.W.keepIn K (.ref f22) = true)
    {f23 : Addr} {oc23 kV23 dc23 pm23 cd23 ct23 : Value} {od23 an23 : Option Addr} {sl23 : Array (Option Value)}
    (a23 : PySem.W.nsIn K mainGlobals "_law_word" = some (some (.ref f23)))
    (l23 : K.lookup f23 = some ⟨oc23, od23, .func (PySem.W.fnOf "_law_word" "_law_word" (defArgs s_law_word) (defBody s_law_word) (defScope s_law_word) .none kV23 dc23 pm23 an23 cd23 ct23), sl23⟩)
    (c23 : PySem.W.codeIn K cd23 "_law_word" = true)
    (k23 : PySem.W.keepIn K (.ref f23) = true)
    {f24 : Addr} {oc24 kV24 dc24 pm24 cd24 ct24 : Value} {od24 an24 : Option Addr} {sl24 : Array (Option Value)}
    (a24 : PySem.W.nsIn K mainGlobals "_law_pool" = some (some (.ref f24)))
    (l24 : K.lookup f24 = some ⟨oc24, od24, .func (PySem.W.fnOf "_law_pool" "_law_pool" (defArgs s_law_pool) (defBody s_law_pool) (defScope s_law_pool) .none kV24 dc24 pm24 an24 cd24 ct24), sl24⟩)
    (c24 : PySem.W.codeIn K cd24 "_law_pool" = true)
    (k24 : PySem.W.keepIn K (.ref f24) = true)
    {f25 : Addr} {oc25 kV25 dc25 pm25 cd25 ct25 : Value} {od25 an25 : Option Addr} {sl25 : Array (Option Value)}
    (a25 : PySem.W.nsIn K mainGlobals "law" = some (some (.ref f25)))
    (l25 : K.lookup f25 = some ⟨oc25, od25, .func (PySem.W.fnOf "law" "law" (defArgs slaw) (defBody slaw) (defScope slaw) .none kV25 dc25 pm25 an25 cd25 ct25), sl25⟩)
    (c25 : PySem.W.codeIn K cd25 "law" = true)
    (k25 : PySem.W.keepIn K (.ref f25) = true)
    {X0 : Addr}
    (e0_g : PySem.W.nsIn K mainGlobals "Blocked" = some (some (.ref X0)))
    {X1 : Addr}
    (e1_g : PySem.W.nsIn K mainGlobals "HallError" = some (some (.ref X1)))
    {X2 : Addr}
    (e2_g : PySem.W.nsIn K mainGlobals "NoCounter" = some (some (.ref X2)))
    {xN0 xf0 xcc0 xcda0 xD0 : Addr} {xcn0 xcq0 xnm0 : Str} {xbs0 xbm0 xsub0 : List Value} {xsn0 : List Str} {xab0 : Bool} {xcol0 : Option Bool} {xdd0 xan0 xod0 xcdd0 xcld0 : Option Addr} {xk0_0 xk1_0 xk2_0 xk3_0 xk5_0 : Option Value} {xkV0 xdoc0 xpm0 xct0 xoc0 xccl0 xcl0 : Value} {xosl0 xccs0 xcsl0 : Array (Option Value)} {xvs0 : Array Value} {xfile0 : Str} {xtf0 : Tok} {xcdD0 : ClassData}
    (e0_a : K.lookup X0 = some (excClassObj xcn0 xcq0 X0 xN0 xbs0 xbm0 true xsn0 xsub0 xab0 xcol0 xdd0 xk0_0 xk1_0 xk2_0 xk3_0 xk5_0 "ValueError.__new__"))
    (e0_b : PySem.HandSPX.refsVE xbm0 = true)
    (e0_c : PySem.W.findIn K (.ref X0) "__setattr__" = some (some (.builtin "object.__setattr__")))
    (e0_d : PySem.W.subIn K (.ref X0) (.type "BaseException") = some true)
    (e0_e : PySem.W.typeIn K (.ref X0) = some (.type "type"))
    (e0_f : PySem.W.keepIn K (.ref X0) = true)
    (e0_h : PySem.W.subIn K (.ref X0) (.type "ValueError") = some true)
    (e0_i : PySem.W.findIn K (.ref X0) "__init__" = some (some (.ref xf0)))
    (e0_j : PySem.W.typeIn K (.ref xf0) = some (.type "function"))
    (e0_k : K.lookup xf0 = some ⟨xoc0, xod0, .func (PySem.W.fnX xnm0 "Blocked.__init__" (defArgs sBlocked_init) (defBody sBlocked_init) (defScope sBlocked_init) [("__class__", xcc0)] .none xkV0 xdoc0 xpm0 xan0 (.ref xcda0) xct0), xosl0⟩)
    (e0_l : PySem.W.codeIn K (.ref xcda0) "Blocked.__init__" = true)
    (e0_m : K.lookup xcda0 = some ⟨xccl0, xcdd0, .fields xvs0, xccs0⟩)
    (e0_n : xvs0[2]? = some (.str xfile0 xtf0))
    (e0_o : ((PySem.Challenge.pw_playhall_k02_whole_shift_algebra.main.file : Str) == xfile0) = true)
    (e0_p : K.lookup xcc0 = some ⟨xcl0, xcld0, .cell (some (.ref xD0)), xcsl0⟩)
    (e0_q : PySem.W.clsIn K xD0 = some xcdD0)
    (e0_r : PySem.W.mroIn K X0 (.ref xD0) = some true)
    (e0_s : PySem.W.nsIn K cStatics "thirdparty.any" = some none)
    (e0_t : PySem.W.ks_superIn K X0 xD0 "__init__" = some (some (.builtin "ValueError.__init__")))
    (e0_u0 : PySem.W.findIn K (.ref X0) "counter" = some none)
    (e0_v : PySem.W.nsIn K mainGlobals "super" = some none)
    (e0_w : (PySem.Challenge.pw_playhall_k02_whole_shift_algebra.main.scope.names.lookup ("super" : Str)).isSome = false)
    (e0_ga : PySem.W.findIn K (.ref X0) "__getattribute__" = some (some (.builtin "BaseException.__getattribute__")))
    (e0_gg : PySem.W.findIn K (.ref X0) "__getattr__" = some none)
    (e0_hd : PySem.W.hasDictIn K X0 = true)
    (e0_xa : PySem.W.findIn K (.ref X0) "__class__" = some (some (.builtin "object.__class__")))
    (e0_xn : PySem.W.specialIn K (.builtin "object.__class__") "__get__" = some (some (.builtin "getset_descriptor.__get__")))
    (e0_xt : PySem.W.takesIn K (.builtin "object.__class__") = some true)
    (e0_xm : PySem.W.mroIn K X0 (.type "object") = some true)
    (ki0_Blocked : PySem.W.kitOne K (.ref X0) (.ref X0) = some true)
    (ki0_ValueError : PySem.W.kitOne K (.ref X0) (.type "ValueError") = some true)
    (ki0_NoCounter : PySem.W.kitOne K (.ref X0) (.ref X2) = some false)
    (em0_1 : PySem.W.exmOne K (.ref X0) (.ref X1) = some true)
    (em0_0 : PySem.W.exmOne K (.ref X0) (.ref X0) = some true)
    : ∃ (c : Cs) (T : Tx K mg c), ∀ (s : Shared) (v : Value), BindsTo s T.fdlaw ⟨[v], []⟩ [("_law_script", v)] := by
  have F0 := fun_mk (st := s_law_same) l0 c0 k0
  have b0 := F0.binds (ps := ["_law_actual", "_law_expected"]) fun _ _ _ _ _ _ => args2 fun _ _ => rfl
  have F1 := fun_mk (st := s_law_same_dict) l1 c1 k1
  have b1 := F1.binds (ps := ["_law_actual", "_law_expected"]) fun _ _ _ _ _ _ => args2 fun _ _ => rfl
  have F2 := fun_mk (st := sShift_gap) l2 c2 k2
  have b2 := F2.binds (ps := ["self", "values"]) fun _ _ _ _ _ _ => args2 fun _ _ => rfl
  have q2 := kbn_of1 (ps := ["self", "values"]) (ks := ["values"]) F2 fun _ _ _ _ _ _ us ws h1 hl => match us, h1, ws, hl with | [_], _, [_], _ => rfl
  have F3 := fun_mk (st := sShift_applied) l3 c3 k3
  have b3 := F3.binds (ps := ["self", "values"]) fun _ _ _ _ _ _ => args2 fun _ _ => rfl
  have q3 := kbn_of1 (ps := ["self", "values"]) (ks := ["values"]) F3 fun _ _ _ _ _ _ us ws h1 hl => match us, h1, ws, hl with | [_], _, [_], _ => rfl
  have F4 := fun_mk (st := s_law_base) l4 c4 k4
  have b4 := F4.binds (ps := ["_law_shift", "_law_own_values"]) fun _ _ _ _ _ _ => args2 fun _ _ => rfl
  have F5 := fun_mk (st := s_law_applied) l5 c5 k5
  have b5 := F5.binds (ps := ["_law_shift", "_law_own_values", "_law_bad_here", "_law_behind"]) fun _ _ _ _ _ _ => args4 fun _ _ _ _ => rfl
  have F6 := fun_mk (st := sShift_init) l6 c6 k6
  have b6 := F6.binds (ps := ["self", "rows"]) fun _ _ _ _ _ _ => args2 fun _ _ => rfl
  have F7 := fun_mk (st := sShift_mul) l7 c7 k7
  have b7 := F7.binds (ps := ["self", "other"]) fun _ _ _ _ _ _ => args2 fun _ _ => rfl
  have F8 := fun_mk (st := sShift_invert) l8 c8 k8
  have b8 := F8.binds (ps := ["self"]) fun _ _ _ _ _ _ => args1 fun _ => rfl
  have F9 := fun_mk (st := s_law_moved) l9 c9 k9
  have b9 := F9.binds (ps := ["_law_rows_here", "_law_own_values", "_law_times"]) fun _ _ _ _ _ _ => args3 fun _ _ _ => rfl
  have F10 := fun_mk (st := s_law_bad) l10 c10 k10
  have b10 := F10.binds (ps := ["_law_rows_here", "_law_own_values", "_law_times"]) fun _ _ _ _ _ _ => args3 fun _ _ _ => rfl
  have F11 := fun_mk (st := srow_of_both) l11 c11 k11
  have b11 := F11.binds (ps := ["first", "second"]) fun _ _ _ _ _ _ => args2 fun _ _ => rfl
  have F12 := fun_mk (st := sShift_add) l12 c12 k12
  have b12 := F12.binds (ps := ["self", "other"]) fun _ _ _ _ _ _ => args2 fun _ _ => rfl
  have F13 := fun_mk (st := sShift_sum_of) l13 c13 k13
  have b13 := F13.binds (ps := ["shifts"]) fun _ _ _ _ _ _ => args1 fun _ => rfl
  have q13 := kbn_of (ps := ["shifts"]) F13 fun _ _ _ _ _ _ ws hl => match ws, hl with | [_], _ => rfl
  have F14 := fun_mk (st := sShift_eq) l14 c14 k14
  have b14 := F14.binds (ps := ["self", "other"]) fun _ _ _ _ _ _ => args2 fun _ _ => rfl
  have F15 := fun_mk (st := s_law_equal) l15 c15 k15
  have b15 := F15.binds (ps := ["_law_left", "_law_right"]) fun _ _ _ _ _ _ => args2 fun _ _ => rfl
  have F16 := fun_mk (st := s_law_algebra) l16 c16 k16
  have b16 := F16.binds (ps := ["_law_one", "_law_other", "_law_third", "_law_many", "_law_more"]) fun _ _ _ _ _ _ => args5 fun _ _ _ _ _ => rfl
  have F17 := fun_mk (st := s_law_count) l17 c17 k17
  have b17 := F17.binds (ps := ["_law_numbers"]) fun _ _ _ _ _ _ => args1 fun _ => rfl
  have F18 := fun_mk (st := s_law_row) l18 c18 k18
  have b18 := F18.binds (ps := ["_law_cell_here", "_law_many"]) fun _ _ _ _ _ _ => args2 fun _ _ => rfl
  have F19 := fun_mk (st := s_law_cell) l19 c19 k19
  have b19 := F19.binds (ps := ["_law_script", "_law_k"]) fun _ _ _ _ _ _ => args2 fun _ _ => rfl
  have F20 := fun_mk (st := s_law_number) l20 c20 k20
  have b20 := F20.binds (ps := ["_law_numbers", "_law_most"]) fun _ _ _ _ _ _ => args2 fun _ _ => rfl
  have F21 := fun_mk (st := s_law_rows) l21 c21 k21
  have b21 := F21.binds (ps := ["_law_row_here", "_law_pool_here", "_law_own_values"]) fun _ _ _ _ _ _ => args3 fun _ _ _ => rfl
  have F22 := fun_mk (st := s_law_values) l22 c22 k22
  have b22 := F22.binds (ps := ["_law_row_here", "_law_pool_here"]) fun _ _ _ _ _ _ => args2 fun _ _ => rfl
  have F23 := fun_mk (st := s_law_word) l23 c23 k23
  have b23 := F23.binds (ps := ["_law_number_here"]) fun _ _ _ _ _ _ => args1 fun _ => rfl
  have F24 := fun_mk (st := s_law_pool) l24 c24 k24
  have b24 := F24.binds (ps := ["_law_row_here"]) fun _ _ _ _ _ _ => args1 fun _ => rfl
  have F25 := fun_mk (st := slaw) l25 c25 k25
  have b25 := F25.binds (ps := ["_law_script"]) fun _ _ _ _ _ _ => args1 fun _ => rfl
  have cx0 : ClsX K C0 := ⟨⟨u0_a, u0_b, u0_c, u0_d⟩, u0_e, u0_f, u0_h, u0_i, u0_j⟩
  exact ⟨⟨C0, X0, X1, X2⟩, { n_ValueError := PySem.W.mg_none_of X G z0, n_bool := PySem.W.mg_none_of X G z1, n_dict := PySem.W.mg_none_of X G z2, n_int := PySem.W.mg_none_of X G z3, n_isinstance := PySem.W.mg_none_of X G z4, n_len := PySem.W.mg_none_of X G z5, n_list := PySem.W.mg_none_of X G z6, n_max := PySem.W.mg_none_of X G z7, n_min := PySem.W.mg_none_of X G z8, n_range := PySem.W.mg_none_of X G z9, n_sorted := PySem.W.mg_none_of X G z10, n_str := PySem.W.mg_none_of X G z11, n_tuple := PySem.W.mg_none_of X G z12, f_law_same := f0, fd_law_same := _, F_law_same := F0, b_law_same := b0, g_law_same := PySem.W.mg_of X G a0, f_law_same_dict := f1, fd_law_same_dict := _, F_law_same_dict := F1, b_law_same_dict := b1, g_law_same_dict := PySem.W.mg_of X G a1, fShift_gap := f2, fdShift_gap := _, FShift_gap := F2, bShift_gap := b2, kShift_gap := q2, fShift_applied := f3, fdShift_applied := _, FShift_applied := F3, bShift_applied := b3, kShift_applied := q3, f_law_base := f4, fd_law_base := _, F_law_base := F4, b_law_base := b4, g_law_base := PySem.W.mg_of X G a4, f_law_applied := f5, fd_law_applied := _, F_law_applied := F5, b_law_applied := b5, g_law_applied := PySem.W.mg_of X G a5, fShift_init := f6, fdShift_init := _, FShift_init := F6, bShift_init := b6, fShift_mul := f7, fdShift_mul := _, FShift_mul := F7, bShift_mul := b7, fShift_invert := f8, fdShift_invert := _, FShift_invert := F8, bShift_invert := b8, f_law_moved := f9, fd_law_moved := _, F_law_moved := F9, b_law_moved := b9, g_law_moved := PySem.W.mg_of X G a9, f_law_bad := f10, fd_law_bad := _, F_law_bad := F10, b_law_bad := b10, g_law_bad := PySem.W.mg_of X G a10, frow_of_both := f11, fdrow_of_both := _, Frow_of_both := F11, brow_of_both := b11, grow_of_both := PySem.W.mg_of X G a11, fShift_add := f12, fdShift_add := _, FShift_add := F12, bShift_add := b12, fShift_sum_of := f13, fdShift_sum_of := _, FShift_sum_of := F13, bShift_sum_of := b13, kShift_sum_of := q13, fShift_eq := f14, fdShift_eq := _, FShift_eq := F14, bShift_eq := b14, f_law_equal := f15, fd_law_equal := _, F_law_equal := F15, b_law_equal := b15, g_law_equal := PySem.W.mg_of X G a15, f_law_algebra := f16, fd_law_algebra := _, F_law_algebra := F16, b_law_algebra := b16, g_law_algebra := PySem.W.mg_of X G a16, f_law_count := f17, fd_law_count := _, F_law_count := F17, b_law_count := b17, g_law_count := PySem.W.mg_of X G a17, f_law_row := f18, fd_law_row := _, F_law_row := F18, b_law_row := b18, g_law_row := PySem.W.mg_of X G a18, f_law_cell := f19, fd_law_cell := _, F_law_cell := F19, b_law_cell := b19, g_law_cell := PySem.W.mg_of X G a19, f_law_number := f20, fd_law_number := _, F_law_number := F20, b_law_number := b20, g_law_number := PySem.W.mg_of X G a20, f_law_rows := f21, fd_law_rows := _, F_law_rows := F21, b_law_rows := b21, g_law_rows := PySem.W.mg_of X G a21, f_law_values := f22, fd_law_values := _, F_law_values := F22, b_law_values := b22, g_law_values := PySem.W.mg_of X G a22, f_law_word := f23, fd_law_word := _, F_law_word := F23, b_law_word := b23, g_law_word := PySem.W.mg_of X G a23, f_law_pool := f24, fd_law_pool := _, F_law_pool := F24, b_law_pool := b24, g_law_pool := PySem.W.mg_of X G a24, flaw := f25, fdlaw := _, Flaw := F25, blaw := b25, glaw := PySem.W.mg_of X G a25, gShift := PySem.W.mg_of X G u0_g, cxShift := cx0, clShift := cx0.c, naShift_rows := v0_0, meShift_gap := ⟨a2, a2_1, k2⟩, meShift_applied := ⟨a3, a3_1, k3⟩, mkShift := ⟨v0_3, a6, a6_1, u0_l⟩, opShift_mul := ⟨⟨v0_4, a7, a7_1⟩, ⟨none, w0_4, .inl rfl⟩, ⟨_, p0_4⟩, ⟨_, q0_4⟩, sub_blt (d := .int 0) rfl⟩, meShift_invert := ⟨a8, a8_1, k8⟩, opShift_add := ⟨v0_6, a12, a12_1⟩, spShift_sum_of := pa13, stShift_sum_of := ⟨a13_2, a13_3, a13, ⟨_, a13_1⟩, k13⟩, isShift := isC_one cx0 (by rw [u0_k]; rfl), eqShift := ⟨a14, a14_1, cx0, fun _ z => nomatch z⟩, siShift_sum_of := ⟨u0_a, a13_8, a13_4, a13_5, a13_6, a13_7, by decide +kernel, ⟨_, a13_1⟩, k13⟩, gBlocked := PySem.W.mg_of X G e0_g, gHallError := PySem.W.mg_of X G e1_g, gNoCounter := PySem.W.mg_of X G e2_g, xBlocked := xcls_mk xsBlocked e0_a e0_b e0_c e0_d e0_e e0_f e0_h e0_i e0_j e0_k e0_l e0_m e0_n e0_o e0_p e0_q e0_r e0_s e0_t (fa_cons e0_u0 fa_nil) (PySem.W.mg_none_of X G e0_v) e0_w, ecBlocked := ⟨e0_ga, e0_gg, e0_d, e0_hd, e0_xa, e0_xn, e0_xt, e0_xm⟩, kiBlocked_Blocked := ki0_Blocked, kiBlocked_ValueError := ki0_ValueError, kiBlocked_NoCounter := ki0_NoCounter, emBlocked_HallError := em0_1, xfBlocked := ⟨e0_ga, e0_gg, e0_d, e0_hd⟩, noBlocked_counter := e0_u0, emBlocked_Blocked := em0_0 }, fun s v => .of_eq rfl⟩
end K02

namespace K02
open PySem L2 PD
local macro_rules | `(tactic| walk_at "ev") => `(tactic| (try simp only [runP, runO, outO, O.toD, env0, List.map_cons, List.map_nil, List.length_cons, List.length_nil, List.replicate, List.cons_append, List.nil_append, rtV, andV, orV, notV, ifV, chn, kI, kS, kB, cB, aCons, gv, aNil, b2, b1,
  List.getElem?_cons_zero, List.getElem?_cons_succ, Option.bind_some, Option.map_some, lenD, leI, ltI, gtI, geI, i2, s2, addA, addD, addI, addS, catL, catT, orD, subI, mulI, modI, divI, powI, if_true, if_false, sq, stV, stO, app, fz, ifS, asB, andT, orT, notT, forS, iOf, seqD, mkLst, mkLstO, mkTup, len?, intD, max2, min2, reduceIte,
  List.set_cons_zero, List.set_cons_succ, Option.map_none, Option.bind_none, wipeO, slc, part, noPart, slD, ixD, m1, eq_str, eq_int, eq_bl, ne_str, ne_int, ne_bl, rng1, gN, Nat.reduceAdd, Nat.reduceSub, Nat.zero_le]))
theorem small_line {n : Nat} (h : n ≤ 1000) : n ≤ sizeLine := Nat.le_trans h (by decide)
theorem law_cell_eq (C : Cs) (ns : List Int) (k : Nat) : m_law_cell C [.lst (ns.map .int), .int k] = some (.int (ns.getD k 0)) := by
  unfold m_law_cell
  walk_at "ev"
  rw [List.length_map]
  by_cases h : k < ns.length
  · rw [decide_eq_true (show (k : Int) < (ns.length : Int) by omega)]
    have : atI (ns.map D.int) (k : Int) = some (.int (ns.getD k 0)) := atI_nat (by rw [List.getElem?_map, List.getElem?_eq_getElem h]; simp [h])
    simp only [this]
    walk_at "ev"
  · rw [decide_eq_false (show ¬ (k : Int) < (ns.length : Int) by omega)]
    walk_at "ev"
    rw [show ns.getD k 0 = 0 by simp [List.getD_eq_getElem?_getD, List.getElem?_eq_none (show ns.length ≤ k by omega)]]
theorem law_row_ex (C : Cs) (c : Int) (n : Nat) (hn : n ≤ 1000) : ∃ rs : List Int, m_law_row C [.int c, .int n] = some (.lst (rs.map .int)) ∧ rs.length = n ∧ ∀ r ∈ rs, 0 ≤ r ∧ r < 1000 := by
  obtain ⟨d, e, rs, rfl, hl, hr⟩ : ∃ d, m_law_row C [.int c, .int n] = some d ∧ ∃ rs : List Int, d = .lst (rs.map .int) ∧ rs.length = n ∧ ∀ r ∈ rs, 0 ≤ r ∧ r < 1000 := by
    refine runP_of ?_
    unfold b_law_row
    refine Rn.sq (Rn.stO (o := .lst []) rfl ?_)
    refine Rn.sq (Rn.st (d := .int (c % 2147483629)) rfl ?_)
    refine Rn.sq (Rn.st (d := .int (c - 10 ^ 18)) (by walk_at "ev"; rfl) ?_)
    refine Rn.sq (Rn.for (ds := rangeD 0 n) (by
        show rng1 (gv 1) [.dat (.int c), .dat (.int n), _, _, _, _, _] = _
        walk_at "ev"
        rw [if_pos (by omega)]
        rfl) (fun i ρ => ∃ (rs : List Int) (s t : Int) (x y : O), ρ = [.dat (.int c), .dat (.int n), .lst (rs.map fun r => .dat (.int r)), .dat (.int s), .dat (.int t), x, y] ∧ rs.length = i ∧ ∀ r ∈ rs, 0 ≤ r ∧ r < 1000)
      ⟨[], c % 2147483629, c - 10 ^ 18, .unk, .unk, rfl, rfl, fun r h => nomatch h⟩ (fun i d ρ hd hI => ?_) (fun ρ hI => ?_))
    · obtain ⟨hi, rfl⟩ := range_get hd
      obtain ⟨rs, s, t, x, y, rfl, hl, hr⟩ := hI
      refine ⟨_, rfl, ?_⟩
      refine Rn.sq (Rn.st (d := .int ((s * 48271 + 977 * (0 + (i : Int)) + 12345) % 2147483647)) (by
        walk_at "ev"
        rw [okMulR (by decide), okMulL (by decide)]
        rfl) ?_)
      generalize (s * 48271 + 977 * (0 + (i : Int)) + 12345) % 2147483647 = s'
      refine Rn.sq (Rn.st (d := .int ((s' * 69621 + 31 * (0 + (i : Int)) + 7) % 2147483629)) (by
        walk_at "ev"
        rw [okMulR (by decide), okMulL (by decide)]
        rfl) ?_)
      generalize (s' * 69621 + 31 * (0 + (i : Int)) + 7) % 2147483629 = m
      obtain ⟨v, hv, hv1, hv2⟩ : ∃ v : Int, ifV (asB (b2 (gv 0) (b2 (kI 10) (kI 18) powI) geI)) (b2 (cB (aCons (gv 4) aNil) intD) (kI 1000) modI) (b2 (cB (aCons (b2 (gv 6) (kI 4099) divI) aNil) intD) (kI 1000) modI)
          [.dat (.int c), .dat (.int n), .lst (rs.map fun r => .dat (.int r)), .dat (.int s'), .dat (.int t), .dat (.int (0 + (i : Int))), .dat (.int m)] = some (.int v) ∧ 0 ≤ v ∧ v < 1000 := by
        have et : asB (b2 (gv 0) (b2 (kI 10) (kI 18) powI) geI) [.dat (.int c), .dat (.int n), .lst (rs.map fun r => .dat (.int r)), .dat (.int s'), .dat (.int t), .dat (.int (0 + (i : Int))), .dat (.int m)] = some (decide ((10 : Int) ^ 18 ≤ c)) := rfl
        unfold ifV
        rw [et]
        by_cases hc : (10 : Int) ^ 18 ≤ c
        · rw [decide_eq_true hc]
          exact ⟨t % 1000, rfl, Int.emod_nonneg _ (by decide), Int.emod_lt_of_pos _ (by decide)⟩
        · rw [decide_eq_false hc]
          exact ⟨m / 4099 % 1000, rfl, Int.emod_nonneg _ (by decide), Int.emod_lt_of_pos _ (by decide)⟩
      refine Rn.sq (Rn.app hv rfl (by rw [List.length_map, hl]; exact Nat.lt_of_lt_of_le (show i < 1000 by omega) (by decide)) ?_)
      refine Rn.st (d := .int (t / 1000)) (by walk_at "ev"; rfl) ?_
      refine ⟨rs ++ [v], s', t / 1000, .dat (.int (0 + (i : Int))), .dat (.int m), ?_, by simp [hl], fun r hm => ?_⟩
      · rw [List.map_append]; rfl
      · rcases List.mem_append.mp hm with hm | hm
        · exact hr r hm
        · have : r = v := by simpa using hm
          subst this; exact ⟨hv1, hv2⟩
    · obtain ⟨rs, s, t, x, y, rfl, hl, hr⟩ := hI
      refine Rn.fz (o := .lst (rs.map fun r => .dat (.int r))) (d := .lst (rs.map .int)) rfl (by unfold O.toD; rw [toDs_ints]; rfl) ?_
      refine Rn.ret (d := .lst (rs.map .int)) rfl ?_
      exact ⟨_, _, rfl, rfl, rs, rfl, by simpa [rangeD] using hl, hr⟩
  exact ⟨rs, e, hl, hr⟩
end K02

namespace K02
open PySem L2 PD
def wb : Nat → Int
  | 0 => 30000
  | 1 => 1153
  | 2 => 44
  | 3 => 1
  | _ => 0
def wl' : Nat → Nat
  | 0 => 0
  | 1 => 1
  | 2 => 2
  | 3 => 3
  | _ => 4
theorem wb_step (i : Nat) (r : Int) (h : r ≤ wb i) : (r - 1) / 26 ≤ wb (i + 1) := by
  match i, h with
  | 0, h => simp only [wb] at h ⊢; omega
  | 1, h => simp only [wb] at h ⊢; omega
  | 2, h => simp only [wb] at h ⊢; omega
  | 3, h => simp only [wb] at h ⊢; omega
  | n + 4, h => simp only [wb] at h ⊢; omega
theorem wl_step (i : Nat) (r : Int) (h : r ≤ wb i) (hr : 0 < r) : wl' i + 1 ≤ wl' (i + 1) := by
  match i, h with
  | 0, h => decide
  | 1, h => decide
  | 2, h => decide
  | 3, h => decide
  | n + 4, h => simp only [wb] at h; omega
theorem wl_mono (i : Nat) : wl' i ≤ wl' (i + 1) := by
  match i with
  | 0 => decide
  | 1 => decide
  | 2 => decide
  | 3 => decide
  | n + 4 => exact Nat.le_refl _
theorem wl_le (i : Nat) : wl' i ≤ 4 := by
  match i with
  | 0 => decide
  | 1 => decide
  | 2 => decide
  | 3 => decide
  | n + 4 => exact Nat.le_refl _
abbrev ABC : Str := Str.ofString "abcdefghijklmnopqrstuvwxyz"
theorem cat_len (a b : Str) : (a ++ b).length = a.length + b.length := by
  show (a.cps ++ b.cps).size = _
  rw [Array.size_append]; rfl
def okS (x : Str) : Prop := ∀ c ∈ x.cps.toList, c < 1114112
theorem okS_iff (x : Str) : PyData.strOk x = true ↔ okS x := by
  unfold PyData.strOk okS
  rw [Array.all_eq_true_iff_forall_mem]
  constructor
  · intro h c hc; simpa using h c (Array.mem_toList_iff.mp hc)
  · intro h c hc; simpa using h c (Array.mem_toList_iff.mpr hc)
theorem okS_cat {a b : Str} (ha : okS a) (hb : okS b) : okS (a ++ b) := by
  intro c hc
  have : (a ++ b).cps.toList = a.cps.toList ++ b.cps.toList := by
    show (a.cps ++ b.cps).toList = _
    exact Array.toList_append
  rw [this] at hc
  rcases List.mem_append.mp hc with h | h
  · exact ha c h
  · exact hb c h
/-- a word of a small number has four letters at most -/
theorem law_word_ex (C : Cs) (n : Int) (h0 : 0 ≤ n) (h1 : n < 30000) : ∃ t : Str, m_law_word C [.int n] = some (.str t) ∧ t.length ≤ 4 ∧ okS t := by
  obtain ⟨d, e, t, rfl, ht⟩ : ∃ d, m_law_word C [.int n] = some d ∧ ∃ t : Str, d = .str t ∧ t.length ≤ 4 ∧ okS t := by
    refine runP_of ?_
    unfold b_law_word
    refine Rn.sq (Rn.st (d := .int (n + 1)) rfl ?_)
    refine Rn.sq (Rn.st (d := .str "") rfl ?_)
    refine Rn.sq (Rn.for (ds := rangeD 0 12) rfl (fun i ρ => ∃ (r : Int) (t : Str) (x : O), ρ = [.dat (.int n), .dat (.int r), .dat (.str t), x] ∧ r ≤ wb i ∧ t.length ≤ wl' i ∧ okS t)
      ⟨n + 1, "", .unk, rfl, by show n + 1 ≤ 30000; omega, Nat.le_refl _, fun _ h => nomatch h⟩ (fun i d ρ hd hI => ?_) (fun ρ hI => ?_))
    · obtain ⟨hi, rfl⟩ := range_get hd
      obtain ⟨r, t, x, rfl, hr, hl, ht⟩ := hI
      refine ⟨_, rfl, ?_⟩
      have h4 := wl_le i
      obtain ⟨p, hp, hp2, hp3⟩ : ∃ p : Str, ifV (asB (b2 (gv 1) (kI 0) gtI)) (b2 (kS "abcdefghijklmnopqrstuvwxyz") (b2 (cB (aCons (b2 (gv 1) (kI 1) subI) aNil) intD) (kI 26) modI) ixD) (kS "") [.dat (.int n), .dat (.int r), .dat (.str t), .dat (.int (0 + (i : Int)))] = some (.str p) ∧ p.length + wl' i ≤ wl' (i + 1) ∧ okS p := by
        have et : asB (b2 (gv 1) (kI 0) gtI) [.dat (.int n), .dat (.int r), .dat (.str t), .dat (.int (0 + (i : Int)))] = some (decide (0 < r)) := rfl
        unfold ifV
        rw [et]
        by_cases hc : 0 < r
        · rw [decide_eq_true hc]
          have q0 : 0 ≤ (r - 1) % 26 := Int.emod_nonneg _ (by decide)
          have q1 : (r - 1) % 26 < 26 := Int.emod_lt_of_pos _ (by decide)
          obtain ⟨j, hj⟩ := Int.eq_ofNat_of_zero_le q0
          have hj2 : j < ABC.cps.toList.length := by rw [show ABC.cps.toList.length = 26 from rfl]; omega
          have ea : atI ABC.cps.toList ((r - 1) % 26) = some ABC.cps.toList[j] := by
            rw [hj]
            exact atI_nat (List.getElem?_eq_getElem hj2)
          refine ⟨⟨#[ABC.cps.toList[j]]⟩, ixS_of (z := ABC) (i := (r - 1) % 26) rfl rfl (by decide) ea, ?_, ?_⟩
          · have := wl_step i r hr hc
            show 1 + wl' i ≤ _
            omega
          · intro c hc'
            have hc' : c ∈ [ABC.cps.toList[j]] := hc'
            rw [List.mem_singleton.mp hc']
            exact (show ∀ c ∈ ABC.cps.toList, c < 1114112 by decide) _ (List.getElem_mem hj2)
        · rw [decide_eq_false hc]
          exact ⟨"", rfl, by have := wl_mono i; show 0 + wl' i ≤ _; omega, fun _ h => nomatch h⟩
      have hcat : b2 (ifV (asB (b2 (gv 1) (kI 0) gtI)) (b2 (kS "abcdefghijklmnopqrstuvwxyz") (b2 (cB (aCons (b2 (gv 1) (kI 1) subI) aNil) intD) (kI 26) modI) ixD) (kS "")) (gv 2) addA [.dat (.int n), .dat (.int r), .dat (.str t), .dat (.int (0 + (i : Int)))] = some (.str (p ++ t)) := by
        rw [b2_of (x := .str p) (y := .str t) hp rfl]
        show orD addD (orD catL catT) (.str p) (.str t) = _
        have hz : p.length + t.length ≤ sizeLine := Nat.le_trans (show p.length + t.length ≤ 1000 by have := wl_le (i + 1); omega) (by decide)
        simp only [orD, addD, addI, addS, i2, s2, decide_eq_true hz, if_true]
      refine Rn.sq (Rn.st hcat ?_)
      refine Rn.st (d := .int ((r - 1) / 26)) rfl ?_
      exact ⟨(r - 1) / 26, p ++ t, _, rfl, wb_step i r hr, by rw [cat_len]; omega, okS_cat hp3 ht⟩
    · obtain ⟨r, t, x, rfl, _, hl⟩ := hI
      refine Rn.ret (d := .str t) rfl ?_
      exact ⟨_, _, rfl, rfl, t, rfl, hl⟩
  exact ⟨t, e, ht⟩
end K02

namespace K02
open PySem L2 PD
theorem ixI {rs : List Int} {k : Int} (h0 : 0 ≤ k) (h1 : k < rs.length) : ixD (.lst (rs.map .int)) (.int k) = some (.int (rs.getD k.toNat 0)) := by
  obtain ⟨j, rfl⟩ := Int.eq_ofNat_of_zero_le h0
  have hj : j < rs.length := by omega
  show atI (rs.map D.int) (j : Int) = _
  rw [atI_nat (v := D.int rs[j]) (by rw [List.getElem?_map, List.getElem?_eq_getElem hj]; rfl)]
  simp [hj]
theorem mulL {i j : Int} (h : -18446744073709551616 < i ∧ i < 18446744073709551616) : mulI (.int i) (.int j) = some (.int (i * j)) := by
  show (if okMul i j = true then _ else _) = _
  rw [if_pos]
  unfold okMul
  rw [decide_eq_true]
  exact .inl (by simpa using h)
theorem mulR {i j : Int} (h : -18446744073709551616 < j ∧ j < 18446744073709551616) : mulI (.int i) (.int j) = some (.int (i * j)) := by
  show (if okMul i j = true then _ else _) = _
  rw [if_pos]
  unfold okMul
  rw [decide_eq_true]
  exact .inr (by simpa using h)
theorem addII {i j : Int} : addA (.int i) (.int j) = some (.int (i + j)) := rfl
theorem subII {i j : Int} : subI (.int i) (.int j) = some (.int (i - j)) := rfl
theorem modII {i j : Int} (h : 0 < j) : modI (.int i) (.int j) = some (.int (i % j)) := by
  show (if decide (0 < j) = true then _ else _) = _
  rw [if_pos (decide_eq_true h)]
theorem divII {i j : Int} (h : 0 < j ∧ j < 1073741824) : divI (.int i) (.int j) = some (.int (i / j)) := by
  show (if decide (0 < j ∧ j < 1073741824) = true then _ else _) = _
  rw [if_pos (decide_eq_true h)]
theorem intII {i : Int} : intD [.int i] = some (.int i) := rfl
theorem eqII {i j : Int} : eqD (.int i) (.int j) = some (.bl (decide (i = j))) := by simp only [eq_int]
theorem gtII {i j : Int} : gtI (.int i) (.int j) = some (.bl (decide (j < i))) := rfl
theorem ltII {i j : Int} : ltI (.int i) (.int j) = some (.bl (decide (i < j))) := rfl

theorem sgn_small (x : Int) : -18446744073709551616 < 1 - 2 * (x / 4 % 2) ∧ 1 - 2 * (x / 4 % 2) < 18446744073709551616 ∧ (1 - 2 * (x / 4 % 2) = 1 ∨ 1 - 2 * (x / 4 % 2) = -1) := by omega
theorem law_number_ex (C : Cs) (rs : List Int) (m : Int) (hl : rs.length = 14) (hr : ∀ r ∈ rs, 0 ≤ r ∧ r < 1000) : ∃ v : Int, m_law_number C [.lst (rs.map .int), .int m] = some (.int v) ∧ (m = 0 ∨ m = 1 → -1000000000000000000 < v ∧ v < 1000000000000000000) := by
  have rg : ∀ j, 0 ≤ rs.getD j 0 ∧ rs.getD j 0 < 1000 := fun j => by
    by_cases h : j < rs.length
    · have := hr rs[j] (List.getElem_mem h)
      simpa [h] using this
    · simp [List.getD_eq_getElem?_getD, List.getElem?_eq_none (by omega : rs.length ≤ j)]
  obtain ⟨d, e, v, rfl, hv⟩ : ∃ d, m_law_number C [.lst (rs.map .int), .int m] = some d ∧ ∃ v : Int, d = .int v ∧ (m = 0 ∨ m = 1 → -1000000000000000000 < v ∧ v < 1000000000000000000) := by
    refine runP_of ?_
    unfold b_law_number
    have hs := sgn_small (rs.getD 0 0)
    refine Rn.sq (Rn.st (d := .int (1 - 2 * (rs.getD 0 0 / 4 % 2))) (by show _ = _; simp only [env0, List.map_cons, List.map_nil, List.length_cons, List.length_nil, List.replicate, List.cons_append, List.nil_append, Nat.reduceAdd, Nat.reduceSub]; (simp (disch := omega) only [b2, b1, cB, aCons, aNil, kI, kS, kB, kN, gv, asB, List.getElem?_cons_zero, List.getElem?_cons_succ, Option.bind_some, Option.map_some, List.set_cons_zero, List.set_cons_succ, ixI, mulL, mulR, addII, subII, modII, divII, intII, eqII, gtII, ltII, Int.zero_add]); rfl) ?_)
    generalize 1 - 2 * (rs.getD 0 0 / 4 % 2) = sg at hs
    show Rn _ [.dat (.lst (rs.map .int)), .dat (.int m), .dat (.int sg), .unk, .unk, .unk] _
    refine Rn.sq (Rn.st (d := .int (rs.getD 0 0 % 4)) (by (simp (disch := omega) only [b2, b1, cB, aCons, aNil, kI, kS, kB, kN, gv, asB, List.getElem?_cons_zero, List.getElem?_cons_succ, Option.bind_some, Option.map_some, List.set_cons_zero, List.set_cons_succ, ixI, mulL, mulR, addII, subII, modII, divII, intII, eqII, gtII, ltII, Int.zero_add]); rfl) ?_)
    generalize hk : rs.getD 0 0 % 4 = kd
    show Rn _ [.dat (.lst (rs.map .int)), .dat (.int m), .dat (.int sg), .dat (.int kd), .unk, .unk] _
    refine Rn.sq (Rn.ite (t := decide (m = 0) || decide (kd = 0)) (by
      have a1 : asB (b2 (gv 1) (kI 0) eqD) [.dat (.lst (rs.map .int)), .dat (.int m), .dat (.int sg), .dat (.int kd), .unk, .unk] = some (decide (m = 0)) := by (simp (disch := omega) only [b2, b1, cB, aCons, aNil, kI, kS, kB, kN, gv, asB, List.getElem?_cons_zero, List.getElem?_cons_succ, Option.bind_some, Option.map_some, List.set_cons_zero, List.set_cons_succ, ixI, mulL, mulR, addII, subII, modII, divII, intII, eqII, gtII, ltII, Int.zero_add])
      have a2 : asB (b2 (gv 3) (kI 0) eqD) [.dat (.lst (rs.map .int)), .dat (.int m), .dat (.int sg), .dat (.int kd), .unk, .unk] = some (decide (kd = 0)) := by (simp (disch := omega) only [b2, b1, cB, aCons, aNil, kI, kS, kB, kN, gv, asB, List.getElem?_cons_zero, List.getElem?_cons_succ, Option.bind_some, Option.map_some, List.set_cons_zero, List.set_cons_succ, ixI, mulL, mulR, addII, subII, modII, divII, intII, eqII, gtII, ltII, Int.zero_add])
      unfold orT; rw [a1, a2]; cases decide (m = 0) <;> rfl) (fun _ => ?_) fun h2 => Rn.skip ?_)
    · refine Rn.ret (d := .int (rs.getD 1 0 % 11 - 5)) (by (simp (disch := omega) only [b2, b1, cB, aCons, aNil, kI, kS, kB, kN, gv, asB, List.getElem?_cons_zero, List.getElem?_cons_succ, Option.bind_some, Option.map_some, List.set_cons_zero, List.set_cons_succ, ixI, mulL, mulR, addII, subII, modII, divII, intII, eqII, gtII, ltII, Int.zero_add]); rfl) ?_
      exact ⟨_, _, rfl, rfl, _, rfl, fun _ => by omega⟩
    simp only [Bool.or_eq_false_iff, decide_eq_false_iff_not] at h2
    refine Rn.sq (Rn.ite (t := decide (kd = 1)) (by (simp (disch := omega) only [b2, b1, cB, aCons, aNil, kI, kS, kB, kN, gv, asB, List.getElem?_cons_zero, List.getElem?_cons_succ, Option.bind_some, Option.map_some, List.set_cons_zero, List.set_cons_succ, ixI, mulL, mulR, addII, subII, modII, divII, intII, eqII, gtII, ltII, Int.zero_add])) (fun _ => ?_) fun h3 => Rn.skip ?_)
    · refine Rn.ret (d := .int (sg * rs.getD 1 0)) (by (simp (disch := omega) only [b2, b1, cB, aCons, aNil, kI, kS, kB, kN, gv, asB, List.getElem?_cons_zero, List.getElem?_cons_succ, Option.bind_some, Option.map_some, List.set_cons_zero, List.set_cons_succ, ixI, mulL, mulR, addII, subII, modII, divII, intII, eqII, gtII, ltII, Int.zero_add]); rfl) ?_
      refine ⟨_, _, rfl, rfl, _, rfl, fun _ => ?_⟩
      have := rg 1
      rcases hs.2.2 with h | h <;> rw [h] <;> omega
    refine Rn.sq (Rn.st (d := .int 0) rfl ?_)
    refine Rn.sq (Rn.for (ds := rangeD 0 13) rfl (fun i ρ => ∃ (v : Int) (x : O), ρ = [.dat (.lst (rs.map .int)), .dat (.int m), .dat (.int sg), .dat (.int kd), .dat (.int v), x]) ⟨0, .unk, rfl⟩ (fun i d ρ hd hI => ?_) (fun ρ hI => ?_))
    · obtain ⟨hi, rfl⟩ := range_get hd
      obtain ⟨v, x, rfl⟩ := hI
      refine ⟨_, rfl, ?_⟩
      show Rn _ [.dat (.lst (rs.map .int)), .dat (.int m), .dat (.int sg), .dat (.int kd), .dat (.int v), .dat (.int (0 + (i : Int)))] _
      refine Rn.st (d := .int (v * 1000 + rs.getD (1 + (i : Int)).toNat 0)) (by (simp (disch := omega) only [b2, b1, cB, aCons, aNil, kI, kS, kB, kN, gv, asB, List.getElem?_cons_zero, List.getElem?_cons_succ, Option.bind_some, Option.map_some, List.set_cons_zero, List.set_cons_succ, ixI, mulL, mulR, addII, subII, modII, divII, intII, eqII, gtII, ltII, Int.zero_add])) ?_
      exact ⟨_, _, rfl⟩
    · obtain ⟨v, x, rfl⟩ := hI
      by_cases h4 : m = 1 ∨ kd = 2
      · refine Rn.sq (Rn.ite (t := true) (by
          have a1 : asB (b2 (gv 1) (kI 1) eqD) [.dat (.lst (rs.map .int)), .dat (.int m), .dat (.int sg), .dat (.int kd), .dat (.int v), x] = some (decide (m = 1)) := by (simp (disch := omega) only [b2, b1, cB, aCons, aNil, kI, kS, kB, kN, gv, asB, List.getElem?_cons_zero, List.getElem?_cons_succ, Option.bind_some, Option.map_some, List.set_cons_zero, List.set_cons_succ, ixI, mulL, mulR, addII, subII, modII, divII, intII, eqII, gtII, ltII, Int.zero_add])
          have a2 : asB (b2 (gv 3) (kI 2) eqD) [.dat (.lst (rs.map .int)), .dat (.int m), .dat (.int sg), .dat (.int kd), .dat (.int v), x] = some (decide (kd = 2)) := by (simp (disch := omega) only [b2, b1, cB, aCons, aNil, kI, kS, kB, kN, gv, asB, List.getElem?_cons_zero, List.getElem?_cons_succ, Option.bind_some, Option.map_some, List.set_cons_zero, List.set_cons_succ, ixI, mulL, mulR, addII, subII, modII, divII, intII, eqII, gtII, ltII, Int.zero_add])
          unfold orT; rw [a1, a2]
          rcases h4 with h | h
          · rw [decide_eq_true h]
          · rw [decide_eq_true h]; cases decide (m = 1) <;> rfl) (fun _ => ?_) fun h => nomatch h)
        refine Rn.st (d := .int (v % 1000000000000000000)) (by
          have hp : b2 (kI 10) (kI 18) powI [.dat (.lst (rs.map .int)), .dat (.int m), .dat (.int sg), .dat (.int kd), .dat (.int v), x] = some (.int 1000000000000000000) := rfl
          rw [b2_of (x := .int v) (y := .int 1000000000000000000) rfl hp]
          exact modII (by decide)) ?_
        show Rn _ [.dat (.lst (rs.map .int)), .dat (.int m), .dat (.int sg), .dat (.int kd), .dat (.int (v % 1000000000000000000)), x] _
        refine Rn.ret (d := .int (sg * (v % 1000000000000000000))) (by (simp (disch := omega) only [b2, b1, cB, aCons, aNil, kI, kS, kB, kN, gv, asB, List.getElem?_cons_zero, List.getElem?_cons_succ, Option.bind_some, Option.map_some, List.set_cons_zero, List.set_cons_succ, ixI, mulL, mulR, addII, subII, modII, divII, intII, eqII, gtII, ltII, Int.zero_add])) ?_
        refine ⟨_, _, rfl, rfl, _, rfl, fun _ => ?_⟩
        rcases hs.2.2 with h | h <;> rw [h] <;> omega
      · refine Rn.sq (Rn.ite (t := false) (by
          have a1 : asB (b2 (gv 1) (kI 1) eqD) [.dat (.lst (rs.map .int)), .dat (.int m), .dat (.int sg), .dat (.int kd), .dat (.int v), x] = some (decide (m = 1)) := by (simp (disch := omega) only [b2, b1, cB, aCons, aNil, kI, kS, kB, kN, gv, asB, List.getElem?_cons_zero, List.getElem?_cons_succ, Option.bind_some, Option.map_some, List.set_cons_zero, List.set_cons_succ, ixI, mulL, mulR, addII, subII, modII, divII, intII, eqII, gtII, ltII, Int.zero_add])
          have a2 : asB (b2 (gv 3) (kI 2) eqD) [.dat (.lst (rs.map .int)), .dat (.int m), .dat (.int sg), .dat (.int kd), .dat (.int v), x] = some (decide (kd = 2)) := by (simp (disch := omega) only [b2, b1, cB, aCons, aNil, kI, kS, kB, kN, gv, asB, List.getElem?_cons_zero, List.getElem?_cons_succ, Option.bind_some, Option.map_some, List.set_cons_zero, List.set_cons_succ, ixI, mulL, mulR, addII, subII, modII, divII, intII, eqII, gtII, ltII, Int.zero_add])
          unfold orT; rw [a1, a2, decide_eq_false (fun h => h4 (.inl h)), decide_eq_false (fun h => h4 (.inr h))]) (fun h => nomatch h) fun _ => Rn.skip ?_)
        refine Rn.ret (d := .int (sg * v)) (by (simp (disch := omega) only [b2, b1, cB, aCons, aNil, kI, kS, kB, kN, gv, asB, List.getElem?_cons_zero, List.getElem?_cons_succ, Option.bind_some, Option.map_some, List.set_cons_zero, List.set_cons_succ, ixI, mulL, mulR, addII, subII, modII, divII, intII, eqII, gtII, ltII, Int.zero_add])) ?_
        exact ⟨_, _, rfl, rfl, _, rfl, fun h => absurd h (by omega)⟩
  exact ⟨v, e, hv⟩
end K02

namespace K02
open PySem L2 PD
theorem law_count_ex (C : Cs) (rs : List Int) (hl : rs.length = 8) (hr : ∀ r ∈ rs, 0 ≤ r ∧ r < 1000) : ∃ v : Int, m_law_count C [.lst (rs.map .int)] = some (.int v) ∧ 0 ≤ v := by
  have rg : ∀ j, 0 ≤ rs.getD j 0 ∧ rs.getD j 0 < 1000 := fun j => by
    by_cases h : j < rs.length
    · have := hr rs[j] (List.getElem_mem h)
      simpa [h] using this
    · simp [List.getD_eq_getElem?_getD, List.getElem?_eq_none (by omega : rs.length ≤ j)]
  obtain ⟨d, e, v, rfl, hv⟩ : ∃ d, m_law_count C [.lst (rs.map .int)] = some d ∧ ∃ v : Int, d = .int v ∧ 0 ≤ v := by
    refine runP_of ?_
    unfold b_law_count
    show Rn _ [.dat (.lst (rs.map .int)), .unk, .unk, .unk] _
    refine Rn.sq (Rn.st (d := .int (rs.getD 0 0 % 3)) (by (simp (disch := omega) only [b2, b1, cB, aCons, aNil, kI, kS, kB, kN, gv, asB, List.getElem?_cons_zero, List.getElem?_cons_succ, Option.bind_some, Option.map_some, List.set_cons_zero, List.set_cons_succ, ixI, mulL, mulR, addII, subII, modII, divII, intII, eqII, gtII, ltII, Int.zero_add]); rfl) ?_)
    generalize rs.getD 0 0 % 3 = kd
    show Rn _ [.dat (.lst (rs.map .int)), .dat (.int kd), .unk, .unk] _
    refine Rn.sq (Rn.ite (t := decide (kd = 0)) (by (simp (disch := omega) only [b2, b1, cB, aCons, aNil, kI, kS, kB, kN, gv, asB, List.getElem?_cons_zero, List.getElem?_cons_succ, Option.bind_some, Option.map_some, List.set_cons_zero, List.set_cons_succ, ixI, mulL, mulR, addII, subII, modII, divII, intII, eqII, gtII, ltII, Int.zero_add])) (fun _ => ?_) fun h2 => Rn.skip ?_)
    · refine Rn.ret (d := .int (rs.getD 1 0 % 5)) (by (simp (disch := omega) only [b2, b1, cB, aCons, aNil, kI, kS, kB, kN, gv, asB, List.getElem?_cons_zero, List.getElem?_cons_succ, Option.bind_some, Option.map_some, List.set_cons_zero, List.set_cons_succ, ixI, mulL, mulR, addII, subII, modII, divII, intII, eqII, gtII, ltII, Int.zero_add]); rfl) ?_
      exact ⟨_, _, rfl, rfl, _, rfl, by omega⟩
    refine Rn.sq (Rn.ite (t := decide (kd = 1)) (by (simp (disch := omega) only [b2, b1, cB, aCons, aNil, kI, kS, kB, kN, gv, asB, List.getElem?_cons_zero, List.getElem?_cons_succ, Option.bind_some, Option.map_some, List.set_cons_zero, List.set_cons_succ, ixI, mulL, mulR, addII, subII, modII, divII, intII, eqII, gtII, ltII, Int.zero_add])) (fun _ => ?_) fun h2 => Rn.skip ?_)
    · refine Rn.ret (d := .int (rs.getD 1 0)) (by (simp (disch := omega) only [b2, b1, cB, aCons, aNil, kI, kS, kB, kN, gv, asB, List.getElem?_cons_zero, List.getElem?_cons_succ, Option.bind_some, Option.map_some, List.set_cons_zero, List.set_cons_succ, ixI, mulL, mulR, addII, subII, modII, divII, intII, eqII, gtII, ltII, Int.zero_add]); rfl) ?_
      exact ⟨_, _, rfl, rfl, _, rfl, (rg 1).1⟩
    refine Rn.sq (Rn.st (d := .int 0) rfl ?_)
    refine Rn.sq (Rn.for (ds := rangeD 0 7) rfl (fun i ρ => ∃ (v : Int) (x : O), ρ = [.dat (.lst (rs.map .int)), .dat (.int kd), .dat (.int v), x]) ⟨0, .unk, rfl⟩ (fun i d ρ hd hI => ?_) (fun ρ hI => ?_))
    · obtain ⟨hi, rfl⟩ := range_get hd
      obtain ⟨v, x, rfl⟩ := hI
      refine ⟨_, rfl, ?_⟩
      show Rn _ [.dat (.lst (rs.map .int)), .dat (.int kd), .dat (.int v), .dat (.int (0 + (i : Int)))] _
      refine Rn.st (d := .int (v * 1000 + rs.getD (1 + (i : Int)).toNat 0)) (by (simp (disch := omega) only [b2, b1, cB, aCons, aNil, kI, kS, kB, kN, gv, asB, List.getElem?_cons_zero, List.getElem?_cons_succ, Option.bind_some, Option.map_some, List.set_cons_zero, List.set_cons_succ, ixI, mulL, mulR, addII, subII, modII, divII, intII, eqII, gtII, ltII, Int.zero_add])) ?_
      exact ⟨_, _, rfl⟩
    · obtain ⟨v, x, rfl⟩ := hI
      refine Rn.ret (d := .int (v % 100000000000000000001)) (by
        have hp : b2 (b2 (kI 10) (kI 20) powI) (kI 1) addA [.dat (.lst (rs.map .int)), .dat (.int kd), .dat (.int v), x] = some (.int 100000000000000000001) := rfl
        rw [b2_of (x := .int v) (y := .int 100000000000000000001) rfl hp]
        exact modII (by decide)) ?_
      exact ⟨_, _, rfl, rfl, _, rfl, by omega⟩
  exact ⟨v, e, hv⟩
end K02

namespace K02
open PySem L2 PD
theorem same_str (a b : Str) : D.same (.str a) (.str b) = decide (a = b) := by
  show (a == b) = _
  by_cases h : a = b
  · rw [decide_eq_true h]; simpa using h
  · rw [decide_eq_false h]; simpa using h
theorem flat_strs (ls : List Str) : (ls.map D.str).all D.flat = true := by
  rw [List.all_map, List.all_eq_true]; intro x _; rfl
theorem nin_strs (x : Str) (ls : List Str) : ninD (.str x) (.lst (ls.map .str)) = some (.bl (!decide (x ∈ ls))) := by
  unfold ninD inB
  simp only [flat_strs, D.flat, Bool.and_self, if_true, Option.map_some]
  congr 3
  rw [List.any_map]
  induction ls with
  | nil => rfl
  | cons l ls ih =>
    rw [List.any_cons, ih]
    simp only [Function.comp, same_str, List.mem_cons]
    by_cases h : x = l
    · subst h; simp
    · have h' : ¬ l = x := fun z => h z.symm
      simp [h, h']
theorem toDs_strs : ∀ ls : List Str, O.toDs (ls.map fun l => O.dat (.str l)) = some (ls.map .str)
  | [] => rfl
  | l :: ls => by
    show (match O.toD (.dat (.str l)), O.toDs (ls.map fun l => O.dat (.str l)) with | some d, some ds => some (d :: ds) | _, _ => none) = _
    rw [toDs_strs ls]; rfl
theorem vw_strs (ls : List Str) : O.vw (.lst (ls.map fun l => O.dat (.str l))) = .dat (.lst (ls.map .str)) := by
  unfold O.vw O.toD
  rw [toDs_strs]; rfl
theorem vw_dat (d : D) : O.vw (.dat d) = .dat d := rfl
theorem len_strs (ls : List Str) : lenD [.lst (ls.map .str)] = some (.int ls.length) := by
  show some (D.int ((ls.map D.str).length : Int)) = _
  rw [List.length_map]
end K02

namespace K02
open PySem L2 PD
abbrev ZZZ : Str := Str.ofString "zzzzzzzzzzzz"
def Good (l : Str) : Prop := l ≠ ZZZ ∧ l.length ≤ 40 ∧ okS l
theorem codes_len (z : Str) : z.cps.toList.length = z.length := str_len z
theorem good_short {l : Str} (h : l.length ≤ 11) (ho : okS l) : Good l := ⟨fun e => by subst e; exact absurd h (by decide), by omega, ho⟩
theorem good_has {l : Str} {c : Nat} (hc : c ∈ l.cps.toList) (h : c ≠ 122) (hl : l.length ≤ 40) (ho : okS l) : Good l := ⟨fun e => by
  subst e
  have : ∀ x ∈ ZZZ.cps.toList, x = 122 := by decide
  exact h (this c hc), hl, ho⟩
theorem cat_codes (a b : Str) : (a ++ b).cps.toList = a.cps.toList ++ b.cps.toList := by
  show (a.cps ++ b.cps).toList = _
  exact Array.toList_append
theorem catA {a b : Str} (h : a.length + b.length ≤ 1000) : addA (.str a) (.str b) = some (.str (a ++ b)) := by
  have hz : a.length + b.length ≤ sizeLine := small_line h
  show orD addD (orD catL catT) (.str a) (.str b) = _
  simp only [orD, addD, addI, addS, i2, s2, decide_eq_true hz, if_true]
/-- the labels that may be drawn: distinct, and none is the one put in -/
def Pool (ls : List Str) : Prop := ls.Nodup ∧ ∀ l ∈ ls, Good l
theorem Pool.add {ls : List Str} {l : Str} (h : Pool ls) (hl : l ∉ ls) (g : Good l) : Pool (ls ++ [l]) := ⟨by
  rw [List.nodup_append]
  exact ⟨h.1, by simp, fun a ha b hb => by simp at hb; subst hb; exact fun z => hl (z ▸ ha)⟩, fun x hx => by
  rcases List.mem_append.mp hx with hx | hx
  · exact h.2 x hx
  · simp at hx; subst hx; exact g⟩
end K02

namespace K02
open PySem L2 PD
theorem call1 {fa : Ev → Option D} {ρ : Ev} {x : D} {m : List D → Option D} (h : fa ρ = some x) : cB (aCons fa aNil) (len? 1 m) ρ = m [x] := call_of (aC1 h) rfl
abbrev pl (ls : List Str) : O := .lst (ls.map fun l => O.dat (.str l))
/-- a label is put in if it is new -/
theorem pool_step {Q : Fl → Prop} (t : Ev → Option Bool) (a b c : O) (l : Str) (ls : List Str) (bb : Bool) (hp : Pool ls) (g : Good l) (hn : ls.length < 1000)
    (ht : t [a, b, c, pl ls, .dat (.str l)] = some bb) (hb : bb = true → l ∉ ls)
    (k : ∀ ls', Pool ls' → ls'.length ≤ ls.length + 1 → (bb = false → ls' = ls) → Q (.nx [a, b, c, pl ls', .dat (.str l)])) : Rn (ifS t (app 3 (gv 4)) skip) [a, b, c, pl ls, .dat (.str l)] Q := by
  refine Rn.ite ht (fun h => ?_) fun h => Rn.skip (k ls hp (by omega) fun _ => rfl)
  refine Rn.app (d := .str l) rfl rfl (by rw [List.length_map]; exact Nat.lt_of_lt_of_le hn (by decide)) ?_
  have := k (ls ++ [l]) (hp.add (hb h) g) (by simp) (fun z => by rw [h] at z; cases z)
  simpa [pl] using this
theorem vw_env (a b c : D) (ls : List Str) (l : D) : [O.dat a, .dat b, .dat c, pl ls, .dat l].map O.vw = [.dat a, .dat b, .dat c, .dat (.lst (ls.map .str)), .dat l] := by
  simp only [List.map_cons, List.map_nil, vw_dat, pl, vw_strs]
theorem law_pool_ex (C : Cs) (rs : List Int) (hl : rs.length = 4) (hr : ∀ r ∈ rs, 0 ≤ r ∧ r < 1000) : ∃ ls : List Str, m_law_pool C [.lst (rs.map .int)] = some (.lst (ls.map .str)) ∧ Pool ls ∧ ls.length ≤ 5 := by
  have rg : ∀ j, 0 ≤ rs.getD j 0 ∧ rs.getD j 0 < 1000 := fun j => by
    by_cases h : j < rs.length
    · have := hr rs[j] (List.getElem_mem h)
      simpa [h] using this
    · simp [List.getD_eq_getElem?_getD, List.getElem?_eq_none (by omega : rs.length ≤ j)]
  obtain ⟨d, e, ls, rfl, h1, h2⟩ : ∃ d, m_law_pool C [.lst (rs.map .int)] = some d ∧ ∃ ls : List Str, d = .lst (ls.map .str) ∧ Pool ls ∧ ls.length ≤ 5 := by
    refine runP_of ?_
    unfold b_law_pool
    show Rn _ [.dat (.lst (rs.map .int)), .unk, .unk, .unk, .unk] _
    have g0 := rg 0; have g1 := rg 1; have g2 := rg 2
    obtain ⟨t1, e1, l1, o1⟩ := law_word_ex C (rs.getD 0 0 + 1000 * (rs.getD 1 0 % 30)) (by omega) (by omega)
    obtain ⟨t2, e2, l2, o2⟩ := law_word_ex C (rs.getD 2 0) (by omega) (by omega)
    refine Rn.sq (Rn.st (d := .str t1) ((call1 (x := .int (rs.getD 0 0 + 1000 * (rs.getD 1 0 % 30))) (by (simp (disch := omega) only [b2, b1, cB, aCons, aNil, kI, kS, kB, kN, gv, asB, List.getElem?_cons_zero, List.getElem?_cons_succ, Option.bind_some, Option.map_some, List.set_cons_zero, List.set_cons_succ, ixI, mulL, mulR, addII, subII, modII, divII, intII, eqII, gtII, ltII, Int.zero_add]); rfl)).trans e1) ?_)
    show Rn _ [.dat (.lst (rs.map .int)), .dat (.str t1), .unk, .unk, .unk] _
    refine Rn.sq (Rn.st (d := .str t2) ((call1 (x := .int (rs.getD 2 0)) (by (simp (disch := omega) only [b2, b1, cB, aCons, aNil, kI, kS, kB, kN, gv, asB, List.getElem?_cons_zero, List.getElem?_cons_succ, Option.bind_some, Option.map_some, List.set_cons_zero, List.set_cons_succ, ixI, mulL, mulR, addII, subII, modII, divII, intII, eqII, gtII, ltII, Int.zero_add]); rfl)).trans e2) ?_)
    show Rn _ [.dat (.lst (rs.map .int)), .dat (.str t1), .dat (.str t2), .unk, .unk] _
    refine Rn.sqN (P := fun ρ => ∃ t : Str, ρ = [.dat (.lst (rs.map .int)), .dat (.str t1), .dat (.str t), .unk, .unk] ∧ Good t ∧ t.length ≤ 12) ?_ fun ρ hρ => ?_
    · refine Rn.ite (t := decide (rs.getD 3 0 % 3 = 1)) (by (simp (disch := omega) only [b2, b1, cB, aCons, aNil, kI, kS, kB, kN, gv, asB, List.getElem?_cons_zero, List.getElem?_cons_succ, Option.bind_some, Option.map_some, List.set_cons_zero, List.set_cons_succ, ixI, mulL, mulR, addII, subII, modII, divII, intII, eqII, gtII, ltII, Int.zero_add]); rfl) (fun _ => ?_) fun _ => Rn.skip ⟨t2, rfl, good_short (by omega) o2, by omega⟩
      have hc : b2 (gv 2) (kS "klmnopqrstuv") addA [.dat (.lst (rs.map .int)), .dat (.str t1), .dat (.str t2), .unk, .unk] = some (.str (t2 ++ Str.ofString "klmnopqrstuv")) := by
        rw [b2_of (x := .str t2) (y := .str (Str.ofString "klmnopqrstuv")) rfl rfl]
        exact catA (by show t2.length + 12 ≤ 1000; omega)
      refine Rn.st (slS_of hc rfl (part_of rfl) (by rw [cat_len]; show t2.length + 12 ≤ 1000000; omega)) ?_
      have hcodes : (cutS (t2 ++ Str.ofString "klmnopqrstuv") none (some 12)).cps.toList = (t2.cps.toList ++ (Str.ofString "klmnopqrstuv").cps.toList).take 12 := by
        rw [cutS_codes, cat_codes]
        exact cut_to _ 12
      have hlen : (cutS (t2 ++ Str.ofString "klmnopqrstuv") none (some 12)).length ≤ 12 := by
        rw [← codes_len, hcodes, List.length_take]; omega
      refine ⟨_, rfl, good_has (c := 107) ?_ (by decide) (by omega) ?_, hlen⟩
      rotate_left
      · intro c hc
        rw [hcodes] at hc
        rcases List.mem_append.mp (List.mem_of_mem_take hc) with h | h
        · exact o2 c h
        · exact (show ∀ c ∈ (Str.ofString "klmnopqrstuv").cps.toList, c < 1114112 by decide) c h
      rw [hcodes]
      have hl2 := codes_len t2
      refine List.mem_of_getElem? (i := t2.cps.toList.length) ?_
      rw [List.getElem?_take_of_lt (by omega), List.getElem?_append_right (Nat.le_refl _), Nat.sub_self]
      rfl
    obtain ⟨t, rfl, gt, lt⟩ := hρ
    refine Rn.sq (Rn.stO (o := pl []) rfl ?_)
    show Rn _ [.dat (.lst (rs.map .int)), .dat (.str t1), .dat (.str t), pl [], .unk] _
    have gdot : ∀ a b : Str, a.length ≤ 12 → b.length ≤ 12 → okS a → okS b → Good (a ++ Str.ofString "." ++ b) := fun a b ha hb oa ob => good_has (c := 46) (by
      rw [cat_codes, cat_codes]; exact List.mem_append_left _ (List.mem_append_right _ (by decide))) (by decide) (by rw [cat_len, cat_len]; show a.length + 1 + b.length ≤ 40; omega) (okS_cat (okS_cat oa (show ∀ c ∈ (Str.ofString ".").cps.toList, c < 1114112 by decide)) ob)
    obtain ⟨ws, hws, gws⟩ : ∃ ws : List Str, iOf (mkLst (aCons (gv 1) (aCons (b2 (b2 (gv 1) (kS ".") addA) (gv 2) addA) (aCons (gv 2) (aCons (b2 (b2 (gv 2) (kS ".") addA) (gv 1) addA) (aCons (b2 (gv 1) (kS "a") addA) aNil)))))) [.dat (.lst (rs.map .int)), .dat (.str t1), .dat (.str t), pl [], .unk] = some (ws.map .str) ∧ ws.length = 5 ∧ ∀ w ∈ ws, Good w := by
      refine ⟨[t1, t1 ++ Str.ofString "." ++ t, t, t ++ Str.ofString "." ++ t1, t1 ++ Str.ofString "a"], ?_, rfl, fun w hw => ?_⟩
      · refine iOf_of (x := .lst ([t1, t1 ++ Str.ofString "." ++ t, t, t ++ Str.ofString "." ++ t1, t1 ++ Str.ofString "a"].map .str)) (mkL_of (aC rfl (aC ?_ (aC rfl (aC ?_ (aC ?_ rfl))))) (by simp)) rfl
        · rw [b2_of (x := .str (t1 ++ Str.ofString ".")) (y := .str t) (by rw [b2_of (x := .str t1) (y := .str (Str.ofString ".")) rfl rfl]; exact catA (by show t1.length + 1 ≤ 1000; omega)) rfl]
          exact catA (by rw [cat_len]; show t1.length + 1 + t.length ≤ 1000; omega)
        · rw [b2_of (x := .str (t ++ Str.ofString ".")) (y := .str t1) (by rw [b2_of (x := .str t) (y := .str (Str.ofString ".")) rfl rfl]; exact catA (by show t.length + 1 ≤ 1000; omega)) rfl]
          exact catA (by rw [cat_len]; show t.length + 1 + t1.length ≤ 1000; omega)
        · rw [b2_of (x := .str t1) (y := .str (Str.ofString "a")) rfl rfl]
          exact catA (by show t1.length + 1 ≤ 1000; omega)
      · simp only [List.mem_cons, List.not_mem_nil, or_false] at hw
        rcases hw with rfl | rfl | rfl | rfl | rfl
        · exact good_short (by omega) o1
        · exact gdot _ _ (by omega) lt o1 gt.2.2
        · exact gt
        · exact gdot _ _ lt (by omega) gt.2.2 o1
        · exact good_short (by rw [cat_len]; show t1.length + 1 ≤ 11; omega) (okS_cat o1 (show ∀ c ∈ (Str.ofString "a").cps.toList, c < 1114112 by decide))
    refine Rn.sqN (P := fun ρ => ∃ (ls : List Str) (x : D), ρ = [.dat (.lst (rs.map .int)), .dat (.str t1), .dat (.str t), pl ls, .dat x] ∧ Pool ls ∧ ls.length ≤ 5) ?_ fun ρ hρ => ?_
    · refine Rn.for hws (fun i ρ => ∃ (ls : List Str) (x : O), ρ = [.dat (.lst (rs.map .int)), .dat (.str t1), .dat (.str t), pl ls, x] ∧ Pool ls ∧ ls.length ≤ i ∧ (0 < i → ∃ d, x = .dat d)) ⟨[], .unk, rfl, ⟨List.nodup_nil, fun _ h => nomatch h⟩, Nat.le_refl _, fun h => absurd h (by omega)⟩ (fun i d ρ hd hI => ?_) (fun ρ hI => ?_)
      · obtain ⟨ls, x, rfl, hp, hn, _⟩ := hI
        rw [List.getElem?_map] at hd
        obtain ⟨w, hw, rfl⟩ := Option.map_eq_some_iff.mp hd
        have hi : i < 5 := by have := (List.getElem?_eq_some_iff.mp hw).1; omega
        refine ⟨_, rfl, ?_⟩
        refine pool_step (bb := !decide (w ∈ ls)) _ _ _ _ w ls hp (gws.2 w (List.mem_of_getElem? hw)) (by omega) ?_ (by simp) (fun ls' q1 q2 _ => ⟨ls', _, rfl, q1, by omega, fun _ => ⟨_, rfl⟩⟩)
        unfold vwT
        rw [vw_env _ _ _ _ _]
        exact asB_of (by rw [b2_of (x := .str w) (y := .lst (ls.map .str)) rfl rfl]; exact nin_strs w ls)
      · obtain ⟨ls, x, rfl, hp, hn, hx⟩ := hI
        rw [List.length_map, gws.1] at hn hx
        obtain ⟨d, rfl⟩ := hx (by omega)
        exact ⟨ls, d, rfl, hp, hn⟩
    obtain ⟨ls, x, rfl, hp, hn⟩ := hρ
    refine Rn.fz (o := pl ls) (d := .lst (ls.map .str)) rfl (by show (O.toDs _).map _ = _; rw [toDs_strs]; rfl) ?_
    refine Rn.ret (d := .lst (ls.map .str)) rfl ?_
    exact ⟨_, _, rfl, rfl, ls, rfl, hp, hn⟩
  exact ⟨ls, e, h1, h2⟩
end K02

namespace K02
open PySem L2 PD
structure Row where
  l : Str
  a : Int
  b : Int
  c : Int
def rowD (r : Row) : D := .tup [.str r.l, .int r.a, .int r.b, .int r.c]
/-! ### what can be sorted -/
theorem py_row (r : Row) : D.py (rowD r) = some (.tuple [.str r.l, .int r.a, .int r.b, .int r.c]) := rfl
theorem sortOk_rows (rows : List Row) (h : rows.length ≤ 1000) : SortOk (rows.map rowD) := by
  refine ⟨fun d hd => ?_, fun d hd e he => ?_, .inl fun d hd => ?_, by rw [List.length_map]; exact small_line h⟩
  · obtain ⟨r, _, rfl⟩ := List.mem_map.mp hd
    exact ⟨rfl, Nat.le_of_ble_eq_true rfl⟩
  · obtain ⟨x, hx, rfl⟩ := List.mem_map.mp hd
    obtain ⟨y, hy, rfl⟩ := List.mem_map.mp he
    obtain ⟨r, _, rfl⟩ := List.mem_map.mp hx
    obtain ⟨q, _, rfl⟩ := List.mem_map.mp hy
    rfl
  · obtain ⟨x, hx, rfl⟩ := List.mem_map.mp hd
    obtain ⟨r, _, rfl⟩ := List.mem_map.mp hx
    exact ⟨_, _, rfl⟩
end K02

namespace K02
open PySem L2 PD
theorem cut_mid {α : Type} (xs : List α) (a b : Nat) (hb : b ≤ xs.length) (hab : a ≤ b) : cutD xs (some (a : Int)) (some (b : Int)) = (xs.drop a).take (b - a) := by
  unfold cutD
  rw [HT.sIx_nat, HT.sIx_nat, Nat.min_eq_left (show a ≤ xs.length by omega), Nat.min_eq_left hb]
theorem slI {rs : List Int} {fa : Ev → Option D} {lo hi : Ev → Option (Option Int)} {ρ : Ev} {a b : Nat} (h : fa ρ = some (.lst (rs.map .int))) (h1 : lo ρ = some (some (a : Int))) (h2 : hi ρ = some (some (b : Int))) (hb : b ≤ rs.length) (hab : a ≤ b) : slc fa lo hi ρ = some (.lst (((rs.drop a).take (b - a)).map .int)) := by
  rw [slL_of h h1 h2, cut_mid _ a b (by rw [List.length_map]; exact hb) hab, ← List.map_drop, ← List.map_take]
theorem number_at (C : Cs) (rs : List Int) (m : Int) (a b : Nat) (hb : b ≤ rs.length) (hab : b = a + 14) (hr : ∀ r ∈ rs, 0 ≤ r ∧ r < 1000) : ∃ v : Int, m_law_number C [.lst (((rs.drop a).take (b - a)).map .int), .int m] = some (.int v) ∧ (m = 0 ∨ m = 1 → -1000000000000000000 < v ∧ v < 1000000000000000000) :=
  law_number_ex C _ m (by rw [List.length_take, List.length_drop]; omega) fun r h => hr r (List.mem_of_mem_drop (List.mem_of_mem_take h))
theorem call2 {fa fb : Ev → Option D} {ρ : Ev} {x y : D} {m : List D → Option D} (h : fa ρ = some x) (h2 : fb ρ = some y) : cB (aCons fa (aCons fb aNil)) (len? 2 m) ρ = m [x, y] := call_of (aC2 h h2) rfl
theorem srt_of {ds : List D} (h : SortOk ds) : srtO [.lst ds] = some (.lst ((ds.mergeSort leD).map .dat)) := by
  show (open Classical in if SortOk ds then some (O.lst ((ds.mergeSort leD).map O.dat)) else none) = _
  rw [if_pos h]
end K02

namespace K02
open PySem L2 PD
theorem toDs_rows : ∀ rows : List Row, O.toDs (rows.map fun r => O.dat (rowD r)) = some (rows.map rowD)
  | [] => rfl
  | r :: rows => by
    show (match O.toD (.dat (rowD r)), O.toDs (rows.map fun r => O.dat (rowD r)) with | some d, some ds => some (d :: ds) | _, _ => none) = _
    rw [toDs_rows rows]; rfl
def rle (p q : Row) : Bool := leD (rowD p) (rowD q)
def srt (rows : List Row) : List Row := rows.mergeSort rle
theorem leD_total : PySem.W.TotalLe leD := PySem.W.sortLe_total (PyProof.Rows.listOrd PyProof.Rows.itemOrd) false fun d => PySem.W.keyToks (pyT d)
theorem rle_total : PySem.W.TotalLe rle := ⟨fun a b c => leD_total.trans _ _ _, fun a b => leD_total.total _ _⟩
theorem codes_inj {x y : Str} (h : x.cps.toList = y.cps.toList) : x = y := (str_eq x y).mpr h
theorem rle_anti {p q : Row} (h1 : rle p q = true) (h2 : rle q p = true) : p = q := by
  have e : PySem.W.keyToks (pyT (rowD q)) = PySem.W.keyToks (pyT (rowD p)) := by
    refine (PyProof.Rows.KeyOrd.total (PyProof.Rows.listOrd PyProof.Rows.itemOrd) _ _ ?_ ?_)
    · have : (!(PyProof.Rows.listOrd PyProof.Rows.itemOrd).blt (PySem.W.keyToks (pyT (rowD q))) (PySem.W.keyToks (pyT (rowD p)))) = true := h1
      simpa using this
    · have : (!(PyProof.Rows.listOrd PyProof.Rows.itemOrd).blt (PySem.W.keyToks (pyT (rowD p))) (PySem.W.keyToks (pyT (rowD q)))) = true := h2
      simpa using this
  obtain ⟨l, a, b, c⟩ := p
  obtain ⟨l', a', b', c'⟩ := q
  have e : ([Sum.inl 1, Sum.inr l'.cps.toList, Sum.inl 1, Sum.inl a', Sum.inl 1, Sum.inl b', Sum.inl 1, Sum.inl c', Sum.inl 0] : List (Int ⊕ List Nat)) = [Sum.inl 1, Sum.inr l.cps.toList, Sum.inl 1, Sum.inl a, Sum.inl 1, Sum.inl b, Sum.inl 1, Sum.inl c, Sum.inl 0] := e
  simp only [List.cons.injEq, Sum.inl.injEq, Sum.inr.injEq, true_and, and_true] at e
  obtain ⟨h1, h2, h3, h4⟩ := e
  rw [codes_inj h1, h2, h3, h4]
theorem srt_perm (rows : List Row) : (srt rows).Perm rows := List.mergeSort_perm _ _
theorem srt_eq {a b : List Row} (h : a.Perm b) : srt a = srt b := by
  refine List.Perm.eq_of_pairwise (le := fun x y => rle x y = true) (fun x y _ _ h1 h2 => rle_anti h1 h2) (PySem.W.sort_pairwise rle_total a) (PySem.W.sort_pairwise rle_total b) ?_
  exact (srt_perm a).trans (h.trans (srt_perm b).symm)
theorem srt_map (rows : List Row) : (rows.map rowD).mergeSort leD = (srt rows).map rowD := (PySem.W.sort_maps (f := rowD) fun _ _ _ _ => rfl).symm
theorem srtO_rows (rows : List Row) (h : rows.length ≤ 1000) : srtO [.lst (rows.map rowD)] = some (.lst ((srt rows).map fun r => .dat (rowD r))) := by
  rw [srt_of (sortOk_rows rows h), srt_map, List.map_map]
  rfl
theorem srt_len (rows : List Row) : (srt rows).length = rows.length := (srt_perm rows).length_eq
/-- the object -/
def shD (C : Cs) (rows : List Row) : D := .obj C.Shift ["rows"] [.tup ((srt rows).map rowD)]
/-- frozen sorted -/
theorem frz_srt {fa : Ev → Option D} {ρ : Ev} {rows : List Row} (h : fa ρ = some (.lst (rows.map rowD))) (hl : rows.length ≤ 1000) : frz (cO (aCons fa aNil) srtO) ρ = some (.lst ((srt rows).map rowD)) := by
  unfold frz cO
  rw [aC1 h, Option.bind_some, srtO_rows rows hl, Option.bind_some]
  show (O.toDs _).map D.lst = _
  rw [toDs_rows]; rfl
end K02

namespace K02
open PySem L2 PD
theorem lc_tup {fi : Ev → Option (List D)} {ρ : Ev} {rows : List Row} (hw : okW ρ [2] = true) (h2 : ρ.length = 3) (hi : fi ρ = some (rows.map rowD)) (hl : rows.length ≤ 1000) :
    lcD fi (gN 2) yes (cB (aCons (gv 2) aNil) tupD) [2] ρ = some (.lst (rows.map rowD)) := by
  refine lc_map rowD hw hi (by omega) fun r _ => ⟨_, rfl, ?_⟩
  match ρ, h2 with
  | [a, b, c], _ => rfl
theorem init_ev {fi : Ev → Option (List D)} {ρ : Ev} {rows : List Row} {x : O} (hw : okW ρ [2] = true) (h2 : ρ = [.obj x1 [] [], x, .unk]) (hi : fi ρ = some (rows.map rowD)) (hl : rows.length ≤ 1000) :
    thaw (cB (aCons (frz (cO (aCons (lcD fi (gN 2) yes (cB (aCons (gv 2) aNil) tupD) [2]) aNil) srtO)) aNil) tupD) ρ = some (.dat (.tup ((srt rows).map rowD))) := by
  have e := lc_tup hw (by rw [h2]; rfl) hi hl
  have e2 := frz_srt e hl
  (simp (disch := first | assumption | omega) only [e2, MV])
/-- what Shift(rows) makes -/
abbrev shO (C : Cs) (rows : List Row) : O := .obj C.Shift ["rows"] [.dat (.tup ((srt rows).map rowD))]
theorem init_lst (C : Cs) (rows : List Row) (hl : rows.length ≤ 1000) : mShift_init C [.lst (rows.map rowD)] = some (shO C rows) := by
  have e := init_ev (fi := iOf (gv 1)) (ρ := envI C.Shift 3 [.lst (rows.map rowD)]) (x := .dat (.lst (rows.map rowD))) rfl rfl rfl hl
  unfold mShift_init runI
  show (put C.Shift 0 "rows" _ _).bind outI = _
  unfold put
  rw [e]
  show (if C.Shift = C.Shift ∧ _ then _ else _ : Option Fl).bind outI = _
  rw [if_pos ⟨rfl, by decide⟩]
  rfl
/-! never -/
theorem fld_rows (C : Cs) (rows : List Row) : fldD C.Shift "rows" (shD C rows) = some (.tup ((srt rows).map rowD)) := by
  show (if C.Shift = C.Shift then _ else _) = _
  rw [if_pos rfl]; rfl
theorem isi_sh (C : Cs) (rows : List Row) : isiC [(C.Shift, true)] (shD C rows) = some (.bl true) := by
  show ([(C.Shift, true)].lookup C.Shift).map _ = _
  simp [List.lookup]
/-! _law_same of a thing and itself -/
def sm : Nat → D → Prop
  | 0, _ => False
  | n + 1, d => match d with
    | .lst xs => xs.length ≤ 1000000 ∧ ∀ x ∈ xs, sm n x
    | .tup xs => xs.length ≤ 1000000 ∧ ∀ x ∈ xs, sm n x
    | .non => True
    | .bl _ => True
    | .int _ => True
    | .str _ => True
    | _ => False
theorem same_loop (C : Cs) (n : Nat) (x : D) (xs : List D) (fi : Ev → Option (List D)) (hf : fi [.dat x, .dat x, .unk] = some (rangeD 0 xs.length)) (ih : ∀ d ∈ xs, m_law_same C n [d, d] = some (.bl true)) (hx : ∀ i : Nat, (h : i < xs.length) → ixD x (.int i) = some xs[i]) :
    Rn (sq (forS fi (gN 2) (ifS (notT (asB (cB (aCons (b2 (gv 0) (gv 2) ixD) (aCons (b2 (gv 1) (gv 2) ixD) aNil)) (len? 2 (m_law_same C n))))) (rtV (kB false)) skip)) (rtV (kB true))) [.dat x, .dat x, .unk] fun r => ∃ o, outO r = some o ∧ o.toD = some (.bl true) := by
  refine Rn.sqforR (lo := 0) (n := xs.length) hf (fun i ρ => ∃ o, ρ = [.dat x, .dat x, o]) ⟨_, rfl⟩ (fun i hi ρ hI => ?_) (fun ρ hI => ?_)
  · obtain ⟨o, rfl⟩ := hI
    refine ⟨_, rfl, ?_⟩
    have e := hx i hi
    have e2 := ih xs[i] (List.getElem_mem hi)
    refine Rn.ite (t := false) ?_ (fun h => nomatch h) fun _ => Rn.skip ⟨_, rfl⟩
    show notT _ [.dat x, .dat x, .dat (.int (0 + (i : Int)))] = _
    rw [Int.zero_add]
    (simp (disch := first | assumption | omega) only [e, e2, MV])
  · obtain ⟨o, rfl⟩ := hI
    exact Rn.ret rfl ⟨_, rfl, rfl⟩
theorem same_none (C : Cs) (n : Nat) : m_law_same C (n + 1) [.non, .non] = some (.bl true) := by
  rw [m_law_same]
  refine runP_eq ?_
  exact Rn.sqifT (ρ := [.dat .non, .dat .non, .unk]) (by (simp (disch := first | assumption | omega) only [MV])) (Rn.sqret (d := .bl true) (by (simp (disch := first | assumption | omega) only [MV])) ⟨_, rfl, rfl⟩)
theorem same_bl (C : Cs) (n : Nat) (b : Bool) : m_law_same C (n + 1) [.bl b, .bl b] = some (.bl true) := by
  rw [m_law_same]
  refine runP_eq ?_
  exact Rn.chk (ρ := [.dat (.bl b), .dat (.bl b), .unk]) (by (simp (disch := first | assumption | omega) only [MV])) (Rn.sqifT (by (simp (disch := first | assumption | omega) only [MV])) (Rn.sqret (d := .bl true) (by (simp (disch := first | assumption | omega) only [MV]) <;> simp) ⟨_, rfl, rfl⟩))
theorem same_int (C : Cs) (n : Nat) (b : Int) : m_law_same C (n + 1) [.int b, .int b] = some (.bl true) := by
  rw [m_law_same]
  refine runP_eq ?_
  exact Rn.chk (ρ := [.dat (.int b), .dat (.int b), .unk]) (by (simp (disch := first | assumption | omega) only [MV])) (Rn.chk (by (simp (disch := first | assumption | omega) only [MV])) (Rn.sqifT (by (simp (disch := first | assumption | omega) only [MV])) (Rn.sqret (d := .bl true) (by (simp (disch := first | assumption | omega) only [MV]) <;> simp) ⟨_, rfl, rfl⟩)))
theorem same_s (C : Cs) (n : Nat) (b : Str) : m_law_same C (n + 1) [.str b, .str b] = some (.bl true) := by
  rw [m_law_same]
  refine runP_eq ?_
  exact Rn.chk (ρ := [.dat (.str b), .dat (.str b), .unk]) (by (simp (disch := first | assumption | omega) only [MV])) (Rn.chk (by (simp (disch := first | assumption | omega) only [MV])) (Rn.chk (by (simp (disch := first | assumption | omega) only [MV])) (Rn.sqifT (by (simp (disch := first | assumption | omega) only [MV])) (Rn.sqret (d := .bl true) (by (simp (disch := first | assumption | omega) only [MV]) <;> simp) ⟨_, rfl, rfl⟩))))
theorem same_lst (C : Cs) (n : Nat) (xs : List D) (hh : xs.length ≤ 1000000) (ih : ∀ d ∈ xs, m_law_same C n [d, d] = some (.bl true)) : m_law_same C (n + 1) [.lst xs, .lst xs] = some (.bl true) := by
  rw [m_law_same]
  refine runP_eq ?_
  refine Rn.chk (ρ := [.dat (.lst xs), .dat (.lst xs), .unk]) (by (simp (disch := first | assumption | omega) only [MV])) (Rn.chk (by (simp (disch := first | assumption | omega) only [MV])) (Rn.chk (by (simp (disch := first | assumption | omega) only [MV])) (Rn.chk (by (simp (disch := first | assumption | omega) only [MV])) (Rn.chk (by (simp (disch := first | assumption | omega) only [MV])) (Rn.chk (by (simp (disch := first | assumption | omega) only [MV]) <;> simp) ?_)))))
  exact same_loop C n (.lst xs) xs _ (by (simp (disch := first | assumption | omega) only [MV]) <;> rfl) ih (fun i hi => by show atI xs (i : Int) = _; exact at_get hi)
theorem same_tup (C : Cs) (n : Nat) (xs : List D) (hh : xs.length ≤ 1000000) (ih : ∀ d ∈ xs, m_law_same C n [d, d] = some (.bl true)) : m_law_same C (n + 1) [.tup xs, .tup xs] = some (.bl true) := by
  rw [m_law_same]
  refine runP_eq ?_
  refine Rn.chk (ρ := [.dat (.tup xs), .dat (.tup xs), .unk]) (by (simp (disch := first | assumption | omega) only [MV])) (Rn.chk (by (simp (disch := first | assumption | omega) only [MV])) (Rn.chk (by (simp (disch := first | assumption | omega) only [MV])) (Rn.chk (by (simp (disch := first | assumption | omega) only [MV])) (Rn.chk (by (simp (disch := first | assumption | omega) only [MV])) (Rn.chk (by (simp (disch := first | assumption | omega) only [MV]) <;> simp) ?_)))))
  exact same_loop C n (.tup xs) xs _ (by (simp (disch := first | assumption | omega) only [MV]) <;> rfl) ih (fun i hi => by show atI xs (i : Int) = _; exact at_get hi)
theorem same_self (C : Cs) (n : Nat) : ∀ d : D, sm n d → m_law_same C n [d, d] = some (.bl true) := by
  induction n with
  | zero => intro d h; exact h.elim
  | succ n ih =>
    intro d h
    cases d with
    | non => exact same_none C n
    | bl b => exact same_bl C n b
    | int b => exact same_int C n b
    | str b => exact same_s C n b
    | lst xs => exact same_lst C n xs h.1 fun d hd => ih d (h.2 d hd)
    | tup xs => exact same_tup C n xs h.1 fun d hd => ih d (h.2 d hd)
    | _ => exact h.elim
end K02

namespace K02
open PySem L2 PD
instance : Inhabited Row := ⟨⟨"", 0, 0, 0⟩⟩
noncomputable def eqR (a b : List Row) : Bool := @decide (a = b) (Classical.propDecidable _)
theorem eqR_iff {a b : List Row} : eqR a b = true ↔ a = b := by unfold eqR; exact @decide_eq_true_iff _ (Classical.propDecidable _)
theorem sm_row (n : Nat) (r : Row) : sm (n + 2) (rowD r) := by
  refine ⟨show 4 ≤ 1000000 by decide, fun x hx => ?_⟩
  simp only [List.mem_cons, List.not_mem_nil, or_false] at hx
  rcases hx with rfl | rfl | rfl | rfl <;> trivial
/-! == -/
theorem py_rows : ∀ rows : List Row, D.pys (rows.map rowD) = some (rows.map fun r => .tuple [.str r.l, .int r.a, .int r.b, .int r.c])
  | [] => rfl
  | r :: rows => by
    rw [List.map_cons, D.pys, py_row, py_rows rows]; rfl
theorem lay_rows : ∀ rows : List Row, (∀ r ∈ rows, okS r.l) → PyData.canLayAll0 (rows.map fun r => .tuple [.str r.l, .int r.a, .int r.b, .int r.c]) = true
  | [], _ => rfl
  | r :: rows, h => by
    have h0 := (okS_iff r.l).mpr (h r List.mem_cons_self)
    rw [List.map_cons, PyData.canLayAll0, lay_rows rows fun q hq => h q (List.mem_cons_of_mem _ hq)]
    simp only [PyData.canLay0, PyData.canLayAll0, h0, Bool.and_true]
theorem dep_rows : ∀ rows : List Row, PyData.depthAll (rows.map fun r => .tuple [.str r.l, .int r.a, .int r.b, .int r.c]) ≤ 1
  | [] => by decide
  | r :: rows => by
    rw [List.map_cons, PyData.depthAll]
    have := dep_rows rows
    have h2 : PyData.depth (.tuple [.str r.l, .int r.a, .int r.b, .int r.c]) = 1 := rfl
    omega
theorem eqv_rows : ∀ a b : List Row, PyData.eqvAll (a.map fun r => .tuple [.str r.l, .int r.a, .int r.b, .int r.c]) (b.map fun r => .tuple [.str r.l, .int r.a, .int r.b, .int r.c]) = true ↔ a = b
  | [], [] => by simp [PyData.eqvAll]
  | [], _ :: _ => by simp [PyData.eqvAll]
  | _ :: _, [] => by simp [PyData.eqvAll]
  | x :: a, y :: b => by
    obtain ⟨l, p, q, r⟩ := x
    obtain ⟨l', p', q', r'⟩ := y
    rw [List.map_cons, List.map_cons, PyData.eqvAll, Bool.and_eq_true, eqv_rows a b]
    simp only [PyData.eqv, PyData.eqvAll, Bool.and_true, Bool.and_eq_true, beq_iff_eq, List.cons.injEq, Row.mk.injEq]
def okR (rows : List Row) : Prop := ∀ r ∈ rows, okS r.l
theorem eqvD_rows {a b : List Row} (ha : okR a) (hb : okR b) (k : List D → D) (hk : k = .tup ∨ k = .lst) : eqD (k (a.map rowD)) (k (b.map rowD)) = some (.bl (eqR a b)) := by
  have sh : ∀ (c : List Row) (q : List PyData → PyData), okR c → (q = .tuple ∨ q = .list) → SeqAt.shaped (q (c.map fun r => .tuple [.str r.l, .int r.a, .int r.b, .int r.c])) = true := fun c q h hq => by
    have h1 := lay_rows c h
    have h2 := dep_rows c
    unfold SeqAt.shaped
    rcases hq with rfl | rfl
    · rw [Bool.and_eq_true]
      refine ⟨by simp only [PyData.canLay0, h1], decide_eq_true ?_⟩
      rw [PyData.depth]; omega
    · rw [Bool.and_eq_true]
      refine ⟨by simp only [PyData.canLay0, h1], decide_eq_true ?_⟩
      rw [PyData.depth]; omega
  have fin : PyData.eqvAll (a.map fun r => .tuple [.str r.l, .int r.a, .int r.b, .int r.c]) (b.map fun r => .tuple [.str r.l, .int r.a, .int r.b, .int r.c]) = (eqR a b) := by
    rw [Bool.eq_iff_iff, eqv_rows, eqR_iff]
  rcases hk with rfl | rfl
  · have e1 : eqS (.tup (a.map rowD)) (.tup (b.map rowD)) = none := rfl
    unfold eqD eqB
    rw [e1]
    simp only [eqvD, D.py, py_rows, Option.map_some]
    rw [if_pos ⟨sh a _ ha (.inl rfl), sh b _ hb (.inl rfl)⟩]
    simp only [Option.map_some, PyData.eqv, fin]
  · have e1 : eqS (.lst (a.map rowD)) (.lst (b.map rowD)) = none := rfl
    unfold eqD eqB
    rw [e1]
    simp only [eqvD, D.py, py_rows, Option.map_some]
    rw [if_pos ⟨sh a _ ha (.inr rfl), sh b _ hb (.inr rfl)⟩]
    simp only [Option.map_some, PyData.eqv, fin]
theorem okR_srt {a : List Row} (h : okR a) : okR (srt a) := fun r hr => h r ((srt_perm a).mem_iff.mp hr)
theorem eq_sh (C : Cs) {a b : List Row} (ha : okR a) (hb : okR b) : mShift_eq C [shD C a, shD C b] = some (.bl (eqR (srt a) (srt b))) := by
  unfold mShift_eq
  refine runP_eq ?_
  refine Rn.ret (ρ := [.dat (shD C a), .dat (shD C b)]) (d := .bl (eqR (srt a) (srt b))) ?_ ⟨_, rfl, rfl⟩
  (simp (disch := first | assumption | omega) only [fld_rows, isi_sh, eqvD_rows (okR_srt ha) (okR_srt hb) .tup (.inl rfl), MV])
theorem self_sh (C : Cs) (a : List Row) : selfC C.Shift (shD C a) = true := decide_eq_true rfl
theorem opeq_sh (C : Cs) {a b : List Row} (ha : okR a) (hb : okR b) : orD eqD (eqC C.Shift [] (mShift_eq C)) (shD C a) (shD C b) = some (.bl (eqR (srt a) (srt b))) := by
  have e0 : eqD (shD C a) (shD C b) = none := rfl
  have e1 : eqC C.Shift [] (mShift_eq C) (shD C a) (shD C b) = mShift_eq C [shD C a, shD C b] := by
    unfold eqC
    rw [if_pos (self_sh C a)]
    show (if C.Shift = C.Shift ∨ _ then _ else _) = _
    rw [if_pos (.inl rfl)]; rfl
  unfold orD
  rw [e0, e1, eq_sh C ha hb]
end K02

namespace K02
open PySem L2 PD
theorem mk_sh (C : Cs) {e : Ev → Option D} {ρ : Ev} {rows : List Row} (he : e ρ = some (.lst (rows.map rowD))) (hl : rows.length ≤ 1000) : frz (cO (aCons e aNil) (lenO? 1 (mShift_init C))) ρ = some (shD C rows) := by
  (simp (disch := first | assumption | omega) only [he, init_lst C rows hl, MV])
  rfl
/-! ~ -/
def backF (r : Row) : Row := ⟨r.l, r.a + r.c, r.b + r.c, -r.c⟩
theorem inv_eq (C : Cs) (rows : List Row) (hl : rows.length ≤ 1000) : mShift_invert C [shD C rows] = some (shD C ((srt rows).map backF)) := by
  unfold mShift_invert
  refine runP_eq ?_
  refine Rn.ret (ρ := [.dat (shD C rows), .unk, .unk, .unk, .unk]) (d := shD C ((srt rows).map backF)) ?_ ⟨_, rfl, rfl⟩
  refine mk_sh C (rows := (srt rows).map backF) ?_ (by rw [List.length_map, srt_len]; exact hl)
  rw [List.map_map]
  refine lc_map (φ := rowD) _ rfl (by (simp (disch := first | assumption | omega) only [fld_rows, MV])) (by rw [srt_len]; omega) fun r _ => ⟨_, rfl, ?_⟩
  (simp (disch := first | assumption | omega) only [rowD, backF, Function.comp, MV])
/-! * -/
def mulF (t : Int) (r : Row) : Row := ⟨r.l, r.a - min 0 ((t - 1) * r.c), r.b - max 0 ((t - 1) * r.c), t * r.c⟩
def okM (t : Int) (rows : List Row) : Prop := (0 ≤ t ∧ t < 1000) ∨ ∀ r ∈ rows, -1000000000000000000 < r.c ∧ r.c < 1000000000000000000
theorem mul_loop {x0 : O} {t : Int} {rows : List Row} {fi : Ev → Option (List D)} {g : Ev → Option Fl} {Q : Fl → Prop} (hl : rows.length ≤ 1000) (hm : okM t rows) (hf : fi [x0, .dat (.int t), .dats [], .unk, .unk, .unk, .unk, .unk] = some (rows.map rowD))
    (k : ∀ y3 y4 y5 y6 y7, Rn g [x0, .dat (.int t), .dats ((rows.map (mulF t)).map rowD), y3, y4, y5, y6, y7] Q) :
    Rn (sq (forS fi (gT 4 (gsC (gN 3) (gsC (gN 4) (gsC (gN 5) (gsC (gN 6) gsN))))) (sq (stV 7 (b2 (b2 (gv 1) (kI 1) subI) (gv 6) mulI))
    (app 2 (mkTup (aCons (gv 3) (aCons (b2 (gv 4) (cB (aCons (kI 0) (aCons (gv 7) aNil)) min2) subI) (aCons (b2 (gv 5) (cB (aCons (kI 0) (aCons (gv 7) aNil)) max2) subI) (aCons (b2 (gv 1) (gv 6) mulI) aNil)))))))) g) [x0, .dat (.int t), .dats [], .unk, .unk, .unk, .unk, .unk] Q := by
  refine Rn.sqfor hf (fun i ρ => ∃ y3 y4 y5 y6 y7, ρ = [x0, .dat (.int t), .dats (((rows.take i).map (mulF t)).map rowD), y3, y4, y5, y6, y7]) ⟨_, _, _, _, _, rfl⟩ (fun i hi ρ hI => ?_) (fun ρ hI => ?_)
  · obtain ⟨y3, y4, y5, y6, y7, rfl⟩ := hI
    generalize hr : rows[i] = r
    have et : ((rows.take (i + 1)).map (mulF t)).map rowD = ((rows.take i).map (mulF t)).map rowD ++ [rowD (mulF t r)] := by
      rw [List.take_succ, List.getElem?_eq_getElem hi, hr]
      simp
    refine ⟨_, rfl, ?_⟩
    show Rn _ [x0, .dat (.int t), .dats (((rows.take i).map (mulF t)).map rowD), .dat (.str r.l), .dat (.int r.a), .dat (.int r.b), .dat (.int r.c), y7] _
    have hm' : (0 ≤ t ∧ t < 1000) ∨ (-1000000000000000000 < r.c ∧ r.c < 1000000000000000000) := hm.imp id fun h => h r (hr ▸ List.getElem_mem hi)
    refine Rn.sqst (d := .int ((t - 1) * r.c)) ?_ ?_
    · rcases hm' with h | h <;> (simp (disch := first | assumption | omega) only [MV])
    show Rn _ [x0, .dat (.int t), .dats (((rows.take i).map (mulF t)).map rowD), .dat (.str r.l), .dat (.int r.a), .dat (.int r.b), .dat (.int r.c), .dat (.int ((t - 1) * r.c))] _
    refine Rn.appD (d := rowD (mulF t r)) ?_ rfl (by simp; omega) ⟨_, _, _, _, _, by rw [et]; rfl⟩
    rcases hm' with h | h <;> (simp (disch := first | assumption | omega) only [rowD, mulF, MV])
  · obtain ⟨y3, y4, y5, y6, y7, rfl⟩ := hI
    rw [List.take_length]
    exact k _ _ _ _ _
theorem mul_eq (C : Cs) (rows : List Row) (t : Int) (hl : rows.length ≤ 1000) (hm : okM t rows) : mShift_mul C [shD C rows, .int t] = some (shD C (if t = 0 then [] else (srt rows).map (mulF t))) := by
  unfold mShift_mul
  refine runP_eq ?_
  refine Rn.sqif (ρ := [.dat (shD C rows), .dat (.int t), .unk, .unk, .unk, .unk, .unk, .unk]) (p := t = 0) (by (simp (disch := first | assumption | omega) only [MV])) (fun h => ?_) fun h => Rn.sqskip ?_
  · exact Rn.sqret (d := shD C []) (mk_sh C (rows := []) (by (simp (disch := first | assumption | omega) only [MV]) <;> rfl) (by decide)) ⟨_, rfl, by rw [if_pos h]; rfl⟩
  · refine Rn.sqstO (o := .dats []) (by (simp (disch := first | assumption | omega) only [MV])) ?_
    refine mul_loop (rows := srt rows) (by rw [srt_len]; exact hl) (hm.imp id fun h r hr => h r ((srt_perm rows).mem_iff.mp hr)) (by (simp (disch := first | assumption | omega) only [fld_rows, MV])) fun y3 y4 y5 y6 y7 => ?_
    refine Rn.fzD rfl (Rn.ret (mk_sh C (rows := (srt rows).map (mulF t)) rfl (by rw [List.length_map, srt_len]; exact hl)) ⟨_, rfl, ?_⟩)
    rw [if_neg h]; rfl
theorem opmul (C : Cs) (rows : List Row) (t : Int) : orD mulI (opCI C.Shift (mShift_mul C)) (shD C rows) (.int t) = mShift_mul C [shD C rows, .int t] := by
  have e0 : mulI (shD C rows) (.int t) = none := rfl
  have e1 : opCI C.Shift (mShift_mul C) (shD C rows) (.int t) = mShift_mul C [shD C rows, .int t] := by
    show (if selfC C.Shift (shD C rows) = true then _ else _) = _
    rw [if_pos (self_sh C rows)]
  unfold orD
  rw [e0, e1]
theorem opinv (C : Cs) (rows : List Row) : inC C.Shift (mShift_invert C) (shD C rows) = mShift_invert C [shD C rows] := by
  unfold inC
  rw [if_pos (self_sh C rows)]
end K02

namespace K02
open PySem L2 PD
def both (r q : Row) : Row := ⟨r.l, max r.a (q.a - r.c), min r.b (q.b - r.c), r.c + q.c⟩
def plusF (b : List Row) (r : Row) : Row := match b.filter fun q => decide (q.l = r.l) with
  | [] => r
  | q :: _ => both r q
def plusR (a b : List Row) : List Row := a.map (plusF b) ++ b.filter fun q => decide (q.l ∉ a.map (·.l))
theorem plus_len (a b : List Row) : (plusR a b).length ≤ a.length + b.length := by
  unfold plusR
  rw [List.length_append, List.length_map]
  have := List.length_filter_le (fun q : Row => decide (q.l ∉ a.map (·.l))) b
  omega
/-! row_of_both -/
theorem both_eq (C : Cs) (r q : Row) : mrow_of_both C [rowD r, rowD q] = some (rowD (both r q)) := by
  unfold mrow_of_both
  refine runP_eq ?_
  refine Rn.sqasg (ρ := [.dat (rowD r), .dat (rowD q), .unk, .unk, .unk, .unk]) (d := rowD r) (by (simp (disch := first | assumption | omega) only [MV])) rfl ?_
  refine Rn.ret (d := rowD (both r q)) ?_ ⟨_, rfl, rfl⟩
  show mkTup _ [.dat (rowD r), .dat (rowD q), .dat (.str r.l), .dat (.int r.a), .dat (.int r.b), .dat (.int r.c)] = _
  (simp (disch := first | assumption | omega) only [rowD, both, MV])
/-! the dict of rows -/
def dicR (X : List Row) : O := .dic (X.map fun r => .inr r.l) (X.map fun r => .dat (rowD r))
theorem any_key (l : Str) (X : List Row) : ((X.map fun r => (.inr r.l : Key)).any fun k' => decide (k' = .inr l)) = decide (l ∈ X.map (·.l)) := by
  rw [Bool.eq_iff_iff, List.any_eq_true, decide_eq_true_eq]
  constructor
  · rintro ⟨k, hk, h⟩
    obtain ⟨r, hr, rfl⟩ := List.mem_map.mp hk
    have := of_decide_eq_true h
    cases this
    exact List.mem_map_of_mem hr
  · intro h
    obtain ⟨r, hr, rfl⟩ := List.mem_map.mp h
    exact ⟨_, List.mem_map_of_mem hr, decide_eq_true rfl⟩
theorem put_new {X : List Row} {z : Row} (h : z.l ∉ X.map (·.l)) : putKD (.inr z.l) (rowD z) (X.map fun r => .inr r.l) (X.map fun r => .dat (rowD r)) = ((X ++ [z]).map (fun r => .inr r.l), (X ++ [z]).map fun r => .dat (rowD r)) := by
  unfold putKD
  rw [any_key, decide_eq_false h, if_neg (by decide)]
  simp
theorem put_old {X : List Row} {z : Row} (h : z.l ∈ X.map (·.l)) : putKD (.inr z.l) (rowD z) (X.map fun r => .inr r.l) (X.map fun r => .dat (rowD r)) = ((X.map fun r => if r.l = z.l then z else r).map (fun r => .inr r.l), (X.map fun r => if r.l = z.l then z else r).map fun r => .dat (rowD r)) := by
  unfold putKD
  rw [any_key, decide_eq_true h, if_pos rfl]
  congr 1
  · rw [List.map_map]
    apply List.map_congr_left
    intro r _
    simp only [Function.comp]
    split
    · rename_i e; rw [e]
    · rfl
  · rw [List.map_map]
    clear h
    induction X with
    | nil => rfl
    | cons r X ih =>
      simp only [List.map_cons, List.zipWith_cons_cons, ih, Function.comp]
      congr 1
      by_cases e : r.l = z.l
      · rw [if_pos (by rw [e]), if_pos e]
      · rw [if_neg (fun q => e (Sum.inr.inj q)), if_neg e]
theorem look_row {X : List Row} {r : Row} (hn : (X.map (·.l)).Nodup) (h : r ∈ X) : olook (.inr r.l) (X.map fun r => .inr r.l) (X.map fun r => .dat (rowD r)) = some (.dat (rowD r)) := by
  induction X with
  | nil => cases h
  | cons q X ih =>
    rw [List.map_cons, List.nodup_cons] at hn
    simp only [List.map_cons, olook]
    rcases List.mem_cons.mp h with rfl | h
    · rw [if_pos rfl]
    · rw [if_neg (fun z => hn.1 (by
        have : q.l = r.l := Sum.inr.inj z
        rw [this]; exact List.mem_map_of_mem h)), ih hn.2 h]
theorem din_row (l : Str) (X : List Row) : dinD (.str l) (.dic (X.map fun r => .inr r.l) (X.map rowD)) = some (.bl (decide (l ∈ X.map (·.l)))) := by
  show (if (X.map rowD).length = (X.map fun r => (.inr r.l : Key)).length then _ else _) = _
  rw [if_pos (by simp)]
  simp only [keyD, Option.map_some]
  congr 2
  rw [Bool.eq_iff_iff, decide_eq_true_eq]
  induction X with
  | nil => simp [dlook]
  | cons q X ih =>
    simp only [List.map_cons, dlook, List.mem_cons]
    by_cases e : q.l = l
    · rw [if_pos (by rw [e])]; simp [e]
    · rw [if_neg (fun z => e (Sum.inr.inj z)), ih]
      constructor
      · exact .inr
      · rintro (h | h)
        · exact absurd h.symm e
        · exact h
end K02

namespace K02
open PySem L2 PD
abbrev labs (X : List Row) : List Str := X.map (·.l)
theorem plusF_l (b : List Row) (r : Row) : (plusF b r).l = r.l := by
  unfold plusF
  split <;> rfl
theorem plusF_no {b : List Row} {r : Row} (h : r.l ∉ labs b) : plusF b r = r := by
  unfold plusF
  rw [show b.filter (fun q => decide (q.l = r.l)) = [] from List.filter_eq_nil_iff.mpr fun q hq e => h (by rw [← of_decide_eq_true e]; exact List.mem_map_of_mem hq)]
theorem plusF_snoc {p : List Row} {q r : Row} (h : q.l ∉ labs p) : plusF (p ++ [q]) r = if r.l = q.l then both r q else plusF p r := by
  unfold plusF
  rw [List.filter_append]
  by_cases e : r.l = q.l
  · rw [if_pos e, show p.filter (fun x => decide (x.l = r.l)) = [] from List.filter_eq_nil_iff.mpr fun x hx z => h (by rw [← e, ← of_decide_eq_true z]; exact List.mem_map_of_mem hx)]
    simp [e]
  · rw [if_neg e]
    rw [show [q].filter (fun x => decide (x.l = r.l)) = [] from List.filter_eq_nil_iff.mpr fun x hx z => e (by rw [List.mem_singleton.mp hx] at z; exact (of_decide_eq_true z).symm), List.append_nil]
theorem labs_plus (a p : List Row) : labs (plusR a p) = labs a ++ labs (p.filter fun q => decide (q.l ∉ a.map (·.l))) := by
  unfold plusR labs
  rw [List.map_append, List.map_map]
  congr 1
  apply List.map_congr_left
  intro r _
  exact plusF_l p r
theorem labs_mem {a p : List Row} {l : Str} (h : l ∉ labs p) : l ∈ labs (plusR a p) ↔ l ∈ labs a := by
  rw [labs_plus, List.mem_append]
  constructor
  · rintro (h1 | h1)
    · exact h1
    · exfalso
      obtain ⟨q, hq, rfl⟩ := List.mem_map.mp h1
      exact h (List.mem_map_of_mem (List.mem_filter.mp hq).1)
  · exact .inl
theorem labs_nodup {a p : List Row} (ha : (labs a).Nodup) (hp : (labs p).Nodup) : (labs (plusR a p)).Nodup := by
  rw [labs_plus, List.nodup_append]
  refine ⟨ha, hp.sublist ((List.filter_sublist).map _), ?_⟩
  rintro x hx y hy rfl
  obtain ⟨q, hq, e⟩ := List.mem_map.mp hy
  have := of_decide_eq_true (List.mem_filter.mp hq).2
  exact this (e ▸ hx)
theorem plus_new {a p : List Row} {q : Row} (h : q.l ∉ labs p) (ha : q.l ∉ labs a) : plusR a (p ++ [q]) = plusR a p ++ [q] := by
  unfold plusR
  rw [List.filter_append, ← List.append_assoc]
  congr 1
  · congr 1
    apply List.map_congr_left
    intro r hr
    rw [plusF_snoc h, if_neg fun e : r.l = q.l => ha (e ▸ List.mem_map_of_mem hr)]
  · simp only [List.filter_cons, List.filter_nil]
    rw [if_pos (decide_eq_true ha)]
theorem nodup_lab {a : List Row} (hn : (labs a).Nodup) {x r : Row} (hx : x ∈ a) (hr : r ∈ a) (e : x.l = r.l) : x = r := by
  induction a with
  | nil => cases hx
  | cons y a ih =>
    rw [labs, List.map_cons, List.nodup_cons] at hn
    rcases List.mem_cons.mp hx with h1 | h1
    · rcases List.mem_cons.mp hr with h2 | h2
      · rw [h1, h2]
      · exact absurd (by rw [← h1, e]; exact List.mem_map_of_mem h2) hn.1
    · rcases List.mem_cons.mp hr with h2 | h2
      · exact absurd (by rw [← h2, ← e]; exact List.mem_map_of_mem h1) hn.1
      · exact ih hn.2 h1 h2
theorem plus_old {a p : List Row} {q r : Row} (h : q.l ∉ labs p) (hn : (labs a).Nodup) (hr : r ∈ a) (e : r.l = q.l) : plusR a (p ++ [q]) = (plusR a p).map fun x => if x.l = q.l then both r q else x := by
  have ha : q.l ∈ labs a := e ▸ List.mem_map_of_mem hr
  unfold plusR
  rw [List.filter_append, List.map_append, List.map_map]
  congr 1
  · apply List.map_congr_left
    intro x hx
    simp only [Function.comp, plusF_l]
    rw [plusF_snoc h]
    by_cases z : x.l = q.l
    · rw [if_pos z, if_pos z, nodup_lab hn hx hr (z.trans e.symm)]
    · rw [if_neg z, if_neg z]
  · rw [show [q].filter (fun q => decide (q.l ∉ a.map (·.l))) = [] by simp; exact List.mem_map.mp ha, List.append_nil]
    symm
    conv => rhs; rw [← List.map_id (List.filter _ p)]
    apply List.map_congr_left
    intro x hx
    rw [if_neg fun z : x.l = q.l => of_decide_eq_true (List.mem_filter.mp hx).2 (z ▸ ha)]
    rfl
theorem Rn.dputN {fk fv : Ev → Option D} {ρ : Ev} {Q : Fl → Prop} {X : List Row} {z : Row} (hk : fk ρ = some (.str z.l)) (hv : fv ρ = some (rowD z)) (ho : ρ[2]? = some (dicR X)) (hl : X.length < 10000) (hn : z.l ∉ labs X) (k : Q (.nx (ρ.set 2 (dicR (X ++ [z]))))) : Rn (dput 2 fk fv) ρ Q := by
  refine ⟨_, ?_, k⟩
  unfold dput
  simp only [hk, hv, ho, Option.bind_some, keyD, dicR]
  rw [if_pos (by rw [List.length_map]; exact Nat.lt_of_lt_of_le hl (by decide)), put_new hn]
theorem Rn.dputO {fk fv : Ev → Option D} {ρ : Ev} {Q : Fl → Prop} {X : List Row} {z : Row} (hk : fk ρ = some (.str z.l)) (hv : fv ρ = some (rowD z)) (ho : ρ[2]? = some (dicR X)) (hl : X.length < 10000) (hn : z.l ∈ labs X) (k : Q (.nx (ρ.set 2 (dicR (X.map fun r => if r.l = z.l then z else r))))) : Rn (dput 2 fk fv) ρ Q := by
  refine ⟨_, ?_, k⟩
  unfold dput
  simp only [hk, hv, ho, Option.bind_some, keyD, dicR]
  rw [if_pos (by rw [List.length_map]; exact Nat.lt_of_lt_of_le hl (by decide)), put_old hn]
theorem toDs_rows' (X : List Row) : O.toDs (X.map fun r => .dat (rowD r)) = some (X.map rowD) := toDs_rows X
theorem dicR_toD (X : List Row) : (dicR X).toD = some (.dic (X.map fun r => .inr r.l) (X.map rowD)) := by
  unfold dicR O.toD
  rw [toDs_rows']; rfl
theorem dicR_vw (X : List Row) : O.vw (dicR X) = .dat (.dic (X.map fun r => .inr r.l) (X.map rowD)) := by
  unfold O.vw
  rw [dicR_toD]
theorem nodup_snoc {X : List Row} {i : Nat} (hn : (labs X).Nodup) (hi : i < X.length) : X[i].l ∉ labs (X.take i) := by
  intro h
  obtain ⟨q, hq, e⟩ := List.mem_map.mp h
  obtain ⟨j, hj, rfl⟩ := List.getElem_of_mem hq
  rw [List.length_take] at hj
  rw [List.getElem_take] at e
  have := List.pairwise_iff_getElem.mp hn j i (by rw [List.length_map]; omega) (by rw [List.length_map]; exact hi) (by omega)
  simp only [List.getElem_map] at this
  exact this e
theorem take_snoc {X : List Row} {i : Nat} (hi : i < X.length) : X.take (i + 1) = X.take i ++ [X[i]] := by
  rw [List.take_succ, List.getElem?_eq_getElem hi]; rfl
theorem add_eq (C : Cs) (a b : List Row) (ha : a.length ≤ 500) (hb : b.length ≤ 500) (na : (labs a).Nodup) (nb : (labs b).Nodup) : mShift_add C [shD C a, shD C b] = some (shD C (plusR (srt a) (srt b))) := by
  have la : (srt a).length ≤ 500 := by rw [srt_len]; exact ha
  have lb : (srt b).length ≤ 500 := by rw [srt_len]; exact hb
  have na' : (labs (srt a)).Nodup := ((srt_perm a).map _).nodup_iff.mpr na
  have nb' : (labs (srt b)).Nodup := ((srt_perm b).map _).nodup_iff.mpr nb
  have fa := fld_rows C a
  have fb := fld_rows C b
  generalize srt a = a' at la na' fa
  generalize srt b = b' at lb nb' fb
  generalize hsa : shD C a = sa at fa
  generalize hsb : shD C b = sb at fb
  unfold mShift_add
  refine runP_eq ?_
  refine Rn.sqstO (ρ := [.dat sa, .dat sb, .unk, .unk]) (o := dicR []) rfl ?_
  refine Rn.sqfor (xs := a') (φ := rowD) (by show iOf _ [.dat sa, .dat sb, dicR [], .unk] = _; (simp (disch := first | assumption | omega) only [fa, MV])) (fun i ρ => ∃ y, ρ = [.dat sa, .dat sb, dicR (a'.take i), y]) ⟨_, rfl⟩ (fun i hi ρ hI => ?_) (fun ρ hI => ?_)
  · obtain ⟨y, rfl⟩ := hI
    refine ⟨_, rfl, ?_⟩
    refine Rn.dputN (z := a'[i]) (X := a'.take i) ?_ rfl rfl (by rw [List.length_take]; omega) (nodup_snoc na' hi) ⟨_, by rw [take_snoc hi]; rfl⟩
    show b2 _ _ _ [.dat sa, .dat sb, dicR (a'.take i), .dat (rowD a'[i])] = _
    (simp (disch := first | assumption | omega) only [rowD, MV])
  obtain ⟨y, rfl⟩ := hI
  rw [List.take_length]
  have h0 : dicR a' = dicR (plusR a' (b'.take 0)) := by
    congr 1
    unfold plusR
    simp only [List.take_zero, List.filter_nil, List.append_nil]
    conv => lhs; rw [← List.map_id a']
    rfl
  rw [h0]
  refine Rn.sqfor (xs := b') (φ := rowD) (by show iOf _ [.dat sa, .dat sb, dicR (plusR a' (b'.take 0)), y] = _; (simp (disch := first | assumption | omega) only [fb, MV])) (fun i ρ => ∃ y, ρ = [.dat sa, .dat sb, dicR (plusR a' (b'.take i)), y]) ⟨_, rfl⟩ (fun i hi ρ hI => ?_) (fun ρ hI => ?_)
  · obtain ⟨y, rfl⟩ := hI
    refine ⟨_, rfl, ?_⟩
    have hq := nodup_snoc nb' hi
    rw [take_snoc hi]
    generalize b'[i] = q at hq
    have hlen : (plusR a' (b'.take i)).length < 10000 := by
      have := plus_len a' (b'.take i)
      rw [List.length_take] at this
      omega
    have hmem := labs_mem (a := a') hq
    show Rn _ [.dat sa, .dat sb, dicR (plusR a' (b'.take i)), .dat (rowD q)] _
    have ev : [O.dat sa, .dat sb, dicR (plusR a' (b'.take i)), .dat (rowD q)].map O.vw = [.dat sa, .dat sb, .dat (.dic ((plusR a' (b'.take i)).map fun r => .inr r.l) ((plusR a' (b'.take i)).map rowD)), .dat (rowD q)] := by
      simp only [List.map_cons, List.map_nil, dicR_vw]; rfl
    have ek : b2 (gv 3) (kI 0) ixD [.dat sa, .dat sb, dicR (plusR a' (b'.take i)), .dat (rowD q)] = some (.str q.l) := by (simp (disch := first | assumption | omega) only [rowD, MV])
    refine Rn.iteP (p := q.l ∈ labs a') ?_ (fun h => ?_) fun h => ?_
    · unfold vwT
      rw [ev]
      have := din_row q.l (plusR a' (b'.take i))
      have hm2 : decide (q.l ∈ (plusR a' (b'.take i)).map (·.l)) = decide (q.l ∈ labs a') := decide_eq_decide.mpr hmem
      rw [hm2] at this
      (simp (disch := first | assumption | omega) only [rowD, this, MV])
    · obtain ⟨r, hr, e⟩ := List.mem_map.mp h
      have hp : r.l ∉ labs (b'.take i) := e ▸ hq
      have hrm : r ∈ plusR a' (b'.take i) := List.mem_append_left _ (by
        have := List.mem_map_of_mem (f := plusF (b'.take i)) hr
        rw [plusF_no hp] at this
        exact this)
      have hlk := look_row (labs_nodup na' (nb'.sublist ((List.take_sublist _ _).map _))) hrm
      rw [e] at hlk
      refine Rn.dputO (z := both r q) (X := plusR a' (b'.take i)) (by show _ = some (D.str r.l); rw [e]; exact ek) ?_ rfl hlen (by show r.l ∈ _; rw [e]; exact hmem.mpr h) ⟨_, by
        rw [plus_old hq na' hr e]
        show _ = _
        have : (both r q).l = q.l := e
        rw [this]; rfl⟩
      have eg : dgetO 2 (b2 (gv 3) (kI 0) ixD) [.dat sa, .dat sb, dicR (plusR a' (b'.take i)), .dat (rowD q)] = some (rowD r) := by
        unfold dgetO
        rw [ek]
        show (match olook (.inr q.l) _ _ with | some (.dat d) => some d | _ => none) = _
        rw [hlk]
      (simp (disch := first | assumption | omega) only [eg, both_eq, MV])
    · exact Rn.dputN (z := q) (X := plusR a' (b'.take i)) ek rfl rfl hlen (fun z => h (hmem.mp z)) ⟨_, by rw [plus_new hq h]; rfl⟩
  obtain ⟨y, rfl⟩ := hI
  rw [List.take_length]
  have hlen := plus_len a' b'
  refine Rn.fz (o := dicR (plusR a' b')) rfl (dicR_toD _) ?_
  refine Rn.ret (d := shD C (plusR a' b')) (mk_sh C ?_ (by omega)) ⟨_, rfl, rfl⟩
  show frz (valsO (gv 2)) [.dat sa, .dat sb, .dat (.dic ((plusR a' b').map fun r => .inr r.l) ((plusR a' b').map rowD)), y] = _
  have : valsO (gv 2) [.dat sa, .dat sb, .dat (.dic ((plusR a' b').map fun r => .inr r.l) ((plusR a' b').map rowD)), y] = some (.dats ((plusR a' b').map rowD)) := rfl
  (simp (disch := first | assumption | omega) only [this, MV])
theorem opadd (C : Cs) (a b : List Row) : orD addA (opC C.Shift (mShift_add C)) (shD C a) (shD C b) = mShift_add C [shD C a, shD C b] := by
  have e0 : addA (shD C a) (shD C b) = none := rfl
  have e1 : opC C.Shift (mShift_add C) (shD C a) (shD C b) = mShift_add C [shD C a, shD C b] := by
    unfold opC
    rw [if_pos ⟨self_sh C a, self_sh C b⟩]
    cases mShift_add C [shD C a, shD C b] <;> rfl
  conv => lhs; unfold orD
  rw [e0, e1]
theorem fil_one {b : List Row} (hn : (labs b).Nodup) (l : Str) : (b.filter fun q => decide (q.l = l)).length ≤ 1 := by
  induction b with
  | nil => exact Nat.zero_le _
  | cons q b ih =>
    rw [labs, List.map_cons, List.nodup_cons] at hn
    rw [List.filter_cons]
    split
    · rename_i h
      have e := of_decide_eq_true h
      rw [show b.filter (fun q => decide (q.l = l)) = [] from List.filter_eq_nil_iff.mpr fun x hx z => hn.1 (by rw [e, ← of_decide_eq_true z]; exact List.mem_map_of_mem hx)]
      exact Nat.le_refl _
    · exact ih hn.2
theorem plusF_perm {b b' : List Row} (hp : b.Perm b') (hn : (labs b).Nodup) (r : Row) : plusF b r = plusF b' r := by
  unfold plusF
  have h := hp.filter fun q => decide (q.l = r.l)
  have h1 := fil_one hn r.l
  have : b.filter (fun q => decide (q.l = r.l)) = b'.filter fun q => decide (q.l = r.l) := by
    cases e : b.filter fun q => decide (q.l = r.l) with
    | nil => rw [e] at h; exact (List.nil_perm.mp h).symm
    | cons q t =>
      rw [e] at h h1
      have : t = [] := List.length_eq_zero_iff.mp (by simpa using h1)
      subst this
      exact List.singleton_perm.mp h
  rw [this]
theorem plusR_perm {a a' b b' : List Row} (ha : a.Perm a') (hb : b.Perm b') (hn : (labs b).Nodup) : (plusR a b).Perm (plusR a' b') := by
  unfold plusR
  refine List.Perm.append ?_ ?_
  · rw [show a.map (plusF b) = a.map (plusF b') from List.map_congr_left fun r _ => plusF_perm hb hn r]
    exact ha.map _
  · have : (fun q : Row => decide (q.l ∉ a.map (·.l))) = fun q => decide (q.l ∉ a'.map (·.l)) := by
      funext q
      rw [decide_eq_decide]
      exact not_congr (ha.map _).mem_iff
    rw [this]
    exact hb.filter _
end K02

namespace K02
open PySem L2 PD
/-! ### rows as a partial map of their labels -/
theorem row_ext {p q : Row} (h1 : p.l = q.l) (h2 : p.a = q.a) (h3 : p.b = q.b) (h4 : p.c = q.c) : p = q := by
  cases p; cases q; simp only at h1 h2 h3 h4; subst h1 h2 h3 h4; rfl
theorem nd_lab : ∀ {a : List Row}, (labs a).Nodup → a.Nodup
  | [], _ => List.nodup_nil
  | x :: a, h => by
    have h' : (x.l :: labs a).Nodup := h
    rw [List.nodup_cons] at h'
    exact List.nodup_cons.mpr ⟨fun z => h'.1 (List.mem_map_of_mem z), nd_lab h'.2⟩
/-- the row at a label -/
def at_ (a : List Row) (l : Str) : Option Row := a.find? fun r => decide (r.l = l)
theorem at_l {a : List Row} {l : Str} {r : Row} (h : at_ a l = some r) : r.l = l := of_decide_eq_true (List.find?_some (p := fun r : Row => decide (r.l = l)) h)
theorem at_in {a : List Row} {l : Str} {r : Row} (h : at_ a l = some r) : r ∈ a := List.mem_of_find?_eq_some h
theorem at_mem {a : List Row} (hn : (labs a).Nodup) {r : Row} (hr : r ∈ a) : at_ a r.l = some r := by
  cases e : at_ a r.l with
  | none =>
    have := List.find?_eq_none.mp e r hr
    simp at this
  | some x => rw [nodup_lab hn (at_in e) hr (at_l e)]
theorem at_none {a : List Row} {l : Str} : at_ a l = none ↔ l ∉ labs a := by
  unfold at_ labs
  rw [List.find?_eq_none]
  constructor
  · intro h z
    obtain ⟨r, hr, e⟩ := List.mem_map.mp z
    have := h r hr
    simp [e] at this
  · intro h r hr
    simp only [decide_eq_true_eq]
    exact fun e => h (e ▸ List.mem_map_of_mem hr)
theorem perm_of {a b : List Row} (ha : (labs a).Nodup) (hb : (labs b).Nodup) (h : ∀ l, at_ a l = at_ b l) : a.Perm b := by
  refine (List.perm_ext_iff_of_nodup (nd_lab ha) (nd_lab hb)).mpr fun r => ⟨fun hr => ?_, fun hr => ?_⟩
  · have := at_mem ha hr
    rw [h] at this
    exact at_in this
  · have := at_mem hb hr
    rw [← h] at this
    exact at_in this
theorem at_map {f : Row → Row} (hf : ∀ r, (f r).l = r.l) (a : List Row) (l : Str) : at_ (a.map f) l = (at_ a l).map f := by
  unfold at_
  rw [List.find?_map]
  congr 1
  congr 1
  funext r
  show decide ((f r).l = l) = _
  rw [hf]
theorem plusF_at (b : List Row) (r : Row) : plusF b r = match at_ b r.l with | none => r | some q => both r q := by
  have key : b.find? (fun q => decide (q.l = r.l)) = (b.filter fun q => decide (q.l = r.l)).head? := by
    induction b with
    | nil => rfl
    | cons x b ih =>
      rw [List.find?_cons, List.filter_cons]
      cases decide (x.l = r.l) with
      | true => rfl
      | false => exact ih
  unfold plusF at_
  rw [key]
  cases b.filter fun q => decide (q.l = r.l) <;> rfl
def comb : Option Row → Option Row → Option Row
  | none, y => y
  | some r, none => some r
  | some r, some q => some (both r q)
theorem at_plus (a b : List Row) (l : Str) : at_ (plusR a b) l = comb (at_ a l) (at_ b l) := by
  have e1 : at_ (plusR a b) l = ((at_ (a.map (plusF b)) l).or (at_ (b.filter fun q => decide (q.l ∉ a.map (·.l))) l)) := by
    unfold at_ plusR
    rw [List.find?_append]
  rw [e1, at_map (plusF_l b)]
  cases e : at_ a l with
  | none =>
    show at_ (b.filter fun q => decide (q.l ∉ a.map (·.l))) l = at_ b l
    unfold at_
    rw [List.find?_filter]
    congr 1
    funext q
    by_cases hq : q.l = l
    · have : q.l ∉ a.map (·.l) := by rw [hq]; exact at_none.mp e
      simp [hq, this] <;> (intro x hx z; exact this (List.mem_map.mpr ⟨x, hx, z.trans hq.symm⟩))
    · simp [hq]
  | some r =>
    show some (plusF b r) = _
    rw [plusF_at, at_l e]
    cases at_ b l <;> rfl
theorem both_assoc (r q s : Row) : both (both r q) s = both r (both q s) := by
  unfold both
  refine row_ext rfl ?_ ?_ ?_ <;> simp only <;> omega
theorem comb_assoc (x y z : Option Row) : comb (comb x y) z = comb x (comb y z) := by
  cases x <;> cases y <;> cases z <;> simp [comb, both_assoc]
theorem plus_assoc {a b c : List Row} (ha : (labs a).Nodup) (hb : (labs b).Nodup) (hc : (labs c).Nodup) : (plusR (plusR a b) c).Perm (plusR a (plusR b c)) :=
  perm_of (labs_nodup (labs_nodup ha hb) hc) (labs_nodup ha (labs_nodup hb hc)) fun l => by rw [at_plus, at_plus, at_plus, at_plus, comb_assoc]
theorem labs_mapF {f : Row → Row} (hf : ∀ r, (f r).l = r.l) (a : List Row) : labs (a.map f) = labs a := by
  unfold labs
  rw [List.map_map]
  exact List.map_congr_left fun r _ => hf r
theorem back_both (r q : Row) (e : r.l = q.l) : backF (both r q) = both (backF q) (backF r) := by
  unfold backF both
  refine row_ext e ?_ ?_ ?_ <;> simp only <;> omega
theorem back_plus {a b : List Row} (ha : (labs a).Nodup) (hb : (labs b).Nodup) : ((plusR a b).map backF).Perm (plusR (b.map backF) (a.map backF)) := by
  refine perm_of (by rw [labs_mapF (f := backF) fun _ => rfl]; exact labs_nodup ha hb) (labs_nodup (by rw [labs_mapF (f := backF) fun _ => rfl]; exact hb) (by rw [labs_mapF (f := backF) fun _ => rfl]; exact ha)) fun l => ?_
  rw [at_map (f := backF) fun _ => rfl, at_plus, at_plus, at_map (f := backF) fun _ => rfl, at_map (f := backF) fun _ => rfl]
  cases e1 : at_ a l with
  | none => cases at_ b l <;> rfl
  | some r =>
    cases e2 : at_ b l with
    | none => rfl
    | some q =>
      show some (backF (both r q)) = some (both (backF q) (backF r))
      rw [back_both r q ((at_l e1).trans (at_l e2).symm)]
theorem back_back (a : List Row) : (a.map backF).map backF = a := by
  rw [List.map_map]
  refine (List.map_congr_left fun r _ => ?_).trans (List.map_id _)
  show backF (backF r) = r
  unfold backF
  refine row_ext rfl ?_ ?_ ?_ <;> simp only <;> omega
/-! many times -/
def mulS (t : Int) (a : List Row) : List Row := if t = 0 then [] else a.map (mulF t)
theorem labs_mul {t : Int} {a : List Row} (h : (labs a).Nodup) : (labs (mulS t a)).Nodup := by
  unfold mulS
  split
  · exact List.nodup_nil
  · rw [labs_mapF (f := mulF t) fun _ => rfl]; exact h
theorem mulF_both {m n : Int} (hm : 0 < m) (hn : 0 < n) (r : Row) : mulF (m + n) r = both (mulF m r) (mulF n r) := by
  unfold mulF both
  have e1 : (m + n - 1) * r.c = m * r.c + n * r.c - r.c := by rw [Int.sub_mul, Int.add_mul, Int.one_mul]
  have e2 : (m - 1) * r.c = m * r.c - r.c := by rw [Int.sub_mul, Int.one_mul]
  have e3 : (n - 1) * r.c = n * r.c - r.c := by rw [Int.sub_mul, Int.one_mul]
  have e4 : (m + n) * r.c = m * r.c + n * r.c := Int.add_mul _ _ _
  have key : (0 ≤ r.c ∧ r.c ≤ m * r.c ∧ r.c ≤ n * r.c) ∨ (r.c ≤ 0 ∧ m * r.c ≤ r.c ∧ n * r.c ≤ r.c) := by
    by_cases h : 0 ≤ r.c
    · have a1 := Int.mul_le_mul_of_nonneg_right (show (1 : Int) ≤ m by omega) h
      have a2 := Int.mul_le_mul_of_nonneg_right (show (1 : Int) ≤ n by omega) h
      rw [Int.one_mul] at a1 a2
      exact .inl ⟨h, a1, a2⟩
    · have h' : r.c ≤ 0 := by omega
      have a1 := Int.mul_le_mul_of_nonpos_right (show (1 : Int) ≤ m by omega) h'
      have a2 := Int.mul_le_mul_of_nonpos_right (show (1 : Int) ≤ n by omega) h'
      rw [Int.one_mul] at a1 a2
      exact .inr ⟨h', a1, a2⟩
  refine row_ext rfl ?_ ?_ ?_ <;> simp only [e1, e2, e3, e4] <;> generalize m * r.c = X at key ⊢ <;> generalize n * r.c = Y at key ⊢ <;> omega
theorem plus_nil_l (a : List Row) : plusR [] a = a := by
  unfold plusR
  show [] ++ a.filter _ = a
  rw [List.nil_append]
  exact List.filter_eq_self.mpr fun r _ => by simp
theorem plusR_nil_r (a : List Row) : plusR a [] = a := by
  unfold plusR
  show a.map (plusF []) ++ [] = a
  rw [List.append_nil]
  exact (List.map_congr_left fun r _ => by rfl).trans (List.map_id _)
theorem mul_plus {m n : Int} (hm : 0 ≤ m) (hn : 0 ≤ n) {a : List Row} (ha : (labs a).Nodup) : (mulS (m + n) a).Perm (plusR (mulS m a) (mulS n a)) := by
  by_cases h1 : m = 0
  · subst h1
    rw [Int.zero_add, show mulS 0 a = [] from rfl, plus_nil_l]
  · by_cases h2 : n = 0
    · subst h2
      rw [Int.add_zero, show mulS 0 a = [] from rfl, plusR_nil_r]
    · refine perm_of (labs_mul ha) (labs_nodup (labs_mul ha) (labs_mul ha)) fun l => ?_
      rw [at_plus]
      unfold mulS
      rw [if_neg h1, if_neg h2, if_neg (by omega), at_map (f := mulF (m + n)) fun _ => rfl, at_map (f := mulF m) fun _ => rfl, at_map (f := mulF n) fun _ => rfl]
      cases at_ a l with
      | none => rfl
      | some r =>
        show some (mulF (m + n) r) = some (both (mulF m r) (mulF n r))
        rw [mulF_both (by omega) (by omega)]
theorem mul_one (a : List Row) : mulS 1 a = a := by
  unfold mulS
  rw [if_neg (by omega)]
  refine (List.map_congr_left fun r _ => ?_).trans (List.map_id _)
  show mulF 1 r = r
  unfold mulF
  refine row_ext rfl ?_ ?_ ?_ <;> simp only [Int.sub_self, Int.zero_mul, Int.one_mul] <;> omega
end K02

namespace K02
open PySem L2 PD
/-! ### the least label -/
def sLt (x y : Str) : Bool := PySem.W.dataLt (.str x) (.str y)
theorem sLt_tot {x y : Str} (h1 : sLt x y = false) (h2 : sLt y x = false) : x = y := by
  have := PyProof.Rows.KeyOrd.total (PyProof.Rows.listOrd PyProof.Rows.itemOrd) ([.inr x.cps.toList] : List (Int ⊕ List Nat)) [.inr y.cps.toList] h1 h2
  simp only [List.cons.injEq, Sum.inr.injEq, and_true] at this
  exact codes_inj this
theorem rle_lab {p q : Row} (h : rle p q = true) (ne : p.l ≠ q.l) : sLt q.l p.l = false ∧ sLt p.l q.l = true := by
  have e : (!PyProof.Rows.lexLt PyProof.Rows.itemOrd ([Sum.inl 1] ++ (Sum.inr q.l.cps.toList :: [Sum.inl 1, Sum.inl q.a, Sum.inl 1, Sum.inl q.b, Sum.inl 1, Sum.inl q.c, Sum.inl 0] : List (Int ⊕ List Nat))) ([Sum.inl 1] ++ (Sum.inr p.l.cps.toList :: [Sum.inl 1, Sum.inl p.a, Sum.inl 1, Sum.inl p.b, Sum.inl 1, Sum.inl p.c, Sum.inl 0]))) = true := h
  have hn : (Sum.inr q.l.cps.toList : Int ⊕ List Nat) ≠ Sum.inr p.l.cps.toList := fun z => ne (codes_inj (Sum.inr.inj z)).symm
  rw [PySem.W.lex_pre, PySem.W.lex_atom hn] at e
  have h1 : sLt q.l p.l = false := by
    have : (!sLt q.l p.l) = true := e
    simpa using this
  refine ⟨h1, ?_⟩
  cases h2 : sLt p.l q.l with
  | true => rfl
  | false => exact absurd (sLt_tot h2 h1) ne
theorem minS_of {m : Str} : ∀ (xs : List Str) (x : Str), m ∈ x :: xs → (∀ y ∈ x :: xs, y = m ∨ sLt m y = true ∧ sLt y m = false) → (sLt m m = false) → minS x xs = m
  | [], x, hm, _, _ => by
    rw [List.mem_singleton] at hm
    exact hm.symm
  | y :: xs, x, hm, h, ir => by
    have e : minS x (y :: xs) = minS (if sLt y x = true then y else x) xs := rfl
    rw [e]
    have hx := h x List.mem_cons_self
    have hy := h y (List.mem_cons_of_mem _ List.mem_cons_self)
    have hr : ∀ z ∈ xs, z = m ∨ sLt m z = true ∧ sLt z m = false := fun z hz => h z (List.mem_cons_of_mem _ (List.mem_cons_of_mem _ hz))
    refine minS_of xs _ ?_ ?_ ir
    · rcases List.mem_cons.mp hm with e1 | hm
      · subst e1
        have : sLt y m = false := by rcases hy with rfl | hy; exact ir; exact hy.2
        rw [this]
        exact List.mem_cons_self
      · rcases List.mem_cons.mp hm with e1 | hm
        · subst e1
          rcases hx with rfl | hx
          · rw [ir]; exact List.mem_cons_self
          · rw [hx.1]; exact List.mem_cons_self
        · exact List.mem_cons_of_mem _ hm
    · intro z hz
      rcases List.mem_cons.mp hz with e1 | hz
      · subst e1
        split
        · exact hy
        · exact hx
      · exact hr z hz
theorem sLt_irr (m : Str) : sLt m m = false := PySem.W.dataLt_self _
/-! ### which labels let a shift not be made -/
def okB (f : Str → Int) (r : Row) : Bool := decide (r.a ≤ f r.l) && decide (f r.l ≤ r.b)
/-- the counter that is told -/
def gapF (f : Str → Int) (rows : List Row) : Option Str := (rows.find? fun r => !okB f r).map (·.l)
def amt (a : List Row) (l : Str) : Int := match at_ a l with
  | some r => r.c
  | none => 0
/-- the values behind -/
def mv (t : Int) (a : List Row) (f : Str → Int) (l : Str) : Int := f l + t * amt a l
/-- the row at l does not let it -/
def FL (f : Str → Int) (a : List Row) (l : Str) : Prop := ∃ r, at_ a l = some r ∧ okB f r = false
theorem okB_iff {f : Str → Int} {r : Row} : okB f r = false ↔ ¬ (r.a ≤ f r.l ∧ f r.l ≤ r.b) := by
  unfold okB
  cases h1 : decide (r.a ≤ f r.l) <;> cases h2 : decide (f r.l ≤ r.b) <;> simp at h1 h2 ⊢ <;> omega
theorem gap_min {f : Str → Int} {a : List Row} (hn : (labs a).Nodup) {bad : List Str} (hb : ∀ l, l ∈ bad ↔ FL f a l) : gapF f (srt a) = match bad with | [] => none | x :: xs => some (minS x xs) := by
  have hnS : (labs (srt a)).Nodup := ((srt_perm a).map (·.l)).nodup_iff.mpr hn
  cases e : (srt a).find? fun r => !okB f r with
  | none =>
    have all : ∀ r ∈ a, okB f r = true := fun r hr => by
      have := List.find?_eq_none.mp e r ((srt_perm a).mem_iff.mpr hr)
      simpa using this
    have : bad = [] := List.eq_nil_iff_forall_not_mem.mpr fun l hl => by
      obtain ⟨r, h1, h2⟩ := (hb l).mp hl
      rw [all r (at_in h1)] at h2
      cases h2
    subst this
    unfold gapF
    rw [e]; rfl
  | some r =>
    obtain ⟨pr, as, bs, es, hbef⟩ := List.find?_eq_some_iff_append.mp e
    have hrm : r ∈ a := (srt_perm a).mem_iff.mp (by rw [es]; simp)
    have hbad : okB f r = false := by simpa using pr
    have hmem : r.l ∈ bad := (hb r.l).mpr ⟨r, at_mem hn hrm, hbad⟩
    have hsort : (srt a).Pairwise fun x y => rle x y = true := PySem.W.sort_pairwise rle_total a
    have low : ∀ y ∈ bad, y = r.l ∨ sLt r.l y = true ∧ sLt y r.l = false := fun y hy => by
      obtain ⟨q, h1, h2⟩ := (hb y).mp hy
      have hl := at_l h1
      have hq : q ∈ srt a := (srt_perm a).mem_iff.mpr (at_in h1)
      by_cases eq : q.l = r.l
      · exact .inl (hl.symm.trans eq)
      · refine .inr ?_
        rw [es] at hq hsort
        rcases List.mem_append.mp hq with z | z
        · have := hbef q z
          rw [h2] at this
          cases this
        · rcases List.mem_cons.mp z with z | z
          · exact absurd (by rw [z]) eq
          · have hp := (List.pairwise_cons.mp (List.pairwise_append.mp hsort).2.1).1 q z
            have := rle_lab hp fun w => eq w.symm
            rw [← hl]
            exact ⟨this.2, this.1⟩
    unfold gapF
    rw [e]
    cases bad with
    | nil => cases hmem
    | cons x xs =>
      show some r.l = some (minS x xs)
      rw [minS_of xs x hmem low (sLt_irr _)]
/-! sums, inverses, multiples -/
theorem fl_plus {f : Str → Int} {a b : List Row} {l : Str} : FL f (plusR a b) l ↔ FL f a l ∨ FL (mv 1 a f) b l := by
  unfold FL
  rw [at_plus]
  cases e1 : at_ a l with
  | none =>
    have hm : mv 1 a f l = f l := by unfold mv amt; rw [e1]; simp
    constructor
    · rintro ⟨r, h1, h2⟩
      refine .inr ⟨r, h1, ?_⟩
      rw [okB_iff, at_l h1] at h2 ⊢
      rw [hm]; exact h2
    · rintro (⟨r, h1, _⟩ | ⟨r, h1, h2⟩)
      · cases h1
      · refine ⟨r, h1, ?_⟩
        rw [okB_iff, at_l h1] at h2 ⊢
        rw [hm] at h2; exact h2
  | some p =>
    have hm : mv 1 a f l = f l + p.c := by unfold mv amt; rw [e1]; simp
    have hp := at_l e1
    cases e2 : at_ b l with
    | none =>
      constructor
      · exact fun h => .inl h
      · rintro (h | ⟨r, h1, _⟩)
        · exact h
        · cases h1
    | some q =>
      have hq := at_l e2
      show (∃ r, some (both p q) = some r ∧ okB f r = false) ↔ (∃ r, some p = some r ∧ okB f r = false) ∨ ∃ r, some q = some r ∧ okB (mv 1 a f) r = false
      have k1 : okB f (both p q) = false ↔ okB f p = false ∨ okB (mv 1 a f) q = false := by
        rw [okB_iff, okB_iff, okB_iff, hq, hm]
        show ¬ (max p.a (q.a - p.c) ≤ f p.l ∧ f p.l ≤ min p.b (q.b - p.c)) ↔ _
        rw [hp]
        omega
      constructor
      · rintro ⟨r, h1, h2⟩
        cases h1
        rcases k1.mp h2 with z | z
        · exact .inl ⟨p, rfl, z⟩
        · exact .inr ⟨q, rfl, z⟩
      · rintro (⟨r, h1, h2⟩ | ⟨r, h1, h2⟩)
        · cases h1; exact ⟨_, rfl, k1.mpr (.inl h2)⟩
        · cases h1; exact ⟨_, rfl, k1.mpr (.inr h2)⟩
theorem mv_plus (f : Str → Int) (a b : List Row) : mv 1 (plusR a b) f = mv 1 b (mv 1 a f) := by
  funext l
  unfold mv amt
  rw [at_plus]
  cases at_ a l with
  | none => cases at_ b l <;> simp [comb]
  | some p =>
    cases at_ b l with
    | none => simp [comb]
    | some q => simp only [comb, both]; omega
theorem fl_back {f : Str → Int} {a : List Row} {l : Str} : FL (mv 1 a f) (a.map backF) l ↔ FL f a l := by
  unfold FL
  rw [at_map (f := backF) fun _ => rfl]
  cases e1 : at_ a l with
  | none => constructor <;> (rintro ⟨r, h, _⟩; cases h)
  | some p =>
    have hm : mv 1 a f l = f l + p.c := by unfold mv amt; rw [e1]; simp
    have hp := at_l e1
    have k1 : okB (mv 1 a f) (backF p) = false ↔ okB f p = false := by
      rw [okB_iff, okB_iff]
      show ¬ (p.a + p.c ≤ mv 1 a f p.l ∧ mv 1 a f p.l ≤ p.b + p.c) ↔ _
      rw [hp, hm]; omega
    constructor
    · rintro ⟨r, h1, h2⟩; cases h1; exact ⟨p, rfl, k1.mp h2⟩
    · rintro ⟨r, h1, h2⟩; cases h1; exact ⟨_, rfl, k1.mpr h2⟩
theorem mv_back (f : Str → Int) (a : List Row) : mv 1 (a.map backF) (mv 1 a f) = f := by
  funext l
  unfold mv amt
  rw [at_map (f := backF) fun _ => rfl]
  cases at_ a l with
  | none => simp
  | some p => simp only [Option.map_some, backF]; omega
theorem mv_mul (t : Int) (f : Str → Int) (a : List Row) : mv 1 (mulS t a) f = mv t a f := by
  funext l
  unfold mulS
  split
  · rename_i h
    subst h
    unfold mv amt
    simp [at_]
  · unfold mv amt
    rw [at_map (f := mulF t) fun _ => rfl]
    cases at_ a l with
    | none => simp
    | some p => simp only [Option.map_some, mulF]; omega
/-- the row lets not be made k times and once more -/
def badK (f : Str → Int) (r : Row) (k : Int) : Prop := f r.l + k * r.c < r.a ∨ f r.l + k * r.c > r.b
theorem fl_mul {t : Int} (ht : 0 ≤ t) {f : Str → Int} {a : List Row} {l : Str} : FL f (mulS t a) l ↔ 0 < t ∧ ∃ r, at_ a l = some r ∧ (badK f r 0 ∨ badK f r (t - 1)) := by
  unfold mulS
  split
  · rename_i h
    subst h
    constructor
    · rintro ⟨r, h, _⟩; cases h
    · rintro ⟨h, _⟩; omega
  · rename_i h
    unfold FL
    rw [at_map (f := mulF t) fun _ => rfl]
    cases e1 : at_ a l with
    | none =>
      constructor
      · rintro ⟨r, h, _⟩; cases h
      · rintro ⟨_, r, h, _⟩; cases h
    | some p =>
      have k1 : okB f (mulF t p) = false ↔ badK f p 0 ∨ badK f p (t - 1) := by
        rw [okB_iff]
        unfold badK
        show ¬ (p.a - min 0 ((t - 1) * p.c) ≤ f p.l ∧ f p.l ≤ p.b - max 0 ((t - 1) * p.c)) ↔ _
        generalize (t - 1) * p.c = X
        omega
      constructor
      · rintro ⟨r, h1, h2⟩; cases h1; exact ⟨by omega, p, rfl, k1.mp h2⟩
      · rintro ⟨_, r, h1, h2⟩; cases h1; exact ⟨_, rfl, k1.mpr h2⟩
/-- between the ends -/
theorem bad_ends {f : Str → Int} {r : Row} {t k : Int} (h0 : 0 ≤ k) (hk : k < t) (h : badK f r k) : badK f r 0 ∨ badK f r (t - 1) := by
  unfold badK at *
  by_cases hc : 0 ≤ r.c
  · have a1 : 0 ≤ k * r.c := Int.mul_nonneg h0 hc
    have a2 := Int.mul_le_mul_of_nonneg_right (show k ≤ t - 1 by omega) hc
    generalize k * r.c = X at *
    generalize (t - 1) * r.c = Y at *
    omega
  · have hc' : r.c ≤ 0 := by omega
    have a1 := Int.mul_le_mul_of_nonpos_right h0 hc'
    have a2 := Int.mul_le_mul_of_nonpos_right (show k ≤ t - 1 by omega) hc'
    rw [Int.zero_mul] at a1
    generalize k * r.c = X at *
    generalize (t - 1) * r.c = Y at *
    omega
end K02

namespace GA
open PySem PySem.Spec L2 PD
/-! ### the law's words: 0 a, 1 b, .., 25 z, 26 aa, .. -/
abbrev ABC : Str := Str.ofString "abcdefghijklmnopqrstuvwxyz"
end GA

namespace GA
open PySem PySem.Spec L2 PD
/-! ### names and labels -/
noncomputable def gName : Ev → Option Fl := (rtV (andV (chn (kI 1) (cB (aCons (gv 0) aNil) lenD) (kI 12) leI leI) (cB (aCons (lcD (iOf (gv 0)) (gN 1) yes (b2 (gv 1) (kS "abcdefghijklmnopqrstuvwxyz") inD) [1]) aNil) allD)))
def nm (l : List Nat) : Prop := (1 ≤ l.length ∧ l.length ≤ 12) ∧ ∀ c ∈ l, 97 ≤ c ∧ c < 123
def Lab (s : Str) : Prop := nm s.cps.toList ∨ ∃ a b, nm a ∧ nm b ∧ s.cps.toList = a ++ 46 :: b
theorem aC1 {f : Ev → Option D} {ρ : Ev} {d : D} (h : f ρ = some d) : aCons f aNil ρ = some [d] := by
  unfold aCons
  rw [h]; rfl
theorem cB_of {g : Ev → Option (List D)} {f : List D → Option D} {ρ : Ev} {ds : List D} {d : D} (h : g ρ = some ds) (h2 : f ds = some d) : cB g f ρ = some d := by
  unfold cB
  rw [h]; exact h2
end GA

namespace GA
open PySem PySem.Spec L2 PD
/-! ### limits and needs -/
abbrev Lim := Option Int
def oD : Lim → D
  | none => .non
  | some i => .int i
def gmax : Lim → Lim → Lim
  | none, b => b
  | a, none => a
  | some i, some j => some (max i j)
def lmin : Lim → Lim → Lim
  | none, b => b
  | a, none => a
  | some i, some j => some (min i j)
abbrev Nd := Str × Lim × Lim
def okLim (a : Lim) : Prop := ∀ i, a = some i → 0 ≤ i
/-- a need that Move and Game take -/
structure NdOk (n : Nd) : Prop where
  lab : Lab n.1
  one : n.2.1 ≠ none ∨ n.2.2 ≠ none
  lo : okLim n.2.1
  hi : okLim n.2.2
end GA

namespace GA
open PySem PySem.Spec L2 PD
/-! ### texts sorted -/
def leS (a b : Str) : Bool := leD (.str a) (.str b)
def srtS (ss : List Str) : List Str := ss.mergeSort leS
theorem sortOk_strs (ss : List Str) (h : ss.length ≤ 1000) : SortOk (ss.map .str) := by
  refine ⟨fun d hd => ?_, fun d hd e he => ?_, ?_, by rw [List.length_map]; exact len_le (by omega)⟩
  · obtain ⟨r, _, rfl⟩ := List.mem_map.mp hd
    exact ⟨rfl, Nat.le_of_ble_eq_true rfl⟩
  · obtain ⟨x, hx, rfl⟩ := List.mem_map.mp hd
    obtain ⟨y, hy, rfl⟩ := List.mem_map.mp he
    obtain ⟨r, _, rfl⟩ := List.mem_map.mp hx
    obtain ⟨q, _, rfl⟩ := List.mem_map.mp hy
    rfl
  · rw [List.map_map]
    exact PySem.W.Sortable.others (enc := pyT ∘ D.str) fun b => ⟨(fun e => nomatch (show PyData.str b = PyData.none from e)), (fun xs e => nomatch (show PyData.str b = PyData.tuple xs from e))⟩
theorem srt_strs (ss : List Str) (h : ss.length ≤ 1000) : srtO [.lst (ss.map .str)] = some (.dats ((srtS ss).map .str)) := by
  show (open Classical in if SortOk (ss.map .str) then some (O.lst (((ss.map .str).mergeSort leD).map O.dat)) else none) = _
  rw [if_pos (sortOk_strs ss h)]
  have : (ss.map D.str).mergeSort leD = (srtS ss).map .str := (PySem.W.sort_maps (f := D.str) fun _ _ _ _ => rfl).symm
  rw [this]; rfl
theorem frz_srt {fa : Ev → Option D} {ρ : Ev} {ss : List Str} (h : fa ρ = some (.lst (ss.map .str))) (hl : ss.length ≤ 1000) : frz (cO (aCons fa aNil) srtO) ρ = some (.lst ((srtS ss).map .str)) := by
  unfold frz cO
  rw [aC1 h, Option.bind_some, srt_strs ss hl, Option.bind_some]
  exact toD_dats _
/-! ### tables by texts: the first place of a key stays -/
section
variable {α : Type}
def lk (M : List (Str × α)) (c : Str) : Option α := (M.find? fun p => decide (p.1 = c)).map (·.2)
def pt (M : List (Str × α)) (c : Str) (v : α) : List (Str × α) := if (lk M c).isSome then M.map fun p => if p.1 = c then (c, v) else p else M ++ [(c, v)]
theorem lk_none {M : List (Str × α)} {c : Str} : lk M c = none ↔ c ∉ M.map (·.1) := by
  unfold lk
  rw [Option.map_eq_none_iff, List.find?_eq_none]
  constructor
  · intro h hm
    obtain ⟨p, hp, e⟩ := List.mem_map.mp hm
    exact h p hp (decide_eq_true e)
  · intro h p hp e
    exact h (List.mem_map.mpr ⟨p, hp, of_decide_eq_true e⟩)
/-! the same as an own dict -/
def dicO (φ : α → D) (M : List (Str × α)) : O := O.dicD (M.map fun p => .inr p.1) (M.map fun p => φ p.2)
theorem olook_dicO (φ : α → D) (M : List (Str × α)) (c : Str) : olook (.inr c) (M.map fun p => .inr p.1) ((M.map fun p => φ p.2).map .dat) = (lk M c).map fun v => .dat (φ v) := by
  induction M with
  | nil => rfl
  | cons p M ih =>
    obtain ⟨k, u⟩ := p
    unfold lk at ih ⊢
    rw [List.map_cons, List.map_cons, List.map_cons, List.find?_cons]
    unfold olook
    by_cases h : k = c
    · subst h; simp
    · have h2 : ¬ (Sum.inr k : Key) = .inr c := fun e => h (Sum.inr.inj e)
      simp only [if_neg h2, decide_eq_false h]
      exact ih
theorem putKD_dicO (φ : α → D) (M : List (Str × α)) (c : Str) (v : α) : putKD (.inr c) (φ v) (M.map fun p => .inr p.1) ((M.map fun p => φ p.2).map .dat) = ((pt M c v).map fun p => .inr p.1, ((pt M c v).map fun p => φ p.2).map .dat) := by
  have ha : ((M.map fun p => (Sum.inr p.1 : Key)).any fun k' => decide (k' = .inr c)) = (lk M c).isSome := by
    induction M with
    | nil => rfl
    | cons p M ih =>
      obtain ⟨k, u⟩ := p
      unfold lk at ih ⊢
      rw [List.map_cons, List.any_cons, List.find?_cons]
      by_cases h : k = c
      · subst h; simp
      · have h2 : ¬ (Sum.inr k : Key) = .inr c := fun e => h (Sum.inr.inj e)
        simp only [decide_eq_false h2, decide_eq_false h, Bool.false_or]
        exact ih
  unfold putKD pt
  rw [ha]
  cases q : (lk M c).isSome with
  | true =>
    simp only [if_true]
    rw [List.map_map, List.map_map, List.map_map]
    refine Prod.ext (List.map_congr_left fun p _ => ?_) ?_
    · show (Sum.inr p.1 : Key) = .inr (if p.1 = c then (c, v) else p).1
      split
      · rename_i h; rw [h]
      · rfl
    · show List.zipWith (fun k' o => if k' = (Sum.inr c : Key) then O.dat (φ v) else o) (M.map fun p => Sum.inr p.1) (M.map (O.dat ∘ fun p => φ p.2)) = (M.map fun p => if p.1 = c then (c, v) else p).map (O.dat ∘ fun p => φ p.2)
      clear q ha
      induction M with
      | nil => rfl
      | cons p M ih =>
        rw [List.map_cons, List.map_cons, List.zipWith_cons_cons, List.map_cons, List.map_cons, ih]
        congr 1
        show (if (Sum.inr p.1 : Key) = .inr c then O.dat (φ v) else .dat (φ p.2)) = .dat (φ (if p.1 = c then (c, v) else p).2)
        by_cases h : p.1 = c
        · rw [if_pos h, if_pos (by rw [h])]
        · rw [if_neg h, if_neg fun e => h (Sum.inr.inj e)]
  | false =>
    simp only [Bool.false_eq_true, if_false]
    rw [List.map_append, List.map_append, List.map_append]; rfl
theorem Rn.dputG {φ : α → D} {M : List (Str × α)} {i : Nat} {ρ : Ev} {Q : Fl → Prop} {fk fv : Ev → Option D} {c : Str} {v : α} (h0 : ρ[i]? = some (dicO φ M)) (hv : fv ρ = some (φ v)) (hy : fk ρ = some (.str c)) (hl : M.length ≤ 1000)
    (q : Q (.nx (ρ.set i (dicO φ (pt M c v))))) : Rn (dput i fk fv) ρ Q := by
  refine ⟨_, ?_, q⟩
  unfold dput
  rw [hv, Option.bind_some, hy, Option.bind_some]
  show (match ρ[i]? with
    | some (.dic ks os) => if os.length < sizeLine then some (Fl.nx (ρ.set i (.dic (putKD (.inr c) (φ v) ks os).1 (putKD (.inr c) (φ v) ks os).2))) else none
    | _ => none) = _
  rw [h0]
  show (if ((M.map fun p => φ p.2).map O.dat).length < sizeLine then some (Fl.nx (ρ.set i (.dic (putKD (.inr c) (φ v) (M.map fun p => .inr p.1) ((M.map fun p => φ p.2).map .dat)).1 (putKD (.inr c) (φ v) (M.map fun p => .inr p.1) ((M.map fun p => φ p.2).map .dat)).2))) else none) = _
  rw [if_pos (by rw [List.length_map, List.length_map]; exact Nat.lt_of_le_of_lt hl (by decide)), putKD_dicO]
  rfl
end
end GA

namespace GA
open PySem PySem.Spec L2 PD
/-! ### merged needs -/
abbrev LL := Lim × Lim
def noL : LL := (none, none)
def stN (M : List (Str × LL)) (n : Nd) : List (Str × LL) := pt M n.1 (gmax ((lk M n.1).getD noL).1 n.2.1, lmin ((lk M n.1).getD noL).2 n.2.2)
def mN (ns : List Nd) : List (Str × LL) := ns.foldl stN []
def mns (ns : List Nd) : List Nd := (srtS ((mN ns).map (·.1))).map fun c => (c, ((lk (mN ns) c).getD noL).1, ((lk (mN ns) c).getD noL).2)
theorem dlook_lk {α : Type} (φ : α → D) (M : List (Str × α)) (c : Str) : dlook (.inr c) (M.map fun p => .inr p.1) (M.map fun p => φ p.2) = (lk M c).map φ := by
  have := dlook_find (fun p : Str × α => (Sum.inr p.1 : Key)) (fun p => φ p.2) (.inr c) M
  rw [this]
  unfold lk
  have e : (fun p : Str × α => decide ((Sum.inr p.1 : Key) = .inr c)) = fun p => decide (p.1 = c) := funext fun p => by
    by_cases h : p.1 = c
    · rw [h]; simp
    · rw [decide_eq_false h, decide_eq_false fun e => h (Sum.inr.inj e)]
  rw [e, Option.map_map]; rfl
theorem aC2 {f g : Ev → Option D} {ρ : Ev} {d e : D} (h : f ρ = some d) (h2 : g ρ = some e) : aCons f (aCons g aNil) ρ = some [d, e] := by
  unfold aCons
  rw [h, h2]; rfl
theorem lk_mem {α : Type} {M : List (Str × α)} {c : Str} (h : c ∈ M.map (·.1)) : ∃ v, lk M c = some v := by
  cases q : lk M c with
  | some v => exact ⟨v, rfl⟩
  | none => exact absurd h (lk_none.mp q)
end GA

namespace GA
open PySem PySem.Spec L2 PD
/-! ### merged changes -/
abbrev Ch := Str × Int
def stC (M : List (Str × Int)) (n : Ch) : List (Str × Int) := pt M n.1 ((lk M n.1).getD 0 + n.2)
def mC (ns : List Ch) : List (Str × Int) := ns.foldl stC []
def mcs (ns : List Ch) : List Ch := ((srtS ((mC ns).map (·.1))).filter fun c => decide ((lk (mC ns) c).getD 0 ≠ 0)).map fun c => (c, (lk (mC ns) c).getD 0)
end GA

namespace GA
open PySem PySem.Spec L2 PD
/-! ### Move(..) -/
theorem Rn.put {C : Addr} {i : Nat} {f : Str} {g : Ev → Option O} {ρ : Ev} {Q : Fl → Prop} {y : O} {ks ks' : List Str} {os os' : List O} (h0 : ρ[i]? = some (.obj C ks os)) (hy : g ρ = some y) (hl : os.length < 1000) (hp : putO f y ks os = (ks', os'))
    (q : Q (.nx (ρ.set i (.obj C ks' os')))) : Rn (put C i f g) ρ Q := by
  refine ⟨_, ?_, q⟩
  unfold PD.put
  rw [hy, Option.bind_some, h0]
  show (if C = C ∧ os.length < 1000 then some (Fl.nx (ρ.set i (.obj C (putO f y ks os).1 (putO f y ks os).2))) else none) = _
  rw [if_pos ⟨rfl, hl⟩, hp]
/-- a move as it is asked for -/
structure Mv where
  name : Str
  player : Str
  needs : List Nd
  changes : List Ch
  sign : Option Str
  foul : Bool
structure MvOk (m : Mv) : Prop where
  name : Lab m.name
  player : Lab m.player
  needs : ∀ n ∈ m.needs, NdOk n
  changes : ∀ n ∈ m.changes, Lab n.1
  sign : ∀ s, m.sign = some s → Lab s
  fewN : m.needs.length ≤ 500
  fewC : m.changes.length ≤ 500
theorem asB_of {f : Ev → Option D} {ρ : Ev} {b : Bool} (h : f ρ = some (.bl b)) : asB f ρ = some b := by
  unfold asB
  rw [h]
theorem notT_of {f : Ev → Option Bool} {ρ : Ev} {b : Bool} (h : f ρ = some b) : notT f ρ = some (!b) := by
  unfold notT
  rw [h]; rfl
end GA

namespace GA
open PySem PySem.Spec L2 PD
/-! ### what a move touches -/
theorem in_strs (x : Str) (ls : List Str) : inB (.str x) (.lst (ls.map .str)) = some (decide (x ∈ ls)) := by
  have hf : ((D.str x).flat && (ls.map D.str).all D.flat) = true := by
    rw [Bool.and_eq_true]
    refine ⟨rfl, List.all_eq_true.mpr fun d hd => ?_⟩
    obtain ⟨s, _, rfl⟩ := List.mem_map.mp hd
    rfl
  show (if ((D.str x).flat && (ls.map D.str).all D.flat) = true then some ((ls.map D.str).any fun z => z.same (.str x)) else none) = _
  rw [if_pos hf, List.any_map]
  congr 1
  rw [Bool.eq_iff_iff, List.any_eq_true, decide_eq_true_iff]
  constructor
  · rintro ⟨s, hs, e⟩
    have : s = x := of_decide_eq_true (show decide (s = x) = true from e)
    exact this ▸ hs
  · exact fun h => ⟨x, h, show decide (x = x) = true from decide_eq_true rfl⟩
theorem nin_strs (x : Str) (ls : List Str) : ninD (.str x) (.lst (ls.map .str)) = some (.bl (decide (x ∉ ls))) := by
  unfold ninD
  rw [in_strs]
  by_cases h : x ∈ ls <;> simp [h]
def tch (m : Mv) : List Str := (mns m.needs).map (·.1) ++ ((mcs m.changes).filter fun c => decide (c.1 ∉ (mns m.needs).map (·.1))).map (·.1)
end GA

namespace GA
open PySem PySem.Spec L2 PD
/-! ### dict comprehensions run -/
theorem frz_of {f : Ev → Option O} {ρ : Ev} {o : O} {d : D} (h : f ρ = some o) (h2 : o.toD = some d) : frz f ρ = some d := by
  unfold frz
  rw [h]; exact h2
/-! keys once -/
end GA

namespace GA
open PySem PySem.Spec L2 PD
/-! ### Shift(rows) -/
abbrev Rw4 := Str × Int × Int × Int
def r4D (r : Rw4) : D := .tup [.str r.1, .int r.2.1, .int r.2.2.1, .int r.2.2.2]
def srt4 (rows : List Rw4) : List Rw4 := rows.mergeSort fun p q => leD (r4D p) (r4D q)
theorem srt4_perm (rows : List Rw4) : (srt4 rows).Perm rows := List.mergeSort_perm _ _
theorem sortOk_rows (rows : List Rw4) (h : rows.length ≤ 1000) : SortOk (rows.map r4D) := by
  refine ⟨fun d hd => ?_, fun d hd e he => ?_, .inl fun d hd => ?_, by rw [List.length_map]; exact len_le (by omega)⟩
  · obtain ⟨r, _, rfl⟩ := List.mem_map.mp hd
    exact ⟨rfl, Nat.le_of_ble_eq_true rfl⟩
  · obtain ⟨x, hx, rfl⟩ := List.mem_map.mp hd
    obtain ⟨y, hy, rfl⟩ := List.mem_map.mp he
    obtain ⟨r, _, rfl⟩ := List.mem_map.mp hx
    obtain ⟨q, _, rfl⟩ := List.mem_map.mp hy
    rfl
  · obtain ⟨x, hx, rfl⟩ := List.mem_map.mp hd
    obtain ⟨r, _, rfl⟩ := List.mem_map.mp hx
    exact ⟨_, _, rfl⟩
def shD (C : Addr) (rows : List Rw4) : D := .obj C ["rows"] [.tup ((srt4 rows).map r4D)]
/-! ### the shift of a move -/
end GA

namespace GA
open PySem PySem.Spec L2 PD
end GA

namespace LA
/-! ### determinants of rows (functions of the column) by a list of columns -/
abbrev Vec := Nat → Int
/-- expansion along the column k of a form w -/
def K (k : Nat) (w : List Vec → Int) : List Vec → Int
  | [] => 0
  | r :: rs => r k * w rs - K k (fun t => w (r :: t)) rs
def Dt : List Nat → List Vec → Int
  | [] => fun _ => 1
  | k :: ks => K k (Dt ks)
theorem K_zero (k : Nat) : ∀ (rs : List Vec) (w : List Vec → Int), (∀ t, w t = 0) → K k w rs = 0
  | [], _, _ => rfl
  | r :: rs, w, h => by
    unfold K
    rw [h, K_zero k rs _ fun t => h _]; simp
theorem K_lin (k : Nat) (a b : Int) : ∀ (rs : List Vec) (u w : List Vec → Int), K k (fun t => a * u t + b * w t) rs = a * K k u rs + b * K k w rs
  | [], _, _ => by simp [K]
  | r :: rs, u, w => by
    unfold K
    rw [K_lin k a b rs (fun t => u (r :: t)) (fun t => w (r :: t))]
    grind
theorem K_swap (k l : Nat) : ∀ (rs : List Vec) (w : List Vec → Int), K k (K l w) rs = - K l (K k w) rs
  | [], _ => rfl
  | r :: rs, w => by
    have key : ∀ k l : Nat, K k (K l w) (r :: rs) = r k * K l w rs - r l * K k w rs + K k (K l fun t => w (r :: t)) rs := fun k l => by
      show r k * K l w rs - K k (fun t => r l * w t - K l (fun t => w (r :: t)) t) rs = _
      have e := K_lin k (r l) (-1) rs w (K l fun t => w (r :: t))
      have e2 : (fun t => r l * w t - K l (fun t => w (r :: t)) t) = (fun t => r l * w t + (-1) * K l (fun t => w (r :: t)) t) := by funext t; omega
      rw [e2, e]; omega
    rw [key k l, key l k, K_swap k l rs fun t => w (r :: t)]
    omega
theorem Dt_swap (k l : Nat) (ks : List Nat) (rs : List Vec) : Dt (k :: l :: ks) rs = - Dt (l :: k :: ks) rs := K_swap k l rs _
theorem Dt_dup {k : Nat} : ∀ {ks : List Nat}, k ∈ ks → ∀ rs, Dt (k :: ks) rs = 0
  | l :: ks, h, rs => by
    by_cases e : k = l
    · subst e
      have := Dt_swap k k ks rs
      omega
    · have h' : k ∈ ks := by simpa [e] using h
      rw [Dt_swap]
      have : Dt (l :: k :: ks) rs = 0 := K_zero l rs _ fun t => Dt_dup h' t
      omega
/-- a column brought to the front -/
theorem Dt_front (l : Nat) (y : List Nat) : ∀ (x : List Nat), ∃ s : Int, (s = 1 ∨ s = -1) ∧ ∀ rs, Dt (x ++ l :: y) rs = s * Dt (l :: (x ++ y)) rs
  | [] => ⟨1, .inl rfl, fun rs => by simp⟩
  | a :: x => by
    obtain ⟨s, hs, h⟩ := Dt_front l y x
    refine ⟨-s, by omega, fun rs => ?_⟩
    have e : Dt (x ++ l :: y) = fun rs => s * Dt (l :: (x ++ y)) rs + 0 * Dt (l :: (x ++ y)) rs := by funext t; rw [h]; omega
    show K a (Dt (x ++ l :: y)) rs = -s * Dt (l :: a :: (x ++ y)) rs
    rw [e, K_lin, Dt_swap l a]
    show s * Dt (a :: l :: (x ++ y)) rs + _ = _
    grind
/-! ### spans (rational) of a list of rows -/
def InS : List Vec → Vec → Prop
  | [], w => ∀ k, w k = 0
  | b :: bs, w => ∃ N c : Int, N ≠ 0 ∧ InS bs fun k => N * w k - c * b k
theorem InS.ext {bs : List Vec} {w u : Vec} (h : InS bs w) (e : ∀ k, w k = u k) : InS bs u := by rw [show u = w from funext fun k => (e k).symm]; exact h
theorem InS.lin (a b : Int) : ∀ {bs : List Vec} {u w : Vec}, InS bs u → InS bs w → InS bs fun k => a * u k + b * w k
  | [], u, w, h1, h2 => fun k => by
    show a * u k + b * w k = 0
    rw [h1 k, h2 k]; simp
  | r :: bs, u, w, ⟨N, c, hN, h1⟩, ⟨N', c', hN', h2⟩ => by
    refine ⟨N * N', a * c * N' + b * c' * N, Int.mul_ne_zero hN hN', ?_⟩
    refine (InS.lin (a * N') (b * N) h1 h2).ext fun k => ?_
    grind
theorem InS.zero : ∀ {bs : List Vec} {w : Vec}, (∀ k, w k = 0) → InS bs w
  | [], _, h => h
  | b :: bs, w, h => ⟨1, 0, by decide, InS.zero fun k => by rw [h]; simp⟩
theorem InS.smul (a : Int) {bs : List Vec} {u : Vec} (h : InS bs u) : InS bs fun k => a * u k := (InS.lin a 0 h h).ext fun k => by omega
theorem InS.div {N : Int} (hN : N ≠ 0) : ∀ {bs : List Vec} {w : Vec}, (InS bs fun k => N * w k) → InS bs w
  | [], w, h => fun k => (Int.mul_eq_zero.mp (h k)).resolve_left hN
  | b :: bs, w, ⟨M, c, hM, h⟩ => ⟨M * N, c, Int.mul_ne_zero hM hN, h.ext fun k => by grind⟩
theorem InS.mem : ∀ {bs : List Vec} {b : Vec}, b ∈ bs → InS bs b
  | r :: bs, b, h => by
    rcases List.mem_cons.mp h with rfl | h
    · exact ⟨1, 1, by decide, InS.zero fun k => by omega⟩
    · exact ⟨1, 0, by decide, (InS.mem h).ext fun k => by omega⟩
theorem InS.sub : ∀ {bs cs : List Vec} {w : Vec}, (∀ b ∈ bs, InS cs b) → InS bs w → InS cs w
  | [], cs, w, _, h => InS.zero h
  | b :: bs, cs, w, hb, ⟨N, c, hN, h⟩ => by
    have h1 := InS.sub (cs := cs) (fun x hx => hb x (List.mem_cons_of_mem _ hx)) h
    refine InS.div hN ((InS.lin 1 c h1 (hb b List.mem_cons_self)).ext fun k => ?_)
    omega
/-- an expansion is a combination of the rows -/
theorem K_span : ∀ (rs : List Vec) (w : List Vec → Int), InS rs fun k => K k w rs
  | [], _ => fun k => rfl
  | r :: rs, w => ⟨1, w rs, by decide, by
    refine (InS.smul (-1) (K_span rs fun t => w (r :: t))).ext fun k => ?_
    show _ = 1 * (r k * w rs - K k (fun t => w (r :: t)) rs) - w rs * r k
    grind⟩
/-! ### leads and rows, the newest ahead -/
abbrev Ech := List (Nat × Vec)
def leads (st : Ech) : List Nat := st.map (·.1)
def rows (st : Ech) : List Vec := st.map (·.2)
def piv (st : Ech) : Int := Dt (leads st) (rows st)
/-- what is left of v -/
def red (st : Ech) (v : Vec) : Vec := fun k => Dt (k :: leads st) (v :: rows st)
def Good : Ech → Prop
  | [] => True
  | e :: st => Good st ∧ piv (e :: st) ≠ 0
theorem red_lead {st : Ech} {v : Vec} {k : Nat} (h : k ∈ leads st) : red st v k = 0 := Dt_dup h _
theorem red_span (st : Ech) (v : Vec) : InS (rows st) fun k => red st v k - piv st * v k :=
  (InS.smul (-1) (K_span (rows st) fun t => Dt (leads st) (v :: t))).ext fun k => by
    show _ = (v k * Dt (leads st) (rows st) - K k (fun t => Dt (leads st) (v :: t)) (rows st)) - Dt (leads st) (rows st) * v k
    grind
theorem piv_nz {st : Ech} (h : Good st) : piv st ≠ 0 := by
  cases st with
  | nil => exact (by decide : (1 : Int) ≠ 0)
  | cons e st => exact h.2
/-- what vanishes at all leads is nothing -/
theorem zero_of : ∀ {st : Ech} {w : Vec}, Good st → InS (rows st) w → (∀ l ∈ leads st, w l = 0) → ∀ k, w k = 0
  | [], w, _, h, _ => h
  | (l, b) :: st, w, ⟨g, hp⟩, ⟨N, c, hN, h⟩, hz => by
    have pz := piv_nz g
    have h1 : InS (rows st) fun k => piv st * N * w k - c * red st b k :=
      (InS.lin (piv st) (-c) h (red_span st b)).ext fun k => by grind
    have z := zero_of g h1 fun l' hl' => by
      rw [hz l' (List.mem_cons_of_mem _ hl'), red_lead hl']; simp
    have zl := z l
    rw [hz l List.mem_cons_self] at zl
    have hp' : red st b l ≠ 0 := hp
    have c0 : c = 0 := by
      have : c * red st b l = 0 := by simpa using zl
      exact (Int.mul_eq_zero.mp this).resolve_right hp'
    intro k
    have := z k
    rw [c0] at this
    have : piv st * N * w k = 0 := by simpa using this
    exact (Int.mul_eq_zero.mp this).resolve_left (Int.mul_ne_zero pz hN)
theorem InS.cons {b : Vec} {bs : List Vec} {w : Vec} (h : InS bs w) : InS (b :: bs) w := ⟨1, 0, by decide, h.ext fun k => by omega⟩
/-- the step of the elimination is exact -/
theorem red_step {l : Nat} {b : Vec} {st : Ech} (g : Good ((l, b) :: st)) (v : Vec) (k : Nat) : piv st * red ((l, b) :: st) v k = red st b l * red st v k - red st v l * red st b k := by
  have s1 := red_span ((l, b) :: st) v
  have s2 := (red_span st v).cons (b := b)
  have s3 := (red_span st b).cons (b := b)
  have sb : InS (rows ((l, b) :: st)) b := InS.mem List.mem_cons_self
  have p1 : piv ((l, b) :: st) = red st b l := rfl
  have hs : InS (rows ((l, b) :: st)) fun k => piv st * red ((l, b) :: st) v k - (red st b l * red st v k - red st v l * red st b k) := by
    have t1 := InS.lin (piv st) (-(red st b l)) s1 s2
    have t2 := InS.lin (red st v l) (red st v l * piv st) s3 sb
    refine (InS.lin 1 1 t1 t2).ext fun k => ?_
    rw [p1]; grind
  have := zero_of g hs (fun l' hl' => by
    rw [red_lead hl']
    rcases List.mem_cons.mp hl' with e | hl'
    · have e : l' = l := e
      rw [e]; grind
    · rw [red_lead hl', red_lead hl']; simp) k
  omega
/-- in the span exactly if nothing is left -/
theorem red_zero {st : Ech} (g : Good st) (v : Vec) : InS (rows st) v ↔ ∀ k, red st v k = 0 := by
  constructor
  · intro h
    refine zero_of g ((InS.lin 1 (piv st) (red_span st v) h).ext fun k => by omega) fun l hl => red_lead hl
  · intro h
    exact InS.div (piv_nz g) ((InS.smul (-1) (red_span st v)).ext fun k => by rw [h]; omega)
/-! ### bounds -/
def fac : Nat → Nat
  | 0 => 1
  | n + 1 => (n + 1) * fac n
theorem K_le {k : Nat} {M B : Nat} : ∀ (rs : List Vec) (w : List Vec → Int), (∀ r ∈ rs, ∀ k, (r k).natAbs ≤ M) → (∀ t : List Vec, t.length + 1 = rs.length → (∀ r ∈ t, ∀ k, (r k).natAbs ≤ M) → (w t).natAbs ≤ B) → (K k w rs).natAbs ≤ rs.length * (M * B)
  | [], _, _, _ => by simp [K]
  | r :: rs, w, hr, hw => by
    have h1 := hw rs rfl fun r' h' => hr r' (List.mem_cons_of_mem _ h')
    have h2 := K_le (k := k) (M := M) (B := B) rs (fun t => w (r :: t)) (fun r' h' => hr r' (List.mem_cons_of_mem _ h')) fun t ht hb => hw (r :: t) (by simp [ht]) fun r' h' => by
      rcases List.mem_cons.mp h' with rfl | h'
      · exact hr _ List.mem_cons_self
      · exact hb r' h'
    have h3 : (r k * w rs).natAbs ≤ M * B := by
      rw [Int.natAbs_mul]
      exact Nat.mul_le_mul (hr r List.mem_cons_self k) h1
    unfold K
    rw [List.length_cons, Nat.add_mul, Nat.one_mul]
    have := Int.natAbs_sub_le (r k * w rs) (K k (fun t => w (r :: t)) rs)
    omega
theorem Dt_le {M : Nat} : ∀ (ks : List Nat) (rs : List Vec), rs.length = ks.length → (∀ r ∈ rs, ∀ k, (r k).natAbs ≤ M) → (Dt ks rs).natAbs ≤ fac ks.length * M ^ ks.length
  | [], rs, _, _ => by simp [Dt, fac]
  | k :: ks, rs, hl, hr => by
    have := K_le (k := k) (M := M) (B := fac ks.length * M ^ ks.length) rs (Dt ks) hr fun t ht hb => Dt_le ks t (by simp at hl; omega) hb
    show (K k (Dt ks) rs).natAbs ≤ _
    rw [hl] at this
    refine Nat.le_trans this (Nat.le_of_eq ?_)
    simp only [List.length_cons, fac, Nat.pow_succ]
    grind
end LA

namespace LA
/-! ### lists as rows; lowest terms -/
def vc (r : List Int) : Vec := fun k => r.getD k 0
def gl (ns : List Int) : Nat := ns.foldl (fun d n => Nat.gcd d n.natAbs) 0
theorem gl_go : ∀ (ns : List Int) (d0 : Nat), ns.foldl (fun d n => Nat.gcd d n.natAbs) d0 = Nat.gcd d0 (gl ns)
  | [], d0 => by simp [gl]
  | n :: ns, d0 => by
    unfold gl
    rw [List.foldl_cons, List.foldl_cons, gl_go ns, gl_go ns, Nat.gcd_assoc, Nat.gcd_zero_left]
theorem gl_cons (n : Int) (ns : List Int) : gl (n :: ns) = Nat.gcd n.natAbs (gl ns) := by
  show ns.foldl _ (Nat.gcd 0 n.natAbs) = _
  rw [gl_go, Nat.gcd_zero_left]
theorem gl_dvd : ∀ {ns : List Int} {x : Int}, x ∈ ns → gl ns ∣ x.natAbs
  | n :: ns, x, h => by
    rw [gl_cons]
    rcases List.mem_cons.mp h with rfl | h
    · exact Nat.gcd_dvd_left _ _
    · exact Nat.dvd_trans (Nat.gcd_dvd_right _ _) (gl_dvd h)
theorem gl_scale (c : Nat) : ∀ {ns : List Int} {d : Nat}, (∀ x ∈ ns, d ∣ c * x.natAbs) → d ∣ c * gl ns
  | [], d, _ => by simp [gl]
  | n :: ns, d, h => by
    rw [gl_cons, ← Nat.gcd_mul_left]
    exact Nat.dvd_gcd (h n List.mem_cons_self) (gl_scale c fun x hx => h x (List.mem_cons_of_mem _ hx))
theorem vc_mem {r : List Int} {k : Nat} (h : vc r k ≠ 0) : vc r k ∈ r := by
  unfold vc at h ⊢
  rw [List.getD_eq_getElem?_getD] at h ⊢
  cases q : r[k]? with
  | none => rw [q] at h; exact absurd rfl h
  | some x => exact List.mem_of_getElem? q
theorem mem_vc {r : List Int} {x : Int} (h : x ∈ r) : ∃ k, k < r.length ∧ vc r k = x := by
  obtain ⟨k, hk, e⟩ := List.getElem_of_mem h
  exact ⟨k, hk, by simp [vc, List.getD_eq_getElem?_getD, hk, e]⟩
theorem vc_out {r : List Int} {k : Nat} (h : r.length ≤ k) : vc r k = 0 := by simp [vc, List.getD_eq_getElem?_getD, List.getElem?_eq_none h]
theorem vc_eq {r : List Int} {k : Nat} (h : k < r.length) : vc r k = r[k] := by simp [vc, List.getD_eq_getElem?_getD, h]
theorem vc_map {f : Int → Int} (h0 : f 0 = 0) (r : List Int) (k : Nat) : vc (r.map f) k = f (vc r k) := by
  unfold vc
  rw [List.getD_eq_getElem?_getD, List.getD_eq_getElem?_getD, List.getElem?_map]
  cases r[k]? with
  | none => exact h0.symm
  | some x => rfl
theorem gl_zero {r : List Int} (h : gl r = 0) (k : Nat) : vc r k = 0 := by
  by_cases z : vc r k = 0
  · exact z
  · have := gl_dvd (vc_mem z)
    rw [h] at this
    have := Nat.eq_zero_of_zero_dvd this
    omega
/-- no common divisor above 1 -/
def Pm (u : Vec) : Prop := ∀ d c : Int, (∀ k, d ∣ c * u k) → d ∣ c
theorem pm_gl {r : List Int} (h : gl r = 1) : Pm (vc r) := fun d c hd => by
  have := gl_scale c.natAbs (ns := r) (d := d.natAbs) fun x hx => by
    obtain ⟨k, _, e⟩ := mem_vc hx
    rw [← Int.natAbs_mul, ← e]
    exact Int.natAbs_dvd_natAbs.mpr (hd k)
  rw [h, Nat.mul_one] at this
  exact Int.natAbs_dvd_natAbs.mp this
/-- parallel to a primitive row -/
theorem pm_par {r T : Vec} {a a' : Int} (ha : a ≠ 0) (ha' : a' ≠ 0) (h : ∀ k, a * r k = a' * T k) (p : Pm r) : ∃ t : Int, t ≠ 0 ∧ ∀ k, T k = t * r k := by
  obtain ⟨t, e⟩ := p a' a fun k => ⟨T k, by rw [h k]⟩
  refine ⟨t, fun z => ha (by rw [e, z]; simp), fun k => ?_⟩
  have := h k
  rw [e, Int.mul_assoc] at this
  exact (Int.eq_of_mul_eq_mul_left ha' this).symm
def low (r : List Int) : List Int := if gl r = 0 then r else r.map fun x => x.fdiv (gl r : Nat)
theorem low_len (r : List Int) : (low r).length = r.length := by unfold low; split <;> simp
theorem low_mul (r : List Int) : ∃ g : Int, g ≠ 0 ∧ ∀ k, vc r k = g * vc (low r) k := by
  unfold low
  by_cases h : gl r = 0
  · rw [if_pos h]; exact ⟨1, by decide, fun k => by omega⟩
  · rw [if_neg h]
    refine ⟨(gl r : Nat), by omega, fun k => ?_⟩
    rw [vc_map (by simp)]
    by_cases z : vc r k = 0
    · rw [z]; simp
    · have := gl_dvd (vc_mem z)
      have : ((gl r : Nat) : Int) ∣ vc r k := Int.dvd_natAbs.mp (Int.ofNat_dvd.mpr this)
      exact (Int.mul_fdiv_cancel' this).symm
theorem low_pm (r : List Int) (h : ∃ k, vc r k ≠ 0) : gl (low r) = 1 := by
  have hz : gl r ≠ 0 := fun z => by obtain ⟨k, hk⟩ := h; exact hk (gl_zero z k)
  obtain ⟨g, hg, e⟩ : ∃ g : Int, g = (gl r : Nat) ∧ ∀ k, vc r k = g * vc (low r) k := by
    refine ⟨(gl r : Nat), rfl, fun k => ?_⟩
    unfold low
    rw [if_neg hz, vc_map (by simp)]
    by_cases z : vc r k = 0
    · rw [z]; simp
    · have := gl_dvd (vc_mem z)
      have : ((gl r : Nat) : Int) ∣ vc r k := Int.dvd_natAbs.mp (Int.ofNat_dvd.mpr this)
      exact (Int.mul_fdiv_cancel' this).symm
  have := gl_scale 1 (ns := r) (d := gl r * gl (low r)) fun x hx => by
    obtain ⟨k, _, ek⟩ := mem_vc hx
    rw [Nat.one_mul, ← ek, e k, Int.natAbs_mul, hg, Int.natAbs_natCast]
    refine Nat.mul_dvd_mul_left _ ?_
    by_cases z : vc (low r) k = 0
    · rw [z]; exact ⟨0, rfl⟩
    · exact gl_dvd (vc_mem z)
  rw [Nat.one_mul] at this
  have h2 : gl r * gl (low r) ≤ gl r * 1 := by rw [Nat.mul_one]; exact Nat.le_of_dvd (by omega) this
  have h3 := Nat.le_of_mul_le_mul_left h2 (by omega)
  have h4 : gl (low r) ≠ 0 := fun z => by
    obtain ⟨k, hk⟩ := h
    exact hk (by rw [e k, gl_zero z k]; simp)
  omega
theorem low_zero {r : List Int} (h : ∀ k, vc r k = 0) (k : Nat) : vc (low r) k = 0 := by
  obtain ⟨g, hg, e⟩ := low_mul r
  have := e k
  rw [h k] at this
  exact (Int.mul_eq_zero.mp this.symm).resolve_left hg
/-- a * r - b * q, of lists of one length -/
def comb (a b : Int) (r q : List Int) : List Int := (r.zip q).map fun p => a * p.1 - b * p.2
theorem comb_len {a b : Int} {r q : List Int} (h : r.length = q.length) : (comb a b r q).length = r.length := by simp [comb, h]
theorem comb_vc {a b : Int} {r q : List Int} (h : r.length = q.length) (k : Nat) : vc (comb a b r q) k = a * vc r k - b * vc q k := by
  by_cases hk : k < r.length
  · rw [vc_eq (by rw [comb_len h]; exact hk), vc_eq hk, vc_eq (by omega)]
    simp [comb]
  · rw [vc_out (by rw [comb_len h]; omega), vc_out (by omega), vc_out (by omega)]; simp
def clr (r q : List Int) (l : Nat) : List Int := if vc r l = 0 then r else low (comb (vc q l) (vc r l) r q)
theorem clr_len {r q : List Int} {l : Nat} (h : r.length = q.length) : (clr r q l).length = r.length := by
  unfold clr
  split
  · rfl
  · rw [low_len, comb_len h]
abbrev LE := List (Nat × List Int)
def rst (ech : LE) (row : List Int) : List Int := ech.foldl (fun r e => clr r e.2 e.1) (low row)
def fnz (r : List Int) : Option Nat := r.findIdx? fun x => decide (x ≠ 0)
def ext (ech : LE) (row : List Int) : LE := match fnz (rst ech row) with
  | none => ech
  | some a => ech.map (fun e => (e.1, clr e.2 (rst ech row) a)) ++ [(a, rst ech row)]
theorem fnz_none {r : List Int} (h : fnz r = none) (k : Nat) : vc r k = 0 := by
  unfold fnz at h
  rw [List.findIdx?_eq_none_iff] at h
  by_cases z : vc r k = 0
  · exact z
  · have := h _ (vc_mem z)
    simp at this
    exact this
theorem fnz_some {r : List Int} {a : Nat} (h : fnz r = some a) : a < r.length ∧ vc r a ≠ 0 ∧ ∀ k, k < a → vc r k = 0 := by
  unfold fnz at h
  rw [List.findIdx?_eq_some_iff_getElem] at h
  obtain ⟨hl, h1, h2⟩ := h
  refine ⟨hl, ?_, fun k hk => ?_⟩
  · rw [vc_eq hl]; simpa using h1
  · rw [vc_eq (by omega)]; simpa using h2 k hk
/-! ### rows told by the leads -/
/-- for each lead a row that is the pivot there and 0 at the other leads, of bounded size -/
theorem dual {st : Ech} {M : Nat} (nd : (leads st).Nodup) (hM : ∀ r ∈ rows st, ∀ k, (r k).natAbs ≤ M) {l : Nat} (hl : l ∈ leads st) :
    ∃ R : Vec, R l = piv st ∧ (∀ l' ∈ leads st, l' ≠ l → R l' = 0) ∧ InS (rows st) R ∧ ∀ k, (R k).natAbs ≤ fac st.length * M ^ st.length := by
  obtain ⟨x, y, e⟩ := List.append_of_mem hl
  obtain ⟨s, hs, h⟩ := Dt_front l y x
  have hlen : (rows st).length = (l :: (x ++ y)).length := by
    have : (leads st).length = st.length := by simp [leads]
    rw [e] at this
    simp [rows] at this ⊢
    omega
  have hst : (l :: (x ++ y)).length = st.length := by rw [← hlen]; simp [rows]
  refine ⟨fun k => s * Dt (k :: (x ++ y)) (rows st), ?_, fun l' h1 h2 => ?_, InS.smul s (K_span (rows st) _), fun k => ?_⟩
  · show s * Dt (l :: (x ++ y)) (rows st) = Dt (leads st) (rows st)
    rw [e]; exact (h _).symm
  · have : l' ∈ x ++ y := by
      rw [e] at h1
      rcases List.mem_append.mp h1 with h1 | h1
      · exact List.mem_append_left _ h1
      · rcases List.mem_cons.mp h1 with h1 | h1
        · exact absurd h1 h2
        · exact List.mem_append_right _ h1
    show s * Dt (l' :: (x ++ y)) (rows st) = 0
    rw [Dt_dup this]; simp
  · have := Dt_le (M := M) (k :: (x ++ y)) (rows st) hlen hM
    rw [show (k :: (x ++ y)).length = st.length from hst] at this
    show (s * Dt (k :: (x ++ y)) (rows st)).natAbs ≤ _
    rw [Int.natAbs_mul]
    have : s.natAbs = 1 := by omega
    rw [this, Nat.one_mul]; assumption
end LA

namespace LA
/-! ### the reduced rows of the program -/
def Bd (M m : Nat) : Nat := fac m * M ^ m
structure EchOk (M n : Nat) (st : Ech) (e : LE) : Prop where
  good : Good st
  bd : ∀ r ∈ rows st, ∀ k, (r k).natAbs ≤ M
  ls : e.map (·.1) = (leads st).reverse
  len : ∀ x ∈ e, x.2.length = n
  lt : ∀ l ∈ leads st, l < n
  pv : ∀ x ∈ e, vc x.2 x.1 ≠ 0
  zr : ∀ x ∈ e, ∀ l ∈ leads st, l ≠ x.1 → vc x.2 l = 0
  pm : ∀ x ∈ e, gl x.2 = 1
  sp : ∀ x ∈ e, InS (rows st) (vc x.2)
theorem good_nodup : ∀ {st : Ech}, Good st → (leads st).Nodup
  | [], _ => List.nodup_nil
  | (l, b) :: st, ⟨g, h⟩ => by
    refine List.nodup_cons.mpr ⟨fun z => h ?_, good_nodup g⟩
    exact red_lead (st := st) (v := b) z
section
variable {M n : Nat} {st : Ech} {e : LE}
theorem EchOk.mem (h : EchOk M n st e) {x : Nat × List Int} (hx : x ∈ e) : x.1 ∈ leads st := by
  have : x.1 ∈ e.map (·.1) := List.mem_map_of_mem hx
  rw [h.ls] at this
  exact List.mem_reverse.mp this
theorem EchOk.end_ (h : EchOk M n st e) : (e.map (·.1)).Nodup := by
  rw [h.ls]; exact List.pairwise_reverse.mpr ((good_nodup h.good).imp fun z => z.symm)
/-- the row at a lead beside the dual one -/
theorem EchOk.par (h : EchOk M n st e) {x : Nat × List Int} (hx : x ∈ e) {R : Vec} (h1 : R x.1 = piv st) (h2 : ∀ l' ∈ leads st, l' ≠ x.1 → R l' = 0) (h3 : InS (rows st) R) (k : Nat) : piv st * vc x.2 k = vc x.2 x.1 * R k := by
  have := zero_of h.good ((InS.lin (piv st) (-(vc x.2 x.1)) (h.sp x hx) h3)) (fun l hl => by
    by_cases z : l = x.1
    · subst z; rw [h1]; grind
    · rw [h2 l hl z, h.zr x hx l hl z]; simp) k
  grind
theorem EchOk.row (h : EchOk M n st e) {x : Nat × List Int} (hx : x ∈ e) : ∃ (R : Vec) (t : Int), t ≠ 0 ∧ R x.1 = piv st ∧ (∀ l' ∈ leads st, l' ≠ x.1 → R l' = 0) ∧ InS (rows st) R ∧ (∀ k, (R k).natAbs ≤ Bd M st.length) ∧ ∀ k, R k = t * vc x.2 k := by
  obtain ⟨R, h1, h2, h3, h4⟩ := dual (good_nodup h.good) h.bd (h.mem hx)
  obtain ⟨t, ht, e⟩ := pm_par (piv_nz h.good) (h.pv x hx) (h.par hx h1 h2 h3) (pm_gl (h.pm x hx))
  exact ⟨R, t, ht, h1, h2, h3, h4, e⟩
theorem EchOk.pvle (h : EchOk M n st e) : (piv st).natAbs ≤ Bd M st.length := by
  have := Dt_le (M := M) (leads st) (rows st) (by simp [leads, rows]) h.bd
  simpa [leads, Bd, piv] using this
/-- the rest of a row behind some of the rows -/
theorem EchOk.rest (h : EchOk M n st e) {row : List Int} (hl : row.length = n) (hv : ∀ k, (vc row k).natAbs ≤ M) : ∀ i, i ≤ e.length →
    ∃ T : Vec, (∀ l ∈ leads st, l ∉ (e.take i).map (·.1) → T l = piv st * vc row l) ∧ (∀ l ∈ (e.take i).map (·.1), T l = 0) ∧ (∀ k, (T k).natAbs ≤ (i + 1) * (M * Bd M st.length)) ∧ (InS (rows st) fun k => T k - piv st * vc row k) ∧
      ((e.take i).foldl (fun r e => clr r e.2 e.1) (low row)).length = n ∧ (gl ((e.take i).foldl (fun r e => clr r e.2 e.1) (low row)) = 1 ∨ ∀ k, vc ((e.take i).foldl (fun r e => clr r e.2 e.1) (low row)) k = 0) ∧
      ∃ a a' : Int, a ≠ 0 ∧ a' ≠ 0 ∧ ∀ k, a * vc ((e.take i).foldl (fun r e => clr r e.2 e.1) (low row)) k = a' * T k
  | 0, _ => by
    refine ⟨fun k => piv st * vc row k, fun _ _ _ => rfl, fun l hl => by simp at hl, fun k => ?_, InS.zero fun k => Int.sub_self _, by simp [low_len, hl], ?_, ?_⟩
    · rw [Int.natAbs_mul, Nat.zero_add, Nat.one_mul, Nat.mul_comm]
      exact Nat.mul_le_mul (hv k) h.pvle
    · by_cases z : ∃ k, vc row k ≠ 0
      · exact .inl (low_pm row z)
      · refine .inr fun k => low_zero (fun k => ?_) k
        by_cases q : vc row k = 0
        · exact q
        · exact absurd ⟨k, q⟩ z
    · obtain ⟨g, hg, eg⟩ := low_mul row
      exact ⟨piv st * g, 1, Int.mul_ne_zero (piv_nz h.good) hg, by decide, fun k => by
        show piv st * g * vc (low row) k = 1 * (piv st * vc row k)
        rw [eg k]; grind⟩
  | i + 1, hi => by
    obtain ⟨T, t1, t2, t3, t4, r1, r2, a, a', ha, ha', r3⟩ := EchOk.rest h hl hv i (by omega)
    rw [List.take_succ_eq_append_getElem (by omega), List.foldl_append, List.map_append]
    generalize hr : (e.take i).foldl (fun r e => clr r e.2 e.1) (low row) = r at r1 r2 r3 ⊢
    have hx : e[i] ∈ e := List.getElem_mem _
    generalize hxe : e[i] = x at hx ⊢
    obtain ⟨l, q⟩ := x
    have hlm : l ∈ leads st := h.mem hx
    have hli : l ∉ (e.take i).map (·.1) := fun z => by
      have nd := h.end_
      have e1 : e = e.take i ++ (l, q) :: e.drop (i + 1) := by rw [← hxe, ← List.drop_eq_getElem_cons (by omega), List.take_append_drop]
      rw [e1, List.map_append, List.nodup_append] at nd
      exact nd.2.2 l z l (by simp) rfl
    have tl := t1 l hlm hli
    obtain ⟨R, t, ht, R1, R2, R3, R4, Re⟩ := h.row hx
    have pq := h.par hx R1 R2 R3
    have hql := h.pv _ hx
    have hqn := h.len _ hx
    simp only at R1 R2 Re pq hql hqn
    have pz := piv_nz h.good
    refine ⟨fun k => T k - vc row l * R k, fun l' h1 h2 => ?_, fun l' h1 => ?_, fun k => ?_, ?_, ?_⟩
    · have n1 : l' ∉ (e.take i).map (·.1) := fun z => h2 (List.mem_append_left _ z)
      have n2 : l' ≠ l := fun z => h2 (List.mem_append_right _ (by simp [z]))
      show T l' - vc row l * R l' = _
      rw [t1 l' h1 n1, R2 l' h1 n2]; simp
    · show T l' - vc row l * R l' = 0
      rcases List.mem_append.mp h1 with h1 | h1
      · have n2 : l' ≠ l := fun z => hli (z ▸ h1)
        have h3 : l' ∈ leads st := by
          obtain ⟨y, hy, rfl⟩ := List.mem_map.mp h1
          exact h.mem (List.mem_of_mem_take hy)
        rw [t2 l' h1, R2 l' h3 n2]; simp
      · have : l' = l := by simpa using h1
        rw [this, tl, R1]; grind
    · have h5 := t3 k
      have h6 : (vc row l * R k).natAbs ≤ M * Bd M st.length := by
        rw [Int.natAbs_mul]; exact Nat.mul_le_mul (hv l) (R4 k)
      have h7 := Int.natAbs_sub_le (T k) (vc row l * R k)
      show (T k - vc row l * R k).natAbs ≤ _
      rw [Nat.add_mul (i + 1), Nat.one_mul]
      omega
    · refine (InS.lin 1 (-(vc row l)) t4 R3).ext fun k => ?_
      grind
    · show (clr r q l).length = n ∧ _
      refine ⟨by rw [clr_len (by omega)]; exact r1, ?_, ?_⟩
      · show gl (clr r q l) = 1 ∨ ∀ k, vc (clr r q l) k = 0
        unfold clr
        split
        · exact r2
        · by_cases z : ∃ k, vc (comb (vc q l) (vc r l) r q) k ≠ 0
          · exact .inl (low_pm _ z)
          · refine .inr fun k => low_zero (fun k => ?_) k
            by_cases q' : vc (comb (vc q l) (vc r l) r q) k = 0
            · exact q'
            · exact absurd ⟨k, q'⟩ z
      · show ∃ a a' : Int, a ≠ 0 ∧ a' ≠ 0 ∧ ∀ k, a * vc (clr r q l) k = a' * (T k - vc row l * R k)
        unfold clr
        split
        · rename_i z
          have vz : vc row l = 0 := by
            have := r3 l
            rw [z, tl] at this
            have : a' * (piv st * vc row l) = 0 := by omega
            exact ((Int.mul_eq_zero.mp ((Int.mul_eq_zero.mp this).resolve_left ha')).resolve_left pz)
          exact ⟨a, a', ha, ha', fun k => by rw [r3 k, vz]; simp⟩
        · rename_i z
          obtain ⟨g, hg, eg⟩ := low_mul (comb (vc q l) (vc r l) r q)
          refine ⟨a * g, a' * vc q l, Int.mul_ne_zero ha hg, Int.mul_ne_zero ha' hql, fun k => ?_⟩
          have e1 := eg k
          rw [comb_vc (by omega)] at e1
          have e2 := r3 k
          have e3 := r3 l
          rw [tl] at e3
          have e4 := pq k
          refine Int.eq_of_mul_eq_mul_left pz ?_
          rw [Int.mul_assoc a g, ← e1]
          grind
theorem EchOk.rst_len (h : EchOk M n st e) {row : List Int} (hl : row.length = n) (hv : ∀ k, (vc row k).natAbs ≤ M) : (rst e row).length = n := by
  obtain ⟨_, _, _, _, _, r, _⟩ := h.rest hl hv e.length (Nat.le_refl _)
  rw [List.take_length] at r
  exact r
/-- the whole rest is what is left -/
theorem EchOk.whole (h : EchOk M n st e) {row : List Int} (hl : row.length = n) (hv : ∀ k, (vc row k).natAbs ≤ M) : ∃ a a' : Int, a ≠ 0 ∧ a' ≠ 0 ∧ ∀ k, a * vc (rst e row) k = a' * red st (vc row) k := by
  obtain ⟨T, _, t2, _, t4, _, _, a, a', ha, ha', r3⟩ := h.rest hl hv e.length (Nat.le_refl _)
  rw [List.take_length] at r3 t2
  have hT : ∀ k, T k = red st (vc row) k := fun k => by
    have := zero_of h.good (InS.lin 1 (-1) t4 (red_span st (vc row))) (fun l hl => by
      have : l ∈ e.map (·.1) := by rw [h.ls]; exact List.mem_reverse.mpr hl
      rw [t2 l this, red_lead hl]; grind) k
    grind
  exact ⟨a, a', ha, ha', fun k => by rw [← hT]; exact r3 k⟩
theorem EchOk.rst_pm (h : EchOk M n st e) {row : List Int} (hl : row.length = n) (hv : ∀ k, (vc row k).natAbs ≤ M) (hz : ∃ k, vc (rst e row) k ≠ 0) : gl (rst e row) = 1 := by
  obtain ⟨_, _, _, _, _, _, r2, _⟩ := h.rest hl hv e.length (Nat.le_refl _)
  rw [List.take_length] at r2
  rcases r2 with r2 | r2
  · exact r2
  · obtain ⟨k, hk⟩ := hz
    exact absurd (r2 k) hk
/-- no new lead: in the span -/
theorem EchOk.none (h : EchOk M n st e) {row : List Int} (hl : row.length = n) (hv : ∀ k, (vc row k).natAbs ≤ M) (hf : fnz (rst e row) = .none) : InS (rows st) (vc row) ∧ ext e row = e := by
  refine ⟨(red_zero h.good _).mpr fun k => ?_, by unfold ext; rw [hf]⟩
  obtain ⟨a, a', ha, ha', e⟩ := h.whole hl hv
  have := e k
  rw [fnz_none hf k] at this
  exact (Int.mul_eq_zero.mp (show a' * red st (vc row) k = 0 by omega)).resolve_left ha'
theorem EchOk.some (h : EchOk M n st e) {row : List Int} (hl : row.length = n) (hv : ∀ k, (vc row k).natAbs ≤ M) {a : Nat} (hf : fnz (rst e row) = .some a) : EchOk M n ((a, vc row) :: st) (ext e row) := by
  obtain ⟨h1, h2, h3⟩ := fnz_some hf
  obtain ⟨c, c', hc, hc', ew⟩ := h.whole hl hv
  have hlen := h.rst_len hl hv
  have hpm := h.rst_pm hl hv ⟨a, h2⟩
  generalize hr : rst e row = r at *
  have rz : ∀ l ∈ leads st, vc r l = 0 := fun l hl' => by
    have := ew l
    rw [red_lead hl'] at this
    exact (Int.mul_eq_zero.mp (show c * vc r l = 0 by omega)).resolve_left hc
  have ra : red st (vc row) a ≠ 0 := fun z => by
    have := ew a
    rw [z] at this
    exact h2 ((Int.mul_eq_zero.mp (show c * vc r a = 0 by omega)).resolve_left hc)
  have an : a ∉ leads st := fun z => ra (red_lead z)
  have hrs : InS (rows ((a, vc row) :: st)) (vc r) := by
    refine InS.div hc ?_
    have s1 := (red_span st (vc row)).cons (b := vc row)
    have s2 : InS (vc row :: rows st) (vc row) := InS.mem List.mem_cons_self
    refine (InS.lin c' (c' * piv st) s1 s2).ext fun k => ?_
    have := ew k
    grind
  have he : ext e row = e.map (fun x => (x.1, clr x.2 r a)) ++ [(a, r)] := by unfold ext; rw [hr, hf]
  have new : ∀ x ∈ e, vc (clr x.2 r a) a = 0 ∧ (∀ l ∈ leads st, l ≠ x.1 → vc (clr x.2 r a) l = 0) ∧ vc (clr x.2 r a) x.1 ≠ 0 ∧ gl (clr x.2 r a) = 1 ∧ (clr x.2 r a).length = n ∧ InS (rows ((a, vc row) :: st)) (vc (clr x.2 r a)) := fun x hx => by
    have xl := h.len x hx
    have xm := h.mem hx
    unfold clr
    by_cases z : vc x.2 a = 0
    · rw [if_pos z]
      exact ⟨z, fun l hl' hne => h.zr x hx l hl' hne, h.pv x hx, h.pm x hx, xl, (h.sp x hx).cons⟩
    · rw [if_neg z]
      obtain ⟨g, hg, eg⟩ := low_mul (comb (vc r a) (vc x.2 a) x.2 r)
      have cv := comb_vc (a := vc r a) (b := vc x.2 a) (r := x.2) (q := r) (by omega)
      have x1 : vc (low (comb (vc r a) (vc x.2 a) x.2 r)) x.1 ≠ 0 := fun q => by
        have := eg x.1
        rw [q, cv, rz x.1 xm] at this
        have : vc r a * vc x.2 x.1 = 0 := by simpa using this
        rcases Int.mul_eq_zero.mp this with q | q
        · exact h2 q
        · exact h.pv x hx q
      refine ⟨?_, fun l hl' hne => ?_, x1, ?_, by rw [low_len, comb_len (by omega)]; exact xl, ?_⟩
      · have := eg a
        rw [cv] at this
        exact (Int.mul_eq_zero.mp (show g * vc (low (comb (vc r a) (vc x.2 a) x.2 r)) a = 0 by grind)).resolve_left hg
      · have := eg l
        rw [cv, rz l hl', h.zr x hx l hl' hne] at this
        exact (Int.mul_eq_zero.mp (show g * vc (low (comb (vc r a) (vc x.2 a) x.2 r)) l = 0 by grind)).resolve_left hg
      · refine low_pm _ ⟨x.1, fun q => x1 ?_⟩
        have := eg x.1
        rw [q] at this
        exact (Int.mul_eq_zero.mp this.symm).resolve_left hg
      · refine InS.div hg ((InS.lin (vc r a) (-(vc x.2 a)) ((h.sp x hx).cons (b := vc row)) hrs).ext fun k => ?_)
        have := eg k
        rw [cv] at this
        grind
  refine ⟨⟨h.good, ra⟩, ?_, ?_, ?_, ?_, ?_, ?_, ?_, ?_⟩
  · intro x hx
    rcases List.mem_cons.mp hx with rfl | hx
    · exact hv
    · exact h.bd x hx
  · rw [he]
    simp only [List.map_append, List.map_map, List.map_cons, List.map_nil]
    show e.map (·.1) ++ [a] = (a :: leads st).reverse
    rw [h.ls, List.reverse_cons]
  · rw [he]; intro x hx
    rcases List.mem_append.mp hx with hx | hx
    · obtain ⟨y, hy, rfl⟩ := List.mem_map.mp hx
      exact (new y hy).2.2.2.2.1
    · have : x = (a, r) := by simpa using hx
      rw [this]; exact hlen
  · intro l hl'
    rcases List.mem_cons.mp hl' with rfl | hl'
    · rw [hlen] at h1; exact h1
    · exact h.lt l hl'
  · rw [he]; intro x hx
    rcases List.mem_append.mp hx with hx | hx
    · obtain ⟨y, hy, rfl⟩ := List.mem_map.mp hx
      exact (new y hy).2.2.1
    · have : x = (a, r) := by simpa using hx
      rw [this]; exact h2
  · rw [he]; intro x hx l hl' hne
    rcases List.mem_append.mp hx with hx | hx
    · obtain ⟨y, hy, rfl⟩ := List.mem_map.mp hx
      rcases List.mem_cons.mp hl' with rfl | hl'
      · exact (new y hy).1
      · exact (new y hy).2.1 l hl' hne
    · have : x = (a, r) := by simpa using hx
      subst this
      rcases List.mem_cons.mp hl' with rfl | hl'
      · exact absurd rfl hne
      · exact rz l hl'
  · rw [he]; intro x hx
    rcases List.mem_append.mp hx with hx | hx
    · obtain ⟨y, hy, rfl⟩ := List.mem_map.mp hx
      exact (new y hy).2.2.2.1
    · have : x = (a, r) := by simpa using hx
      rw [this]; exact hpm
  · rw [he]; intro x hx
    rcases List.mem_append.mp hx with hx | hx
    · obtain ⟨y, hy, rfl⟩ := List.mem_map.mp hx
      exact (new y hy).2.2.2.2.2
    · have : x = (a, r) := by simpa using hx
      rw [this]; exact hrs
end
end LA

namespace LA
/-! ### the law's own elimination -/
def bstep (s : List Int × Int) (e : Nat × List Int) : List Int × Int :=
  ((List.range s.1.length).map fun k => (vc e.2 e.1 * vc s.1 k - vc s.1 e.1 * vc e.2 k).fdiv s.2, vc e.2 e.1)
/-- the rows that the law keeps, the oldest ahead -/
def Lw (n : Nat) : Ech → LE → Prop
  | [], rs => rs = []
  | (l, b) :: st, rs => ∃ rs' r, rs = rs' ++ [(l, r)] ∧ Lw n st rs' ∧ r.length = n ∧ l < n ∧ ∀ k, vc r k = red st b k
theorem vc_range {n : Nat} (f : Nat → Int) (h : ∀ k, n ≤ k → f k = 0) (k : Nat) : vc ((List.range n).map f) k = f k := by
  by_cases hk : k < n
  · rw [vc_eq (by simpa using hk)]; simp
  · rw [vc_out (by simp; omega), h k (by omega)]
theorem Lw.len {n : Nat} : ∀ {st : Ech} {rs : LE}, Lw n st rs → rs.length = st.length
  | [], rs, h => by rw [show rs = [] from h]; rfl
  | (l, b) :: st, rs, ⟨rs', r, e, h, _⟩ => by rw [e]; simp [h.len]
theorem Lw.lens {n : Nat} : ∀ {st : Ech} {rs : LE}, Lw n st rs → ∀ x ∈ rs, x.2.length = n ∧ x.1 < n
  | [], rs, h, x, hx => by rw [show rs = [] from h] at hx; cases hx
  | (l, b) :: st, rs, ⟨rs', r, e, h, hl, hn, _⟩, x, hx => by
    rw [e] at hx
    rcases List.mem_append.mp hx with hx | hx
    · exact h.lens x hx
    · have : x = (l, r) := by simpa using hx
      rw [this]; exact ⟨hl, hn⟩
theorem Lw.red {n : Nat} {v : List Int} (hv : v.length = n) : ∀ {st : Ech} {rs : LE}, Good st → Lw n st rs → ∃ v' : List Int, rs.foldl bstep (v, 1) = (v', piv st) ∧ v'.length = n ∧ ∀ k, vc v' k = LA.red st (vc v) k
  | [], rs, _, h => by
    rw [show rs = [] from h]
    exact ⟨v, rfl, hv, fun k => by
      show _ = Dt [k] [vc v]
      simp [Dt, K]⟩
  | (l, b) :: st, rs, g, ⟨rs', r, e, h, hl, hn, hr⟩ => by
    obtain ⟨v', e1, l1, h1⟩ := Lw.red hv g.1 h
    rw [e, List.foldl_append, e1]
    have out : ∀ k, n ≤ k → (vc r l * vc v' k - vc v' l * vc r k).fdiv (piv st) = 0 := fun k hk => by
      rw [vc_out (r := v') (k := k) (by omega), vc_out (r := r) (k := k) (by omega)]; simp
    have e3 : vc r l = piv ((l, b) :: st) := hr l
    refine ⟨(List.range v'.length).map fun k => (vc r l * vc v' k - vc v' l * vc r k).fdiv (piv st), by rw [← e3]; rfl, by simp [l1], fun k => ?_⟩
    show vc ((List.range v'.length).map fun k => (vc r l * vc v' k - vc v' l * vc r k).fdiv (piv st)) k = _
    rw [l1, vc_range _ out, hr l, hr k, h1 l, h1 k, ← red_step g, Int.mul_fdiv_cancel_left _ (piv_nz g.1)]
/-- a prefix -/
theorem Lw.take {n : Nat} : ∀ {st : Ech} {rs : LE}, Good st → Lw n st rs → ∀ i, i ≤ rs.length → ∃ st', Good st' ∧ Lw n st' (rs.take i) ∧ st'.length = i ∧ (∀ r ∈ rows st', r ∈ rows st)
  | [], rs, g, h, i, hi => by
    rw [show rs = [] from h] at hi ⊢
    have : i = 0 := by simpa using hi
    subst this
    exact ⟨[], trivial, rfl, rfl, fun r h => h⟩
  | (l, b) :: st, rs, g, h, i, hi => by
    by_cases hk : i = rs.length
    · subst hk
      rw [List.take_length]
      exact ⟨_, g, h, h.len.symm, fun r h => h⟩
    · obtain ⟨rs', r, e, h', _⟩ := h
      have hl : rs.length = rs'.length + 1 := by rw [e]; simp
      obtain ⟨st', a, b', c, d⟩ := Lw.take g.1 h' i (by omega)
      refine ⟨st', a, ?_, c, fun r hr => List.mem_cons_of_mem _ (d r hr)⟩
      rw [e, List.take_append_of_le_length (by omega)]; exact b'
/-! ### spans: exchange -/
theorem InS.app : ∀ {as bs : List Vec} {w : Vec}, InS bs w → InS (as ++ bs) w
  | [], _, _, h => h
  | a :: as, bs, w, h => (InS.app (as := as) h).cons
end LA

set_option exponentiation.threshold 20000
namespace Ln
open PySem PySem.Spec L2 PD LA
noncomputable abbrev b_law_row : Ev → Option Fl :=
    (sq (stO 2 (mkLstO aNil))
    (sq (stV 3 (b2 (cB (aCons (gv 0) aNil) intD) (kI 2147483629) modI))
    (sq (stV 4 (b2 (gv 0) (b2 (kI 10) (kI 18) powI) subI))
    (sq (forS (rng1 (gv 1)) (gN 5) (sq (stV 3 (b2 (cB (aCons (b2 (b2 (b2 (gv 3) (kI 48271) mulI) (b2 (kI 977) (gv 5) mulI) addA) (kI 12345) addA) aNil) intD) (kI 2147483647) modI))
    (sq (stV 6 (b2 (cB (aCons (b2 (b2 (b2 (gv 3) (kI 69621) mulI) (b2 (kI 31) (gv 5) mulI) addA) (kI 7) addA) aNil) intD) (kI 2147483629) modI))
    (sq (app 2 (ifV (asB (b2 (gv 0) (b2 (kI 10) (kI 18) powI) geI)) (b2 (cB (aCons (gv 4) aNil) intD) (kI 1000) modI) (b2 (cB (aCons (b2 (gv 6) (kI 4099) divI) aNil) intD) (kI 1000) modI)))
    (stV 4 (b2 (gv 4) (kI 1000) divI))))))
    (fz 2 (rtV (gv 2)))))))
noncomputable def m_law_row : List D → Option D := runP 7 (b_law_row)
noncomputable abbrev b_law_cell : Ev → Option Fl :=
    (rtV (ifV (asB (b2 (gv 1) (cB (aCons (gv 0) aNil) lenD) ltI)) (cB (aCons (b2 (gv 0) (gv 1) ixD) aNil) intD) (kI 0)))
noncomputable def m_law_cell : List D → Option D := runP 2 (b_law_cell)
noncomputable abbrev b_law_number : Ev → Option Fl :=
    (sq (ifS (asB (b2 (gv 0) (kI 3) ltI)) (rtV (b2 (b2 (cB (aCons (b2 (gv 1) (kI 0) ixD) aNil) intD) (kI 5) modI) (kI 2) subI)) skip)
    (sq (ifS (asB (b2 (gv 0) (kI 3) eqD)) (rtV (b2 (b2 (gv 1) (kI 0) ixD) (kI 500) subI)) skip)
    (sq (ifS (asB (b2 (gv 0) (kI 4) eqD)) (rtV (b2 (mkLst (aCons (kI 0) (aCons (kI 0) (aCons (kI 0) (aCons (kI 1) (aCons (b1 (kI 1) negI) (aCons (kI 7) aNil))))))) (b2 (cB (aCons (b2 (gv 1) (kI 0) ixD) aNil) intD) (kI 6) modI) ixD)) skip)
    (rtV (b2 (b2 (b2 (b2 (b2 (gv 1) (kI 0) ixD) (kI 500) subI) (b2 (kI 10) (kI 27) powI) mulA) (b2 (b2 (gv 1) (kI 1) ixD) (b2 (kI 10) (kI 13) powI) mulA) addA) (b2 (gv 1) (kI 2) ixD) addA)))))
noncomputable def m_law_number : List D → Option D := runP 2 (b_law_number)
/-! ### sizes -/
theorem lg {x b : Nat} (h0 : 0 < b) (h : x < 2 ^ b) : x.log2 < b := PySem.Flt.log2_lt_of h0 h
theorem mul_bt {i j : Int} {a b : Nat} (ha : i.natAbs < 2 ^ a) (hb : j.natAbs < 2 ^ b) (h0 : 0 < a) (h1 : 0 < b) (h : a + b ≤ 1000000) : mulA (.int i) (.int j) = some (.int (i * j)) := by
  refine ew_mulW ?_
  have := lg h0 ha
  have := lg h1 hb
  omega
/-- a row, as a list or as a tuple -/
def Rw (d : D) (r : List Int) : Prop := d = .lst (r.map .int) ∨ d = .tup (r.map .int)
theorem Rw.seq {d : D} {r : List Int} (h : Rw d r) : seqD d = some (r.map .int) := by rcases h with rfl | rfl <;> rfl
theorem Rw.list {d : D} {r : List Int} (h : Rw d r) : listO [d] = some (.dats (r.map .int)) := by rcases h with rfl | rfl <;> rfl
theorem Rw.len {d : D} {r : List Int} (h : Rw d r) : lenD [d] = some (.int r.length) := by
  rcases h with rfl | rfl
  · rw [ev_lenL]; simp
  · rw [ev_lenT]; simp
theorem at_vc {r : List Int} {k : Nat} (h : k < r.length) : ixD (.lst (r.map .int)) (.int k) = some (.int (vc r k)) := by
  show atI (r.map D.int) (k : Int) = _
  exact atI_nat (by rw [List.getElem?_map, List.getElem?_eq_getElem h, vc_eq h]; rfl)
/-! ### divisors -/
end Ln

namespace LA
/-! ### which rows are taken -/
def Gd : List Vec → List Vec → Prop
  | [], X => X = []
  | r :: rs, X => ∃ X', Gd rs X' ∧ ((InS X' r ∧ X = X') ∨ (¬ InS X' r ∧ X = r :: X'))
theorem Gd.one : ∀ {rs X Y : List Vec}, Gd rs X → Gd rs Y → X = Y
  | [], X, Y, h1, h2 => by rw [show X = [] from h1, show Y = [] from h2]
  | r :: rs, X, Y, ⟨X', a1, a2⟩, ⟨Y', b1, b2⟩ => by
    have := Gd.one a1 b1
    subst this
    rcases a2 with ⟨a2, a3⟩ | ⟨a2, a3⟩ <;> rcases b2 with ⟨b2, b3⟩ | ⟨b2, b3⟩
    · rw [a3, b3]
    · exact absurd a2 b2
    · exact absurd b2 a2
    · rw [a3, b3]
theorem Gd.sub : ∀ {rs X : List Vec}, Gd rs X → X.Sublist rs
  | [], X, h => by rw [show X = [] from h]; exact List.Sublist.refl _
  | r :: rs, X, ⟨X', a1, a2⟩ => by
    rcases a2 with ⟨a2, a3⟩ | ⟨a2, a3⟩
    · rw [a3]; exact a1.sub.cons _
    · rw [a3]; exact a1.sub.cons₂ _
/-! common multiples -/
end LA
namespace Ln
open PySem PySem.Spec L2 PD LA
section
variable {n : Nat} {st : Ech} {e : LE}
end
end Ln

namespace Ln
open PySem PySem.Spec L2 PD LA
/-! ### the law's own functions -/
end Ln

namespace LA
/-! ### sums of products -/
def dot (n : Nat) (u w : Vec) : Int := ((List.range n).map fun k => u k * w k).sum
theorem sum_lin (a b : Int) (f g : Nat → Int) : ∀ l : List Nat, (l.map fun k => a * f k + b * g k).sum = a * (l.map f).sum + b * (l.map g).sum
  | [] => by simp
  | k :: l => by
    simp only [List.map_cons, List.sum_cons, sum_lin a b f g l]
    grind
theorem dot_lin (n : Nat) (a b : Int) (u v w : Vec) : dot n (fun k => a * u k + b * v k) w = a * dot n u w + b * dot n v w := by
  unfold dot
  rw [← sum_lin]
  congr 1
  apply List.map_congr_left
  intro k _
  grind
theorem dot_ext {n : Nat} {u v w : Vec} (h : ∀ k, u k = v k) : dot n u w = dot n v w := by rw [show u = v from funext h]
theorem sum_zero {g : Nat → Int} : ∀ {l : List Nat}, (∀ k ∈ l, g k = 0) → (l.map g).sum = 0
  | [], _ => rfl
  | k :: l, h => by rw [List.map_cons, List.sum_cons, h k List.mem_cons_self, sum_zero fun k hk => h k (List.mem_cons_of_mem _ hk)]; rfl
theorem sum_one {g : Nat → Int} {a : Nat} : ∀ {l : List Nat}, l.Nodup → a ∈ l → (∀ k ∈ l, k ≠ a → g k = 0) → (l.map g).sum = g a
  | k :: l, nd, ha, h => by
    rw [List.nodup_cons] at nd
    rw [List.map_cons, List.sum_cons]
    by_cases e : k = a
    · subst e
      rw [sum_zero fun k' hk => h k' (List.mem_cons_of_mem _ hk) fun z => nd.1 (z ▸ hk)]; simp
    · rw [h k List.mem_cons_self e, sum_one nd.2 (by
        rcases List.mem_cons.mp ha with z | z
        · exact absurd z.symm e
        · exact z) fun k' hk hn => h k' (List.mem_cons_of_mem _ hk) hn]; simp
theorem sum_two {g : Nat → Int} {a b n : Nat} (ha : a < n) (hb : b < n) (hab : a ≠ b) (h : ∀ k, k ≠ a → k ≠ b → g k = 0) : ((List.range n).map g).sum = g a + g b := by
  have e : (List.range n).map g = (List.range n).map fun k => 1 * (if k = a then g k else 0) + 1 * (if k = a then 0 else g k) := by
    apply List.map_congr_left
    intro k _
    split <;> omega
  rw [e, sum_lin, sum_one (a := a) List.nodup_range (by simpa using ha) (fun k _ hk => if_neg hk), sum_one (a := b) List.nodup_range (by simpa using hb) (fun k _ hk => by
    split
    · rfl
    · rename_i hka; exact h k hka hk), if_pos rfl, if_neg (fun z => hab z.symm)]
  omega
/-! ### the balance -/
end LA

namespace LA
/-! ### the simplex method: exact steps -/
theorem Dt_front' (y : List Nat) : ∀ (x : List Nat), ∃ s : Int, (s = 1 ∨ s = -1) ∧ ∀ l rs, Dt (x ++ l :: y) rs = s * Dt (l :: (x ++ y)) rs
  | [] => ⟨1, .inl rfl, fun l rs => by simp⟩
  | a :: x => by
    obtain ⟨s, hs, h⟩ := Dt_front' y x
    refine ⟨-s, by omega, fun l rs => ?_⟩
    have e : Dt (x ++ l :: y) = fun rs => s * Dt (l :: (x ++ y)) rs + 0 * Dt (l :: (x ++ y)) rs := by funext t; rw [h]; omega
    show K a (Dt (x ++ l :: y)) rs = -s * Dt (l :: a :: (x ++ y)) rs
    rw [e, K_lin, Dt_swap l a]
    show s * Dt (a :: l :: (x ++ y)) rs + _ = _
    grind
abbrev at_ (B : List Nat) (i : Nat) : Nat := B.getD i 0
theorem at_mem {B : List Nat} {i : Nat} (h : i < B.length) : at_ B i ∈ B := by
  unfold at_
  rw [List.getD_eq_getElem?_getD, List.getElem?_eq_getElem h]; exact List.getElem_mem h
theorem mem_at {B : List Nat} {β : Nat} (h : β ∈ B) : ∃ i, i < B.length ∧ at_ B i = β := by
  obtain ⟨i, hi, e⟩ := List.getElem_of_mem h
  exact ⟨i, hi, by unfold at_; rw [List.getD_eq_getElem?_getD, List.getElem?_eq_getElem hi]; exact e⟩
theorem at_inj {B : List Nat} (nd : B.Nodup) {i j : Nat} (hi : i < B.length) (hj : j < B.length) (e : at_ B i = at_ B j) : i = j := by
  unfold at_ at e
  rw [List.getD_eq_getElem?_getD, List.getD_eq_getElem?_getD, List.getElem?_eq_getElem hi, List.getElem?_eq_getElem hj] at e
  exact (List.getElem_inj nd).mp e
theorem at_set {B : List Nat} {i : Nat} (h : i < B.length) (c j : Nat) : at_ (B.set i c) j = if j = i then c else at_ B j := by
  unfold at_
  rw [List.getD_eq_getElem?_getD, List.getD_eq_getElem?_getD]
  by_cases e : j = i
  · subst e; rw [if_pos rfl, List.getElem?_set_self h]; rfl
  · rw [if_neg e, List.getElem?_set_ne (Ne.symm e)]
theorem split_at {B : List Nat} {i : Nat} (h : i < B.length) : ∃ x y, x.length = i ∧ B = x ++ at_ B i :: y ∧ ∀ k, B.set i k = x ++ k :: y := by
  refine ⟨B.take i, B.drop (i + 1), by simp; omega, ?_, fun k => ?_⟩
  · unfold at_
    rw [List.getD_eq_getElem?_getD, List.getElem?_eq_getElem h, Option.getD_some, ← List.drop_eq_getElem_cons h, List.take_append_drop]
  · rw [List.set_eq_take_append_cons_drop, if_pos h]
theorem cr_span {B : List Nat} {O : List Vec} {i : Nat} (h : i < B.length) : InS O fun k => Dt (B.set i k) O := by
  obtain ⟨x, y, hx, e, es⟩ := split_at h
  obtain ⟨s, hs, hf⟩ := Dt_front' y x
  refine (InS.smul s (K_span O (Dt (x ++ y)))).ext fun k => ?_
  rw [es k, hf]; rfl
theorem cr_self {B : List Nat} {O : List Vec} {i : Nat} (h : i < B.length) : Dt (B.set i (at_ B i)) O = Dt B O := by
  obtain ⟨x, y, hx, e, es⟩ := split_at h
  rw [es, ← e]
theorem cr_zero {B : List Nat} {O : List Vec} {i j : Nat} (h : i < B.length) (hj : j < B.length) (hij : j ≠ i) : Dt (B.set i (at_ B j)) O = 0 := by
  obtain ⟨x, y, hx, e, es⟩ := split_at h
  obtain ⟨s, hs, hf⟩ := Dt_front' y x
  have : at_ B j ∈ x ++ y := by
    have h1 : at_ B j = at_ (x ++ at_ B i :: y) j := by rw [← e]
    rw [h1]
    have hl : j < (x ++ at_ B i :: y).length := by rw [← e]; exact hj
    unfold at_
    rw [List.getD_eq_getElem?_getD, List.getElem?_eq_getElem hl, Option.getD_some]
    by_cases hlt : j < x.length
    · rw [List.getElem_append_left hlt]; exact List.mem_append_left _ (List.getElem_mem _)
    · rw [List.getElem_append_right (by omega)]
      obtain ⟨t, ht⟩ : ∃ t, j - x.length = t + 1 := ⟨j - x.length - 1, by omega⟩
      simp only [ht, List.getElem_cons_succ]
      exact List.mem_append_right _ (List.getElem_mem _)
  rw [es, hf, Dt_dup this]; simp
structure SS where
  B : List Nat
  T : Nat → Vec
  d : Int
structure SInv (m N : Nat) (O : List Vec) (Om : Vec) (ep : Int) (S : SS) : Prop where
  bl : S.B.length = m
  bn : S.B.Nodup
  bN : ∀ β ∈ S.B, β < N
  dp : 0 < S.d
  dg : ∀ i, i < m → S.T i (at_ S.B i) = S.d
  zr : ∀ i k, i < m → k < m → k ≠ i → S.T i (at_ S.B k) = 0
  zm : ∀ k, k < m → S.T m (at_ S.B k) = 0
  sp : ∀ i, i < m → InS O (S.T i)
  sm : InS O fun k => S.T m k - S.d * Om k
  un : ∀ u, InS O u → (∀ k, k < m → u (at_ S.B k) = 0) → ∀ k, u k = 0
  pos : ∀ i, i < m → 0 ≤ S.T i N
  dt : S.d = ep * Dt S.B O
structure SStep (m N : Nat) (S S' : SS) (c r : Nat) : Prop where
  cN : c < N
  cneg : S.T m c < 0
  cmin : ∀ k, k < c → 0 ≤ S.T m k
  rm : r < m
  rpos : 0 < S.T r c
  rmin : ∀ i, i < m → 0 < S.T i c → S.T r N * S.T i c ≤ S.T i N * S.T r c ∧ (S.T r N * S.T i c = S.T i N * S.T r c → at_ S.B r ≤ at_ S.B i)
  B' : S'.B = S.B.set r c
  d' : S'.d = S.T r c
  Tr : ∀ k, S'.T r k = S.T r k
  Ti : ∀ i, i ≤ m → i ≠ r → ∀ k, S'.T i k = (S.T i k * S.T r c - S.T i c * S.T r k).fdiv S.d
section
variable {m N : Nat} {O : List Vec} {Om : Vec} {ep : Int} {S S' : SS} {c r : Nat}
theorem SInv.cr (h : SInv m N O Om ep S) {i : Nat} (hi : i < m) (k : Nat) : S.T i k = ep * Dt (S.B.set i k) O := by
  have hb := h.bl
  have := h.un _ (InS.lin 1 (-ep) (h.sp i hi) (cr_span (B := S.B) (O := O) (i := i) (by omega))) (fun j hj => by
    by_cases e : j = i
    · subst e; rw [h.dg j hi, cr_self (B := S.B) (O := O) (i := j) (by omega), h.dt]; grind
    · rw [h.zr i j hi hj e, cr_zero (B := S.B) (O := O) (i := i) (j := j) (by omega) (by omega) e]; simp) k
  grind
theorem red_zip (hl : S.B.length = O.length) (v : Vec) : InS O (fun k => Dt (k :: S.B) (v :: O) - Dt S.B O * v k) ∧ ∀ k, k < S.B.length → Dt (at_ S.B k :: S.B) (v :: O) = 0 := by
  have e1 : leads (S.B.zip O) = S.B := by
    unfold leads
    rw [List.map_fst_zip (by omega)]
  have e2 : rows (S.B.zip O) = O := by
    unfold rows
    rw [List.map_snd_zip (by omega)]
  have h1 := red_span (S.B.zip O) v
  unfold red piv at h1
  rw [e1, e2] at h1
  exact ⟨h1, fun k hk => Dt_dup (at_mem hk) _⟩
theorem SInv.crm (h : SInv m N O Om ep S) (hO : O.length = m) (k : Nat) : S.T m k = ep * Dt (k :: S.B) (Om :: O) := by
  have hb := h.bl
  obtain ⟨z1, z2⟩ := red_zip (S := S) (O := O) (by omega) Om
  have := h.un _ (InS.lin 1 (-ep) h.sm z1) (fun j hj => by
    rw [h.zm j hj, z2 j (by omega), h.dt]; grind) k
  have hd := h.dt
  grind
theorem SStep.cB (h : SInv m N O Om ep S) (s : SStep m N S S' c r) : c ∉ S.B := fun z => by
  obtain ⟨i, hi, e⟩ := mem_at z
  have h1 := h.zm i (by rw [h.bl] at hi; exact hi)
  rw [e] at h1
  have := s.cneg
  omega
theorem SStep.un (h : SInv m N O Om ep S) (s : SStep m N S S' c r) : ∀ u, InS O u → (∀ k, k < m → u (at_ S'.B k) = 0) → ∀ k, u k = 0 := by
  intro u hu hz
  have hb := h.bl
  have hr := s.rm
  have a1 : ∀ k, k < m → k ≠ r → u (at_ S.B k) = 0 := fun k hk hne => by
    have := hz k hk
    rwa [s.B', at_set (by omega), if_neg hne] at this
  have a2 : u c = 0 := by
    have := hz r hr
    rwa [s.B', at_set (by omega), if_pos rfl] at this
  have v := h.un _ (InS.lin S.d (-(u (at_ S.B r))) hu (h.sp r hr)) (fun k hk => by
    by_cases e : k = r
    · subst e; rw [h.dg k hr]; grind
    · rw [a1 k hk e, h.zr r k hr hk e]; simp)
  have hp := s.rpos
  have v0 : u (at_ S.B r) = 0 := by
    have := v c
    rw [a2] at this
    have : u (at_ S.B r) * S.T r c = 0 := by grind
    exact (Int.mul_eq_zero.mp this).resolve_right (by omega)
  refine h.un u hu fun k hk => ?_
  by_cases e : k = r
  · subst e; exact v0
  · exact a1 k hk e
theorem SStep.ex (h : SInv m N O Om ep S) (hO : O.length = m) (s : SStep m N S S' c r) : (∀ i, i < m → i ≠ r → ∀ k, S.d * (ep * Dt (S'.B.set i k) O) = S.T i k * S.T r c - S.T i c * S.T r k) ∧ ∀ k, S.d * (ep * Dt (k :: S'.B) (Om :: O)) = S.T m k * S.T r c - S.T m c * S.T r k := by
  have hb := h.bl
  have hr := s.rm
  have hb' : S'.B.length = m := by rw [s.B']; simpa using hb
  have ac : at_ S'.B r = c := by rw [s.B', at_set (by omega), if_pos rfl]
  have an : ∀ k, k ≠ r → at_ S'.B k = at_ S.B k := fun k hk => by rw [s.B', at_set (by omega), if_neg hk]
  have p : S.T r c = ep * Dt S'.B O := by rw [h.cr hr, s.B']
  refine ⟨fun i hi hir k => ?_, fun k => ?_⟩
  · have := SStep.un h s _ (InS.lin 1 (-(S.d * ep)) (InS.lin (S.T r c) (-(S.T i c)) (h.sp i hi) (h.sp r hr)) (cr_span (B := S'.B) (O := O) (i := i) (by omega))) (fun j hj => by
      by_cases e : j = i
      · subst e
        rw [cr_self (B := S'.B) (O := O) (i := j) (by omega), an j hir, h.dg j hi, h.zr r j hr hi hir, p]; grind
      · rw [cr_zero (B := S'.B) (O := O) (i := i) (j := j) (by omega) (by omega) e]
        by_cases e2 : j = r
        · subst e2; rw [ac]; grind
        · rw [an j e2, h.zr i j hi hj e, h.zr r j hr hj e2]; simp) k
    grind
  · obtain ⟨z1, z2⟩ := red_zip (S := S') (O := O) (by omega) Om
    have := SStep.un h s _ (InS.lin 1 (-(S.d * ep)) (InS.lin (S.T r c) (-(S.T m c)) h.sm (h.sp r hr)) z1) (fun j hj => by
      rw [z2 j (by omega)]
      by_cases e2 : j = r
      · subst e2; rw [ac]; grind
      · rw [an j e2, h.zm j hj, h.zr r j hr hj e2]; grind) k
    grind
/-- the step keeps everything -/
theorem SStep.inv (h : SInv m N O Om ep S) (hO : O.length = m) (s : SStep m N S S' c r) : SInv m N O Om ep S' ∧ (∀ i, i ≤ m → i ≠ r → ∀ k, S.d * S'.T i k = S.T i k * S.T r c - S.T i c * S.T r k) := by
  have hb := h.bl
  have hr := s.rm
  have hb' : S'.B.length = m := by rw [s.B']; simpa using hb
  have ac : at_ S'.B r = c := by rw [s.B', at_set (by omega), if_pos rfl]
  have an : ∀ k, k ≠ r → at_ S'.B k = at_ S.B k := fun k hk => by rw [s.B', at_set (by omega), if_neg hk]
  have p : S.T r c = ep * Dt S'.B O := by rw [h.cr hr, s.B']
  have hp := s.rpos
  have hd := h.dp
  obtain ⟨x1, x2⟩ := SStep.ex h hO s
  have t1 : ∀ i, i < m → i ≠ r → ∀ k, S'.T i k = ep * Dt (S'.B.set i k) O := fun i hi hir k => by
    rw [s.Ti i (by omega) hir, ← x1 i hi hir k, Int.mul_fdiv_cancel_left _ (by omega)]
  have t2 : ∀ k, S'.T m k = ep * Dt (k :: S'.B) (Om :: O) := fun k => by
    rw [s.Ti m (by omega) (by omega), ← x2 k, Int.mul_fdiv_cancel_left _ (by omega)]
  have ex : ∀ i, i ≤ m → i ≠ r → ∀ k, S.d * S'.T i k = S.T i k * S.T r c - S.T i c * S.T r k := fun i hi hir k => by
    by_cases e : i = m
    · rw [e, t2, x2]
    · rw [t1 i (by omega) hir, x1 i (by omega) hir]
  obtain ⟨z1, z2⟩ := red_zip (S := S') (O := O) (by omega) Om
  refine ⟨⟨hb', ?_, fun β hβ => ?_, by rw [s.d']; exact hp, fun i hi => ?_, fun i k hi hk hne => ?_, fun k hk => ?_, fun i hi => ?_, ?_, SStep.un h s, fun i hi => ?_, by rw [s.d']; exact p⟩, ex⟩
  · rw [s.B']
    have cB := SStep.cB h s
    obtain ⟨x, y, hx, e, es⟩ := split_at (B := S.B) (i := r) (by omega)
    rw [es]
    have nd := h.bn
    rw [e] at nd cB
    rw [List.nodup_append] at nd ⊢
    obtain ⟨n1, n2, n3⟩ := nd
    rw [List.nodup_cons] at n2
    refine ⟨n1, List.nodup_cons.mpr ⟨fun z => cB (by simp [z]), n2.2⟩, fun a ha b hb => ?_⟩
    rcases List.mem_cons.mp hb with rfl | hb
    · exact fun z => cB (by rw [← z]; simp [ha])
    · exact n3 a ha b (List.mem_cons_of_mem _ hb)
  · obtain ⟨i, hi, e⟩ := mem_at hβ
    by_cases e2 : i = r
    · rw [e2, ac] at e; rw [← e]; exact s.cN
    · rw [an i e2] at e; rw [← e]; exact h.bN _ (at_mem (by omega))
  · by_cases e : i = r
    · rw [e, ac, s.Tr, s.d']
    · rw [t1 i hi e, cr_self (B := S'.B) (O := O) (i := i) (by omega), s.d', p]
  · by_cases e : i = r
    · rw [e, s.Tr, an k (by omega)]
      exact h.zr r k hr hk (by omega)
    · rw [t1 i hi e, cr_zero (B := S'.B) (O := O) (i := i) (j := k) (by omega) (by omega) hne]; simp
  · rw [t2, z2 k (by omega)]; simp
  · by_cases e : i = r
    · rw [e]; exact (h.sp r hr).ext fun k => (s.Tr k).symm
    · exact (InS.smul ep (cr_span (B := S'.B) (O := O) (i := i) (by omega))).ext fun k => (t1 i hi e k).symm
  · refine (InS.smul ep z1).ext fun k => ?_
    rw [t2, s.d', p]; grind
  · by_cases e : i = r
    · rw [e, s.Tr]; exact h.pos r hr
    · have e1 := ex i (by omega) e N
      have p1 := h.pos i hi
      have p2 := h.pos r hr
      have h2 : 0 ≤ S.T i N * S.T r c - S.T i c * S.T r N := by
        by_cases hc : 0 < S.T i c
        · have := (s.rmin i hi hc).1
          grind
        · have a1 : 0 ≤ S.T i N * S.T r c := Int.mul_nonneg p1 (by omega)
          have a2 : 0 ≤ (- S.T i c) * S.T r N := Int.mul_nonneg (by omega) p2
          grind
      rw [← e1] at h2
      by_cases q : 0 ≤ S'.T i N
      · exact q
      · have : S.d * S'.T i N < 0 := Int.mul_neg_of_pos_of_neg hd (by omega)
        omega
end
end LA

namespace LA
/-! ### Bland's rule: no basis comes twice -/
section
variable {m N : Nat} {O : List Vec} {Om : Vec} {ep : Int} {S S' : SS}
theorem SInv.same (h : SInv m N O Om ep S) (h' : SInv m N O Om ep S') (hO : O.length = m) (e : S.B = S'.B) : S.d = S'.d ∧ ∀ k, S.T m k = S'.T m k := by
  refine ⟨by rw [h.dt, h'.dt, e], fun k => by rw [h.crm hO, h'.crm hO, e]⟩
/-- the value of the aim grows, or the step is empty -/
theorem SStep.grow {c r : Nat} (h : SInv m N O Om ep S) (hO : O.length = m) (s : SStep m N S S' c r) : S'.T m N * S.d = S.T m N * S'.d + (-(S.T m c)) * S.T r N := by
  have := (s.inv h hO).2 m (Nat.le_refl _) (by have := s.rm; omega) N
  rw [s.d']
  grind
theorem sum_nonpos {g : Nat → Int} : ∀ {l : List Nat}, (∀ k ∈ l, g k ≤ 0) → (l.map g).sum ≤ 0
  | [], _ => by simp
  | k :: l, h => by
    rw [List.map_cons, List.sum_cons]
    have := h k List.mem_cons_self
    have := sum_nonpos fun k hk => h k (List.mem_cons_of_mem _ hk)
    omega
theorem sumT_span {a : Nat → Int} {T : Nat → Vec} : ∀ {l : List Nat}, (∀ i ∈ l, InS O (T i)) → InS O fun k => (l.map fun i => a i * T i k).sum
  | [], _ => InS.zero fun k => rfl
  | i :: l, h => (InS.lin (a i) 1 (h i List.mem_cons_self) (sumT_span (a := a) (T := T) fun j hj => h j (List.mem_cons_of_mem _ hj))).ext fun k => by
    rw [List.map_cons, List.sum_cons]; omega
/-- a row of the span by the rows of the table -/
theorem SInv.exp (h : SInv m N O Om ep S) {w : Vec} (hw : InS O w) (k : Nat) : S.d * w k = ((List.range m).map fun i => w (at_ S.B i) * S.T i k).sum := by
  have := h.un _ (InS.lin S.d (-1) hw (sumT_span (a := fun i => w (at_ S.B i)) (T := S.T) (l := List.range m) fun i hi => h.sp i (by simpa using hi))) (fun j hj => by
    have : ((List.range m).map fun i => w (at_ S.B i) * S.T i (at_ S.B j)).sum = w (at_ S.B j) * S.T j (at_ S.B j) :=
      sum_one (g := fun i => w (at_ S.B i) * S.T i (at_ S.B j)) List.nodup_range (by simpa using hj) fun i hi hne => by
        rw [h.zr i j (by simpa using hi) hj (Ne.symm hne)]; simp
    show S.d * w (at_ S.B j) + -1 * ((List.range m).map fun i => w (at_ S.B i) * S.T i (at_ S.B j)).sum = 0
    rw [this, h.dg j hj]; grind) k
  have : S.d * w k + -1 * ((List.range m).map fun i => w (at_ S.B i) * S.T i k).sum = 0 := this
  omega
end
structure Run (m N : Nat) (O : List Vec) (Om : Vec) (ep : Int) (K : Nat) (f : Nat → SS) (cf rf : Nat → Nat) : Prop where
  hO : O.length = m
  inv : ∀ k, k ≤ K → SInv m N O Om ep (f k)
  step : ∀ k, k < K → SStep m N (f k) (f (k + 1)) (cf k) (rf k)
section
variable {m N : Nat} {O : List Vec} {Om : Vec} {ep : Int} {K : Nat} {f : Nat → SS} {cf rf : Nat → Nat}
/-- a column that comes in between -/
theorem Run.enters (R : Run m N O Om ep K f cf rf) {β : Nat} : ∀ (n s : Nat), s + n ≤ K → β ∉ (f s).B → β ∈ (f (s + n)).B → ∃ k, s ≤ k ∧ k < s + n ∧ cf k = β
  | 0, s, _, h1, h2 => absurd h2 h1
  | n + 1, s, hK, h1, h2 => by
    by_cases q : β ∈ (f (s + n)).B
    · obtain ⟨k, a, b, c⟩ := R.enters n s (by omega) h1 q
      exact ⟨k, a, by omega, c⟩
    · have st := R.step (s + n) (by omega)
      have e : s + (n + 1) = s + n + 1 := by omega
      rw [e, st.B'] at h2
      have := List.mem_or_eq_of_mem_set h2
      rcases this with z | z
      · exact absurd z q
      · exact ⟨s + n, by omega, by omega, z.symm⟩
/-- a column that goes out in between -/
theorem Run.leaves (R : Run m N O Om ep K f cf rf) {β : Nat} : ∀ (n s : Nat), s + n ≤ K → β ∈ (f s).B → β ∉ (f (s + n)).B → ∃ k, s ≤ k ∧ k < s + n ∧ at_ (f k).B (rf k) = β
  | 0, s, _, h1, h2 => absurd h1 h2
  | n + 1, s, hK, h1, h2 => by
    by_cases q : β ∈ (f (s + n)).B
    · refine ⟨s + n, by omega, by omega, ?_⟩
      have st := R.step (s + n) (by omega)
      have iv := R.inv (s + n) (by omega)
      have e : s + (n + 1) = s + n + 1 := by omega
      rw [e, st.B'] at h2
      obtain ⟨i, hi, ei⟩ := mem_at q
      by_cases z : i = rf (s + n)
      · rw [← z]; exact ei
      · exfalso
        refine h2 ?_
        have h3 := at_mem (B := (f (s + n)).B.set (rf (s + n)) (cf (s + n))) (i := i) (by simpa using hi)
        rw [at_set (by rw [iv.bl]; exact st.rm), if_neg z, ei] at h3
        exact h3
    · obtain ⟨k, a, b, c⟩ := R.leaves n s (by omega) h1 q
      exact ⟨k, a, by omega, c⟩
/-- the values of the aim are compared over the run -/
theorem Run.value (R : Run m N O Om ep K f cf rf) (s : Nat) : ∀ n, s + n ≤ K → (f s).T m N * (f (s + n)).d ≤ (f (s + n)).T m N * (f s).d ∧ ((∃ k, s ≤ k ∧ k < s + n ∧ (f k).T (rf k) N ≠ 0) → (f s).T m N * (f (s + n)).d < (f (s + n)).T m N * (f s).d)
  | 0, _ => ⟨Int.le_refl _, fun ⟨k, h1, h2, _⟩ => by omega⟩
  | n + 1, hK => by
    obtain ⟨a, b⟩ := Run.value R s n (by omega)
    have st := R.step (s + n) (by omega)
    have iv := R.inv (s + n) (by omega)
    have g := st.grow iv R.hO
    have e : s + (n + 1) = s + n + 1 := by omega
    rw [e]
    have d0 := (R.inv s (by omega)).dp
    have d1 := iv.dp
    have d2 := (R.inv (s + n + 1) (by omega)).dp
    have pr := iv.pos (rf (s + n)) st.rm
    have cn := st.cneg
    generalize (f s).d = x0 at *
    generalize (f (s + n)).d = x1 at *
    generalize (f (s + n + 1)).d = x2 at *
    generalize (f s).T m N = y0 at *
    generalize (f (s + n)).T m N = y1 at *
    generalize (f (s + n + 1)).T m N = y2 at *
    have pn : 0 ≤ -(f (s + n)).T m (cf (s + n)) * (f (s + n)).T (rf (s + n)) N := Int.mul_nonneg (by omega) pr
    have base : y0 * x1 * x2 ≤ y1 * x0 * x2 := Int.mul_le_mul_of_nonneg_right a (by omega)
    have step : y1 * x0 * x2 ≤ y2 * x1 * x0 := by
      have : y2 * x1 * x0 = y1 * x2 * x0 + -(f (s + n)).T m (cf (s + n)) * (f (s + n)).T (rf (s + n)) N * x0 := by rw [g]; grind
      have p2 : 0 ≤ -(f (s + n)).T m (cf (s + n)) * (f (s + n)).T (rf (s + n)) N * x0 := Int.mul_nonneg pn (by omega)
      have : y1 * x0 * x2 = y1 * x2 * x0 := by grind
      omega
    refine ⟨?_, fun ⟨k, h1, h2, h3⟩ => ?_⟩
    · have : y0 * x2 * x1 ≤ y2 * x0 * x1 := by
        have e1 : y0 * x2 * x1 = y0 * x1 * x2 := by grind
        have e2 : y2 * x0 * x1 = y2 * x1 * x0 := by grind
        omega
      exact Int.le_of_mul_le_mul_right this d1
    · have : y0 * x2 * x1 < y2 * x0 * x1 := by
        have e1 : y0 * x2 * x1 = y0 * x1 * x2 := by grind
        have e2 : y2 * x0 * x1 = y2 * x1 * x0 := by grind
        by_cases q : k < s + n
        · have b1 := b ⟨k, h1, q, h3⟩
          have : y0 * x1 * x2 < y1 * x0 * x2 := Int.mul_lt_mul_of_pos_right b1 d2
          omega
        · have : k = s + n := by omega
          subst this
          have : y1 * x0 * x2 < y2 * x1 * x0 := by
            have e3 : y2 * x1 * x0 = y1 * x2 * x0 + -(f (s + n)).T m (cf (s + n)) * (f (s + n)).T (rf (s + n)) N * x0 := by rw [g]; grind
            have p2 : 0 < -(f (s + n)).T m (cf (s + n)) * (f (s + n)).T (rf (s + n)) N * x0 := Int.mul_pos (Int.mul_pos (by omega) (by omega)) d0
            have : y1 * x0 * x2 = y1 * x2 * x0 := by grind
            omega
          omega
      exact Int.lt_of_mul_lt_mul_right this (by omega)
/-- over empty steps the columns of value 0 stay so -/
theorem Run.zeros (R : Run m N O Om ep K f cf rf) {β : Nat} (s : Nat) : ∀ n, s + n ≤ K → (∀ k, s ≤ k → k < s + n → (f k).T (rf k) N = 0) →
    ((∀ i, i < m → at_ (f s).B i = β → (f s).T i N = 0) ↔ (∀ i, i < m → at_ (f (s + n)).B i = β → (f (s + n)).T i N = 0))
  | 0, _, _ => Iff.rfl
  | n + 1, hK, hz => by
    refine (Run.zeros R s n (by omega) fun k h1 h2 => hz k h1 (by omega)).trans ?_
    have st := R.step (s + n) (by omega)
    have iv := R.inv (s + n) (by omega)
    have ex := (st.inv iv R.hO).2
    have z := hz (s + n) (by omega) (by omega)
    have e : s + (n + 1) = s + n + 1 := by omega
    rw [e]
    have hr := st.rm
    have hb := iv.bl
    have dp := iv.dp
    have rp := st.rpos
    constructor
    · intro h i hi hβ
      by_cases q : i = rf (s + n)
      · rw [q, st.Tr]; exact z
      · rw [st.B', at_set (by omega), if_neg q] at hβ
        have h1 := ex i (by omega) q N
        rw [h i hi hβ, z] at h1
        exact (Int.mul_eq_zero.mp (by simpa using h1)).resolve_left (by omega)
    · intro h i hi hβ
      by_cases q : i = rf (s + n)
      · rw [q]; exact z
      · have h2 := h i hi (by rw [st.B', at_set (by omega), if_neg q]; exact hβ)
        have h1 := ex i (by omega) q N
        rw [h2, z] at h1
        have : (f (s + n)).T i N * (f (s + n)).T (rf (s + n)) (cf (s + n)) = 0 := by simpa using h1.symm
        exact (Int.mul_eq_zero.mp this).resolve_right (by omega)
theorem max_of (g : Nat → Nat) (s : Nat) : ∀ n, ∃ k, s ≤ k ∧ k < s + (n + 1) ∧ ∀ j, s ≤ j → j < s + (n + 1) → g j ≤ g k
  | 0 => ⟨s, by omega, by omega, fun j h1 h2 => by rw [show j = s by omega]; exact Nat.le_refl _⟩
  | n + 1 => by
    obtain ⟨k, h1, h2, h3⟩ := max_of g s n
    by_cases q : g (s + (n + 1)) ≤ g k
    · refine ⟨k, h1, by omega, fun j j1 j2 => ?_⟩
      by_cases e : j = s + (n + 1)
      · rw [e]; exact q
      · exact h3 j j1 (by omega)
    · refine ⟨s + (n + 1), by omega, by omega, fun j j1 j2 => ?_⟩
      by_cases e : j = s + (n + 1)
      · rw [e]; exact Nat.le_refl _
      · have := h3 j j1 (by omega); omega
/-- no basis comes twice -/
theorem Run.fresh (R : Run m N O Om ep K f cf rf) {a b : Nat} (hab : a < b) (hb : b ≤ K) : (f a).B ≠ (f b).B := by
  intro eB
  obtain ⟨n, rfl⟩ : ∃ n, b = a + (n + 1) := ⟨b - a - 1, by omega⟩
  -- all steps are empty
  have deg : ∀ k, a ≤ k → k < a + (n + 1) → (f k).T (rf k) N = 0 := fun k h1 h2 => by
    by_cases q : (f k).T (rf k) N = 0
    · exact q
    · exfalso
      have := (R.value a (n + 1) hb).2 ⟨k, h1, h2, q⟩
      obtain ⟨e1, e2⟩ := (R.inv a (by omega)).same (R.inv _ hb) R.hO eB
      rw [e1, e2 N] at this
      omega
  obtain ⟨k2, p1, p2, mx⟩ := max_of cf a n
  -- whatever comes in is not greater
  have fick : ∀ k1, a ≤ k1 → k1 < a + (n + 1) → ∀ β, β ∈ (f k1).B → β ∉ (f k2).B → β ≤ cf k2 := fun k1 h1 h2 β hβ hn => by
    have key : ∃ k, a ≤ k ∧ k < a + (n + 1) ∧ cf k = β := by
      by_cases q : β ∈ (f a).B
      · rw [eB] at q
        have := R.enters (β := β) (a + (n + 1) - k2) k2 (by omega) hn (by rw [show k2 + (a + (n + 1) - k2) = a + (n + 1) by omega]; exact q)
        obtain ⟨k, x1, x2, x3⟩ := this
        exact ⟨k, by omega, by omega, x3⟩
      · have := R.enters (β := β) (k1 - a) a (by omega) q (by rw [show a + (k1 - a) = k1 by omega]; exact hβ)
        obtain ⟨k, x1, x2, x3⟩ := this
        exact ⟨k, by omega, by omega, x3⟩
    obtain ⟨k, x1, x2, x3⟩ := key
    rw [← x3]; exact mx k x1 x2
  have st2 := R.step k2 (by omega)
  have iv2 := R.inv k2 (by omega)
  have q2 : cf k2 ∉ (f k2).B := SStep.cB iv2 st2
  have q3 : cf k2 ∈ (f (k2 + 1)).B := by
    rw [st2.B']
    have := at_mem (B := (f k2).B.set (rf k2) (cf k2)) (i := rf k2) (by simp; rw [iv2.bl]; exact st2.rm)
    rwa [at_set (by rw [iv2.bl]; exact st2.rm), if_pos rfl] at this
  -- where the greatest one goes out
  obtain ⟨k1, l1, l2, l3⟩ : ∃ k1, a ≤ k1 ∧ k1 < a + (n + 1) ∧ at_ (f k1).B (rf k1) = cf k2 := by
    by_cases q : cf k2 ∈ (f a).B
    · obtain ⟨k, x1, x2, x3⟩ := R.leaves (β := cf k2) (k2 - a) a (by omega) q (by rw [show a + (k2 - a) = k2 by omega]; exact q2)
      exact ⟨k, by omega, by omega, x3⟩
    · rw [eB] at q
      obtain ⟨k, x1, x2, x3⟩ := R.leaves (β := cf k2) (a + (n + 1) - (k2 + 1)) (k2 + 1) (by omega) q3 (by rw [show k2 + 1 + (a + (n + 1) - (k2 + 1)) = a + (n + 1) by omega]; exact q)
      exact ⟨k, by omega, by omega, x3⟩
  have st1 := R.step k1 (by omega)
  have iv1 := R.inv k1 (by omega)
  have s1 : cf k1 ∉ (f k1).B := SStep.cB iv1 st1
  have hr := st1.rm
  have slt : cf k1 < cf k2 := by
    have := mx k1 l1 l2
    by_cases q : cf k1 = cf k2
    · exfalso
      refine s1 ?_
      rw [q, ← l3]
      exact at_mem (by rw [iv1.bl]; exact hr)
    · omega
  -- the two rows of the aim
  have hw : InS O fun k => (f k2).d * (f k1).T m k - (f k1).d * (f k2).T m k := (InS.lin (f k2).d (-(f k1).d) iv1.sm iv2.sm).ext fun k => by grind
  have ex := iv1.exp hw (cf k1)
  have wB : ∀ i, i < m → (f k2).d * (f k1).T m (at_ (f k1).B i) - (f k1).d * (f k2).T m (at_ (f k1).B i) = -(f k1).d * (f k2).T m (at_ (f k1).B i) := fun i hi => by rw [iv1.zm i hi]; grind
  have d1 := iv1.dp
  have d2 := iv2.dp
  have lhs : (f k1).d * ((f k2).d * (f k1).T m (cf k1) - (f k1).d * (f k2).T m (cf k1)) < 0 := by
    have c1 := st1.cneg
    have c2 := st2.cmin (cf k1) slt
    have x1 : (f k2).d * (f k1).T m (cf k1) < 0 := Int.mul_neg_of_pos_of_neg d2 c1
    have x2 : 0 ≤ (f k1).d * (f k2).T m (cf k1) := Int.mul_nonneg (by omega) c2
    exact Int.mul_neg_of_pos_of_neg d1 (by omega)
  rw [ex] at lhs
  -- some term is below 0
  obtain ⟨i, hi, ht⟩ : ∃ i, i < m ∧ 0 < (f k2).T m (at_ (f k1).B i) * (f k1).T i (cf k1) := by
    by_cases q : ∃ i, i < m ∧ 0 < (f k2).T m (at_ (f k1).B i) * (f k1).T i (cf k1)
    · exact q
    · exfalso
      have : ((List.range m).map fun i => ((f k2).T m (at_ (f k1).B i) * (f k1).T i (cf k1))).sum ≤ 0 := sum_nonpos fun i hi => by
        by_cases q2 : 0 < (f k2).T m (at_ (f k1).B i) * (f k1).T i (cf k1)
        · exact absurd ⟨i, by simpa using hi, q2⟩ q
        · omega
      have e2 : ((List.range m).map fun i => ((f k2).d * (f k1).T m (at_ (f k1).B i) - (f k1).d * (f k2).T m (at_ (f k1).B i)) * (f k1).T i (cf k1)) = (List.range m).map fun i => (-(f k1).d) * ((f k2).T m (at_ (f k1).B i) * (f k1).T i (cf k1)) + 0 * 0 := by
        apply List.map_congr_left
        intro i hi
        rw [wB i (by simpa using hi)]; grind
      rw [e2, sum_lin] at lhs
      have := Int.mul_nonneg_of_nonpos_of_nonpos (a := -(f k1).d) (by omega) this
      omega
  have hb2 : at_ (f k1).B i ∉ (f k2).B := fun z => by
    obtain ⟨j, hj, ej⟩ := mem_at z
    rw [← ej, iv2.zm j (by rw [iv2.bl] at hj; exact hj)] at ht
    simp at ht
  by_cases hir : i = rf k1
  · rw [hir, l3] at ht
    have c2 := st2.cneg
    have rp := st1.rpos
    have := Int.mul_neg_of_neg_of_pos c2 rp
    omega
  · have hle := fick k1 l1 l2 _ (at_mem (by rw [iv1.bl]; exact hi)) hb2
    have hne : at_ (f k1).B i ≠ cf k2 := fun z => hir (at_inj iv1.bn (by rw [iv1.bl]; exact hi) (by rw [iv1.bl]; exact hr) (z.trans l3.symm))
    have c2 := st2.cmin (at_ (f k1).B i) (by omega)
    have tpos : 0 < (f k1).T i (cf k1) := by
      by_cases q : 0 < (f k1).T i (cf k1)
      · exact q
      · have := Int.mul_nonpos_of_nonneg_of_nonpos (a := (f k2).T m (at_ (f k1).B i)) c2 (by omega : (f k1).T i (cf k1) ≤ 0)
        omega
    -- its value is 0
    have z2 : ∀ j, j < m → at_ (f k2).B j = at_ (f k1).B i → (f k2).T j N = 0 := fun j hj ej => absurd (by rw [← ej]; exact at_mem (by rw [iv2.bl]; exact hj)) hb2
    have z1 : ∀ j, j < m → at_ (f k1).B j = at_ (f k1).B i → (f k1).T j N = 0 := by
      by_cases q : k1 ≤ k2
      · have := (R.zeros (β := at_ (f k1).B i) k1 (k2 - k1) (by omega) fun k x1 x2 => deg k (by omega) (by omega))
        rw [show k1 + (k2 - k1) = k2 by omega] at this
        exact this.mpr z2
      · have := (R.zeros (β := at_ (f k1).B i) k2 (k1 - k2) (by omega) fun k x1 x2 => deg k (by omega) (by omega))
        rw [show k2 + (k1 - k2) = k1 by omega] at this
        exact this.mp z2
    have v1 := z1 i hi rfl
    have v2 := deg k1 l1 l2
    have := (st1.rmin i hi tpos).2 (by rw [v1, v2]; simp)
    rw [l3] at this
    omega
end
end LA

namespace LA
/-! ### the first table, and what the last one tells -/
def Dg : List Nat → List Vec → Prop
  | [], [] => True
  | k :: ks, r :: rs => r k = 1 ∧ (∀ r' ∈ rs, r' k = 0) ∧ Dg ks rs
  | _, _ => False
theorem K_zrow {k : Nat} : ∀ {rs : List Vec} (w : List Vec → Int), (∀ r ∈ rs, r k = 0) → K k w rs = 0
  | [], _, _ => rfl
  | r :: rs, w, h => by
    unfold K
    rw [h r List.mem_cons_self, K_zrow _ fun r' hr => h r' (List.mem_cons_of_mem _ hr)]; simp
theorem Dg.det : ∀ {ks : List Nat} {rs : List Vec}, Dg ks rs → Dt ks rs = 1
  | [], [], _ => rfl
  | k :: ks, r :: rs, ⟨h1, h2, h3⟩ => by
    show r k * Dt ks rs - K k (fun t => Dt ks (r :: t)) rs = 1
    rw [h1, h3.det, K_zrow _ h2]; rfl
theorem InS.van {k : Nat} : ∀ {bs : List Vec} {u : Vec}, (∀ b ∈ bs, b k = 0) → InS bs u → u k = 0
  | [], u, _, h => h k
  | b :: bs, u, hb, ⟨N, c, hN, h⟩ => by
    have h1 := InS.van (fun x hx => hb x (List.mem_cons_of_mem _ hx)) h
    rw [hb b List.mem_cons_self] at h1
    exact (Int.mul_eq_zero.mp (by simpa using h1)).resolve_left hN
theorem Dg.un : ∀ {ks : List Nat} {rs : List Vec} {u : Vec}, Dg ks rs → InS rs u → (∀ k ∈ ks, u k = 0) → ∀ k, u k = 0
  | [], [], u, _, h, _ => h
  | k :: ks, r :: rs, u, ⟨h1, h2, h3⟩, ⟨N, c, hN, h⟩, hz => by
    have v := InS.van h2 h
    rw [hz k List.mem_cons_self, h1] at v
    have c0 : c = 0 := by simpa using v
    refine h3.un (InS.div hN (h.ext fun j => by rw [c0]; omega)) fun j hj => hz j (List.mem_cons_of_mem _ hj)
/-- rows A | unit | b and the row of the aims: columns 0 .. n-1, n .. n+m-1, and N = n + m -/
structure Frm (n m : Nat) (O : List Vec) (Om : Vec) : Prop where
  len : O.length = m
  un : ∀ i j, i < m → j < m → (O.getD i (fun _ => 0)) (n + j) = if i = j then 1 else 0
  b : ∀ i, i < m → 0 ≤ (O.getD i (fun _ => 0)) (n + m)
  om : ∀ j, j ≤ m → Om (n + j) = 0
def S0 (n m : Nat) (O : List Vec) (Om : Vec) : SS := ⟨(List.range m).map fun i => n + i, fun i => if i = m then Om else O.getD i (fun _ => 0), 1⟩
theorem dg_of : ∀ (rs : List Vec) (s n : Nat), (∀ i j, i < rs.length → j < rs.length → (rs.getD i (fun _ => 0)) (n + (s + j)) = if i = j then 1 else 0) → Dg ((List.range rs.length).map fun i => n + (s + i)) rs
  | [], s, n, _ => trivial
  | r :: rs, s, n, h => by
    rw [List.length_cons, range_shift0]
    refine ⟨by have := h 0 0 (by simp) (by simp); simpa using this, fun r' hr => ?_, ?_⟩
    · obtain ⟨i, hi, e⟩ := List.getElem_of_mem hr
      have := h (i + 1) 0 (by simp; omega) (by simp)
      simp [List.getD_eq_getElem?_getD, hi, e] at this
      simpa using this
    · have := dg_of rs (s + 1) n fun i j hi hj => by
        have := h (i + 1) (j + 1) (by simp; omega) (by simp; omega)
        simp only [Nat.add_right_cancel_iff] at this
        rw [show n + (s + (j + 1)) = n + (s + 1 + j) by omega] at this
        simpa [List.getD_eq_getElem?_getD] using this
      have e : (List.range rs.length).map (fun k => n + (s + (k + 1))) = (List.range rs.length).map fun i => n + (s + 1 + i) := by
        apply List.map_congr_left
        intro k _
        omega
      rw [e]; exact this
where
  range_shift0 {f : Nat → Nat} {n : Nat} : (List.range (n + 1)).map f = f 0 :: (List.range n).map fun k => f (k + 1) := by
    rw [List.range_succ_eq_map, List.map_cons, List.map_map]; rfl
theorem at_B0 {n m i : Nat} (hi : i < m) : at_ ((List.range m).map fun i => n + i) i = n + i := by
  unfold at_
  simp [List.getD_eq_getElem?_getD, hi]
theorem getD_mem {O : List Vec} {i : Nat} (h : i < O.length) : O.getD i (fun _ => 0) ∈ O := by
  rw [List.getD_eq_getElem?_getD, List.getElem?_eq_getElem h]; exact List.getElem_mem _
section
variable {n m : Nat} {O : List Vec} {Om : Vec}
theorem Frm.dg (h : Frm n m O Om) : Dg ((List.range m).map fun i => n + i) O := by
  have := dg_of O 0 n fun i j hi hj => by
    have := h.un i j (by rw [← h.len]; exact hi) (by rw [← h.len]; exact hj)
    rw [Nat.zero_add]; exact this
  rw [h.len] at this
  have e : (List.range m).map (fun i => n + (0 + i)) = (List.range m).map fun i => n + i := by
    apply List.map_congr_left; intro k _; omega
  rw [e] at this
  exact this
theorem Frm.init (h : Frm n m O Om) : SInv m (n + m) O Om 1 (S0 n m O Om) := by
  have T : ∀ i, i < m → (S0 n m O Om).T i = O.getD i (fun _ => 0) := fun i hi => if_neg (by omega)
  have Tm : (S0 n m O Om).T m = Om := if_pos rfl
  have A : ∀ i, i < m → at_ (S0 n m O Om).B i = n + i := fun i hi => at_B0 hi
  refine ⟨by simp [S0], ?_, fun β hβ => ?_, Int.one_pos, fun i hi => ?_, fun i k hi hk hne => ?_, fun k hk => ?_, fun i hi => ?_, ?_, fun u hu hz => ?_, fun i hi => ?_, ?_⟩
  · show ((List.range m).map fun i => n + i).Nodup
    exact List.Pairwise.map (fun i => n + i) (fun a b hab => by omega) List.nodup_range
  · obtain ⟨i, hi, rfl⟩ := List.mem_map.mp hβ
    have : i < m := by simpa using hi
    omega
  · rw [T i hi, A i hi, h.un i i hi hi, if_pos rfl]; rfl
  · rw [T i hi, A k hk, h.un i k hi hk, if_neg (by omega)]
  · rw [Tm, A k hk]; exact h.om k (by omega)
  · rw [T i hi]; exact InS.mem (getD_mem (by rw [h.len]; exact hi))
  · refine InS.zero fun k => ?_
    rw [Tm]
    show Om k - 1 * Om k = 0
    omega
  · refine h.dg.un hu fun k hk => ?_
    obtain ⟨i, hi, rfl⟩ := List.mem_map.mp hk
    have hi : i < m := by simpa using hi
    have := hz i hi
    rwa [A i hi] at this
  · rw [T i hi]; exact h.b i hi
  · show (1 : Int) = 1 * Dt ((List.range m).map fun i => n + i) O
    rw [h.dg.det]; rfl
/-- the point of a table: the columns of the basis have the last entries, the last column -d -/
def xv (m N : Nat) (S : SS) : Vec := fun k => if k = N then -S.d else match S.B.findIdx? (fun β => decide (β = k)) with
  | some i => S.T i N
  | none => 0
theorem xv_N (m N : Nat) (S : SS) : xv m N S N = -S.d := if_pos rfl
theorem xv_B {N : Nat} {S : SS} {ep : Int} (h : SInv m N O Om ep S) {i : Nat} (hi : i < m) : xv m N S (at_ S.B i) = S.T i N := by
  have hb := h.bl
  have hN := h.bN _ (at_mem (B := S.B) (i := i) (by omega))
  unfold xv
  rw [if_neg (by omega)]
  have : S.B.findIdx? (fun β => decide (β = at_ S.B i)) = some i := by
    rw [List.findIdx?_eq_some_iff_getElem]
    have e : at_ S.B i = S.B[i]'(by omega) := by unfold at_; rw [List.getD_eq_getElem?_getD, List.getElem?_eq_getElem (by omega)]; rfl
    refine ⟨by omega, decide_eq_true e.symm, fun j hj => ?_⟩
    have ej : at_ S.B j = S.B[j]'(by omega) := by unfold at_; rw [List.getD_eq_getElem?_getD, List.getElem?_eq_getElem (by omega)]; rfl
    rw [decide_eq_false (fun z => by
      have := at_inj h.bn (i := j) (j := i) (by omega) (by omega) (by rw [ej, z])
      omega)]
    decide
  rw [this]
theorem xv_out {N : Nat} {S : SS} {k : Nat} (hN : k ≠ N) (h : k ∉ S.B) : xv m N S k = 0 := by
  unfold xv
  rw [if_neg hN]
  have : S.B.findIdx? (fun β => decide (β = k)) = none := by
    rw [List.findIdx?_eq_none_iff]
    intro x hx
    exact decide_eq_false fun z => h (z ▸ hx)
  rw [this]
theorem dot_sum {n : Nat} {a : Nat → Int} {T : Nat → Vec} {w : Vec} : ∀ (l : List Nat), (∀ i ∈ l, dot n (T i) w = 0) → dot n (fun k => (l.map fun i => a i * T i k).sum) w = 0
  | [], _ => by
    unfold dot
    exact sum_zero fun k _ => by simp
  | i :: l, h => by
    have h1 := dot_lin n (a i) 1 (T i) (fun k => (l.map fun i => a i * T i k).sum) w
    rw [h i List.mem_cons_self, dot_sum l fun j hj => h j (List.mem_cons_of_mem _ hj)] at h1
    rw [dot_ext (v := fun k => a i * T i k + 1 * (l.map fun i => a i * T i k).sum) (fun k => by simp), h1]
    simp
theorem xv_orth {N : Nat} {S : SS} {ep : Int} (h : SInv m N O Om ep S) {u : Vec} (hu : InS O u) : dot (N + 1) u (xv m N S) = 0 := by
  have hb := h.bl
  have hT : ∀ i, i < m → dot (N + 1) (S.T i) (xv m N S) = 0 := fun i hi => by
    have bN := h.bN _ (at_mem (B := S.B) (i := i) (by omega))
    unfold dot
    rw [sum_two (a := at_ S.B i) (b := N) (by omega) (by omega) (by omega) fun k k1 k2 => ?_]
    · rw [xv_B h hi, xv_N, h.dg i hi]; grind
    · by_cases q : k ∈ S.B
      · obtain ⟨j, hj, e⟩ := mem_at q
        rw [hb] at hj
        have : j ≠ i := fun z => k1 (by rw [← e, z])
        rw [← e, h.zr i j hi hj this]; simp
      · rw [xv_out k2 q]; simp
  have e := dot_sum (n := N + 1) (a := fun i => u (at_ S.B i)) (T := S.T) (w := xv m N S) (List.range m) fun i hi => hT i (by simpa using hi)
  have e2 := dot_lin (N + 1) S.d 0 u u (xv m N S)
  rw [dot_ext (v := fun k => ((List.range m).map fun i => u (at_ S.B i) * S.T i k).sum) (fun k => by rw [← h.exp hu k]; omega), e] at e2
  have := h.dp
  exact (Int.mul_eq_zero.mp (by omega : S.d * dot (N + 1) u (xv m N S) = 0)).resolve_left (by omega)
theorem dot_split (n m : Nat) (u w : Vec) : dot (n + m + 1) u w = dot n u w + ((List.range m).map fun i => u (n + i) * w (n + i)).sum + u (n + m) * w (n + m) := by
  unfold dot
  rw [List.range_succ, List.map_append, List.sum_append, List.range_add, List.map_append, List.sum_append, List.map_map]
  simp
  rfl
/-- the rows of the last table are kept -/
theorem Frm.rows (h : Frm n m O Om) {S : SS} {ep : Int} (iv : SInv m (n + m) O Om ep S) {j : Nat} (hj : j < m) : dot n (O.getD j (fun _ => 0)) (xv m (n + m) S) + xv m (n + m) S (n + j) = O.getD j (fun _ => 0) (n + m) * S.d := by
  have o := xv_orth iv (InS.mem (getD_mem (O := O) (i := j) (by rw [h.len]; exact hj)))
  rw [dot_split, xv_N] at o
  have e : ((List.range m).map fun i => (O.getD j (fun _ => 0)) (n + i) * xv m (n + m) S (n + i)).sum = xv m (n + m) S (n + j) := by
    rw [sum_one (a := j) List.nodup_range (by simpa using hj) fun k hk hne => by
      rw [h.un j k hj (by simpa using hk), if_neg (by omega)]; simp]
    rw [h.un j j hj hj, if_pos rfl]; simp
  rw [e] at o
  grind
theorem Frm.aim (h : Frm n m O Om) {S : SS} {ep : Int} (iv : SInv m (n + m) O Om ep S) : dot n Om (xv m (n + m) S) = - S.T m (n + m) := by
  have hb := iv.bl
  have dp := iv.dp
  have o := xv_orth iv iv.sm
  have e1 : dot (n + m + 1) (S.T m) (xv m (n + m) S) = S.T m (n + m) * -S.d := by
    unfold dot
    rw [sum_one (a := n + m) List.nodup_range (by simp) fun k hk hne => ?_, xv_N]
    by_cases q : k ∈ S.B
    · obtain ⟨j, hj, e⟩ := mem_at q
      rw [← e, iv.zm j (by omega)]; simp
    · rw [xv_out hne q]; simp
  have e2 := dot_lin (n + m + 1) 1 (-S.d) (S.T m) Om (xv m (n + m) S)
  rw [dot_ext (v := fun k => S.T m k - S.d * Om k) (fun k => by grind), o, e1] at e2
  have e3 : dot (n + m + 1) Om (xv m (n + m) S) = dot n Om (xv m (n + m) S) := by
    rw [dot_split, sum_zero fun i hi => (by
      have : i < m := by simpa using hi
      rw [h.om i (by omega)]; simp), h.om m (Nat.le_refl _)]
    simp
  rw [e3] at e2
  have : S.d * (S.T m (n + m) + dot n Om (xv m (n + m) S)) = 0 := by grind
  have := (Int.mul_eq_zero.mp this).resolve_left (by omega)
  omega
end
end LA

namespace Lx
open PySem PySem.Spec L2 PD LA
open Ln
def lrow (r : List Int) : D := .lst (r.map .int)
def tD (t : List (List Int)) : D := .lst (t.map lrow)
theorem ix_last {ds : List D} {d : D} (h : ds.getLast? = some d) : ixD (.lst ds) (.int (-1)) = some d := by
  show atI ds (-1) = _
  have hl : 1 ≤ ds.length := by
    cases ds with
    | nil => simp at h
    | cons a l => simp
  unfold atI
  have e : ixN ds.length (-1) = some (ds.length - 1) := by
    unfold ixN
    simp
    omega
  rw [e, Option.bind_some]
  rw [List.getLast?_eq_getElem?] at h
  exact h
/-! the tables -/
def Sz (x : Int) : Prop := x.natAbs < 2 ^ 8000
structure TabOk (m N : Nat) (tb : List (List Int)) (S : SS) : Prop where
  len : tb.length = m + 1
  row : ∀ r ∈ tb, r.length = N + 1
  val : ∀ i k, S.T i k = vc (tb.getD i []) k
  sz : ∀ i k, i ≤ m → Sz (S.T i k)
  dz : Sz S.d
section
variable {m N : Nat} {tb : List (List Int)} {S : SS}
theorem TabOk.at (h : TabOk m N tb S) {i : Nat} (hi : i ≤ m) : ixD (tD tb) (.int (i : Nat)) = some (lrow (tb.getD i [])) := by
  show atI (tb.map lrow) (i : Int) = _
  refine atI_nat ?_
  rw [List.getElem?_map, List.getD_eq_getElem?_getD, List.getElem?_eq_getElem (by rw [h.len]; omega)]; rfl
theorem TabOk.rl (h : TabOk m N tb S) {i : Nat} (hi : i ≤ m) : (tb.getD i []).length = N + 1 := by
  rw [List.getD_eq_getElem?_getD, List.getElem?_eq_getElem (by rw [h.len]; omega)]
  exact h.row _ (List.getElem_mem _)
theorem TabOk.en (h : TabOk m N tb S) {i k : Nat} (hi : i ≤ m) (hk : k ≤ N) : ixD (lrow (tb.getD i [])) (.int (k : Nat)) = some (.int (S.T i k)) := by
  rw [h.val i k]
  exact at_vc (by rw [h.rl hi]; omega)
theorem last_row {r : List Int} {N : Nat} (h : r.length = N + 1) : ixD (lrow r) (.int (-1)) = some (.int (vc r N)) := by
  refine ix_last ?_
  rw [List.getLast?_eq_getElem?, List.length_map, h, List.getElem?_map, List.getElem?_eq_getElem (by omega), vc_eq (by omega)]; rfl
theorem TabOk.rhs (h : TabOk m N tb S) {i : Nat} (hi : i ≤ m) : ixD (lrow (tb.getD i [])) (.int (-1)) = some (.int (S.T i N)) := by
  rw [h.val i N]; exact last_row (h.rl hi)
theorem mulS {x y : Int} (hx : Sz x) (hy : Sz y) : mulA (.int x) (.int y) = some (.int (x * y)) := mul_bt hx hy (by decide) (by decide) (by decide)
def oD : Option Nat → D
  | none => .non
  | some r => .int (r : Nat)
end
end Lx

namespace GA
open PySem PySem.Spec L2 PD
/-! ### the checks of Game(..) -/
end GA

namespace GA
open PySem PySem.Spec L2 PD
abbrev Ct := Str × Int × Int
structure CtOk (c : Ct) : Prop where
  lab : Lab c.1
  lo : 0 ≤ c.2.2
  hi : c.2.2 ≤ c.2.1
/-! goals -/
abbrev Gl' := Str × List Nd
structure GlOk (labels : List Str) (g : Gl') : Prop where
  lab : Lab g.1
  needs : ∀ n ∈ g.2, NdOk n ∧ n.1 ∈ labels
  few : g.2.length ≤ 500
end GA

namespace GA
open PySem PySem.Spec L2 PD
theorem b1_of {f : Ev → Option D} {g : D → Option D} {ρ : Ev} {x d : D} (h : f ρ = some x) (h2 : g x = some d) : b1 f g ρ = some d := by
  unfold b1
  rw [h]; exact h2
/-- a move that fits a game's players and counters -/
structure MvIn (players labels : List Str) (m : Mv) : Prop where
  ok : MvOk m
  pl : m.player ∈ players
  ct : ∀ c ∈ tch m, c ∈ labels
end GA

namespace GA
open PySem PySem.Spec L2 PD
/-! ### Shift.gap -/
noncomputable def gGap (C : Addr) : Ev → Option Fl := (sq (forS (iOf (b1 (gv 0) (fldD C "rows"))) (gT 4 (gsC (gN 2) (gsC (gN 3) (gsC (gN 4) (gsC (gN 5) gsN))))) (ifS (notT (asB (chn (gv 3) (b2 (gv 1) (gv 2) dgetD) (gv 4) leI leI))) (rtV (gv 2)) skip))
    (rtV kN))
def valD (v : List (Str × Int)) : D := .dic (v.map fun p => .inr p.1) (v.map fun p => .int p.2)
/-- a row whose counter stands outside its bounds -/
def rwBad (v : List (Str × Int)) (r : Rw4) : Bool := !(decide (r.2.1 ≤ (lk v r.1).getD 0 ∧ (lk v r.1).getD 0 ≤ r.2.2.1))
def gapD (v : List (Str × Int)) (rows : List Rw4) : D := match (srt4 rows).find? (rwBad v) with
  | none => .non
  | some r => .str r.1
theorem chn_dec {a b c : Int} {fa fb fc : Ev → Option D} {ρ : Ev} (h1 : fa ρ = some (.int a)) (h2 : fb ρ = some (.int b)) (h3 : fc ρ = some (.int c)) : chn fa fb fc leI leI ρ = some (.bl (decide (a ≤ b ∧ b ≤ c))) := by
  by_cases l1 : a ≤ b
  · unfold chn
    rw [h1, Option.bind_some, h2, Option.bind_some, show leI (.int a) (.int b) = some (.bl (decide (a ≤ b))) from rfl, decide_eq_true l1, Option.bind_some]
    show ((fc ρ).bind fun z => leI (.int b) z) = _
    rw [h3]
    show some (D.bl (decide (b ≤ c))) = _
    by_cases l2 : b ≤ c
    · rw [decide_eq_true l2, decide_eq_true ⟨l1, l2⟩]
    · rw [decide_eq_false l2, decide_eq_false fun h => l2 h.2]
  · unfold chn
    rw [h1, Option.bind_some, h2, Option.bind_some, show leI (.int a) (.int b) = some (.bl (decide (a ≤ b))) from rfl, decide_eq_false l1, Option.bind_some, decide_eq_false fun h => l1 h.1]
theorem fld_rows (C : Addr) (rows : List Rw4) : fldD C "rows" (shD C rows) = some (.tup ((srt4 rows).map r4D)) := by
  show (if C = C then _ else none) = _
  rw [if_pos rfl]; rfl
theorem gap_eq (C : Addr) {rows : List Rw4} {v : List (Str × Int)} (hv : ∀ r ∈ rows, r.1 ∈ v.map (·.1)) : runP 6 (gGap C) [shD C rows, valD v] = some (gapD v rows) := by
  refine runP_eq ?_
  unfold gGap
  generalize hs : srt4 rows = rs
  have hm : ∀ r ∈ rs, r.1 ∈ v.map (·.1) := fun r h => hv r ((srt4_perm rows).mem_iff.mp (hs ▸ h))
  show Rn _ [.dat (shD C rows), .dat (valD v), .unk, .unk, .unk, .unk] _
  have hit : iOf (b1 (gv 0) (fldD C "rows")) [.dat (shD C rows), .dat (valD v), .unk, .unk, .unk, .unk] = some (rs.map r4D) := by
    unfold iOf
    rw [b1_of (f := gv 0) rfl (fld_rows C rows), hs]; rfl
  refine Rn.sqfor (xs := rs) (φ := r4D) hit (fun i ρ => (∀ (j : Nat) (hj : j < rs.length), j < i → rwBad v rs[j] = false) ∧ ∃ x2 x3 x4 x5, ρ = [.dat (shD C rows), .dat (valD v), x2, x3, x4, x5]) ⟨fun j _ h => absurd h (Nat.not_lt_zero j), _, _, _, _, rfl⟩ (fun i hi ρ hI => ?_) (fun ρ hI => ?_)
  · obtain ⟨hb, x2, x3, x4, x5, rfl⟩ := hI
    refine ⟨_, rfl, ?_⟩
    generalize hg : rs[i] = r
    have hr : r ∈ rs := hg ▸ List.getElem_mem hi
    obtain ⟨a, ha⟩ := lk_mem (hm r hr)
    show Rn _ [.dat (shD C rows), .dat (valD v), .dat (.str r.1), .dat (.int r.2.1), .dat (.int r.2.2.1), .dat (.int r.2.2.2)] _
    have hd : b2 (gv 1) (gv 2) dgetD [.dat (shD C rows), .dat (valD v), .dat (.str r.1), .dat (.int r.2.1), .dat (.int r.2.2.1), .dat (.int r.2.2.2)] = some (.int a) := by
      show dlook (.inr r.1) (v.map fun p => .inr p.1) (v.map fun p => D.int p.2) = _
      rw [dlook_lk, ha]; rfl
    have hc : notT (asB (chn (gv 3) (b2 (gv 1) (gv 2) dgetD) (gv 4) leI leI)) [.dat (shD C rows), .dat (valD v), .dat (.str r.1), .dat (.int r.2.1), .dat (.int r.2.2.1), .dat (.int r.2.2.2)] = some (rwBad v r) := by
      rw [notT_of (asB_of (chn_dec (fa := gv 3) (fc := gv 4) rfl hd rfl))]
      unfold rwBad
      rw [ha]; rfl
    refine Rn.ite hc (fun h => ?_) (fun h => ?_)
    · refine Rn.ret (d := .str r.1) rfl ?_
      refine ⟨.dat (.str r.1), rfl, ?_⟩
      have : rs.find? (rwBad v) = some r := List.find?_eq_some_iff_getElem.mpr ⟨h, i, hi, hg, fun j hj => by rw [hb j (Nat.lt_trans hj hi) hj]; rfl⟩
      unfold gapD
      rw [hs, this]
      rfl
    · refine Rn.skip ⟨fun j hj hji => ?_, _, _, _, _, rfl⟩
      rcases Nat.lt_succ_iff_lt_or_eq.mp hji with h' | h'
      · exact hb j hj h'
      · subst h'; rw [hg]; exact h
  · obtain ⟨hb, x2, x3, x4, x5, rfl⟩ := hI
    refine Rn.ret (d := .non) rfl ?_
    refine ⟨.dat .non, rfl, ?_⟩
    have : rs.find? (rwBad v) = none := List.find?_eq_none.mpr fun r hr => by
      obtain ⟨j, hj, rfl⟩ := List.getElem_of_mem hr
      rw [hb j hj hj]; exact Bool.false_ne_true
    unfold gapD
    rw [hs, this]
    rfl
end GA

namespace GA
open PySem PySem.Spec L2 PD
/-! ### Game(players, counters, moves, goals) -/
structure Gm where
  players : List Str
  counters : List Ct
  moves : List Mv
  goals : List Gl'
structure GmOk (g : Gm) : Prop where
  pl0 : g.players ≠ []
  pl : ∀ p ∈ g.players, Lab p
  plN : g.players.Nodup
  ct : ∀ c ∈ g.counters, CtOk c
  ctN : (g.counters.map (·.1)).Nodup
  ctL : g.counters.length ≤ 1000
  mv : ∀ m ∈ g.moves, MvIn g.players (g.counters.map (·.1)) m
  mvN : (g.moves.map (·.name)).Nodup
  mvL : g.moves.length ≤ 1000
  gl : ∀ x ∈ g.goals, GlOk (g.counters.map (·.1)) x
  glN : (g.goals.map (·.1)).Nodup
  glL : g.goals.length ≤ 1000
theorem Rn.do {f : Ev → Option D} {g : Ev → Option Fl} {ρ : Ev} {Q : Fl → Prop} {d : D} (h : f ρ = some d) (k : Rn g ρ Q) : Rn (sq (doV f) g) ρ Q := Rn.sq ⟨_, by unfold doV; rw [h]; rfl, k⟩
end GA

namespace GA
open PySem PySem.Spec L2 PD
/-! ### Game.move, Game.shift, values_of, legal -/
theorem mC_of {C : Addr} {nm : Str} {fo : Ev → Option D} {ga : Ev → Option (List D)} {n : Nat} {m : List D → Option D} {ρ : Ev} {ks : List Str} {ds as : List D} {d : D} (h : fo ρ = some (.obj C ks ds)) (hk : (ks.zip ds).lookup nm = none) (ha : ga ρ = some as) (hn : as.length + 1 = n) (hm : m (.obj C ks ds :: as) = some d) : PD.mC C nm fo ga n m ρ = some d := by
  unfold PD.mC
  rw [h, Option.bind_some]
  show (if C = C ∧ (ks.zip ds).lookup nm = none then _ else none) = _
  rw [if_pos ⟨rfl, hk⟩, ha, Option.bind_some, if_pos hn, hm]
theorem b2_of {f g : Ev → Option D} {k : D → D → Option D} {ρ : Ev} {x y d : D} (h : f ρ = some x) (h2 : g ρ = some y) (h3 : k x y = some d) : b2 f g k ρ = some d := by
  unfold b2
  rw [h, Option.bind_some, h2, Option.bind_some, h3]
def vals (g : Gm) (p : List Int) : List (Str × Int) := (g.counters.map (·.1)).zip p
theorem zip_fst {α β : Type} : ∀ {a : List α} {b : List β}, b.length = a.length → (a.zip b).map (·.1) = a
  | [], _, _ => by simp
  | x :: a, y :: b, h => by
    rw [List.zip_cons_cons, List.map_cons, zip_fst (by simpa using h)]
theorem zip_snd {α β : Type} : ∀ {a : List α} {b : List β}, b.length = a.length → (a.zip b).map (·.2) = b
  | [], [], _ => rfl
  | x :: a, y :: b, h => by
    rw [List.zip_cons_cons, List.map_cons, zip_snd (by simpa using h)]
end GA

namespace K02
open PySem L2 PD
/-! ### values as a dict -/
def tb (K : List Str) (f : Str → Int) : List (Str × Int) := K.map fun l => (l, f l)
def dV (K : List Str) (f : Str → Int) : D := .dic ((tb K f).map fun p => .inr p.1) ((tb K f).map fun p => .int p.2)
def dW (K : List Str) (f : Str → Int) : O := GA.dicO D.int (tb K f)
theorem dW_toD (K : List Str) (f : Str → Int) : (dW K f).toD = some (dV K f) := toD_dicD _ _
theorem dW_vw (K : List Str) (f : Str → Int) : O.vw (dW K f) = .dat (dV K f) := ew_vwk _ _
theorem dict_dV (K : List Str) (f : Str → Int) : dictO [dV K f] = some (dW K f) := rfl
theorem tb_len (K : List Str) (f : Str → Int) : (tb K f).length = K.length := List.length_map _
theorem lk_tb {f : Str → Int} {c : Str} : ∀ {K : List Str}, c ∈ K → GA.lk (tb K f) c = some (f c)
  | k :: K, h => by
    unfold GA.lk tb
    rw [List.map_cons, List.find?_cons]
    by_cases e : k = c
    · subst e; simp
    · rw [decide_eq_false e]
      have hk : c ∈ K := by
        rcases List.mem_cons.mp h with z | z
        · exact absurd z.symm e
        · exact z
      exact lk_tb (K := K) hk
theorem pt_tb {K : List Str} {f : Str → Int} {c : Str} {v : Int} (h : c ∈ K) : GA.pt (tb K f) c v = tb K fun l => if l = c then v else f l := by
  unfold GA.pt
  rw [lk_tb h]
  show (tb K f).map _ = _
  unfold tb
  rw [List.map_map]
  refine List.map_congr_left fun l _ => ?_
  show (if l = c then (c, v) else (l, f l)) = (l, if l = c then v else f l)
  by_cases e : l = c
  · rw [if_pos e, if_pos e, e]
  · rw [if_neg e, if_neg e]
theorem dW_congr {K : List Str} {f g : Str → Int} (h : ∀ l, f l = g l) : dW K f = dW K g := by rw [show f = g from funext h]
theorem dget_V {K : List Str} {f : Str → Int} {c : Str} (h : c ∈ K) : dgetD (dV K f) (.str c) = some (.int (f c)) := by
  show dlook (.inr c) ((tb K f).map fun p => .inr p.1) ((tb K f).map fun p => D.int p.2) = _
  rw [GA.dlook_lk, lk_tb h]; rfl
theorem dgetO_W {K : List Str} {f : Str → Int} {c : Str} {i : Nat} {fk : Ev → Option D} {ρ : Ev} (h0 : ρ[i]? = some (dW K f)) (hk : fk ρ = some (.str c)) (h : c ∈ K) : dgetO i fk ρ = some (.int (f c)) := by
  unfold dgetO
  rw [hk, Option.bind_some]
  show (match ρ[i]? with
    | some (.dic ks os) => match olook (.inr c) ks os with
      | some (.dat d) => some d
      | _ => none
    | _ => none) = _
  rw [h0]
  show (match olook (.inr c) ((tb K f).map fun p => .inr p.1) (((tb K f).map fun p => D.int p.2).map .dat) with
    | some (.dat d) => some d
    | _ => none) = _
  rw [GA.olook_dicO, lk_tb h]; rfl
theorem dput_W {K : List Str} {f : Str → Int} {c : Str} {v : Int} {i : Nat} {fk fv : Ev → Option D} {ρ : Ev} {Q : Fl → Prop} (h0 : ρ[i]? = some (dW K f)) (hv : fv ρ = some (.int v)) (hk : fk ρ = some (.str c)) (hl : K.length ≤ 1000) (h : c ∈ K) (q : Q (.nx (ρ.set i (dW K fun l => if l = c then v else f l)))) : Rn (dput i fk fv) ρ Q :=
  GA.Rn.dputG (φ := D.int) h0 hv hk (by rw [tb_len]; exact hl) (by rw [pt_tb h]; exact q)
/-! ### gap -/
def gapD (f : Str → Int) (rows : List Row) : D := match gapF f rows with
  | none => .non
  | some l => .str l
theorem gap_eq (C : Cs) {a : List Row} {K : List Str} {f : Str → Int} (hk : ∀ r ∈ a, r.l ∈ K) : mShift_gap C [shD C a, dV K f] = some (gapD f (srt a)) := by
  unfold mShift_gap
  refine runP_eq ?_
  unfold bShift_gap
  have fr := fld_rows C a
  generalize hs : srt a = rs at fr
  have hm : ∀ r ∈ rs, r.l ∈ K := fun r h => hk r ((srt_perm a).mem_iff.mp (hs ▸ h))
  generalize shD C a = S at fr
  show Rn _ [.dat S, .dat (dV K f), .unk, .unk, .unk, .unk] _
  have hit : iOf (b1 (gv 0) (fldD C.Shift "rows")) [.dat S, .dat (dV K f), .unk, .unk, .unk, .unk] = some (rs.map rowD) := by
    unfold iOf
    rw [GA.b1_of (f := gv 0) (x := S) rfl fr]; rfl
  refine Rn.sqfor (xs := rs) (φ := rowD) hit (fun i ρ => (∀ (j : Nat) (hj : j < rs.length), j < i → okB f rs[j] = true) ∧ ∃ x2 x3 x4 x5, ρ = [.dat S, .dat (dV K f), x2, x3, x4, x5]) ⟨fun j _ h => absurd h (Nat.not_lt_zero j), _, _, _, _, rfl⟩ (fun i hi ρ hI => ?_) (fun ρ hI => ?_)
  · obtain ⟨hb, x2, x3, x4, x5, rfl⟩ := hI
    refine ⟨_, rfl, ?_⟩
    generalize hg : rs[i] = r
    have hr : r ∈ rs := hg ▸ List.getElem_mem hi
    show Rn _ [.dat S, .dat (dV K f), .dat (.str r.l), .dat (.int r.a), .dat (.int r.b), .dat (.int r.c)] _
    have hd : b2 (gv 1) (gv 2) dgetD [.dat S, .dat (dV K f), .dat (.str r.l), .dat (.int r.a), .dat (.int r.b), .dat (.int r.c)] = some (.int (f r.l)) := GA.b2_of (x := dV K f) (y := .str r.l) rfl rfl (dget_V (hm r hr))
    have hc : notT (asB (chn (gv 3) (b2 (gv 1) (gv 2) dgetD) (gv 4) leI leI)) [.dat S, .dat (dV K f), .dat (.str r.l), .dat (.int r.a), .dat (.int r.b), .dat (.int r.c)] = some (!okB f r) := by
      rw [notT_of (asB_of (GA.chn_dec (fa := gv 3) (fc := gv 4) (a := r.a) (c := r.b) rfl hd rfl))]
      unfold okB
      rw [Bool.decide_and]
    refine Rn.ite hc (fun h => ?_) (fun h => ?_)
    · refine Rn.ret (d := .str r.l) rfl ?_
      refine ⟨.dat (.str r.l), rfl, ?_⟩
      have : rs.find? (fun r => !okB f r) = some r := List.find?_eq_some_iff_getElem.mpr ⟨h, i, hi, hg, fun j hj => by rw [hb j (Nat.lt_trans hj hi) hj]; rfl⟩
      unfold gapD gapF
      rw [this]; rfl
    · refine Rn.skip ⟨fun j hj hji => ?_, _, _, _, _, rfl⟩
      rcases Nat.lt_succ_iff_lt_or_eq.mp hji with h' | h'
      · exact hb j hj h'
      · subst h'; rw [hg]; simpa using h
  · obtain ⟨hb, x2, x3, x4, x5, rfl⟩ := hI
    refine Rn.ret (d := .non) rfl ?_
    refine ⟨.dat .non, rfl, ?_⟩
    have : rs.find? (fun r => !okB f r) = none := List.find?_eq_none.mpr fun r hr => by
      obtain ⟨j, hj, rfl⟩ := List.getElem_of_mem hr
      rw [hb j hj hj]; exact Bool.false_ne_true
    unfold gapD gapF
    rw [this]; rfl
/-! ### amounts, one after the other -/
theorem at_snoc {p : List Row} {r : Row} (l : Str) : at_ (p ++ [r]) l = (at_ p l).or (if r.l = l then some r else none) := by
  unfold at_
  rw [List.find?_append, List.find?_cons]
  by_cases h : r.l = l
  · rw [decide_eq_true h, if_pos h]
  · rw [decide_eq_false h, if_neg h]; rfl
theorem amt_snoc {p : List Row} {r : Row} (h : r.l ∉ labs p) (l : Str) : amt (p ++ [r]) l = if l = r.l then r.c else amt p l := by
  unfold amt
  rw [at_snoc]
  by_cases e : l = r.l
  · subst e
    rw [at_none.mpr h, if_pos rfl, if_pos rfl]; rfl
  · rw [if_neg e, if_neg fun z => e z.symm]
    cases at_ p l <;> rfl
theorem amt_no {p : List Row} {l : Str} (h : l ∉ labs p) : amt p l = 0 := by
  unfold amt
  rw [at_none.mpr h]
theorem at_perm {a b : List Row} (hn : (labs a).Nodup) (hp : a.Perm b) (l : Str) : at_ a l = at_ b l := by
  have hb : (labs b).Nodup := (hp.map (·.l)).nodup_iff.mp hn
  cases e : at_ a l with
  | none =>
    have : l ∉ labs b := fun z => at_none.mp e ((hp.map (·.l)).mem_iff.mpr z)
    rw [at_none.mpr this]
  | some r =>
    have := at_mem hb (hp.mem_iff.mp (at_in e))
    rw [at_l e] at this
    exact this.symm
theorem mv_snoc (t : Int) {p : List Row} {r : Row} (h : r.l ∉ labs p) (f : Str → Int) (l : Str) : (if l = r.l then mv t p f r.l + t * r.c else mv t p f l) = mv t (p ++ [r]) f l := by
  unfold mv
  rw [amt_snoc h]
  by_cases e : l = r.l
  · subst e
    rw [if_pos rfl, if_pos rfl, amt_no h]; omega
  · rw [if_neg e, if_neg e]
theorem mv_perm {a b : List Row} (hn : (labs a).Nodup) (hp : a.Perm b) (t : Int) (f : Str → Int) : mv t a f = mv t b f := by
  funext l
  unfold mv amt
  rw [at_perm hn hp l]
theorem mv_nil (t : Int) (f : Str → Int) : mv t [] f = f := by
  funext l
  unfold mv amt at_
  simp
/-- amounts that can be multiplied -/
def okA (rows : List Row) : Prop := ∀ r ∈ rows, -1000000000000000000 < r.c ∧ r.c < 1000000000000000000
theorem moved_eq (C : Cs) {a : List Row} {K : List Str} {f : Str → Int} {t : Int} (hl : a.length ≤ 1000) (hK : K.length ≤ 1000) (hn : (labs a).Nodup) (hk : ∀ r ∈ a, r.l ∈ K) (hA : okA a) : m_law_moved C [.lst (a.map rowD), dV K f, .int t] = some (dV K (mv t a f)) := by
  unfold m_law_moved
  refine runP_eq ?_
  unfold b_law_moved
  show Rn _ [.dat (.lst (a.map rowD)), .dat (dV K f), .dat (.int t), .unk, .unk, .unk, .unk, .unk] _
  refine Rn.sqstO (o := dW K f) (by
    unfold cO
    rw [GA.aC1 (d := dV K f) rfl, Option.bind_some]; exact dict_dV K f) ?_
  show Rn _ [.dat (.lst (a.map rowD)), .dat (dV K f), .dat (.int t), dW K f, .unk, .unk, .unk, .unk] _
  refine Rn.sqfor (xs := a) (φ := rowD) rfl (fun i ρ => ∃ x4 x5 x6 x7, ρ = [.dat (.lst (a.map rowD)), .dat (dV K f), .dat (.int t), dW K (mv t (a.take i) f), x4, x5, x6, x7]) ⟨.unk, .unk, .unk, .unk, by rw [List.take_zero, mv_nil]⟩ (fun i hi ρ hI => ?_) (fun ρ hI => ?_)
  · obtain ⟨x4, x5, x6, x7, rfl⟩ := hI
    have hns := nodup_snoc hn hi
    have hr := hk _ (List.getElem_mem hi)
    have hc := hA _ (List.getElem_mem hi)
    have et := take_snoc hi
    generalize a[i] = r at hns hr hc et
    refine ⟨_, rfl, ?_⟩
    show Rn _ [.dat (.lst (a.map rowD)), .dat (dV K f), .dat (.int t), dW K (mv t (a.take i) f), .dat (.str r.l), .dat (.int r.a), .dat (.int r.b), .dat (.int r.c)] _
    refine dput_W (f := mv t (a.take i) f) (c := r.l) (v := mv t (a.take i) f r.l + t * r.c) rfl ?_ rfl hK hr ⟨.dat (.str r.l), .dat (.int r.a), .dat (.int r.b), .dat (.int r.c), ?_⟩
    · refine GA.b2_of (x := .int (mv t (a.take i) f r.l)) (y := .int (t * r.c)) (dgetO_W rfl rfl hr) (GA.b2_of (x := .int t) (y := .int r.c) rfl rfl (mulR (by omega))) addII
    · rw [et]
      show [_, _, _, dW K _, _, _, _, _] = _
      rw [dW_congr (mv_snoc t hns f)]
  · obtain ⟨x4, x5, x6, x7, rfl⟩ := hI
    rw [List.take_length]
    exact Rn.fz (o := dW K (mv t a f)) (d := dV K (mv t a f)) rfl (dW_toD K _) (Rn.ret (d := dV K (mv t a f)) rfl ⟨_, rfl, rfl⟩)
end K02

namespace K02
open PySem L2 PD
/-! ### applied -/
def appR (C : Cs) (K : List Str) (f : Str → Int) (a : List Row) : Rz := match gapF f (srt a) with
  | some l => .ex ⟨.ref C.Blocked, some (["counter"], [.str l])⟩
  | none => .ok (dW K (mv 1 a f))
theorem applied_eq (C : Cs) {a : List Row} {K : List Str} {f : Str → Int} (hl : a.length ≤ 1000) (hK : K.length ≤ 1000) (hn : (labs a).Nodup) (hk : ∀ r ∈ a, r.l ∈ K) : mShift_applied C [shD C a, dV K f] = some (appR C K f a) := by
  unfold mShift_applied
  refine runX_ok ?_
  unfold bShift_applied
  have fr := fld_rows C a
  have hg := gap_eq C (f := f) hk
  have hmn : (labs (srt a)).Nodup := ((srt_perm a).map (·.l)).nodup_iff.mpr hn
  have hmk : ∀ r ∈ srt a, r.l ∈ K := fun r h => hk r ((srt_perm a).mem_iff.mp h)
  have hlen : (srt a).length ≤ 1000 := by rw [srt_len]; exact hl
  have hmv := mv_perm hmn (srt_perm a) 1 f
  unfold appR
  generalize srt a = rs at *
  have hS : ∃ (ks : List Str) (ds : List D), shD C a = .obj C.Shift ks ds ∧ (ks.zip ds).lookup ("gap" : Str) = none := ⟨_, _, rfl, rfl⟩
  obtain ⟨ks, ds, eS, hno⟩ := hS
  rw [eS] at fr hg
  show Rn _ [.dat (shD C a), .dat (dV K f), .unk, .unk, .unk, .unk, .unk, .unk] _
  rw [eS]
  refine Rn.sqst (d := gapD f rs) (GA.mC_of (ks := ks) (ds := ds) (as := [dV K f]) rfl hno (GA.aC1 rfl) rfl hg) ?_
  show Rn _ [.dat (.obj C.Shift ks ds), .dat (dV K f), .dat (gapD f rs), .unk, .unk, .unk, .unk, .unk] _
  unfold gapD
  cases e : gapF f rs with
  | some l =>
    refine Rn.sq ?_
    refine Rn.ite (t := true) (asB_of (GA.b2_of (x := .str l) (y := .non) rfl rfl rfl)) (fun _ => ?_) (fun z => nomatch z)
    exact ⟨_, by unfold raiS; rw [GA.aC1 (d := .str l) rfl]; rfl, rfl⟩
  | none =>
    refine Rn.sqifF (asB_of (GA.b2_of (x := .non) (y := .non) rfl rfl rfl)) ?_
    refine Rn.sqskip ?_
    refine Rn.sqstO (o := dW K f) (by
      unfold cO
      rw [GA.aC1 (d := dV K f) rfl, Option.bind_some]; exact dict_dV K f) ?_
    show Rn _ [.dat (.obj C.Shift ks ds), .dat (dV K f), .dat .non, dW K f, .unk, .unk, .unk, .unk] _
    have hit : iOf (b1 (gv 0) (fldD C.Shift "rows")) [.dat (.obj C.Shift ks ds), .dat (dV K f), .dat .non, dW K f, .unk, .unk, .unk, .unk] = some (rs.map rowD) := by
      unfold iOf
      rw [GA.b1_of (f := gv 0) (x := .obj C.Shift ks ds) rfl fr]; rfl
    refine Rn.sqfor (xs := rs) (φ := rowD) hit (fun i ρ => ∃ x4 x5 x6 x7, ρ = [.dat (.obj C.Shift ks ds), .dat (dV K f), .dat .non, dW K (K02.mv 1 (rs.take i) f), x4, x5, x6, x7]) ⟨.unk, .unk, .unk, .unk, by rw [List.take_zero, mv_nil]⟩ (fun i hi ρ hI => ?_) (fun ρ hI => ?_)
    · obtain ⟨x4, x5, x6, x7, rfl⟩ := hI
      have hns := nodup_snoc hmn hi
      have hr := hmk _ (List.getElem_mem hi)
      have et := take_snoc hi
      generalize rs[i] = r at hns hr et
      refine ⟨_, rfl, ?_⟩
      show Rn _ [.dat (.obj C.Shift ks ds), .dat (dV K f), .dat .non, dW K (K02.mv 1 (rs.take i) f), .dat (.str r.l), .dat (.int r.a), .dat (.int r.b), .dat (.int r.c)] _
      refine dput_W (f := K02.mv 1 (rs.take i) f) (c := r.l) (v := K02.mv 1 (rs.take i) f r.l + 1 * r.c) rfl ?_ rfl hK hr ⟨.dat (.str r.l), .dat (.int r.a), .dat (.int r.b), .dat (.int r.c), ?_⟩
      · rw [Int.one_mul]
        exact GA.b2_of (x := .int (K02.mv 1 (rs.take i) f r.l)) (y := .int r.c) (dgetO_W rfl rfl hr) rfl addII
      · rw [et]
        show [_, _, _, dW K _, _, _, _, _] = _
        rw [dW_congr (mv_snoc 1 hns f)]
    · obtain ⟨x4, x5, x6, x7, rfl⟩ := hI
      rw [List.take_length]
      refine Rn.rtM (o := dW K (K02.mv 1 rs f)) rfl ?_
      rw [← hmv]; rfl
/-! ### the labels that are bad -/
def cks (t : Int) : List Int := if t < 10 then (List.range t.toNat).map fun k : Nat => (k : Int) else [0, t - 1]
theorem cks_len {t : Int} : (cks t).length ≤ 10 := by
  unfold cks
  split
  · rw [List.length_map, List.length_range]; omega
  · exact Nat.le_add_left _ _
theorem cks_bad {t : Int} (ht : 0 ≤ t) (f : Str → Int) (r : Row) : (∃ k ∈ cks t, badK f r k) ↔ 0 < t ∧ (badK f r 0 ∨ badK f r (t - 1)) := by
  unfold cks
  split
  · rename_i h
    constructor
    · rintro ⟨k, hk, hb⟩
      obtain ⟨n, hn, rfl⟩ := List.mem_map.mp hk
      have := List.mem_range.mp hn
      exact ⟨by omega, bad_ends (by omega) (by omega) hb⟩
    · rintro ⟨h0, hb | hb⟩
      · exact ⟨0, List.mem_map.mpr ⟨0, List.mem_range.mpr (by omega), rfl⟩, hb⟩
      · exact ⟨t - 1, List.mem_map.mpr ⟨(t - 1).toNat, List.mem_range.mpr (by omega), by omega⟩, hb⟩
  · constructor
    · rintro ⟨k, hk, hb⟩
      simp only [List.mem_cons, List.not_mem_nil, or_false] at hk
      rcases hk with rfl | rfl
      · exact ⟨by omega, .inl hb⟩
      · exact ⟨by omega, .inr hb⟩
    · rintro ⟨_, hb | hb⟩
      · exact ⟨0, by simp, hb⟩
      · exact ⟨t - 1, by simp, hb⟩
def badB (f : Str → Int) (t : Int) (r : Row) : Bool := (cks t).any fun k => decide (f r.l + k * r.c < r.a) || decide (f r.l + k * r.c > r.b)
theorem badB_iff {f : Str → Int} {t : Int} {r : Row} : badB f t r = true ↔ ∃ k ∈ cks t, badK f r k := by
  unfold badB badK
  rw [List.any_eq_true]
  simp only [Bool.or_eq_true, decide_eq_true_eq]
theorem badB_len {f : Str → Int} {t : Int} {r : Row} : decide (0 < (((cks t).filter fun k => decide (f r.l + k * r.c < r.a) || decide (f r.l + k * r.c > r.b)).length : Int)) = badB f t r := by
  rw [Bool.eq_iff_iff, decide_eq_true_iff]
  unfold badB
  rw [List.any_eq_true]
  constructor
  · intro h
    obtain ⟨k, hk2⟩ := List.exists_mem_of_length_pos (show 0 < ((cks t).filter fun k => decide (f r.l + k * r.c < r.a) || decide (f r.l + k * r.c > r.b)).length by omega)
    exact ⟨k, (List.mem_filter.mp hk2).1, (List.mem_filter.mp hk2).2⟩
  · rintro ⟨k, h1, h2⟩
    have := List.length_pos_of_mem (List.mem_filter (p := fun k => decide (f r.l + k * r.c < r.a) || decide (f r.l + k * r.c > r.b)).mpr ⟨h1, h2⟩)
    omega
theorem bad_eq (C : Cs) {a : List Row} {K : List Str} {f : Str → Int} {t : Int} (hl : a.length ≤ 1000) (hk : ∀ r ∈ a, r.l ∈ K) (hA : okA a) (ht : 0 ≤ t) : m_law_bad C [.lst (a.map rowD), dV K f, .int t] = some (.lst (((a.filter (badB f t)).map (·.l)).map .str)) := by
  unfold m_law_bad
  refine runP_eq ?_
  unfold b_law_bad
  show Rn _ [.dat (.lst (a.map rowD)), .dat (dV K f), .dat (.int t), .unk, .unk, .unk, .unk, .unk, .unk, .unk, .unk] _
  refine Rn.sqstO (o := O.dats []) rfl ?_
  refine Rn.sqst (d := .lst [.int 0, .int (t - 1)]) (mkL_of (GA.aC2 rfl (GA.b2_of rfl rfl subII)) (by simp)) ?_
  show Rn _ [.dat (.lst (a.map rowD)), .dat (dV K f), .dat (.int t), O.dats [], .dat (.lst [.int 0, .int (t - 1)]), .unk, .unk, .unk, .unk, .unk, .unk] _
  refine Rn.sqN (P := fun ρ => ρ = [.dat (.lst (a.map rowD)), .dat (dV K f), .dat (.int t), O.dats [], .dat (.lst ((cks t).map .int)), .unk, .unk, .unk, .unk, .unk, .unk]) ?_ fun ρ hρ => ?_
  · refine Rn.ite (t := decide (t < 10)) (asB_of (GA.b2_of (x := .int t) (y := .int 10) rfl rfl (by rw [ltII]))) (fun h => ?_) (fun h => Rn.skip ?_)
    · have h := of_decide_eq_true h
      refine Rn.st (d := .lst ((cks t).map .int)) ?_ rfl
      refine GA.frz_of (o := O.dats ((cks t).map .int)) ?_ (toD_dats _)
      unfold lstRngO
      show (match (some (D.int t)) with | some (.int i) => if 0 ≤ i ∧ i ≤ 1000000 then some (O.dats ((List.range i.toNat).map fun k : Nat => .int (k : Int))) else none | _ => none) = _
      show (if 0 ≤ t ∧ t ≤ 1000000 then some (O.dats ((List.range t.toNat).map fun k : Nat => .int (k : Int))) else none) = _
      rw [if_pos (by omega)]
      unfold cks
      rw [if_pos h, List.map_map]; rfl
    · have h := of_decide_eq_false h
      unfold cks
      rw [if_neg h]; rfl
  subst hρ
  have hck := cks_len (t := t)
  generalize hcs : cks t = cs at hck
  refine Rn.sqfor (xs := a) (φ := rowD) rfl (fun i ρ => ∃ x5 x6 x7 x8 x9, ρ = [.dat (.lst (a.map rowD)), .dat (dV K f), .dat (.int t), O.dats ((((a.take i).filter (badB f t)).map (·.l)).map .str), .dat (.lst (cs.map .int)), x5, x6, x7, x8, x9, .unk]) ⟨_, _, _, _, _, rfl⟩ (fun i hi ρ hI => ?_) (fun ρ hI => ?_)
  · obtain ⟨x5, x6, x7, x8, x9, rfl⟩ := hI
    have hr := hk _ (List.getElem_mem hi)
    have hc := hA _ (List.getElem_mem hi)
    have et := take_snoc hi
    have hfl : (((a.take i).filter (badB f t)).map (·.l)).length ≤ 1000 := by
      rw [List.length_map]
      have := List.length_filter_le (badB f t) (a.take i)
      rw [List.length_take] at this
      omega
    generalize a[i] = r at hr hc et
    refine ⟨_, rfl, ?_⟩
    rw [et]
    generalize a.take i = p at hfl
    show Rn _ [.dat (.lst (a.map rowD)), .dat (dV K f), .dat (.int t), O.dats (((p.filter (badB f t)).map (·.l)).map .str), .dat (.lst (cs.map .int)), .dat (.str r.l), .dat (.int r.a), .dat (.int r.b), .dat (.int r.c), x9, .unk] _
    have el := lc_fil (fi := iOf (gv 4)) (gt := gN 10) (t := orT (asB (b2 (b2 (b2 (gv 1) (gv 5) dgetD) (b2 (gv 10) (gv 8) mulI) addA) (gv 6) ltI)) (asB (b2 (b2 (b2 (gv 1) (gv 5) dgetD) (b2 (gv 10) (gv 8) mulI) addA) (gv 7) gtI))) (f := gv 10) (vs := [10]) (ρ := [.dat (.lst (a.map rowD)), .dat (dV K f), .dat (.int t), O.dats (((p.filter (badB f t)).map (·.l)).map .str), .dat (.lst (cs.map .int)), .dat (.str r.l), .dat (.int r.a), .dat (.int r.b), .dat (.int r.c), x9, .unk])
      (φ := D.int) D.int (fun k => decide (f r.l + k * r.c < r.a) || decide (f r.l + k * r.c > r.b)) (xs := cs) rfl rfl (by omega) fun k _ => ⟨_, rfl, ?_, fun _ => rfl⟩
    · have hex := badB_len (f := f) (t := t) (r := r)
      rw [hcs] at hex
      generalize cs.filter (fun k => decide (f r.l + k * r.c < r.a) || decide (f r.l + k * r.c > r.b)) = out at el hex
      refine Rn.sqst (d := .lst (out.map .int)) el ?_
      show Rn _ [.dat (.lst (a.map rowD)), .dat (dV K f), .dat (.int t), O.dats (((p.filter (badB f t)).map (·.l)).map .str), .dat (.lst (cs.map .int)), .dat (.str r.l), .dat (.int r.a), .dat (.int r.b), .dat (.int r.c), .dat (.lst (out.map .int)), .unk] _
      refine Rn.ite (t := badB f t r) ?_ (fun hb => ?_) (fun hb => Rn.skip ⟨.dat (.str r.l), .dat (.int r.a), .dat (.int r.b), .dat (.int r.c), .dat (.lst (out.map .int)), ?_⟩)
      · rw [← hex]
        refine asB_of (GA.b2_of (x := .int (out.length : Nat)) (y := .int 0) (GA.cB_of (f := lenD) (GA.aC1 (d := .lst (out.map .int)) rfl) (by
          show some (D.int ((out.map D.int).length : Nat)) = _
          rw [List.length_map])) rfl gtII)
      · refine Rn.appD (ds := ((p.filter (badB f t)).map (·.l)).map .str) (d := .str r.l) rfl rfl (by rw [List.length_map]; omega) ⟨.dat (.str r.l), .dat (.int r.a), .dat (.int r.b), .dat (.int r.c), .dat (.lst (out.map .int)), ?_⟩
        rw [List.filter_append, List.filter_cons, if_pos hb, List.map_append, List.map_append]; rfl
      · rw [List.filter_append, List.filter_cons, hb]
        simp
    · have e1 : b2 (b2 (gv 1) (gv 5) dgetD) (b2 (gv 10) (gv 8) mulI) addA [.dat (.lst (a.map rowD)), .dat (dV K f), .dat (.int t), O.dats (((p.filter (badB f t)).map (·.l)).map .str), .dat (.lst (cs.map .int)), .dat (.str r.l), .dat (.int r.a), .dat (.int r.b), .dat (.int r.c), x9, .dat (.int k)] = some (.int (f r.l + k * r.c)) :=
        GA.b2_of (x := .int (f r.l)) (y := .int (k * r.c)) (GA.b2_of (x := dV K f) (y := .str r.l) rfl rfl (dget_V hr)) (GA.b2_of (x := .int k) (y := .int r.c) rfl rfl (mulR (by omega))) addII
      exact orT_of (asB_of (GA.b2_of (x := .int (f r.l + k * r.c)) (y := .int r.a) e1 rfl ltII)) fun _ => asB_of (GA.b2_of (x := .int (f r.l + k * r.c)) (y := .int r.b) e1 rfl gtII)
  · obtain ⟨x5, x6, x7, x8, x9, rfl⟩ := hI
    rw [List.take_length]
    exact Rn.fzD rfl (Rn.ret (d := .lst (((a.filter (badB f t)).map (·.l)).map .str)) rfl ⟨_, rfl, rfl⟩)
theorem bad_mem {a : List Row} {f : Str → Int} {t : Int} (hn : (labs a).Nodup) (ht : 0 ≤ t) (l : Str) : l ∈ (a.filter (badB f t)).map (·.l) ↔ 0 < t ∧ ∃ r, at_ a l = some r ∧ (badK f r 0 ∨ badK f r (t - 1)) := by
  rw [List.mem_map]
  constructor
  · rintro ⟨r, hr, rfl⟩
    obtain ⟨h1, h2⟩ := List.mem_filter.mp hr
    obtain ⟨h3, h4⟩ := (cks_bad ht f r).mp (badB_iff.mp h2)
    exact ⟨h3, r, at_mem hn h1, h4⟩
  · rintro ⟨h0, r, h1, h2⟩
    exact ⟨r, List.mem_filter.mpr ⟨at_in h1, badB_iff.mpr ((cks_bad ht f r).mpr ⟨h0, h2⟩)⟩, at_l h1⟩
theorem bad_one {a : List Row} {f : Str → Int} (hn : (labs a).Nodup) (l : Str) : l ∈ (a.filter (badB f 1)).map (·.l) ↔ FL f a l := by
  rw [bad_mem hn (by omega)]
  unfold FL
  constructor
  · rintro ⟨_, r, h1, h2⟩
    refine ⟨r, h1, ?_⟩
    rw [okB_iff]
    unfold badK at h2
    simp at h2
    omega
  · rintro ⟨r, h1, h2⟩
    refine ⟨by omega, r, h1, .inl ?_⟩
    rw [okB_iff] at h2
    unfold badK
    simp
    omega
end K02

namespace K02
open PySem L2 PD
/-! ### _law_same_dict -/
theorem Rn.forK {i : Nat} {g : D → Ev → Option Ev} {b : Ev → Option Fl} {ρ : Ev} {Q : Fl → Prop} {ks : List Key} {vs : List D} (h : ρ[i]? = some (.dat (.dic ks vs))) (H : Rn (forS (fun _ => some (ks.map keyO)) g b) ρ fun r => (∀ x ρ1, r ≠ .ex x ρ1) ∧ Q r) : Rn (PD.forK i g b) ρ Q := by
  obtain ⟨r, e, nx, q⟩ := H
  refine ⟨r, ?_, q⟩
  unfold PD.forK keysOf
  rw [h]
  show (loop g b (ks.map keyO) ρ).bind noEx = _
  unfold forS at e
  rw [Option.bind_some] at e
  rw [e]
  cases r <;> first | rfl | exact absurd rfl (nx _ _)
theorem keys_V (K : List Str) (f : Str → Int) : ((tb K f).map fun p => (.inr p.1 : Key)).map keyO = K.map D.str := by
  unfold tb
  rw [List.map_map, List.map_map]; rfl
theorem ndin_V {K : List Str} {f : Str → Int} {c : Str} (h : c ∈ K) : ndinD (.str c) (dV K f) = some (.bl false) := by
  have e := dget_V (f := f) h
  unfold dV ndinD
  show (if ((tb K f).map fun p => D.int p.2).length = ((tb K f).map fun p => (.inr p.1 : Key)).length then (keyD (.str c)).map fun k => D.bl (!(dlook k ((tb K f).map fun p => .inr p.1) ((tb K f).map fun p => .int p.2)).isSome) else none) = _
  rw [if_pos (by rw [List.length_map, List.length_map])]
  unfold dV dgetD at e
  show ((keyD (.str c)).map _) = _
  cases q : keyD (.str c) with
  | none => simp only [q] at e; cases e
  | some k =>
    simp only [q] at e
    rw [Option.bind_some] at e
    rw [Option.map_some, e]; rfl
theorem len_V (K : List Str) (f : Str → Int) : lenD [dV K f] = some (.int K.length) := by
  unfold dV
  show some (D.int _) = _
  rw [List.length_map, tb_len]
theorem sdict (C : Cs) (K : List Str) (f : Str → Int) : m_law_same_dict C [dV K f, dV K f] = some (.bl true) := by
  unfold m_law_same_dict
  refine runP_eq ?_
  have hl := len_V K f
  have ht : isiD "dict" (dV K f) = some (.bl true) := rfl
  show Rn _ [.dat (dV K f), .dat (dV K f), .unk] _
  refine Rn.chk (by (simp (disch := first | assumption | omega) only [hl, ht, MV]) <;> simp) ?_
  refine Rn.sq (Rn.forK (i := 1) rfl (Rn.forT (xs := K) (φ := D.str) (by rw [keys_V]) (fun _ ρ => ∃ o, ρ = [.dat (dV K f), .dat (dV K f), o]) ⟨_, rfl⟩ (fun i hi ρ hI => ?_) (fun ρ hI => ?_)))
  · obtain ⟨o, rfl⟩ := hI
    refine ⟨_, rfl, ?_⟩
    have hc := List.getElem_mem hi
    have e1 := ndin_V (f := f) hc
    have e2 := dget_V (f := f) hc
    have e3 := same_int C 2 (f K[i])
    show Rn _ [.dat (dV K f), .dat (dV K f), .dat (.str K[i])] _
    generalize K[i] = c at e1 e2 e3
    refine Rn.ite (t := false) ?_ (fun h => nomatch h) fun _ => Rn.skip ⟨_, rfl⟩
    (simp (disch := first | assumption | omega) only [e1, e2, e3, MV])
  · obtain ⟨o, rfl⟩ := hI
    refine ⟨fun _ _ z => (nomatch z), ?_⟩
    show Rn (rtV (kB true)) _ _
    exact Rn.ret (d := .bl true) rfl ⟨_, rfl, rfl⟩
/-! ### calls of gap and applied -/
theorem gapC (C : Cs) {a : List Row} {K : List Str} {f : Str → Int} {i j : Nat} {ρ : Ev} (hk : ∀ r ∈ a, r.l ∈ K) (h1 : gv i ρ = some (shD C a)) (h2 : gv j ρ = some (dV K f)) : mC C.Shift "gap" (gv i) (aCons (gv j) aNil) 2 (mShift_gap C) ρ = some (gapD f (srt a)) :=
  GA.mC_of (ks := ["rows"]) (ds := [.tup ((srt a).map rowD)]) (as := [dV K f]) h1 rfl (GA.aC1 h2) rfl (gap_eq C hk)
theorem appE (C : Cs) {a : List Row} {K : List Str} {f : Str → Int} {i j : Nat} {ρ : Ev} (hl : a.length ≤ 1000) (hK : K.length ≤ 1000) (hn : (labs a).Nodup) (hk : ∀ r ∈ a, r.l ∈ K) (h1 : gv i ρ = some (shD C a)) (h2 : gv j ρ = some (dV K f)) : eMX C.Shift "applied" (eV (gv i)) (eCons (eV (gv j)) eNil) 2 (mShift_applied C) ρ = some (appR C K f a) := by
  have e := applied_eq C (f := f) hl hK hn hk
  have q1 : eV (gv i) ρ = some (.ok (shD C a)) := by unfold eV; rw [h1]; rfl
  have q2 : eCons (eV (gv j)) eNil ρ = some (.ok [dV K f]) := by
    have q3 : eV (gv j) ρ = some (.ok (dV K f)) := by unfold eV; rw [h2]; rfl
    unfold eCons eNil
    rw [q3]; rfl
  unfold eMX
  rw [q1, Option.bind_some]
  show (if C.Shift = C.Shift ∧ _ = none then _ else none) = _
  rw [if_pos ⟨rfl, rfl⟩, q2, Option.bind_some]
  show (if 1 + 1 = 2 then mShift_applied C [shD C a, dV K f] else none) = _
  rw [if_pos rfl, e]
theorem appM (C : Cs) {a : List Row} {K : List Str} {f : Str → Int} {i j : Nat} {ρ : Ev} (hl : a.length ≤ 1000) (hK : K.length ≤ 1000) (hn : (labs a).Nodup) (hk : ∀ r ∈ a, r.l ∈ K) (hg : gapF f (srt a) = none) (h1 : gv i ρ = some (shD C a)) (h2 : gv j ρ = some (dV K f)) : mX C.Shift "applied" (gv i) (aCons (gv j) aNil) 2 (mShift_applied C) ρ = some (dW K (mv 1 a f)) := by
  have e := applied_eq C (f := f) hl hK hn hk
  unfold mX
  rw [h1, Option.bind_some]
  show (if C.Shift = C.Shift ∧ _ = none then _ else none) = _
  rw [if_pos ⟨rfl, rfl⟩, GA.aC1 h2, Option.bind_some]
  show (if 1 + 1 = 2 then (mShift_applied C [shD C a, dV K f]).bind okO else none) = _
  rw [if_pos rfl, e, Option.bind_some]
  unfold appR
  rw [hg]; rfl
end K02

namespace K02
open PySem L2 PD
theorem isx (a da B : Addr) (t : Bool) (ks : List Str) (vs : List D) : isX a (some da) (.ref B) [(B, t)] (.exn a (some da) (.ref B) ks vs) = some (.bl t) := by
  show (if some da = some da then isiE a (.ref B) [(B, t)] (.exn a (some da) (.ref B) ks vs) else none) = _
  rw [if_pos rfl]
  show (if a = a then (List.lookup B [(B, t)]).map D.bl else none) = _
  rw [if_pos rfl, List.lookup_cons]; simp
theorem fldx (a da B : Addr) (l : Str) : fldE a (some da) (.ref B) [B] "counter" (.exn a (some da) (.ref B) ["counter"] [.str l]) = some (.str l) := by
  show (if a = a ∧ some da = some da ∧ B ∈ [B] then _ else none) = _
  rw [if_pos ⟨rfl, rfl, List.mem_singleton.mpr rfl⟩]; rfl
abbrev blk (C : Cs) (l : Str) : Exn := ⟨.ref C.Blocked, some (["counter"], [.str l])⟩
theorem appR_bad (C : Cs) {K : List Str} {f : Str → Int} {a : List Row} {l : Str} (h : gapF f (srt a) = some l) : appR C K f a = .ex (blk C l) := by
  unfold appR; rw [h]
theorem appR_ok (C : Cs) {K : List Str} {f : Str → Int} {a : List Row} (h : gapF f (srt a) = none) : appR C K f a = .ok (dW K (mv 1 a f)) := by
  unfold appR; rw [h]
theorem base_eq (C : Cs) {a : List Row} {K : List Str} {f : Str → Int} {l : Str} (hl : a.length ≤ 1000) (hK : K.length ≤ 1000) (hn : (labs a).Nodup) (hk : ∀ r ∈ a, r.l ∈ K) (hg : gapF f (srt a) = some l) : m_law_base C [shD C a, dV K f] = some (.bl true) := by
  unfold m_law_base
  refine runP_eq ?_
  have ha := appE C (f := f) (i := 0) (j := 1) (ρ := [.dat (shD C a), .dat (dV K f), .unk]) hl hK hn hk rfl rfl
  rw [appR_bad C hg] at ha
  show Rn _ [.dat (shD C a), .dat (dV K f), .unk] _
  generalize shD C a = S at *
  refine Rn.sq (Rn.tryX (x := blk C l) (ρ1 := [.dat S, .dat (dV K f), .unk]) (r2 := .rt (.dat (.bl true)) [.dat S, .dat (dV K f), .unk]) ?_ (mtc1 _ _) (fun ad da => ?_) ⟨_, rfl, rfl⟩)
  · unfold drpX; rw [ha]; rfl
  · refine Rn.ret (d := .bl true) ?_ rfl
    show andV (b1 (gv 2) (isX ad (some da) (.ref C.Blocked) [(C.Blocked, true)])) _ [.dat S, .dat (dV K f), .dat (.exn ad (some da) (.ref C.Blocked) ["counter"] [.str l])] = _
    have e1 := isx ad da C.Blocked true ["counter"] [.str l]
    have e2 := isx ad da C.Blocked false ["counter"] [.str l]
    generalize D.exn ad (some da) (.ref C.Blocked) ["counter"] [.str l] = E at *
    have hx : exnA da (blk C l) = some da := rfl
    (simp (disch := first | assumption | omega) only [e1, e2, hx, MV])
section
variable {C : Cs} {a : List Row} {K : List Str} {f : Str → Int}
theorem lawap_bad {m : Str} {x : Str} {xs : List Str} {H : D} (hl : a.length ≤ 1000) (hK : K.length ≤ 1000) (hn : (labs a).Nodup) (hk : ∀ r ∈ a, r.l ∈ K) (hm : minS x xs = m) (hg : gapF f (srt a) = some m) : m_law_applied C [shD C a, dV K f, .lst ((x :: xs).map .str), H] = some (.bl true) := by
  unfold m_law_applied
  refine runP_eq ?_
  have hgap : ∀ u v w : O, mC C.Shift "gap" (gv 0) (aCons (gv 5) aNil) 2 (mShift_gap C) [.dat (shD C a), .dat (dV K f), .dat (.lst ((x :: xs).map .str)), .dat H, .dat (.str m), .dat (dV K f), u, v, w] = some (.str m) := fun u v w => by
    rw [gapC C (f := f) hk rfl rfl]
    unfold gapD; rw [hg]
  have ha := appE C (f := f) (i := 0) (j := 5) (ρ := [.dat (shD C a), .dat (dV K f), .dat (.lst ((x :: xs).map .str)), .dat H, .dat (.str m), .dat (dV K f), .dat .non, .dat .non, .unk]) hl hK hn hk rfl rfl
  rw [appR_bad C hg] at ha
  have hb := base_eq C (f := f) hl hK hn hk hg
  have hmin : minTD [.lst ((x :: xs).map .str)] = some (.str m) := by
    show (strsD ((x :: xs).map .str)).bind _ = _
    rw [strs_map, Option.bind_some, ← hm]
  have hlen : lenD [.lst ((x :: xs).map .str)] = some (.int ((xs.length : Int) + 1)) := by
    show some (D.int (((x :: xs).map D.str).length : Nat)) = _
    rw [List.length_map, List.length_cons]; rfl
  have hs := same_s C 2 m
  have hd := sdict C K f
  have hfr : frz (cO (aCons (gv 1) aNil) dictO) [.dat (shD C a), .dat (dV K f), .dat (.lst ((x :: xs).map .str)), .dat H, .dat (.str m), .unk, .unk, .unk, .unk] = some (dV K f) := by
    unfold frz cO
    rw [GA.aC1 (d := dV K f) rfl, Option.bind_some, dict_dV, Option.bind_some, dW_toD]
  show Rn _ [.dat (shD C a), .dat (dV K f), .dat (.lst ((x :: xs).map .str)), .dat H, .unk, .unk, .unk, .unk, .unk] _
  generalize shD C a = S at *
  generalize D.lst ((x :: xs).map .str) = B at *
  refine Rn.sqst (d := .non) rfl ?_
  show Rn _ [.dat S, .dat (dV K f), .dat B, .dat H, .dat .non, .unk, .unk, .unk, .unk] _
  refine Rn.sqifT (by (simp (disch := first | assumption | omega) only [hlen, MV]) <;> simp) ?_
  refine Rn.sqst (d := .str m) (by (simp (disch := first | assumption | omega) only [hmin, MV])) ?_
  show Rn _ [.dat S, .dat (dV K f), .dat B, .dat H, .dat (.str m), .unk, .unk, .unk, .unk] _
  refine Rn.sqst hfr ?_
  show Rn _ [.dat S, .dat (dV K f), .dat B, .dat H, .dat (.str m), .dat (dV K f), .unk, .unk, .unk] _
  have h1 := hgap .unk .unk .unk
  refine Rn.chk (by (simp (disch := first | assumption | omega) only [h1, hs, MV])) ?_
  refine Rn.sqst (d := .non) rfl ?_
  refine Rn.sqstO (o := .dat .non) rfl ?_
  show Rn _ [.dat S, .dat (dV K f), .dat B, .dat H, .dat (.str m), .dat (dV K f), .dat .non, .dat .non, .unk] _
  refine Rn.sq (Rn.tryX (x := blk C m) (ρ1 := [.dat S, .dat (dV K f), .dat B, .dat H, .dat (.str m), .dat (dV K f), .dat .non, .dat .non, .unk]) (r2 := .nx [.dat S, .dat (dV K f), .dat B, .dat H, .dat (.str m), .dat (dV K f), .dat (.str m), .dat .non, .unk]) ?_ (mtc1 _ _) (fun ad da => ?_) ?_)
  · unfold stX; rw [ha]; rfl
  · refine Rn.st (d := .str m) ?_ rfl
    show b1 (gv 8) (fldE ad (some da) (.ref C.Blocked) [C.Blocked] "counter") [.dat S, .dat (dV K f), .dat B, .dat H, .dat (.str m), .dat (dV K f), .dat .non, .dat .non, .dat (.exn ad (some da) (.ref C.Blocked) ["counter"] [.str m])] = _
    exact GA.b1_of rfl (fldx ad da C.Blocked m)
  · show Rn _ [.dat S, .dat (dV K f), .dat B, .dat H, .dat (.str m), .dat (dV K f), .dat (.str m), .dat .non, .unk] _
    refine Rn.chk (by (simp (disch := first | assumption | omega) only [hd, hs, MV])) ?_
    refine Rn.sqifT (by (simp (disch := first | assumption | omega) only [MV])) ?_
    refine Rn.sq (Rn.fz (o := .dat .non) (d := .non) rfl rfl ?_)
    show Rn _ [.dat S, .dat (dV K f), .dat B, .dat H, .dat (.str m), .dat (dV K f), .dat (.str m), .dat .non, .unk] _
    refine Rn.ret (d := .bl true) ?_ ⟨_, rfl, rfl⟩
    (simp (disch := first | assumption | omega) only [hb, MV])
theorem lawap_ok (hl : a.length ≤ 1000) (hK : K.length ≤ 1000) (hZ : ZZZ ∈ K) (hn : (labs a).Nodup) (hk : ∀ r ∈ a, r.l ∈ K) (hg : gapF f (srt a) = none) : m_law_applied C [shD C a, dV K f, .lst [], dV K (mv 1 a f)] = some (.bl true) := by
  unfold m_law_applied
  refine runP_eq ?_
  have hgap : ∀ u v w : O, mC C.Shift "gap" (gv 0) (aCons (gv 5) aNil) 2 (mShift_gap C) [.dat (shD C a), .dat (dV K f), .dat (.lst []), .dat (dV K (mv 1 a f)), .dat .non, .dat (dV K f), u, v, w] = some .non := fun u v w => by
    rw [gapC C (f := f) hk rfl rfl]
    unfold gapD; rw [hg]
  have ha := appE C (f := f) (i := 0) (j := 5) (ρ := [.dat (shD C a), .dat (dV K f), .dat (.lst []), .dat (dV K (mv 1 a f)), .dat .non, .dat (dV K f), .dat .non, .dat .non, .unk]) hl hK hn hk rfl rfl
  rw [appR_ok C hg] at ha
  have hm : ∀ u v w : O, mX C.Shift "applied" (gv 0) (aCons (gv 5) aNil) 2 (mShift_applied C) [.dat (shD C a), .dat (dV K f), .dat (.lst []), .dat (dV K (mv 1 a f)), .dat .non, .dat (dV K f), u, v, w] = some (dW K (mv 1 a f)) := fun u v w => appM C (f := f) hl hK hn hk hg rfl rfl
  have hs := same_none C 2
  have hd := sdict C K f
  have hd2 := sdict C K (mv 1 a f)
  have hfr : frz (cO (aCons (gv 1) aNil) dictO) [.dat (shD C a), .dat (dV K f), .dat (.lst []), .dat (dV K (mv 1 a f)), .dat .non, .unk, .unk, .unk, .unk] = some (dV K f) := by
    unfold frz cO
    rw [GA.aC1 (d := dV K f) rfl, Option.bind_some, dict_dV, Option.bind_some, dW_toD]
  show Rn _ [.dat (shD C a), .dat (dV K f), .dat (.lst []), .dat (dV K (mv 1 a f)), .unk, .unk, .unk, .unk, .unk] _
  generalize shD C a = S at *
  generalize K02.mv 1 a f = f' at *
  refine Rn.sqst (d := .non) rfl ?_
  refine Rn.chk (by (simp (disch := first | assumption | omega) only [MV]) <;> rfl) ?_
  show Rn _ [.dat S, .dat (dV K f), .dat (.lst []), .dat (dV K f'), .dat .non, .unk, .unk, .unk, .unk] _
  refine Rn.sqst hfr ?_
  show Rn _ [.dat S, .dat (dV K f), .dat (.lst []), .dat (dV K f'), .dat .non, .dat (dV K f), .unk, .unk, .unk] _
  have h1 := hgap .unk .unk .unk
  refine Rn.chk (by (simp (disch := first | assumption | omega) only [h1, hs, MV])) ?_
  refine Rn.sqst (d := .non) rfl ?_
  refine Rn.sqstO (o := .dat .non) rfl ?_
  show Rn _ [.dat S, .dat (dV K f), .dat (.lst []), .dat (dV K f'), .dat .non, .dat (dV K f), .dat .non, .dat .non, .unk] _
  refine Rn.sq (Rn.tryN (ρ1 := [.dat S, .dat (dV K f), .dat (.lst []), .dat (dV K f'), .dat .non, .dat (dV K f), .dat .non, dW K f', .unk]) ?_ ?_)
  · unfold stX; rw [ha]; rfl
  · show Rn _ [.dat S, .dat (dV K f), .dat (.lst []), .dat (dV K f'), .dat .non, .dat (dV K f), .dat .non, dW K f', .unk] _
    refine Rn.chk (by (simp (disch := first | assumption | omega) only [hd, hs, MV])) ?_
    refine Rn.chk (by (simp (disch := first | assumption | omega) only [MV])) ?_
    refine Rn.chk (by
      show notT _ ([O.dat S, .dat (dV K f), .dat (.lst []), .dat (dV K f'), .dat .non, .dat (dV K f), .dat .non, dW K f', .unk].map O.vw) = _
      rw [List.map_cons, List.map_cons, List.map_cons, List.map_cons, List.map_cons, List.map_cons, List.map_cons, List.map_cons, dW_vw]
      show notT _ [O.dat S, .dat (dV K f), .dat (.lst []), .dat (dV K f'), .dat .non, .dat (dV K f), .dat .non, .dat (dV K f'), .unk] = _
      (simp (disch := first | assumption | omega) only [hd2, MV])) ?_
    refine Rn.sq (dput_W (K := K) (f := f') (c := ZZZ) (v := 8) rfl rfl rfl hK hZ ?_)
    show Rn _ [.dat S, .dat (dV K f), .dat (.lst []), .dat (dV K f'), .dat .non, .dat (dV K f), .dat .non, dW K _, .unk] _
    generalize dW K _ = z
    have h2 : frz (mX C.Shift "applied" (gv 0) (aCons (gv 5) aNil) 2 (mShift_applied C)) [.dat S, .dat (dV K f), .dat (.lst []), .dat (dV K f'), .dat .non, .dat (dV K f), .dat .non, z, .unk] = some (dV K f') := by
      unfold frz
      rw [hm, Option.bind_some, dW_toD]
    refine Rn.ret (d := .bl true) ?_ ⟨_, rfl, rfl⟩
    (simp (disch := first | assumption | omega) only [hd, h2, hd2, MV])
/-- the law's own look at a shift: what is bad is what fails -/
theorem lawap {bad : List Str} (hl : a.length ≤ 1000) (hK : K.length ≤ 1000) (hZ : ZZZ ∈ K) (hn : (labs a).Nodup) (hk : ∀ r ∈ a, r.l ∈ K) (hb : ∀ l, l ∈ bad ↔ FL f a l) : m_law_applied C [shD C a, dV K f, .lst (bad.map .str), dV K (mv 1 a f)] = some (.bl true) := by
  have hg := gap_min (f := f) hn hb
  cases bad with
  | nil => exact lawap_ok hl hK hZ hn hk hg
  | cons x xs => exact lawap_bad hl hK hn hk rfl hg
end
end K02

namespace K02
open PySem L2 PD
theorem sh_eq (C : Cs) {a b : List Row} (h : a.Perm b) : shD C a = shD C b := by unfold shD; rw [srt_eq h]
/-- rows over labels K, each label once -/
structure WR (K : List Str) (a : List Row) : Prop where
  nd : (labs a).Nodup
  sub : ∀ r ∈ a, r.l ∈ K
section
variable {C : Cs} {K : List Str} {a b c : List Row}
theorem WR.len (h : WR K a) : a.length ≤ K.length := by
  have := h.nd.length_le_of_subset (l₂ := K) (fun l hl => by obtain ⟨r, hr, rfl⟩ := List.mem_map.mp hl; exact h.sub r hr)
  rwa [List.length_map] at this
theorem WR.nil : WR K [] := ⟨List.nodup_nil, fun _ h => nomatch h⟩
theorem WR.plus (ha : WR K a) (hb : WR K b) : WR K (plusR a b) := ⟨labs_nodup ha.nd hb.nd, fun r hr => by
  rcases List.mem_append.mp hr with h | h
  · obtain ⟨q, hq, rfl⟩ := List.mem_map.mp h
    rw [plusF_l]; exact ha.sub q hq
  · exact hb.sub r (List.mem_filter.mp h).1⟩
theorem WR.back (ha : WR K a) : WR K (a.map backF) := ⟨by rw [labs_mapF (f := backF) (fun _ => rfl)]; exact ha.nd, fun r hr => by
  obtain ⟨q, hq, rfl⟩ := List.mem_map.mp hr
  exact ha.sub q hq⟩
theorem WR.mul (t : Int) (ha : WR K a) : WR K (mulS t a) := ⟨labs_mul ha.nd, fun r hr => by
  unfold mulS at hr
  split at hr
  · cases hr
  · obtain ⟨q, hq, rfl⟩ := List.mem_map.mp hr
    exact ha.sub q hq⟩
theorem WR.okR (hG : ∀ l ∈ K, okS l) (ha : WR K a) : okR a := fun r hr => hG _ (ha.sub r hr)
/-! the operators -/
theorem add' (hK : K.length ≤ 500) (ha : WR K a) (hb : WR K b) : orD addA (opC C.Shift (mShift_add C)) (shD C a) (shD C b) = some (shD C (plusR a b)) := by
  rw [opadd, add_eq C a b (Nat.le_trans ha.len hK) (Nat.le_trans hb.len hK) ha.nd hb.nd]
  rw [sh_eq C (plusR_perm (srt_perm a) (srt_perm b) (((srt_perm b).map (·.l)).nodup_iff.mpr hb.nd))]
theorem inv' (hK : K.length ≤ 500) (ha : WR K a) : inC C.Shift (mShift_invert C) (shD C a) = some (shD C (a.map backF)) := by
  rw [opinv, inv_eq C a (Nat.le_trans ha.len (Nat.le_trans hK (by decide)))]
  rw [sh_eq C ((srt_perm a).map backF)]
theorem mulE (hK : K.length ≤ 500) (ha : WR K a) {t : Int} (hm : okM t a) : mShift_mul C [shD C a, .int t] = some (shD C (mulS t a)) := by
  rw [mul_eq C a t (Nat.le_trans ha.len (Nat.le_trans hK (by decide))) hm]
  unfold mulS
  split
  · rfl
  · rw [sh_eq C ((srt_perm a).map (mulF t))]
theorem mul' (hK : K.length ≤ 500) (ha : WR K a) {t : Int} (hm : okM t a) : orD mulI (opCI C.Shift (mShift_mul C)) (shD C a) (.int t) = some (shD C (mulS t a)) := by
  rw [opmul, mulE hK ha hm]
theorem opmulA (C : Cs) (rows : List Row) (t : Int) : orD mulA (opCI C.Shift (mShift_mul C)) (shD C rows) (.int t) = mShift_mul C [shD C rows, .int t] := by
  unfold orD
  rw [show mulA (shD C rows) (.int t) = none from rfl]
  show opCI C.Shift (mShift_mul C) (shD C rows) (.int t) = _
  have := opmul C rows t
  unfold orD at this
  rw [show mulI (shD C rows) (.int t) = none from rfl] at this
  exact this
theorem mulA' (hK : K.length ≤ 500) (ha : WR K a) {t : Int} (hm : okM t a) : orD mulA (opCI C.Shift (mShift_mul C)) (shD C a) (.int t) = some (shD C (mulS t a)) := by
  rw [opmulA, mulE hK ha hm]
/-! _law_equal -/
theorem sm_tup3 (rows : List Row) (h : rows.length ≤ 1000) : sm 3 (.tup (rows.map rowD)) := by
  refine ⟨by rw [List.length_map]; omega, fun x hx => ?_⟩
  obtain ⟨r, _, rfl⟩ := List.mem_map.mp hx
  exact sm_row 0 r
theorem equal_self (hl : a.length ≤ 1000) (ho : okR a) : m_law_equal C [shD C a, shD C a] = some (.bl true) := by
  unfold m_law_equal
  refine runP_eq ?_
  have h1 := fld_rows C a
  have h2 := same_self C 3 _ (sm_tup3 (srt a) (by rw [srt_len]; exact hl))
  have h3 : orD eqD (eqC C.Shift [] (mShift_eq C)) (shD C a) (shD C a) = some (.bl true) := by
    rw [opeq_sh C ho ho]
    have : eqR (srt a) (srt a) = true := eqR_iff.mpr rfl
    rw [this]
  have h4 := same_bl C 2 true
  unfold b_law_equal
  show Rn _ [.dat (shD C a), .dat (shD C a)] _
  generalize shD C a = S at *
  generalize D.tup ((srt a).map rowD) = R at *
  generalize orD eqD (eqC C.Shift [] (mShift_eq C)) = E at *
  refine Rn.ret (d := .bl true) ?_ ⟨_, rfl, rfl⟩
  (simp (disch := first | assumption | omega) only [h1, h2, h3, h4, MV])
theorem equal' (hK : K.length ≤ 500) (hG : ∀ l ∈ K, okS l) (ha : WR K a) (h : a.Perm b) : m_law_equal C [shD C a, shD C b] = some (.bl true) := by
  rw [← sh_eq C h]
  exact equal_self (Nat.le_trans ha.len (Nat.le_trans hK (by decide))) (ha.okR hG)
/-! sum_of -/
theorem fold_wr : ∀ {as : List (List Row)} {t : List Row}, WR K t → (∀ a ∈ as, WR K a) → WR K (as.foldl plusR t)
  | [], _, ht, _ => ht
  | a :: as, t, ht, h => by
    have := fold_wr (as := as) (ht.plus (h a (List.mem_cons_self ..))) fun b hb => h b (List.mem_cons_of_mem _ hb)
    exact this
theorem sum_loop (hK : K.length ≤ 500) {as : List (List Row)} (h : ∀ a ∈ as, WR K a) {x : D} (hx : ∀ o1 o2 : O, iOf (gv 0) [.dat x, o1, o2] = some (as.map (shD C))) : mShift_sum_of C [x] = some (shD C (as.foldl plusR [])) := by
  unfold mShift_sum_of
  refine runP_eq ?_
  show Rn _ [.dat x, .unk, .unk] _
  refine Rn.sqst (d := shD C []) (mk_sh C (rows := []) rfl (by decide)) ?_
  show Rn _ [.dat x, .dat (shD C []), .unk] _
  refine Rn.sqfor (xs := as) (φ := shD C) (hx _ _) (fun i ρ => ∃ o, ρ = [.dat x, .dat (shD C ((as.take i).foldl plusR [])), o]) ⟨_, rfl⟩ (fun i hi ρ hI => ?_) (fun ρ hI => ?_)
  · obtain ⟨o, rfl⟩ := hI
    refine ⟨_, rfl, ?_⟩
    have e : (as.take (i + 1)).foldl plusR [] = plusR ((as.take i).foldl plusR []) as[i] := by
      rw [List.take_succ_eq_append_getElem hi, List.foldl_append]; rfl
    have w1 : WR K ((as.take i).foldl plusR []) := fold_wr WR.nil fun a ha => h a (List.mem_of_mem_take ha)
    have w2 := h _ (List.getElem_mem hi)
    show Rn _ [.dat x, .dat (shD C ((as.take i).foldl plusR [])), .dat (shD C as[i])] _
    refine Rn.st (d := shD C ((as.take (i + 1)).foldl plusR [])) ?_ ⟨_, rfl⟩
    rw [e]
    exact GA.b2_of rfl rfl (add' hK w1 w2)
  · obtain ⟨o, rfl⟩ := hI
    rw [List.take_length]
    exact Rn.ret rfl ⟨_, rfl, rfl⟩
theorem sum_lst (hK : K.length ≤ 500) {as : List (List Row)} (h : ∀ a ∈ as, WR K a) : mShift_sum_of C [.lst (as.map (shD C))] = some (shD C (as.foldl plusR [])) := sum_loop hK h fun _ _ => rfl
theorem sum_tup (hK : K.length ≤ 500) {as : List (List Row)} (h : ∀ a ∈ as, WR K a) : mShift_sum_of C [.tup (as.map (shD C))] = some (shD C (as.foldl plusR [])) := sum_loop hK h fun _ _ => rfl
theorem fold_many (ha : WR K a) (hb : WR K b) (hc : WR K c) : ∀ (n : Nat) {t : List Row}, WR K t → ((List.replicate n [a, b, c]).flatten.foldl plusR t).Perm (plusR t (mulS n (plusR (plusR a b) c)))
  | 0, t, ht => by
    have : mulS ((0 : Nat) : Int) (plusR (plusR a b) c) = [] := by unfold mulS; exact if_pos rfl
    rw [this, plusR_nil_r]
    exact List.Perm.refl _
  | n + 1, t, ht => by
    have wT := (ha.plus hb).plus hc
    have e : (List.replicate (n + 1) [a, b, c]).flatten.foldl plusR t = (List.replicate n [a, b, c]).flatten.foldl plusR (plusR (plusR (plusR t a) b) c) := by
      rw [List.replicate_succ, List.flatten_cons]; rfl
    rw [e]
    have ih := fold_many ha hb hc n (((ht.plus ha).plus hb).plus hc)
    refine ih.trans ?_
    have wM : WR K (mulS n (plusR (plusR a b) c)) := wT.mul n
    have p1 : (plusR (plusR (plusR t a) b) c).Perm (plusR t (plusR (plusR a b) c)) := by
      have q1 : (plusR (plusR t a) b).Perm (plusR t (plusR a b)) := plus_assoc ht.nd ha.nd hb.nd
      refine (plusR_perm q1 (List.Perm.refl c) hc.nd).trans ?_
      exact plus_assoc ht.nd (ha.plus hb).nd hc.nd
    refine (plusR_perm p1 (List.Perm.refl _) wM.nd).trans ?_
    refine (plus_assoc ht.nd wT.nd wM.nd).trans ?_
    have p2 := mul_plus (m := 1) (n := (n : Int)) (by decide) (Int.natCast_nonneg n) wT.nd
    rw [mul_one] at p2
    have p3 : ((n + 1 : Nat) : Int) = 1 + (n : Int) := by omega
    rw [p3]
    exact plusR_perm (List.Perm.refl t) p2.symm (wT.plus wM).nd
end
end K02

namespace K02
open PySem L2 PD
theorem pSum (C : Cs) {K : List Str} (hK : K.length ≤ 500) {as : List (List Row)} (h : ∀ a ∈ as, WR K a) {x : D} (hx : x = .lst (as.map (shD C)) ∨ x = .tup (as.map (shD C))) : mShift_sum_of C [x] = some (shD C (as.foldl plusR [])) := by
  rcases hx with rfl | rfl
  · exact sum_lst hK h
  · exact sum_tup hK h
theorem alg_eval {C : Cs} {m n : Int} {A B Z AB T BC T' iA iB iAB iBA iiA Am An Amn AA S3 S60 T20 S2 S0 S1 : D}
    (h1 : orD addA (opC C.Shift (mShift_add C)) A B = some AB) (h2 : orD addA (opC C.Shift (mShift_add C)) AB Z = some T) (h3 : orD addA (opC C.Shift (mShift_add C)) B Z = some BC) (h4 : orD addA (opC C.Shift (mShift_add C)) A BC = some T') (e1 : m_law_equal C [T, T'] = some (.bl true))
    (h5 : inC C.Shift (mShift_invert C) AB = some iAB) (h6 : inC C.Shift (mShift_invert C) A = some iA) (h7 : inC C.Shift (mShift_invert C) B = some iB) (h8 : orD addA (opC C.Shift (mShift_add C)) iB iA = some iBA) (e2 : m_law_equal C [iAB, iBA] = some (.bl true))
    (h9 : inC C.Shift (mShift_invert C) iA = some iiA) (e3 : m_law_equal C [iiA, A] = some (.bl true))
    (k1 : orD addA (opC C.Shift (mShift_add C)) (.int m) (.int n) = some (.int (m + n))) (k2 : orD mulA (opCI C.Shift (mShift_mul C)) A (.int (m + n)) = some Amn) (k3 : orD mulA (opCI C.Shift (mShift_mul C)) A (.int m) = some Am) (k4 : orD mulA (opCI C.Shift (mShift_mul C)) A (.int n) = some An) (k5 : orD addA (opC C.Shift (mShift_add C)) Am An = some AA) (e4 : m_law_equal C [Amn, AA] = some (.bl true))
    (s1 : mShift_sum_of C [.lst [A, B, Z]] = some S3) (e5 : m_law_equal C [S3, T] = some (.bl true))
    (s2 : mShift_sum_of C [.tup (List.replicate 20 [A, B, Z]).flatten] = some S60) (s3 : orD mulI (opCI C.Shift (mShift_mul C)) T (.int 20) = some T20) (e6 : m_law_equal C [S60, T20] = some (.bl true))
    (s4 : sC C.Shift "sum_of" (gv 0) (aCons (mkLst (aCons (gv 1) (aCons (gv 2) aNil))) aNil) 1 (mShift_sum_of C) [.dat A, .dat B, .dat Z, .dat (.int m), .dat (.int n), .dat T, .dat (.lst [A, B, Z])] = some S2) (e7 : m_law_equal C [S2, BC] = some (.bl true))
    (l1 : orD eqD (eqC C.Shift [] (mShift_eq C)) (.int 3) (.int 3) = some (.bl true)) (l2 : mShift_sum_of C [.lst []] = some S0) (l3 : fldD C.Shift "rows" S0 = some (.tup [])) (l4 : m_law_same C 3 [.tup [], .tup []] = some (.bl true))
    (l5 : mShift_sum_of C [.lst [B]] = some S1) (e8 : m_law_equal C [S1, B] = some (.bl true)) : m_law_algebra C [A, B, Z, .int m, .int n] = some (.bl true) := by
  unfold m_law_algebra
  refine runP_eq ?_
  unfold b_law_algebra
  show Rn _ [.dat A, .dat B, .dat Z, .dat (.int m), .dat (.int n), .unk, .unk] _
  generalize orD addA (opC C.Shift (mShift_add C)) = ADD at *
  generalize orD mulA (opCI C.Shift (mShift_mul C)) = MUA at *
  generalize orD mulI (opCI C.Shift (mShift_mul C)) = MUI at *
  generalize inC C.Shift (mShift_invert C) = INV at *
  generalize orD eqD (eqC C.Shift [] (mShift_eq C)) = EQD at *
  generalize sC C.Shift "sum_of" (gv 0) (aCons (mkLst (aCons (gv 1) (aCons (gv 2) aNil))) aNil) 1 (mShift_sum_of C) = SC at *
  have hr : repTD (.tup [A, B, Z]) (.int 20) = some (.tup (List.replicate 20 [A, B, Z]).flatten) := by
    show (if [A, B, Z] ≠ [] ∧ (2 : Int) ≤ 20 ∧ (20 : Int) ≤ 1000 ∧ [A, B, Z].length ≤ 1000 then some (D.tup (List.replicate (20 : Int).toNat [A, B, Z]).flatten) else none) = _
    rw [if_pos ⟨by simp, by decide, by decide, by simp⟩]; rfl
  generalize (List.replicate 20 [A, B, Z]).flatten = F at *
  refine Rn.sqst (d := T) (by (simp (disch := first | assumption | omega) only [h1, h2, MV])) ?_
  show Rn _ [.dat A, .dat B, .dat Z, .dat (.int m), .dat (.int n), .dat T, .unk] _
  refine Rn.chk (by (simp (disch := first | assumption | omega) only [h1, h2, h3, h4, e1, h5, h6, h7, h8, e2, MV])) ?_
  refine Rn.chk (by (simp (disch := first | assumption | omega) only [h6, h9, e3, k1, k2, k3, k4, k5, e4, MV])) ?_
  refine Rn.sqst (d := .lst [A, B, Z]) rfl ?_
  show Rn _ [.dat A, .dat B, .dat Z, .dat (.int m), .dat (.int n), .dat T, .dat (.lst [A, B, Z])] _
  have hm3 : mkTup (aCons (gv 0) (aCons (gv 1) (aCons (gv 2) aNil))) [.dat A, .dat B, .dat Z, .dat (.int m), .dat (.int n), .dat T, .dat (.lst [A, B, Z])] = some (.tup [A, B, Z]) := rfl
  have hl1 : mkLst (aCons (gv 1) aNil) [.dat A, .dat B, .dat Z, .dat (.int m), .dat (.int n), .dat T, .dat (.lst [A, B, Z])] = some (.lst [B]) := rfl
  have hl0 : mkLst aNil [.dat A, .dat B, .dat Z, .dat (.int m), .dat (.int n), .dat T, .dat (.lst [A, B, Z])] = some (.lst []) := rfl
  have ht0 : mkTup aNil [.dat A, .dat B, .dat Z, .dat (.int m), .dat (.int n), .dat T, .dat (.lst [A, B, Z])] = some (.tup []) := rfl
  have hlen : lenD [.lst [A, B, Z]] = some (.int 3) := rfl
  refine Rn.chk (by (simp (disch := first | assumption | omega) only [s1, e5, hm3, hr, s2, s3, e6, MV])) ?_
  refine Rn.chk (by (simp (disch := first | assumption | omega) only [s4, h3, e7, MV])) ?_
  refine Rn.ret (d := .bl true) ?_ ⟨_, rfl, rfl⟩
  (simp (disch := first | assumption | omega) only [hlen, l1, hl0, ht0, l2, l3, l4, hl1, l5, e8, MV])
theorem flat_map {α β : Type} (f : α → β) (n : Nat) (xs : List α) : (List.replicate n (xs.map f)).flatten = (List.replicate n xs).flatten.map f := by
  rw [List.map_flatten, List.map_replicate]
theorem algebra (C : Cs) {K : List Str} {a b c : List Row} {m n : Int} (hK : K.length ≤ 500) (hG : ∀ l ∈ K, okS l) (ha : WR K a) (hb : WR K b) (hc : WR K c) (hA : okA a) (hm : 0 ≤ m) (hn : 0 ≤ n) : m_law_algebra C [shD C a, shD C b, shD C c, .int m, .int n] = some (.bl true) := by
  have wab := ha.plus hb
  have wT := wab.plus hc
  have wbc := hb.plus hc
  have as3 : ∀ x ∈ [a, b, c], WR K x := fun x hx => by
    simp only [List.mem_cons, List.not_mem_nil, or_false] at hx
    rcases hx with rfl | rfl | rfl <;> assumption
  have as2 : ∀ x ∈ [b, c], WR K x := fun x hx => as3 x (List.mem_cons_of_mem _ hx)
  have as1 : ∀ x ∈ [b], WR K x := fun x hx => by rw [List.mem_singleton] at hx; rw [hx]; exact hb
  have as60 : ∀ x ∈ (List.replicate 20 [a, b, c]).flatten, WR K x := fun x hx => by
    obtain ⟨l, hl, hx⟩ := List.mem_flatten.mp hx
    rw [List.eq_of_mem_replicate hl] at hx
    exact as3 x hx
  refine alg_eval (add' hK ha hb) (add' hK wab hc) (add' hK hb hc) (add' hK ha wbc) (equal' hK hG wT (plus_assoc ha.nd hb.nd hc.nd))
    (inv' hK wab) (inv' hK ha) (inv' hK hb) (add' hK hb.back ha.back) (equal' hK hG wab.back (back_plus ha.nd hb.nd))
    (inv' hK ha.back) (by rw [back_back]; exact equal_self (Nat.le_trans ha.len (Nat.le_trans hK (by decide))) (ha.okR hG))
    rfl (mulA' hK ha (.inr hA)) (mulA' hK ha (.inr hA)) (mulA' hK ha (.inr hA)) (add' hK (ha.mul m) (ha.mul n)) (equal' hK hG (ha.mul _) (mul_plus hm hn ha.nd))
    (pSum C hK as3 (.inl rfl)) ?_ (pSum C hK as60 (.inr ?_)) (mul' hK wT (.inl ⟨by decide, by decide⟩)) ?_
    (S2 := shD C (plusR (plusR [] b) c)) ?_ ?_ ?_ (S0 := shD C []) ?_ ?_ (same_tup C 2 [] (by decide) fun _ h => nomatch h) (pSum C hK as1 (.inl rfl)) ?_
  · exact equal' hK hG (fold_wr WR.nil as3) (by
      show (plusR (plusR (plusR [] a) b) c).Perm _
      rw [plus_nil_l])
  · rw [← flat_map]; rfl
  · refine equal' hK hG (fold_wr WR.nil as60) ?_
    have := fold_many ha hb hc 20 (t := []) WR.nil
    rw [plus_nil_l] at this
    exact this
  · have := pSum C hK as2 (.inl rfl)
    show (if C.Shift = C.Shift ∧ _ = none then _ else none) = _
    rw [if_pos ⟨rfl, rfl⟩]
    show (if 1 = 1 then mShift_sum_of C [.lst [shD C b, shD C c]] else none) = _
    rw [if_pos rfl]
    exact this
  · rw [plus_nil_l]
    exact equal_self (Nat.le_trans wbc.len (Nat.le_trans hK (by decide))) (wbc.okR hG)
  · unfold orD
    rw [show eqD (.int 3) (.int 3) = some (.bl true) from eqII]
  · exact pSum C hK (as := []) (fun _ h => nomatch h) (.inl rfl)
  · have h := fld_rows C []
    rw [show srt [] = [] from List.length_eq_zero_iff.mp (by rw [srt_len]; rfl)] at h
    exact h
  · exact equal' hK hG (fold_wr WR.nil as1) (by
      show (plusR [] b).Perm b
      rw [plus_nil_l])
end K02

namespace K02
open PySem L2 PD
theorem ixStr {ls : List Str} {j : Nat} (h : j < ls.length) : ixD (.lst (ls.map .str)) (.int (j : Int)) = some (.str ls[j]) := by
  show atI (ls.map D.str) (j : Int) = _
  exact atI_nat (by rw [List.getElem?_map, List.getElem?_eq_getElem h]; rfl)
/-! ### the values -/
theorem pt_new {K : List Str} {f : Str → Int} {c : Str} {v : Int} (h : c ∉ K) : GA.pt (tb K f) c v = tb (K ++ [c]) fun l => if l = c then v else f l := by
  have hk : (tb K f).map (·.1) = K := by unfold tb; rw [List.map_map]; exact List.map_id _
  have hn : GA.lk (tb K f) c = none := GA.lk_none.mpr (by rw [hk]; exact h)
  unfold GA.pt
  rw [hn]
  show tb K f ++ [(c, v)] = _
  unfold tb
  rw [List.map_append]
  congr 1
  · refine List.map_congr_left fun l hl => ?_
    show (l, f l) = (l, if l = c then v else f l)
    rw [if_neg (fun e : l = c => h (e ▸ hl))]
  · show _ = [(c, if c = c then v else f c)]
    rw [if_pos rfl]
theorem dput_N {K : List Str} {f : Str → Int} {c : Str} {v : Int} {i : Nat} {fk fv : Ev → Option D} {ρ : Ev} {Q : Fl → Prop} (h0 : ρ[i]? = some (dW K f)) (hv : fv ρ = some (.int v)) (hk : fk ρ = some (.str c)) (hl : K.length ≤ 1000) (h : c ∉ K) (q : Q (.nx (ρ.set i (dW (K ++ [c]) fun l => if l = c then v else f l)))) : Rn (dput i fk fv) ρ Q :=
  GA.Rn.dputG (φ := D.int) h0 hv hk (by rw [tb_len]; exact hl) (by rw [pt_new h]; exact q)
theorem values_ex (C : Cs) (rs : List Int) (hl : rs.length = 71) (hr : ∀ r ∈ rs, 0 ≤ r ∧ r < 1000) (ls : List Str) (hp : Pool ls) (hn : ls.length ≤ 5) : ∃ f : Str → Int, m_law_values C [.lst (rs.map .int), .lst (ls.map .str)] = some (dV (ls ++ [ZZZ]) f) := by
  obtain ⟨d, e, f, rfl⟩ : ∃ d, m_law_values C [.lst (rs.map .int), .lst (ls.map .str)] = some d ∧ ∃ f : Str → Int, d = dV (ls ++ [ZZZ]) f := by
    refine runP_of ?_
    unfold b_law_values
    show Rn _ [.dat (.lst (rs.map .int)), .dat (.lst (ls.map .str)), .unk, .unk] _
    refine Rn.sqstO (o := dW [] fun _ => 0) rfl ?_
    show Rn _ [.dat (.lst (rs.map .int)), .dat (.lst (ls.map .str)), dW [] fun _ => 0, .unk] _
    have hit : rng1 (cB (aCons (gv 1) aNil) lenD) [.dat (.lst (rs.map .int)), .dat (.lst (ls.map .str)), dW [] fun _ => 0, .unk] = some (rangeD 0 ls.length) := by
      have := len_strs ls
      (simp (disch := first | assumption | omega) only [this, MV]) <;> rfl
    refine Rn.sqforR (lo := 0) (n := ls.length) hit (fun i ρ => ∃ f o, ρ = [.dat (.lst (rs.map .int)), .dat (.lst (ls.map .str)), dW (ls.take i) f, o]) ⟨_, _, rfl⟩ (fun i hi ρ hI => ?_) (fun ρ hI => ?_)
    · obtain ⟨f, o, rfl⟩ := hI
      refine ⟨_, rfl, ?_⟩
      rw [Int.zero_add]
      show Rn _ [.dat (.lst (rs.map .int)), .dat (.lst (ls.map .str)), dW (ls.take i) f, .dat (.int i)] _
      obtain ⟨v, ev, _⟩ := number_at C rs (rs.getD 0 0 % 2) (1 + 14 * i) (15 + 14 * i) (by omega) (by omega) hr
      have hc : ls[i] ∉ ls.take i := fun h => by
        obtain ⟨j, hj, e⟩ := List.getElem_of_mem h
        rw [List.length_take] at hj
        rw [List.getElem_take] at e
        exact (List.pairwise_iff_getElem.mp hp.1) j i (by omega) hi (by omega) e
      have pa : ∀ (ρ : Ev) (z : Int) (n : Nat), z = (n : Int) → gv 3 ρ = some (.int i) → part (b2 (kI z) (b2 (kI 14) (gv 3) mulI) addA) ρ = some (some ((n + 14 * i : Nat) : Int)) := fun ρ z n hz h => by
        subst hz
        refine part_of ?_
        rw [GA.b2_of (x := .int n) (y := .int (14 * (i : Int))) rfl (GA.b2_of (x := .int 14) (y := .int i) rfl h (mulL (by decide))) rfl]
        congr 2
      have h0 : ixD (.lst (rs.map .int)) (.int 0) = some (.int (rs.getD 0 0)) := ixI (by decide) (by omega)
      refine dput_N (K := ls.take i) (f := f) (c := ls[i]) (v := v) rfl ?_ (GA.b2_of rfl rfl (ixStr hi)) (by rw [List.length_take]; omega) hc ?_
      · refine (call2 (slI (a := 1 + 14 * i) (b := 15 + 14 * i) rfl (pa _ 1 1 rfl rfl) (pa _ 15 15 rfl rfl) (by omega) (by omega)) ?_).trans ev
        (simp (disch := first | assumption | omega) only [h0, MV])
      · rw [← List.take_succ_eq_append_getElem hi]
        exact ⟨_, _, rfl⟩
    · obtain ⟨f, o, rfl⟩ := hI
      rw [List.take_length]
      refine Rn.sq (dput_N (K := ls) (f := f) (c := ZZZ) (v := 7) rfl rfl rfl (by omega) (fun h => (hp.2 _ h).1 rfl) ?_)
      show Rn _ [.dat (.lst (rs.map .int)), .dat (.lst (ls.map .str)), dW (ls ++ [ZZZ]) _, o] _
      refine Rn.fz rfl (dW_toD _ _) ?_
      exact Rn.ret rfl ⟨_, _, rfl, rfl, _, rfl⟩
  exact ⟨f, e⟩
/-! ### the rows -/
theorem rows_ex (C : Cs) (rs : List Int) (hl : rs.length = 216) (hr : ∀ r ∈ rs, 0 ≤ r ∧ r < 1000) (ls : List Str) (hp : Pool ls) (hn : ls.length ≤ 5) (K : List Str) (hK : ∀ l ∈ ls, l ∈ K) (f : Str → Int) : ∃ rows : List Row, m_law_rows C [.lst (rs.map .int), .lst (ls.map .str), dV K f] = some (.lst (rows.map rowD)) ∧ WR ls rows ∧ okA rows := by
  obtain ⟨d, e, rows, rfl, h⟩ : ∃ d, m_law_rows C [.lst (rs.map .int), .lst (ls.map .str), dV K f] = some d ∧ ∃ rows : List Row, d = .lst (rows.map rowD) ∧ WR ls rows ∧ okA rows := by
    refine runP_of ?_
    unfold b_law_rows
    have hix : ∀ n : Nat, n < 216 → ixD (.lst (rs.map .int)) (.int (n : Int)) = some (.int (rs.getD n 0)) := fun n h => by
      have := ixI (rs := rs) (k := (n : Int)) (by omega) (by omega)
      rwa [Int.toNat_natCast] at this
    have h0 : ixD (.lst (rs.map .int)) (.int 0) = some (.int (rs.getD 0 0)) := hix 0 (by decide)
    show Rn _ [.dat (.lst (rs.map .int)), .dat (.lst (ls.map .str)), .dat (dV K f), .unk, .unk, .unk, .unk, .unk, .unk, .unk] _
    refine Rn.sqstO (o := O.dats []) rfl ?_
    show Rn _ [.dat (.lst (rs.map .int)), .dat (.lst (ls.map .str)), .dat (dV K f), O.dats [], .unk, .unk, .unk, .unk, .unk, .unk] _
    obtain ⟨sc, hsc⟩ : ∃ sc : Int, b2 (mkLst (aCons (kI 1) (aCons (kI 1) (aCons (b2 (kI 10) (kI 20) powI) (aCons (kI 1) aNil))))) (b2 (cB (aCons (b2 (gv 0) (kI 0) ixD) aNil) intD) (kI 4) modI) ixD [.dat (.lst (rs.map .int)), .dat (.lst (ls.map .str)), .dat (dV K f), O.dats [], .unk, .unk, .unk, .unk, .unk, .unk] = some (.int sc) := by
      have hm : b2 (cB (aCons (b2 (gv 0) (kI 0) ixD) aNil) intD) (kI 4) modI [.dat (.lst (rs.map .int)), .dat (.lst (ls.map .str)), .dat (dV K f), O.dats [], .unk, .unk, .unk, .unk, .unk, .unk] = some (.int (rs.getD 0 0 % 4)) := by (simp (disch := first | assumption | omega) only [h0, MV])
      have hL : mkLst (aCons (kI 1) (aCons (kI 1) (aCons (b2 (kI 10) (kI 20) powI) (aCons (kI 1) aNil)))) [.dat (.lst (rs.map .int)), .dat (.lst (ls.map .str)), .dat (dV K f), O.dats [], .unk, .unk, .unk, .unk, .unk, .unk] = some (.lst [.int 1, .int 1, .int 100000000000000000000, .int 1]) := rfl
      have hq : rs.getD 0 0 % 4 = 0 ∨ rs.getD 0 0 % 4 = 1 ∨ rs.getD 0 0 % 4 = 2 ∨ rs.getD 0 0 % 4 = 3 := by omega
      rcases hq with h | h | h | h <;> rw [h] at hm <;> exact ⟨_, GA.b2_of hL hm rfl⟩
    refine Rn.sqst hsc ?_
    clear hsc
    show Rn _ [.dat (.lst (rs.map .int)), .dat (.lst (ls.map .str)), .dat (dV K f), O.dats [], .dat (.int sc), .unk, .unk, .unk, .unk, .unk] _
    have hit : rng1 (cB (aCons (gv 1) aNil) lenD) [.dat (.lst (rs.map .int)), .dat (.lst (ls.map .str)), .dat (dV K f), O.dats [], .dat (.int sc), .unk, .unk, .unk, .unk, .unk] = some (rangeD 0 ls.length) := by
      have := len_strs ls
      (simp (disch := first | assumption | omega) only [this, MV]) <;> rfl
    refine Rn.sqforR (lo := 0) (n := ls.length) hit (fun i ρ => ∃ (rows : List Row) (x5 x6 x7 x8 x9 : O), ρ = [.dat (.lst (rs.map .int)), .dat (.lst (ls.map .str)), .dat (dV K f), O.dats (rows.map rowD), .dat (.int sc), x5, x6, x7, x8, x9] ∧ (labs rows).Sublist (ls.take i) ∧ okA rows) ⟨[], _, _, _, _, _, rfl, List.Sublist.refl _, fun _ h => nomatch h⟩ (fun i hi ρ hI => ?_) (fun ρ hI => ?_)
    · obtain ⟨rows, x5, x6, x7, x8, x9, rfl, hs, hA⟩ := hI
      refine ⟨_, rfl, ?_⟩
      rw [Int.zero_add]
      show Rn _ [.dat (.lst (rs.map .int)), .dat (.lst (ls.map .str)), .dat (dV K f), O.dats (rows.map rowD), .dat (.int sc), .dat (.int i), x6, x7, x8, x9] _
      have hlen : rows.length ≤ 5 := by
        have := hs.length_le
        rw [List.length_map, List.length_take] at this
        omega
      obtain ⟨a, ha, ha2⟩ : ∃ a : Nat, 1 + 43 * i = a ∧ a + 43 ≤ 216 := ⟨1 + 43 * i, rfl, by omega⟩
      refine Rn.sqst (d := .int (a : Int)) (by
        rw [GA.b2_of (x := .int 1) (y := .int (43 * (i : Int))) rfl (GA.b2_of (x := .int 43) (y := .int i) rfl rfl (mulL (by decide))) rfl, ← ha]
        congr 2) ?_
      show Rn _ [.dat (.lst (rs.map .int)), .dat (.lst (ls.map .str)), .dat (dV K f), O.dats (rows.map rowD), .dat (.int sc), .dat (.int i), .dat (.int a), x7, x8, x9] _
      have hlab := ixStr hi
      have hget := dget_V (f := f) (hK _ (List.getElem_mem hi))
      have i0 := hix a (by omega)
      have i1 : ixD (.lst (rs.map .int)) (.int ((a : Int) + 1)) = some (.int (rs.getD (a + 1) 0)) := hix (a + 1) (by omega)
      have i2 : ixD (.lst (rs.map .int)) (.int ((a : Int) + 2)) = some (.int (rs.getD (a + 2) 0)) := hix (a + 2) (by omega)
      have i3 : ixD (.lst (rs.map .int)) (.int ((a : Int) + 3)) = some (.int (rs.getD (a + 3) 0)) := hix (a + 3) (by omega)
      generalize rs.getD a 0 = u0 at i0
      generalize rs.getD (a + 1) 0 = u1 at i1
      generalize rs.getD (a + 2) 0 = u2 at i2
      generalize rs.getD (a + 3) 0 = u3 at i3
      generalize rs.getD 0 0 = uu at h0
      have m1 : mulI (.int sc) (.int (u1 % 7 - 1)) = some (.int (sc * (u1 % 7 - 1))) := mulR (by omega)
      have m2 : mulI (.int sc) (.int (u2 % 7 - 1)) = some (.int (sc * (u2 % 7 - 1))) := mulR (by omega)
      have step : ∀ (x7 x8 x9 : O) (z : Int) (k : Nat), z = (k : Int) → part (b2 (gv 6) (kI z) addA) [.dat (.lst (rs.map .int)), .dat (.lst (ls.map .str)), .dat (dV K f), O.dats (rows.map rowD), .dat (.int sc), .dat (.int i), .dat (.int a), x7, x8, x9] = some (some ((a + k : Nat) : Int)) := fun x7 x8 x9 z k hz => by
        subst hz
        exact part_of (GA.b2_of (x := .int a) (y := .int k) rfl rfl rfl)
      refine Rn.sqst (d := .int (f ls[i] - sc * (u1 % 7 - 1))) (by (simp (disch := first | assumption | omega) only [hlab, hget, i1, m1, MV])) ?_
      show Rn _ [.dat (.lst (rs.map .int)), .dat (.lst (ls.map .str)), .dat (dV K f), O.dats (rows.map rowD), .dat (.int sc), .dat (.int i), .dat (.int a), .dat (.int (f ls[i] - sc * (u1 % 7 - 1))), x8, x9] _
      generalize f ls[i] - sc * (u1 % 7 - 1) = lo
      refine Rn.sqst (d := .int (f ls[i] + sc * (u2 % 7 - 1))) (by (simp (disch := first | assumption | omega) only [hlab, hget, i2, m2, MV])) ?_
      show Rn _ [.dat (.lst (rs.map .int)), .dat (.lst (ls.map .str)), .dat (dV K f), O.dats (rows.map rowD), .dat (.int sc), .dat (.int i), .dat (.int a), .dat (.int lo), .dat (.int (f ls[i] + sc * (u2 % 7 - 1))), x9] _
      generalize f ls[i] + sc * (u2 % 7 - 1) = hig
      refine Rn.sqst (d := .int (u3 % 9 - 4)) (by (simp (disch := first | assumption | omega) only [i3, MV])) ?_
      show Rn _ [.dat (.lst (rs.map .int)), .dat (.lst (ls.map .str)), .dat (dV K f), O.dats (rows.map rowD), .dat (.int sc), .dat (.int i), .dat (.int a), .dat (.int lo), .dat (.int hig), .dat (.int (u3 % 9 - 4))] _
      refine Rn.sqN (P := fun ρ => ∃ (l h m : Int), ρ = [.dat (.lst (rs.map .int)), .dat (.lst (ls.map .str)), .dat (dV K f), O.dats (rows.map rowD), .dat (.int sc), .dat (.int i), .dat (.int a), .dat (.int l), .dat (.int h), .dat (.int m)] ∧ -1000000000000000000 < m ∧ m < 1000000000000000000) ?_ fun ρ hρ => ?_
      · refine Rn.ite (t := decide (uu % 4 = 3)) (by (simp (disch := first | assumption | omega) only [h0, MV])) (fun _ => ?_) fun _ => Rn.skip ⟨lo, hig, _, rfl, by omega, by omega⟩
        obtain ⟨v1, e1, _⟩ := number_at C rs 1 (a + 1) (a + 15) (by omega) (by omega) hr
        obtain ⟨v2, e2, _⟩ := number_at C rs 1 (a + 15) (a + 29) (by omega) (by omega) hr
        obtain ⟨v3, e3, b3⟩ := number_at C rs 1 (a + 29) (a + 43) (by omega) (by omega) hr
        refine Rn.sqst (d := .int v1) ((call2 (slI (a := a + 1) (b := a + 15) rfl (step _ _ _ 1 1 rfl) (step _ _ _ 15 15 rfl) (by omega) (by omega)) rfl).trans e1) ?_
        refine Rn.sqst (d := .int v2) ((call2 (slI (a := a + 15) (b := a + 29) rfl (step _ _ _ 15 15 rfl) (step _ _ _ 29 29 rfl) (by omega) (by omega)) rfl).trans e2) ?_
        refine Rn.st (d := .int v3) ((call2 (slI (a := a + 29) (b := a + 43) rfl (step _ _ _ 29 29 rfl) (step _ _ _ 43 43 rfl) (by omega) (by omega)) rfl).trans e3) ?_
        exact ⟨v1, v2, v3, rfl, b3 (.inr rfl)⟩
      · obtain ⟨l, h, m, rfl, hm⟩ := hρ
        have hts : ls.take (i + 1) = ls.take i ++ [ls[i]] := List.take_succ_eq_append_getElem hi
        refine Rn.ite (t := decide (0 < u0 % 3)) (by (simp (disch := first | assumption | omega) only [i0, MV])) (fun _ => ?_) fun _ => Rn.skip ⟨rows, _, _, _, _, _, rfl, hs.trans (by rw [hts]; exact List.sublist_append_left _ _), hA⟩
        refine Rn.appD (d := rowD ⟨ls[i], l, h, m⟩) (mkT_of (aC (GA.b2_of rfl rfl hlab) (aC rfl (aC rfl (aC1 rfl)))) (by simp)) rfl (by rw [List.length_map]; omega) ?_
        refine ⟨rows ++ [⟨ls[i], l, h, m⟩], .dat (.int i), .dat (.int a), .dat (.int l), .dat (.int h), .dat (.int m), by rw [List.map_append]; rfl, ?_, fun r hr' => ?_⟩
        · show ((rows ++ [_]).map fun r : Row => r.l).Sublist _
          rw [List.map_append, hts]
          exact List.Sublist.append hs (List.Sublist.refl _)
        · rcases List.mem_append.mp hr' with h' | h'
          · exact hA r h'
          · rw [List.mem_singleton] at h'
            rw [h']; exact hm
    · obtain ⟨rows, x5, x6, x7, x8, x9, rfl, hs, hA⟩ := hI
      rw [List.take_length] at hs
      refine Rn.fzD (ds := rows.map rowD) rfl ?_
      exact Rn.ret rfl ⟨_, _, rfl, rfl, rows, rfl, ⟨hp.1.sublist hs, fun r hr' => hs.subset (List.mem_map_of_mem hr')⟩, hA⟩
  exact ⟨rows, e, h⟩
end K02

namespace K02
open PySem L2 PD
theorem row_of (C : Cs) (ns : List Int) (k n : Nat) (hn : n ≤ 1000) : ∃ rs : List Int, (∀ ρ : Ev, gv 0 ρ = some (.lst (ns.map .int)) → cB (aCons (cB (aCons (gv 0) (aCons (kI (k : Int)) aNil)) (len? 2 (m_law_cell C))) (aCons (kI (n : Int)) aNil)) (len? 2 (m_law_row C)) ρ = some (.lst (rs.map .int))) ∧ rs.length = n ∧ ∀ r ∈ rs, 0 ≤ r ∧ r < 1000 := by
  obtain ⟨rs, e, hl, hr⟩ := law_row_ex C (ns.getD k 0) n hn
  refine ⟨rs, fun ρ h => ?_, hl, hr⟩
  have h1 : cB (aCons (gv 0) (aCons (kI (k : Int)) aNil)) (len? 2 (m_law_cell C)) ρ = some (.int (ns.getD k 0)) := (call2 h rfl).trans (law_cell_eq C ns k)
  exact (call2 h1 rfl).trans e
theorem call3 {fa fb fc : Ev → Option D} {ρ : Ev} {x y z : D} {m : List D → Option D} (h : fa ρ = some x) (h2 : fb ρ = some y) (h3 : fc ρ = some z) : cB (aCons fa (aCons fb (aCons fc aNil))) (len? 3 m) ρ = m [x, y, z] := call_of (aC h (aC2 h2 h3)) rfl
theorem add_lsts (C : Cs) {xs ys : List D} (h : xs.length + ys.length ≤ 1000) : orD addA (opC C.Shift (mShift_add C)) (.lst xs) (.lst ys) = some (.lst (xs ++ ys)) := by
  have : addA (.lst xs) (.lst ys) = some (.lst (xs ++ ys)) := PD.ev_catL (Nat.le_trans h (by decide))
  unfold orD
  rw [this]
theorem WR.mono {K K' : List Str} {a : List Row} (h : WR K a) (hs : ∀ l ∈ K, l ∈ K') : WR K' a := ⟨h.nd, fun r hr => hs _ (h.sub r hr)⟩
section
variable {C : Cs} {K : List Str} {a : List Row} {f : Str → Int}
theorem lawapW {bad : List Str} {V : D} (w : WR K a) (hK : K.length ≤ 500) (hZ : ZZZ ∈ K) (hb : ∀ l, l ∈ bad ↔ FL f a l) (hV : V = dV K (mv 1 a f)) : m_law_applied C [shD C a, dV K f, .lst (bad.map .str), V] = some (.bl true) := by
  subst hV
  exact lawap (Nat.le_trans w.len (Nat.le_trans hK (by decide))) (Nat.le_trans hK (by decide)) hZ w.nd w.sub hb
theorem lawapB {bad : List Str} {V : D} (w : WR K a) (hK : K.length ≤ 500) (hZ : ZZZ ∈ K) (hb : ∀ l, l ∈ bad ↔ FL f a l) (hV : V = dV K (mv 1 a f)) : m_law_applied C [shD C (a.map backF), V, .lst (bad.map .str), dV K f] = some (.bl true) := by
  subst hV
  exact lawapW w.back hK hZ (fun l => (hb l).trans fl_back.symm) (by rw [mv_back])
end
theorem law_true (C : Cs) : ∀ ns : List Int, ns.length ≤ 63 → mlaw C [.lst (ns.map .int)] = some (.bl true) := by
  intro ns _
  obtain ⟨r0, e0, l0, b0⟩ := row_of C ns 0 4 (by decide)
  obtain ⟨r1, e1, l1, b1⟩ := row_of C ns 1 71 (by decide)
  obtain ⟨r2, e2, l2, b2'⟩ := row_of C ns 2 216 (by decide)
  obtain ⟨r3, e3, l3, b3⟩ := row_of C ns 3 216 (by decide)
  obtain ⟨r4, e4, l4, b4⟩ := row_of C ns 4 216 (by decide)
  obtain ⟨r5, e5, l5, b5⟩ := row_of C ns 5 8 (by decide)
  obtain ⟨r6, e6, l6, b6⟩ := row_of C ns 6 8 (by decide)
  obtain ⟨ls, ep, hp, hn⟩ := law_pool_ex C r0 l0 b0
  obtain ⟨f, ef⟩ := values_ex C r1 l1 b1 ls hp hn
  have sub : ∀ l ∈ ls, l ∈ ls ++ [ZZZ] := fun l h => List.mem_append_left _ h
  have hK : (ls ++ [ZZZ]).length ≤ 500 := by rw [List.length_append]; show ls.length + 1 ≤ 500; omega
  have hZ : ZZZ ∈ ls ++ [ZZZ] := List.mem_append_right _ (List.mem_singleton.mpr rfl)
  obtain ⟨a, ea, wa', hA⟩ := rows_ex C r2 l2 b2' ls hp hn (ls ++ [ZZZ]) sub f
  obtain ⟨b, eb, wb', hB⟩ := rows_ex C r3 l3 b3 ls hp hn (ls ++ [ZZZ]) sub f
  obtain ⟨c, ec, wc', hC⟩ := rows_ex C r4 l4 b4 ls hp hn (ls ++ [ZZZ]) sub f
  obtain ⟨m, em, hm⟩ := law_count_ex C r5 l5 b5
  obtain ⟨n, en, hn'⟩ := law_count_ex C r6 l6 b6
  have wa := wa'.mono sub
  have wb := wb'.mono sub
  have wc := wc'.mono sub
  generalize hKd : ls ++ [ZZZ] = K at *
  have lK : K.length ≤ 1000 := Nat.le_trans hK (by decide)
  have la : a.length ≤ 5 := Nat.le_trans wa'.len hn
  have lb : b.length ≤ 5 := Nat.le_trans wb'.len hn
  have lc : c.length ≤ 5 := Nat.le_trans wc'.len hn
  have wab := wa.plus wb
  have wT := wab.plus wc
  have wM := wa.mul m
  -- the algebra
  have halg := algebra C (Nat.le_trans hn (by decide)) (fun l h => (hp.2 l h).2.2) wa' wb' wc' hA hm hn'
  -- what is bad
  obtain ⟨f1, hf1⟩ : ∃ f1, f1 = mv 1 a f := ⟨_, rfl⟩
  obtain ⟨f2, hf2⟩ : ∃ f2, f2 = mv 1 b f1 := ⟨_, rfl⟩
  obtain ⟨f3, hf3⟩ : ∃ f3, f3 = mv 1 c f2 := ⟨_, rfl⟩
  obtain ⟨fm, hfm⟩ : ∃ fm, fm = mv m a f := ⟨_, rfl⟩
  obtain ⟨x1, hx1⟩ : ∃ x1, x1 = (a.filter (badB f 1)).map (·.l) := ⟨_, rfl⟩
  obtain ⟨x2, hx2⟩ : ∃ x2, x2 = (b.filter (badB f1 1)).map (·.l) := ⟨_, rfl⟩
  obtain ⟨x3, hx3⟩ : ∃ x3, x3 = (c.filter (badB f2 1)).map (·.l) := ⟨_, rfl⟩
  obtain ⟨xm, hxm⟩ : ∃ xm, xm = (a.filter (badB f m)).map (·.l) := ⟨_, rfl⟩
  have q1 : ∀ l, l ∈ x1 ↔ FL f a l := fun l => by rw [hx1]; exact bad_one wa.nd l
  have q2 : ∀ l, l ∈ x2 ↔ FL f1 b l := fun l => by rw [hx2]; exact bad_one wb.nd l
  have q3 : ∀ l, l ∈ x3 ↔ FL f2 c l := fun l => by rw [hx3]; exact bad_one wc.nd l
  have qm : ∀ l, l ∈ xm ↔ FL f (mulS m a) l := fun l => by rw [hxm]; exact (bad_mem wa.nd hm l).trans (fl_mul hm).symm
  have q12 : ∀ l, l ∈ x1 ++ x2 ↔ FL f (plusR a b) l := fun l => by rw [List.mem_append, q1, q2, fl_plus, hf1]
  have hf12 : f2 = mv 1 (plusR a b) f := by rw [mv_plus, hf2, hf1]
  have q123 : ∀ l, l ∈ (x1 ++ x2) ++ x3 ↔ FL f (plusR (plusR a b) c) l := fun l => by rw [List.mem_append, q12, q3, hf12]; exact fl_plus.symm
  have hf123 : f3 = mv 1 (plusR (plusR a b) c) f := by rw [mv_plus, hf3, hf12]
  have hmm : fm = mv 1 (mulS m a) f := by rw [mv_mul, hfm]
  -- the law's own steps
  have v1 := bad_eq C (f := f) (t := 1) (by omega) wa.sub hA (by decide)
  have v2 := bad_eq C (f := f1) (t := 1) (by omega) wb.sub hB (by decide)
  have v3 := bad_eq C (f := f2) (t := 1) (by omega) wc.sub hC (by decide)
  have vm := bad_eq C (f := f) (t := m) (by omega) wa.sub hA hm
  have d1 := moved_eq C (f := f) (t := 1) (by omega) lK wa.nd wa.sub hA
  have d2 := moved_eq C (f := f1) (t := 1) (by omega) lK wb.nd wb.sub hB
  have d3 := moved_eq C (f := f2) (t := 1) (by omega) lK wc.nd wc.sub hC
  have dm := moved_eq C (f := f) (t := m) (by omega) lK wa.nd wa.sub hA
  rw [← hx1] at v1
  rw [← hx2] at v2
  rw [← hx3] at v3
  rw [← hxm] at vm
  rw [← hf1] at d1
  rw [← hf2] at d2
  rw [← hf3] at d3
  rw [← hfm] at dm
  have p1 := lawapW (C := C) wa hK hZ q1 (V := dV K f1) (by rw [hf1])
  have p1' := lawapB (C := C) wa hK hZ q1 (V := dV K f1) (by rw [hf1])
  have p2 := lawapW (C := C) wab hK hZ q12 (V := dV K f2) (by rw [hf12])
  have p2' := lawapB (C := C) wab hK hZ q12 (V := dV K f2) (by rw [hf12])
  have p3 := lawapW (C := C) wT hK hZ q123 (V := dV K f3) (by rw [hf123])
  have pm := lawapW (C := C) wM hK hZ qm (V := dV K fm) (by rw [hmm])
  have pm' := lawapB (C := C) wM hK hZ qm (V := dV K fm) (by rw [hmm])
  have o1 := inv' (C := C) hK wa
  have o2 := add' (C := C) hK wa wb
  have o3 := inv' (C := C) hK wab
  have o4 := mulA' (C := C) hK wa (t := m) (.inr hA)
  have o5 := inv' (C := C) hK wM
  have o6 : mShift_sum_of C [.lst [shD C a, shD C b, shD C c]] = some (shD C (plusR (plusR a b) c)) := by
    have := pSum C hK (as := [a, b, c]) (fun x hx => by
      simp only [List.mem_cons, List.not_mem_nil, or_false] at hx
      rcases hx with rfl | rfl | rfl <;> assumption) (x := .lst [shD C a, shD C b, shD C c]) (.inl rfl)
    rw [this]
    show some (shD C (plusR (plusR (plusR [] a) b) c)) = _
    rw [plus_nil_l]
  have lx1 : x1.length ≤ 5 := by rw [hx1, List.length_map]; exact Nat.le_trans (List.length_filter_le _ _) la
  have lx2 : x2.length ≤ 5 := by rw [hx2, List.length_map]; exact Nat.le_trans (List.length_filter_le _ _) lb
  have lx3 : x3.length ≤ 5 := by rw [hx3, List.length_map]; exact Nat.le_trans (List.length_filter_le _ _) lc
  have c1 := add_lsts C (xs := x1.map .str) (ys := x2.map .str) (by rw [List.length_map, List.length_map]; omega)
  have c2 := add_lsts C (xs := (x1 ++ x2).map .str) (ys := x3.map .str) (by rw [List.length_map, List.length_map, List.length_append]; omega)
  rw [← List.map_append] at c1 c2
  have s1 := fld_rows C a
  have s2 := same_self C 3 _ (sm_tup3 (srt a) (by rw [srt_len]; omega))
  have htup : tupD [.lst ((srt a).map rowD)] = some (.tup ((srt a).map rowD)) := rfl
  have hsrt : ∀ ρ : Ev, gv 3 ρ = some (.lst (a.map rowD)) → frz (cO (aCons (gv 3) aNil) srtO) ρ = some (.lst ((srt a).map rowD)) := fun ρ h => frz_srt h (by omega)
  have ia : ∀ ρ : Ev, gv 3 ρ = some (.lst (a.map rowD)) → frz (cO (aCons (gv 3) aNil) (lenO? 1 (mShift_init C))) ρ = some (shD C a) := fun ρ h => mk_sh C h (by omega)
  have ib : ∀ ρ : Ev, gv 4 ρ = some (.lst (b.map rowD)) → frz (cO (aCons (gv 4) aNil) (lenO? 1 (mShift_init C))) ρ = some (shD C b) := fun ρ h => mk_sh C h (by omega)
  have ic : ∀ ρ : Ev, gv 5 ρ = some (.lst (c.map rowD)) → frz (cO (aCons (gv 5) aNil) (lenO? 1 (mShift_init C))) ρ = some (shD C c) := fun ρ h => mk_sh C h (by omega)
  clear hf1 hf2 hf3 hfm hf12 hf123 hmm hx1 hx2 hx3 hxm q1 q2 q3 qm q12 q123 lx1 lx2 lx3
  unfold mlaw
  refine runP_eq ?_
  unfold blaw
  generalize shD C a = A at *
  generalize shD C b = B at *
  generalize shD C c = Z at *
  generalize shD C (a.map backF) = iA at *
  generalize shD C ((plusR a b).map backF) = iAB at *
  generalize shD C ((mulS m a).map backF) = iM at *
  generalize shD C (mulS m a) = M at *
  generalize shD C (plusR (plusR a b) c) = T at *
  generalize shD C (plusR a b) = AB at *
  generalize dV K f = V at *
  generalize dV K f1 = V1 at *
  generalize dV K f2 = V2 at *
  generalize dV K f3 = V3 at *
  generalize dV K fm = Vm at *
  generalize D.lst ((x1 ++ x2 ++ x3).map .str) = X123 at *
  generalize D.lst ((x1 ++ x2).map .str) = X12 at *
  generalize D.lst (x1.map .str) = X1 at *
  generalize D.lst (x2.map .str) = X2 at *
  generalize D.lst (x3.map .str) = X3 at *
  generalize D.lst (xm.map .str) = Xm at *
  generalize D.lst (a.map rowD) = R1 at *
  generalize D.lst (b.map rowD) = R2 at *
  generalize D.lst (c.map rowD) = R3 at *
  generalize D.lst (ls.map .str) = PL at *
  generalize D.tup ((srt a).map rowD) = SR at *
  generalize hNS : D.lst (ns.map .int) = NS at *
  show Rn _ [.dat NS, .unk, .unk, .unk, .unk, .unk, .unk, .unk, .unk, .unk, .unk, .unk, .unk] _
  refine Rn.sqst (d := PL) ((call1 (e0 _ rfl)).trans ep) ?_
  show Rn _ [.dat NS, .dat PL, .unk, .unk, .unk, .unk, .unk, .unk, .unk, .unk, .unk, .unk, .unk] _
  refine Rn.sqst (d := V) ((call2 (e1 _ rfl) rfl).trans ef) ?_
  show Rn _ [.dat NS, .dat PL, .dat V, .unk, .unk, .unk, .unk, .unk, .unk, .unk, .unk, .unk, .unk] _
  refine Rn.sqst (d := R1) ((call3 (e2 _ rfl) rfl rfl).trans ea) ?_
  show Rn _ [.dat NS, .dat PL, .dat V, .dat R1, .unk, .unk, .unk, .unk, .unk, .unk, .unk, .unk, .unk] _
  refine Rn.sqst (d := R2) ((call3 (e3 _ rfl) rfl rfl).trans eb) ?_
  show Rn _ [.dat NS, .dat PL, .dat V, .dat R1, .dat R2, .unk, .unk, .unk, .unk, .unk, .unk, .unk, .unk] _
  refine Rn.sqst (d := R3) ((call3 (e4 _ rfl) rfl rfl).trans ec) ?_
  show Rn _ [.dat NS, .dat PL, .dat V, .dat R1, .dat R2, .dat R3, .unk, .unk, .unk, .unk, .unk, .unk, .unk] _
  refine Rn.sqst (d := .int m) ((call1 (e5 _ rfl)).trans em) ?_
  show Rn _ [.dat NS, .dat PL, .dat V, .dat R1, .dat R2, .dat R3, .dat (.int m), .unk, .unk, .unk, .unk, .unk, .unk] _
  refine Rn.sqst (d := .int n) ((call1 (e6 _ rfl)).trans en) ?_
  show Rn _ [.dat NS, .dat PL, .dat V, .dat R1, .dat R2, .dat R3, .dat (.int m), .dat (.int n), .unk, .unk, .unk, .unk, .unk] _
  refine Rn.sqst (d := A) (ia _ rfl) ?_
  show Rn _ [.dat NS, .dat PL, .dat V, .dat R1, .dat R2, .dat R3, .dat (.int m), .dat (.int n), .dat A, .unk, .unk, .unk, .unk] _
  refine Rn.sqst (d := B) (ib _ rfl) ?_
  show Rn _ [.dat NS, .dat PL, .dat V, .dat R1, .dat R2, .dat R3, .dat (.int m), .dat (.int n), .dat A, .dat B, .unk, .unk, .unk] _
  refine Rn.sqst (d := Z) (ic _ rfl) ?_
  generalize orD addA (opC C.Shift (mShift_add C)) = ADD at *
  generalize orD mulA (opCI C.Shift (mShift_mul C)) = MUA at *
  generalize inC C.Shift (mShift_invert C) = INV at *
  show Rn _ [.dat NS, .dat PL, .dat V, .dat R1, .dat R2, .dat R3, .dat (.int m), .dat (.int n), .dat A, .dat B, .dat Z, .unk, .unk] _
  refine Rn.chk (by (simp (disch := first | assumption | omega) only [halg, MV])) ?_
  refine Rn.sqst (d := X1) (by (simp (disch := first | assumption | omega) only [v1, MV])) ?_
  refine Rn.sqst (d := V1) ((call3 rfl rfl rfl).trans d1) ?_
  show Rn _ [.dat NS, .dat PL, .dat V, .dat R1, .dat R2, .dat R3, .dat (.int m), .dat (.int n), .dat A, .dat B, .dat Z, .dat X1, .dat V1] _
  refine Rn.chk (by (simp (disch := first | assumption | omega) only [p1, o1, p1', MV])) ?_
  refine Rn.sqst (d := X12) (by (simp (disch := first | assumption | omega) only [v2, c1, MV])) ?_
  refine Rn.sqst (d := V2) ((call3 rfl rfl rfl).trans d2) ?_
  show Rn _ [.dat NS, .dat PL, .dat V, .dat R1, .dat R2, .dat R3, .dat (.int m), .dat (.int n), .dat A, .dat B, .dat Z, .dat X12, .dat V2] _
  refine Rn.chk (by (simp (disch := first | assumption | omega) only [o2, o3, p2, p2', MV])) ?_
  refine Rn.sqst (d := X123) (by (simp (disch := first | assumption | omega) only [v3, c2, MV])) ?_
  refine Rn.sqst (d := V3) ((call3 rfl rfl rfl).trans d3) ?_
  show Rn _ [.dat NS, .dat PL, .dat V, .dat R1, .dat R2, .dat R3, .dat (.int m), .dat (.int n), .dat A, .dat B, .dat Z, .dat X123, .dat V3] _
  refine Rn.chk (by (simp (disch := first | assumption | omega) only [o6, p3, MV])) ?_
  refine Rn.sqst (d := Xm) ((call3 rfl rfl rfl).trans vm) ?_
  refine Rn.sqst (d := Vm) ((call3 rfl rfl rfl).trans dm) ?_
  show Rn _ [.dat NS, .dat PL, .dat V, .dat R1, .dat R2, .dat R3, .dat (.int m), .dat (.int n), .dat A, .dat B, .dat Z, .dat Xm, .dat Vm] _
  refine Rn.chk (by (simp (disch := first | assumption | omega) only [o4, o5, pm, pm', MV])) ?_
  have hs := hsrt [.dat NS, .dat PL, .dat V, .dat R1, .dat R2, .dat R3, .dat (.int m), .dat (.int n), .dat A, .dat B, .dat Z, .dat Xm, .dat Vm] rfl
  have ht : cB (aCons (frz (cO (aCons (gv 3) aNil) srtO)) aNil) tupD [.dat NS, .dat PL, .dat V, .dat R1, .dat R2, .dat R3, .dat (.int m), .dat (.int n), .dat A, .dat B, .dat Z, .dat Xm, .dat Vm] = some SR := by
    rw [cB_of' (aC1 hs)]
    exact htup
  exact Rn.ret (d := .bl true) (by (simp (disch := first | assumption | omega) only [s1, ht, s2, MV])) ⟨_, rfl, rfl⟩
end K02

namespace K02
open PySem PySem.Spec L2 PD
theorem all_mk {w : World} {fa : Addr} {K : PySem.W.Frag} {h : Heap} {mg : Str → Option Value} (X : K.In h) (G : h.Ns mainGlobals mg)
    (z0 : PySem.W.nsIn K mainGlobals "ValueError" = some none)
    (z1 : PySem.W.nsIn K mainGlobals "bool" = some none)
    (z2 : PySem.W.nsIn K mainGlobals "dict" = some none)
    (z3 : PySem.W.nsIn K mainGlobals "int" = some none)
    (z4 : PySem.W.nsIn K mainGlobals "isinstance" = some none)
    (z5 : PySem.W.nsIn K mainGlobals "len" = some none)
    (z6 : PySem.W.nsIn K mainGlobals "list" = some none)
    (z7 : PySem.W.nsIn K mainGlobals "max" = some none)
    (z8 : PySem.W.nsIn K mainGlobals "min" = some none)
    (z9 : PySem.W.nsIn K mainGlobals "range" = some none)
    (z10 : PySem.W.nsIn K mainGlobals "sorted" = some none)
    (z11 : PySem.W.nsIn K mainGlobals "str" = some none)
    (z12 : PySem.W.nsIn K mainGlobals "tuple" = some none)
    {C0 : Addr} {cd0d : ClassData}
    (u0_g : PySem.W.nsIn K mainGlobals "Shift" = some (some (.ref C0)))
    (u0_a : PySem.W.plainGet K C0 Str.empty = true)
    (u0_b : PySem.W.hasDictIn K C0 = true)
    (u0_c : PySem.W.plainOver K C0 = true)
    (u0_d : PySem.W.findIn K (.ref C0) "__setattr__" = some (some (.builtin "object.__setattr__")))
    (u0_e : PySem.W.findIn K (.ref C0) "__class__" = some (some (.builtin "object.__class__")))
    (u0_f : PySem.W.specialIn K (.builtin "object.__class__") "__get__" = some (some (.builtin "getset_descriptor.__get__")))
    (u0_h : PySem.W.takesIn K (.builtin "object.__class__") = some true)
    (u0_i : PySem.W.mroIn K C0 (.type "object") = some true)
    (u0_j : PySem.W.typeIn K (.ref C0) = some (.type "type"))
    (u0_k : PySem.W.clsIn K C0 = some cd0d)
    (u0_l : PySem.W.keepIn K (.ref C0) = true)
    (v0_0 : PySem.W.findIn K (.ref C0) "rows" = some none)
    (v0_3 : PySem.W.makesIn K C0 = true)
    (v0_4 : PySem.W.selfFirst K C0 = true)
    {fo0_4 ro0_4 : Option Value}
    (w0_4 : PySem.W.findIn K (.ref C0) (dunderR (Operator.Mult).info.2) = some none)
    (p0_4 : PySem.W.findIn K (.type "int") (PySem.dunder (Operator.Mult).info.2) = some fo0_4)
    (q0_4 : PySem.W.findIn K (.type "int") (dunderR (Operator.Mult).info.2) = some ro0_4)
    (v0_6 : PySem.W.selfFirst K C0 = true)
    {f0 : Addr} {oc0 kV0 dc0 pm0 cd0 ct0 : Value} {od0 an0 : Option Addr} {sl0 : Array (Option Value)}
    (a0 : PySem.W.nsIn K mainGlobals "_law_same" = some (some (.ref f0)))
    (l0 : K.lookup f0 = some ⟨oc0, od0, .func (PySem.W.fnOf "_law_same" "_law_same" (defArgs s_law_same) (defBody s_law_same) (defScope s_law_same) .none kV0 dc0 pm0 an0 cd0 ct0), sl0⟩)
    (c0 : PySem.W.codeIn K cd0 "_law_same" = true)
    (k0 : PySem.W.keepIn K (.ref f0) = true)
    {f1 : Addr} {oc1 kV1 dc1 pm1 cd1 ct1 : Value} {od1 an1 : Option Addr} {sl1 : Array (Option Value)}
    (a1 : PySem.W.nsIn K mainGlobals "_law_same_dict" = some (some (.ref f1)))
    (l1 : K.lookup f1 = some ⟨oc1, od1, .func (PySem.W.fnOf "_law_same_dict" "_law_same_dict" (defArgs s_law_same_dict) (defBody s_law_same_dict) (defScope s_law_same_dict) .none kV1 dc1 pm1 an1 cd1 ct1), sl1⟩)
    (c1 : PySem.W.codeIn K cd1 "_law_same_dict" = true)
    (k1 : PySem.W.keepIn K (.ref f1) = true)
    {f2 : Addr} {oc2 kV2 dc2 pm2 cd2 ct2 : Value} {od2 an2 : Option Addr} {sl2 : Array (Option Value)}
    (a2 : PySem.W.findIn K (.ref C0) "gap" = some (some (.ref f2)))
    (a2_1 : PySem.W.isFn K (.ref f2) = true)
    (l2 : K.lookup f2 = some ⟨oc2, od2, .func (PySem.W.fnOf "gap" "Shift.gap" (defArgs sShift_gap) (defBody sShift_gap) (defScope sShift_gap) .none kV2 dc2 pm2 an2 cd2 ct2), sl2⟩)
    (c2 : PySem.W.codeIn K cd2 "Shift.gap" = true)
    (k2 : PySem.W.keepIn K (.ref f2) = true)
    {f3 : Addr} {oc3 kV3 dc3 pm3 cd3 ct3 : Value} {od3 an3 : Option Addr} {sl3 : Array (Option Value)}
    (a3 : PySem.W.findIn K (.ref C0) "applied" = some (some (.ref f3)))
    (a3_1 : PySem.W.isFn K (.ref f3) = true)
    (l3 : K.lookup f3 = some ⟨oc3, od3, .func (PySem.W.fnOf "applied" "Shift.applied" (defArgs sShift_applied) (defBody sShift_applied) (defScope sShift_applied) .none kV3 dc3 pm3 an3 cd3 ct3), sl3⟩)
    (c3 : PySem.W.codeIn K cd3 "Shift.applied" = true)
    (k3 : PySem.W.keepIn K (.ref f3) = true)
    {f4 : Addr} {oc4 kV4 dc4 pm4 cd4 ct4 : Value} {od4 an4 : Option Addr} {sl4 : Array (Option Value)}
    (a4 : PySem.W.nsIn K mainGlobals "_law_base" = some (some (.ref f4)))
    (l4 : K.lookup f4 = some ⟨oc4, od4, .func (PySem.W.fnOf "_law_base" "_law_base" (defArgs s_law_base) (defBody s_law_base) (defScope s_law_base) .none kV4 dc4 pm4 an4 cd4 ct4), sl4⟩)
    (c4 : PySem.W.codeIn K cd4 "_law_base" = true)
    (k4 : PySem.W.keepIn K (.ref f4) = true)
    {f5 : Addr} {oc5 kV5 dc5 pm5 cd5 ct5 : Value} {od5 an5 : Option Addr} {sl5 : Array (Option Value)}
    (a5 : PySem.W.nsIn K mainGlobals "_law_applied" = some (some (.ref f5)))
    (l5 : K.lookup f5 = some ⟨oc5, od5, .func (PySem.W.fnOf "_law_applied" "_law_applied" (defArgs s_law_applied) (defBody s_law_applied) (defScope s_law_applied) .none kV5 dc5 pm5 an5 cd5 ct5), sl5⟩)
    (c5 : PySem.W.codeIn K cd5 "_law_applied" = true)
    (k5 : PySem.W.keepIn K (.ref f5) = true)
    {f6 : Addr} {oc6 kV6 dc6 pm6 cd6 ct6 : Value} {od6 an6 : Option Addr} {sl6 : Array (Option Value)}
    (a6 : PySem.W.findIn K (.ref C0) "__init__" = some (some (.ref f6)))
    (a6_1 : PySem.W.isFn K (.ref f6) = true)
    (l6 : K.lookup f6 = some ⟨oc6, od6, .func (PySem.W.fnOf "__init__" "Shift.__init__" (defArgs sShift_init) (defBody sShift_init) (defScope sShift_init) .none kV6 dc6 pm6 an6 cd6 ct6), sl6⟩)
    (c6 : PySem.W.codeIn K cd6 "Shift.__init__" = true)
    (k6 : PySem.W.keepIn K (.ref f6) = true)
    {f7 : Addr} {oc7 kV7 dc7 pm7 cd7 ct7 : Value} {od7 an7 : Option Addr} {sl7 : Array (Option Value)}
    (a7 : PySem.W.findIn K (.ref C0) "__mul__" = some (some (.ref f7)))
    (a7_1 : PySem.W.isFn K (.ref f7) = true)
    (l7 : K.lookup f7 = some ⟨oc7, od7, .func (PySem.W.fnOf "__mul__" "Shift.__mul__" (defArgs sShift_mul) (defBody sShift_mul) (defScope sShift_mul) .none kV7 dc7 pm7 an7 cd7 ct7), sl7⟩)
    (c7 : PySem.W.codeIn K cd7 "Shift.__mul__" = true)
    (k7 : PySem.W.keepIn K (.ref f7) = true)
    {f8 : Addr} {oc8 kV8 dc8 pm8 cd8 ct8 : Value} {od8 an8 : Option Addr} {sl8 : Array (Option Value)}
    (a8 : PySem.W.findIn K (.ref C0) "__invert__" = some (some (.ref f8)))
    (a8_1 : PySem.W.isFn K (.ref f8) = true)
    (l8 : K.lookup f8 = some ⟨oc8, od8, .func (PySem.W.fnOf "__invert__" "Shift.__invert__" (defArgs sShift_invert) (defBody sShift_invert) (defScope sShift_invert) .none kV8 dc8 pm8 an8 cd8 ct8), sl8⟩)
    (c8 : PySem.W.codeIn K cd8 "Shift.__invert__" = true)
    (k8 : PySem.W.keepIn K (.ref f8) = true)
    {f9 : Addr} {oc9 kV9 dc9 pm9 cd9 ct9 : Value} {od9 an9 : Option Addr} {sl9 : Array (Option Value)}
    (a9 : PySem.W.nsIn K mainGlobals "_law_moved" = some (some (.ref f9)))
    (l9 : K.lookup f9 = some ⟨oc9, od9, .func (PySem.W.fnOf "_law_moved" "_law_moved" (defArgs s_law_moved) (defBody s_law_moved) (defScope s_law_moved) .none kV9 dc9 pm9 an9 cd9 ct9), sl9⟩)
    (c9 : PySem.W.codeIn K cd9 "_law_moved" = true)
    (k9 : PySem.W.keepIn K (.ref f9) = true)
    {f10 : Addr} {oc10 kV10 dc10 pm10 cd10 ct10 : Value} {od10 an10 : Option Addr} {sl10 : Array (Option Value)}
    (a10 : PySem.W.nsIn K mainGlobals "_law_bad" = some (some (.ref f10)))
    (l10 : K.lookup f10 = some ⟨oc10, od10, .func (PySem.W.fnOf "_law_bad" "_law_bad" (defArgs s_law_bad) (defBody s_law_bad) (defScope s_law_bad) .none kV10 dc10 pm10 an10 cd10 ct10), sl10⟩)
    (c10 : PySem.W.codeIn K cd10 "_law_bad" = true)
    (k10 : PySem.W.keepIn K (.ref f10) = true)
    {f11 : Addr} {oc11 kV11 dc11 pm11 cd11 ct11 : Value} {od11 an11 : Option Addr} {sl11 : Array (Option Value)}
    (a11 : PySem.W.nsIn K mainGlobals "row_of_both" = some (some (.ref f11)))
    (l11 : K.lookup f11 = some ⟨oc11, od11, .func (PySem.W.fnOf "row_of_both" "row_of_both" (defArgs srow_of_both) (defBody srow_of_both) (defScope srow_of_both) .none kV11 dc11 pm11 an11 cd11 ct11), sl11⟩)
    (c11 : PySem.W.codeIn K cd11 "row_of_both" = true)
    (k11 : PySem.W.keepIn K (.ref f11) = true)
    {f12 : Addr} {oc12 kV12 dc12 pm12 cd12 ct12 : Value} {od12 an12 : Option Addr} {sl12 : Array (Option Value)}
    (a12 : PySem.W.findIn K (.ref C0) "__add__" = some (some (.ref f12)))
    (a12_1 : PySem.W.isFn K (.ref f12) = true)
    (l12 : K.lookup f12 = some ⟨oc12, od12, .func (PySem.W.fnOf "__add__" "Shift.__add__" (defArgs sShift_add) (defBody sShift_add) (defScope sShift_add) .none kV12 dc12 pm12 an12 cd12 ct12), sl12⟩)
    (c12 : PySem.W.codeIn K cd12 "Shift.__add__" = true)
    (k12 : PySem.W.keepIn K (.ref f12) = true)
    {f13 : Addr} {oc13 kV13 dc13 pm13 cd13 ct13 : Value} {od13 an13 : Option Addr} {sl13 : Array (Option Value)}
    {pa13 : Addr} {rs13 : List Value}
    (a13 : PySem.W.findCls K (.ref C0) (.type "type") "sum_of" = some (.get (.builtin "staticmethod.__get__") (.ref pa13) .none (.ref C0)))
    (a13_1 : PySem.W.recIn K pa13 "staticmethod" = some (.ref f13 :: rs13))
    (a13_2 : PySem.W.readsIn K C0 (.type "type") = true)
    (a13_3 : PySem.W.specialIn K (.ref C0) "__getattribute__" = some (some (.builtin "type.__getattribute__")))
    (a13_4 : PySem.W.findIn K (.ref C0) "sum_of" = some (some (.ref pa13)))
    (a13_5 : PySem.W.typeIn K (.ref pa13) = some (.type "staticmethod"))
    (a13_6 : PySem.W.specialIn K (.ref pa13) "__get__" = some (some (.builtin "staticmethod.__get__")))
    (a13_7 : PySem.W.takesIn K (.ref pa13) = some false)
    (a13_8 : PySem.W.isClsIn K C0 = true)
    (l13 : K.lookup f13 = some ⟨oc13, od13, .func (PySem.W.fnOf "sum_of" "Shift.sum_of" (defArgs sShift_sum_of) (defBody sShift_sum_of) (defScope sShift_sum_of) .none kV13 dc13 pm13 an13 cd13 ct13), sl13⟩)
    (c13 : PySem.W.codeIn K cd13 "Shift.sum_of" = true)
    (k13 : PySem.W.keepIn K (.ref f13) = true)
    {f14 : Addr} {oc14 kV14 dc14 pm14 cd14 ct14 : Value} {od14 an14 : Option Addr} {sl14 : Array (Option Value)}
    (a14 : PySem.W.findIn K (.ref C0) "__eq__" = some (some (.ref f14)))
    (a14_1 : PySem.W.isFn K (.ref f14) = true)
    (l14 : K.lookup f14 = some ⟨oc14, od14, .func (PySem.W.fnOf "__eq__" "Shift.__eq__" (defArgs sShift_eq) (defBody sShift_eq) (defScope sShift_eq) .none kV14 dc14 pm14 an14 cd14 ct14), sl14⟩)
    (c14 : PySem.W.codeIn K cd14 "Shift.__eq__" = true)
    (k14 : PySem.W.keepIn K (.ref f14) = true)
    {f15 : Addr} {oc15 kV15 dc15 pm15 cd15 ct15 : Value} {od15 an15 : Option Addr} {sl15 : Array (Option Value)}
    (a15 : PySem.W.nsIn K mainGlobals "_law_equal" = some (some (.ref f15)))
    (l15 : K.lookup f15 = some ⟨oc15, od15, .func (PySem.W.fnOf "_law_equal" "_law_equal" (defArgs s_law_equal) (defBody s_law_equal) (defScope s_law_equal) .none kV15 dc15 pm15 an15 cd15 ct15), sl15⟩)
    (c15 : PySem.W.codeIn K cd15 "_law_equal" = true)
    (k15 : PySem.W.keepIn K (.ref f15) = true)
    {f16 : Addr} {oc16 kV16 dc16 pm16 cd16 ct16 : Value} {od16 an16 : Option Addr} {sl16 : Array (Option Value)}
    (a16 : PySem.W.nsIn K mainGlobals "_law_algebra" = some (some (.ref f16)))
    (l16 : K.lookup f16 = some ⟨oc16, od16, .func (PySem.W.fnOf "_law_algebra" "_law_algebra" (defArgs s_law_algebra) (defBody s_law_algebra) (defScope s_law_algebra) .none kV16 dc16 pm16 an16 cd16 ct16), sl16⟩)
    (c16 : PySem.W.codeIn K cd16 "_law_algebra" = true)
    (k16 : PySem.W.keepIn K (.ref f16) = true)
    {f17 : Addr} {oc17 kV17 dc17 pm17 cd17 ct17 : Value} {od17 an17 : Option Addr} {sl17 : Array (Option Value)}
    (a17 : PySem.W.nsIn K mainGlobals "_law_count" = some (some (.ref f17)))
    (l17 : K.lookup f17 = some ⟨oc17, od17, .func (PySem.W.fnOf "_law_count" "_law_count" (defArgs s_law_count) (defBody s_law_count) (defScope s_law_count) .none kV17 dc17 pm17 an17 cd17 ct17), sl17⟩)
    (c17 : PySem.W.codeIn K cd17 "_law_count" = true)
    (k17 : PySem.W.keepIn K (.ref f17) = true)
    {f18 : Addr} {oc18 kV18 dc18 pm18 cd18 ct18 : Value} {od18 an18 : Option Addr} {sl18 : Array (Option Value)}
    (a18 : PySem.W.nsIn K mainGlobals "_law_row" = some (some (.ref f18)))
    (l18 : K.lookup f18 = some ⟨oc18, od18, .func (PySem.W.fnOf "_law_row" "_law_row" (defArgs s_law_row) (defBody s_law_row) (defScope s_law_row) .none kV18 dc18 pm18 an18 cd18 ct18), sl18⟩)
    (c18 : PySem.W.codeIn K cd18 "_law_row" = true)
    (k18 : PySem.W.keepIn K (.ref f18) = true)
    {f19 : Addr} {oc19 kV19 dc19 pm19 cd19 ct19 : Value} {od19 an19 : Option Addr} {sl19 : Array (Option Value)}
    (a19 : PySem.W.nsIn K mainGlobals "_law_cell" = some (some (.ref f19)))
    (l19 : K.lookup f19 = some ⟨oc19, od19, .func (PySem.W.fnOf "_law_cell" "_law_cell" (defArgs s_law_cell) (defBody s_law_cell) (defScope s_law_cell) .none kV19 dc19 pm19 an19 cd19 ct19), sl19⟩)
    (c19 : PySem.W.codeIn K cd19 "_law_cell" = true)
    (k19 : PySem.W.keepIn K (.ref f19) = true)
    {f20 : Addr} {oc20 kV20 dc20 pm20 cd20 ct20 : Value} {od20 an20 : Option Addr} {sl20 : Array (Option Value)}
    (a20 : PySem.W.nsIn K mainGlobals "_law_number" = some (some (.ref f20)))
    (l20 : K.lookup f20 = some ⟨oc20, od20, .func (PySem.W.fnOf "_law_number" "_law_number" (defArgs s_law_number) (defBody s_law_number) (defScope s_law_number) .none kV20 dc20 pm20 an20 cd20 ct20), sl20⟩)
    (c20 : PySem.W.codeIn K cd20 "_law_number" = true)
    (k20 : PySem.W.keepIn K (.ref f20) = true)
    {f21 : Addr} {oc21 kV21 dc21 pm21 cd21 ct21 : Value} {od21 an21 : Option Addr} {sl21 : Array (Option Value)}
    (a21 : PySem.W.nsIn K mainGlobals "_law_rows" = some (some (.ref f21)))
    (l21 : K.lookup f21 = some ⟨oc21, od21, .func (PySem.W.fnOf "_law_rows" "_law_rows" (defArgs s_law_rows) (defBody s_law_rows) (defScope s_law_rows) .none kV21 dc21 pm21 an21 cd21 ct21), sl21⟩)
    (c21 : PySem.W.codeIn K cd21 "_law_rows" = true)
    (k21 : PySem.W.keepIn K (.ref f21) = true)
    {f22 : Addr} {oc22 kV22 dc22 pm22 cd22 ct22 : Value} {od22 an22 : Option Addr} {sl22 : Array (Option Value)}
    (a22 : PySem.W.nsIn K mainGlobals "_law_values" = some (some (.ref f22)))
    (l22 : K.lookup f22 = some ⟨oc22, od22, .func (PySem.W.fnOf "_law_values" "_law_values" (defArgs s_law_values) (defBody s_law_values) (defScope s_law_values) .none kV22 dc22 pm22 an22 cd22 ct22), sl22⟩)
    (c22 : PySem.W.codeIn K cd22 "_law_values" = true)
    (k22 : PySem.W.keepIn K (.ref f22) = true)
    {f23 : Addr} {oc23 kV23 dc23 pm23 cd23 ct23 : Value} {od23 an23 : Option Addr} {sl23 : Array (Option Value)}
    (a23 : PySem.W.nsIn K mainGlobals "_law_word" = some (some (.ref f23)))
    (l23 : K.lookup f23 = some ⟨oc23, od23, .func (PySem.W.fnOf "_law_word" "_law_word" (defArgs s_law_word) (defBody s_law_word) (defScope s_law_word) .none kV23 dc23 pm23 an23 cd23 ct23), sl23⟩)
    (c23 : PySem.W.codeIn K cd23 "_law_word" = true)
    (k23 : PySem.W.keepIn K (.ref f23) = true)
    {f24 : Addr} {oc24 kV24 dc24 pm24 cd24 ct24 : Value} {od24 an24 : Option Addr} {sl24 : Array (Option Value)}
    (a24 : PySem.W.nsIn K mainGlobals "_law_pool" = some (some (.ref f24)))
    (l24 : K.lookup f24 = some ⟨oc24, od24, .func (PySem.W.fnOf "_law_pool" "_law_pool" (defArgs s_law_pool) (defBody s_law_pool) (defScope s_law_pool) .none kV24 dc24 pm24 an24 cd24 ct24), sl24⟩)
    (c24 : PySem.W.codeIn K cd24 "_law_pool" = true)
    (k24 : PySem.W.keepIn K (.ref f24) = true)
    {f25 : Addr} {oc25 kV25 dc25 pm25 cd25 ct25 : Value} {od25 an25 : Option Addr} {sl25 : Array (Option Value)}
    (a25 : PySem.W.nsIn K mainGlobals "law" = some (some (.ref f25)))
    (l25 : K.lookup f25 = some ⟨oc25, od25, .func (PySem.W.fnOf "law" "law" (defArgs slaw) (defBody slaw) (defScope slaw) .none kV25 dc25 pm25 an25 cd25 ct25), sl25⟩)
    (c25 : PySem.W.codeIn K cd25 "law" = true)
    (k25 : PySem.W.keepIn K (.ref f25) = true)
    {X0 : Addr}
    (e0_g : PySem.W.nsIn K mainGlobals "Blocked" = some (some (.ref X0)))
    {X1 : Addr}
    (e1_g : PySem.W.nsIn K mainGlobals "HallError" = some (some (.ref X1)))
    {X2 : Addr}
    (e2_g : PySem.W.nsIn K mainGlobals "NoCounter" = some (some (.ref X2)))
    {xN0 xf0 xcc0 xcda0 xD0 : Addr} {xcn0 xcq0 xnm0 : Str} {xbs0 xbm0 xsub0 : List Value} {xsn0 : List Str} {xab0 : Bool} {xcol0 : Option Bool} {xdd0 xan0 xod0 xcdd0 xcld0 : Option Addr} {xk0_0 xk1_0 xk2_0 xk3_0 xk5_0 : Option Value} {xkV0 xdoc0 xpm0 xct0 xoc0 xccl0 xcl0 : Value} {xosl0 xccs0 xcsl0 : Array (Option Value)} {xvs0 : Array Value} {xfile0 : Str} {xtf0 : Tok} {xcdD0 : ClassData}
    (e0_a : K.lookup X0 = some (excClassObj xcn0 xcq0 X0 xN0 xbs0 xbm0 true xsn0 xsub0 xab0 xcol0 xdd0 xk0_0 xk1_0 xk2_0 xk3_0 xk5_0 "ValueError.__new__"))
    (e0_b : PySem.HandSPX.refsVE xbm0 = true)
    (e0_c : PySem.W.findIn K (.ref X0) "__setattr__" = some (some (.builtin "object.__setattr__")))
    (e0_d : PySem.W.subIn K (.ref X0) (.type "BaseException") = some true)
    (e0_e : PySem.W.typeIn K (.ref X0) = some (.type "type"))
    (e0_f : PySem.W.keepIn K (.ref X0) = true)
    (e0_h : PySem.W.subIn K (.ref X0) (.type "ValueError") = some true)
    (e0_i : PySem.W.findIn K (.ref X0) "__init__" = some (some (.ref xf0)))
    (e0_j : PySem.W.typeIn K (.ref xf0) = some (.type "function"))
    (e0_k : K.lookup xf0 = some ⟨xoc0, xod0, .func (PySem.W.fnX xnm0 "Blocked.__init__" (defArgs sBlocked_init) (defBody sBlocked_init) (defScope sBlocked_init) [("__class__", xcc0)] .none xkV0 xdoc0 xpm0 xan0 (.ref xcda0) xct0), xosl0⟩)
    (e0_l : PySem.W.codeIn K (.ref xcda0) "Blocked.__init__" = true)
    (e0_m : K.lookup xcda0 = some ⟨xccl0, xcdd0, .fields xvs0, xccs0⟩)
    (e0_n : xvs0[2]? = some (.str xfile0 xtf0))
    (e0_o : ((PySem.Challenge.pw_playhall_k02_whole_shift_algebra.main.file : Str) == xfile0) = true)
    (e0_p : K.lookup xcc0 = some ⟨xcl0, xcld0, .cell (some (.ref xD0)), xcsl0⟩)
    (e0_q : PySem.W.clsIn K xD0 = some xcdD0)
    (e0_r : PySem.W.mroIn K X0 (.ref xD0) = some true)
    (e0_s : PySem.W.nsIn K cStatics "thirdparty.any" = some none)
    (e0_t : PySem.W.ks_superIn K X0 xD0 "__init__" = some (some (.builtin "ValueError.__init__")))
    (e0_u0 : PySem.W.findIn K (.ref X0) "counter" = some none)
    (e0_v : PySem.W.nsIn K mainGlobals "super" = some none)
    (e0_w : (PySem.Challenge.pw_playhall_k02_whole_shift_algebra.main.scope.names.lookup ("super" : Str)).isSome = false)
    (e0_ga : PySem.W.findIn K (.ref X0) "__getattribute__" = some (some (.builtin "BaseException.__getattribute__")))
    (e0_gg : PySem.W.findIn K (.ref X0) "__getattr__" = some none)
    (e0_hd : PySem.W.hasDictIn K X0 = true)
    (e0_xa : PySem.W.findIn K (.ref X0) "__class__" = some (some (.builtin "object.__class__")))
    (e0_xn : PySem.W.specialIn K (.builtin "object.__class__") "__get__" = some (some (.builtin "getset_descriptor.__get__")))
    (e0_xt : PySem.W.takesIn K (.builtin "object.__class__") = some true)
    (e0_xm : PySem.W.mroIn K X0 (.type "object") = some true)
    (ki0_Blocked : PySem.W.kitOne K (.ref X0) (.ref X0) = some true)
    (ki0_ValueError : PySem.W.kitOne K (.ref X0) (.type "ValueError") = some true)
    (ki0_NoCounter : PySem.W.kitOne K (.ref X0) (.ref X2) = some false)
    (em0_1 : PySem.W.exmOne K (.ref X0) (.ref X1) = some true)
    (em0_0 : PySem.W.exmOne K (.ref X0) (.ref X0) = some true)
    (hfa : mg "law" = some (.ref fa)) :
    ∃ fd : FuncData, (∀ (s : Shared) (v : Value), BindsTo s fd ⟨[v], []⟩ [("_law_script", v)]) ∧ ∀ base : Heap, K.In base → base.Ns mainGlobals mg → FnOk PySem.Challenge.pw_playhall_k02_whole_shift_algebra w K mg base CX0 7 fa fd ["_law_script"] (spT K) := by
  obtain ⟨c, T, hb⟩ := tx_mk X G z0 z1 z2 z3 z4 z5 z6 z7 z8 z9 z10 z11 z12 u0_g u0_a u0_b u0_c u0_d u0_e u0_f u0_h u0_i u0_j u0_k u0_l v0_0 v0_3 v0_4 w0_4 p0_4 q0_4 v0_6 a0 l0 c0 k0 a1 l1 c1 k1 a2 a2_1 l2 c2 k2 a3 a3_1 l3 c3 k3 a4 l4 c4 k4 a5 l5 c5 k5 a6 a6_1 l6 c6 k6 a7 a7_1 l7 c7 k7 a8 a8_1 l8 c8 k8 a9 l9 c9 k9 a10 l10 c10 k10 a11 l11 c11 k11 a12 a12_1 l12 c12 k12 a13 a13_1 a13_2 a13_3 a13_4 a13_5 a13_6 a13_7 a13_8 l13 c13 k13 a14 a14_1 l14 c14 k14 a15 l15 c15 k15 a16 l16 c16 k16 a17 l17 c17 k17 a18 l18 c18 k18 a19 l19 c19 k19 a20 l20 c20 k20 a21 l21 c21 k21 a22 l22 c22 k22 a23 l23 c23 k23 a24 l24 c24 k24 a25 l25 c25 k25 e0_g e1_g e2_g e0_a e0_b e0_c e0_d e0_e e0_f e0_h e0_i e0_j e0_k e0_l e0_m e0_n e0_o e0_p e0_q e0_r e0_s e0_t e0_u0 e0_v e0_w e0_ga e0_gg e0_hd e0_xa e0_xn e0_xt e0_xm ki0_Blocked ki0_ValueError ki0_NoCounter em0_1 em0_0
  have e : fa = T.flaw := by
    have := hfa.symm.trans T.glaw
    cases this
    rfl
  subst e
  exact ⟨T.fdlaw, hb, fun base _ _ => T.oklaw.imp fun vs H Q E h => spT_of (law_true c) h⟩
end K02
open PySem PySem.W PyProof.Rows
set_option maxHeartbeats 0 in
theorem PySem.Challenge.cw_playhall_k02_whole_shift_algebra_holds : PySem.Challenge.rw_playhall_k02_whole_shift_algebra.Holds := by
  w_on; o_law; k_headL; (case hw => w_witness2)
  k_fill
  refine PD.walk_ofD (l := PySem.Challenge.rw_playhall_k02_whole_shift_algebra) (n := 63) (k := 7) (x := "_law_script") (CX := fun _ => L2.CX0) rfl (by decide) rfl ⟨rfl, by decide, by decide⟩ (fun w h Y => PySem.W.kIn_of Y) ?F (fun _ _ _ _ _ h => h)
  case F =>
    intro w mg fa h KX G hmg
    refine' K02.all_mk KX G ?z0 ?z1 ?z2 ?z3 ?z4 ?z5 ?z6 ?z7 ?z8 ?z9 ?z10 ?z11 ?z12 ?u0_g ?u0_a ?u0_b ?u0_c ?u0_d ?u0_e ?u0_f ?u0_h ?u0_i ?u0_j ?u0_k ?u0_l ?v0_0 ?v0_3 ?v0_4 ?w0_4 ?p0_4 ?q0_4 ?v0_6 ?a0 ?l0 ?c0 ?k0 ?a1 ?l1 ?c1 ?k1 ?a2 ?a2_1 ?l2 ?c2 ?k2 ?a3 ?a3_1 ?l3 ?c3 ?k3 ?a4 ?l4 ?c4 ?k4 ?a5 ?l5 ?c5 ?k5 ?a6 ?a6_1 ?l6 ?c6 ?k6 ?a7 ?a7_1 ?l7 ?c7 ?k7 ?a8 ?a8_1 ?l8 ?c8 ?k8 ?a9 ?l9 ?c9 ?k9 ?a10 ?l10 ?c10 ?k10 ?a11 ?l11 ?c11 ?k11 ?a12 ?a12_1 ?l12 ?c12 ?k12 ?a13 ?a13_1 ?a13_2 ?a13_3 ?a13_4 ?a13_5 ?a13_6 ?a13_7 ?a13_8 ?l13 ?c13 ?k13 ?a14 ?a14_1 ?l14 ?c14 ?k14 ?a15 ?l15 ?c15 ?k15 ?a16 ?l16 ?c16 ?k16 ?a17 ?l17 ?c17 ?k17 ?a18 ?l18 ?c18 ?k18 ?a19 ?l19 ?c19 ?k19 ?a20 ?l20 ?c20 ?k20 ?a21 ?l21 ?c21 ?k21 ?a22 ?l22 ?c22 ?k22 ?a23 ?l23 ?c23 ?k23 ?a24 ?l24 ?c24 ?k24 ?a25 ?l25 ?c25 ?k25 ?e0_g ?e1_g ?e2_g ?e0_a ?e0_b ?e0_c ?e0_d ?e0_e ?e0_f ?e0_h ?e0_i ?e0_j ?e0_k ?e0_l ?e0_m ?e0_n ?e0_o ?e0_p ?e0_q ?e0_r ?e0_s ?e0_t ?e0_u0 ?e0_v ?e0_w ?e0_ga ?e0_gg ?e0_hd ?e0_xa ?e0_xn ?e0_xt ?e0_xm ?ki0_Blocked ?ki0_ValueError ?ki0_NoCounter ?em0_1 ?em0_0 hmg
    (case z0 => first | k_is | rfl); (case z1 => first | k_is | rfl); (case z2 => first | k_is | rfl); (case z3 => first | k_is | rfl); (case z4 => first | k_is | rfl); (case z5 => first | k_is | rfl); (case z6 => first | k_is | rfl); (case z7 => first | k_is | rfl); (case z8 => first | k_is | rfl); (case z9 => first | k_is | rfl); (case z10 => first | k_is | rfl); (case z11 => first | k_is | rfl); (case z12 => first | k_is | rfl); (case u0_g => first | k_is | rfl); (case u0_a => first | k_is | rfl); (case u0_b => first | k_is | rfl); (case u0_c => first | k_is | rfl); (case u0_d => first | k_is | rfl); (case u0_e => first | k_is | rfl); (case u0_f => first | k_is | rfl); (case u0_h => first | k_is | rfl); (case u0_i => first | k_is | rfl); (case u0_j => first | k_is | rfl); (case u0_k => first | k_is | rfl); (case u0_l => first | k_is | rfl); (case v0_0 => first | k_is | rfl); (case v0_3 => first | k_is | rfl); (case v0_4 => first | k_is | rfl); (case w0_4 => first | k_is | rfl); (case p0_4 => first | k_is | rfl); (case q0_4 => first | k_is | rfl); (case v0_6 => first | k_is | rfl); (case a0 => first | k_is | rfl); (case l0 => first | k_is | rfl); (case c0 => first | k_is | rfl); (case k0 => first | k_is | rfl); (case a1 => first | k_is | rfl); (case l1 => first | k_is | rfl); (case c1 => first | k_is | rfl); (case k1 => first | k_is | rfl); (case a2 => first | k_is | rfl); (case a2_1 => first | k_is | rfl); (case l2 => first | k_is | rfl); (case c2 => first | k_is | rfl); (case k2 => first | k_is | rfl); (case a3 => first | k_is | rfl); (case a3_1 => first | k_is | rfl); (case l3 => first | k_is | rfl); (case c3 => first | k_is | rfl); (case k3 => first | k_is | rfl); (case a4 => first | k_is | rfl); (case l4 => first | k_is | rfl); (case c4 => first | k_is | rfl); (case k4 => first | k_is | rfl); (case a5 => first | k_is | rfl); (case l5 => first | k_is | rfl); (case c5 => first | k_is | rfl); (case k5 => first | k_is | rfl); (case a6 => first | k_is | rfl); (case a6_1 => first | k_is | rfl); (case l6 => first | k_is | rfl); (case c6 => first | k_is | rfl); (case k6 => first | k_is | rfl); (case a7 => first | k_is | rfl); (case a7_1 => first | k_is | rfl); (case l7 => first | k_is | rfl); (case c7 => first | k_is | rfl); (case k7 => first | k_is | rfl); (case a8 => first | k_is | rfl); (case a8_1 => first | k_is | rfl); (case l8 => first | k_is | rfl); (case c8 => first | k_is | rfl); (case k8 => first | k_is | rfl); (case a9 => first | k_is | rfl); (case l9 => first | k_is | rfl); (case c9 => first | k_is | rfl); (case k9 => first | k_is | rfl); (case a10 => first | k_is | rfl); (case l10 => first | k_is | rfl); (case c10 => first | k_is | rfl); (case k10 => first | k_is | rfl); (case a11 => first | k_is | rfl); (case l11 => first | k_is | rfl); (case c11 => first | k_is | rfl); (case k11 => first | k_is | rfl); (case a12 => first | k_is | rfl); (case a12_1 => first | k_is | rfl); (case l12 => first | k_is | rfl); (case c12 => first | k_is | rfl); (case k12 => first | k_is | rfl); (case a13 => first | k_is | rfl); (case a13_1 => first | k_is | rfl); (case a13_2 => first | k_is | rfl); (case a13_3 => first | k_is | rfl); (case a13_4 => first | k_is | rfl); (case a13_5 => first | k_is | rfl); (case a13_6 => first | k_is | rfl); (case a13_7 => first | k_is | rfl); (case a13_8 => first | k_is | rfl); (case l13 => first | k_is | rfl); (case c13 => first | k_is | rfl); (case k13 => first | k_is | rfl); (case a14 => first | k_is | rfl); (case a14_1 => first | k_is | rfl); (case l14 => first | k_is | rfl); (case c14 => first | k_is | rfl); (case k14 => first | k_is | rfl); (case a15 => first | k_is | rfl); (case l15 => first | k_is | rfl); (case c15 => first | k_is | rfl); (case k15 => first | k_is | rfl); (case a16 => first | k_is | rfl); (case l16 => first | k_is | rfl); (case c16 => first | k_is | rfl); (case k16 => first | k_is | rfl); (case a17 => first | k_is | rfl); (case l17 => first | k_is | rfl); (case c17 => first | k_is | rfl); (case k17 => first | k_is | rfl); (case a18 => first | k_is | rfl); (case l18 => first | k_is | rfl); (case c18 => first | k_is | rfl); (case k18 => first | k_is | rfl); (case a19 => first | k_is | rfl); (case l19 => first | k_is | rfl); (case c19 => first | k_is | rfl); (case k19 => first | k_is | rfl); (case a20 => first | k_is | rfl); (case l20 => first | k_is | rfl); (case c20 => first | k_is | rfl); (case k20 => first | k_is | rfl); (case a21 => first | k_is | rfl); (case l21 => first | k_is | rfl); (case c21 => first | k_is | rfl); (case k21 => first | k_is | rfl); (case a22 => first | k_is | rfl); (case l22 => first | k_is | rfl); (case c22 => first | k_is | rfl); (case k22 => first | k_is | rfl); (case a23 => first | k_is | rfl); (case l23 => first | k_is | rfl); (case c23 => first | k_is | rfl); (case k23 => first | k_is | rfl); (case a24 => first | k_is | rfl); (case l24 => first | k_is | rfl); (case c24 => first | k_is | rfl); (case k24 => first | k_is | rfl); (case a25 => first | k_is | rfl); (case l25 => first | k_is | rfl); (case c25 => first | k_is | rfl); (case k25 => first | k_is | rfl); (case e0_g => first | k_is | rfl); (case e1_g => first | k_is | rfl); (case e2_g => first | k_is | rfl); (case e0_a => first | k_is | rfl); (case e0_b => first | rfl | decide +kernel); (case e0_c => first | k_is | rfl); (case e0_d => first | k_is | rfl); (case e0_e => first | k_is | rfl); (case e0_f => first | k_is | rfl); (case e0_h => first | k_is | rfl); (case e0_i => first | k_is | rfl); (case e0_j => first | k_is | rfl); (case e0_k => first | k_is | rfl); (case e0_l => first | k_is | rfl); (case e0_m => first | k_is | rfl); (case e0_n => first | rfl | decide +kernel); (case e0_o => first | rfl | decide +kernel); (case e0_p => first | k_is | rfl); (case e0_q => first | k_is | rfl); (case e0_r => first | k_is | rfl); (case e0_s => first | k_is | rfl); (case e0_t => first | k_is | rfl); (case e0_u0 => first | k_is | rfl); (case e0_v => first | k_is | rfl); (case e0_w => first | rfl | decide +kernel); (case e0_ga => first | k_is | rfl); (case e0_gg => first | k_is | rfl); (case e0_hd => first | k_is | rfl); (case e0_xa => first | k_is | rfl); (case e0_xn => first | k_is | rfl); (case e0_xt => first | k_is | rfl); (case e0_xm => first | k_is | rfl); (case ki0_Blocked => first | k_is | rfl); (case ki0_ValueError => first | k_is | rfl); (case ki0_NoCounter => first | k_is | rfl); (case em0_1 => first | k_is | rfl); (case em0_0 => first | k_is | rfl)
#print axioms PySem.Challenge.cw_playhall_k02_whole_shift_algebra_holds

